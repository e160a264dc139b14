import PyProof.Rows.All
import Wide.All
import OpenK.AllK
import Wide.FinOn
import HandS.ForMost
import HandS.Exc
import HandS.ExcOwn
import HandS.WordsExc
import HandS.IsInst
import HandS.Defaults
import HandS.HeadHook2
import HandS.HeadHook4
import KE.KStateDown
import Lean
import HandS.Head0
import HandS.Head1
import HandS.Head2
import HandS.HeadEnd
import HandS.TryOnly
import HandS.TupAny
import HandS.Deep
import HandS.Ends
import HandS.New
import HandS.New0
import HandS.TupMul
import HandS.Small
import HandS.Iter
import HandS.ExcIs
import PyProof.EqKinds
import PyProof.NeKinds
import HandS.Style
import HandS.SetFor
import HandS.Codes
import PySem.Challenge.RW_manyleaf_k21_contents_shown_and_read
set_option Elab.async false
set_option linter.all false
set_option autoImplicit false
set_option maxRecDepth 100000
set_option maxHeartbeats 4000000
namespace Pd
open PySem PySem.Spec PyProof.Rows L2
/-- a method's statement in its class -/
def mth (s : Stmt) (i : Nat) : Stmt := match s with
  | .ClassDef _ _ _ body _ _ _ _ _ _ _ => body.getD i (.Pass ⟨0, 0, 0, 0⟩)
  | _ => .Pass ⟨0, 0, 0, 0⟩
/-- the def at f does G -/
def newB (K : PySem.W.Frag) (x : Str) : Bool := PySem.W.makesIn K (He.ga K x) && (He.eqO (PySem.W.findIn K (.ref (He.ga K x)) "__init__") (some (some (.builtin "object.__init__"))) && PySem.W.keepIn K (.ref (He.ga K x)))
/-- class c's m is class d's -/
def inhB (K : PySem.W.Frag) (c d m : Str) : Bool := decide (He.ma K (He.ga K c) m = He.ma K (He.ga K d) m)
def cfnB (K : PySem.W.Frag) (x m y : Str) : Bool := He.eqO (PySem.W.specialIn K (.ref (He.ga K x)) "__getattribute__") (some (some (.builtin "type.__getattribute__"))) && (PySem.W.readsIn K (He.ga K x) (.type "type") &&
  (match PySem.W.findCls K (.ref (He.ga K x)) (.type "type") m with
  | some (.val u) => decide (u = .ref (He.fAd K (y, some m)))
  | _ => false))
def excB (K : PySem.W.Frag) (D : Addr) : Bool := He.eqO (PySem.W.findIn K (.ref D) "__getattribute__") (some (some (.builtin "BaseException.__getattribute__"))) && (He.eqO (PySem.W.findIn K (.ref D) "__getattr__") (some none) && (decide (PySem.W.subIn K (.ref D) (.type "BaseException") = some true) && (PySem.W.hasDictIn K D &&
  (He.eqO (PySem.W.findIn K (.ref D) "__class__") (some (some (.builtin "object.__class__"))) && (He.eqO (PySem.W.specialIn K (.builtin "object.__class__") "__get__") (some (some (.builtin "getset_descriptor.__get__"))) && (decide (PySem.W.takesIn K (.builtin "object.__class__") = some true) && decide (PySem.W.mroIn K D (.type "object") = some true)))))))
def insB (K : PySem.W.Frag) (C : Addr) : Bool := He.eqO (PySem.W.findIn K (.ref C) "__class__") (some (some (.builtin "object.__class__"))) && (He.eqO (PySem.W.specialIn K (.builtin "object.__class__") "__get__") (some (some (.builtin "getset_descriptor.__get__"))) &&
  (decide (PySem.W.takesIn K (.builtin "object.__class__") = some true) && decide (PySem.W.mroIn K C (.type "object") = some true)))
/-! ### the Hook: with the statics in sight -/
def asM (g : Addr → Option Obj) (n : Nat) : List Addr := He.asD g n ++ [cStatics]
abbrev AlM : Type := He.AlD × Bool
def obsM (n : Nat) (fa : List He.Fa) (fn : List He.DefD) (ex : PySem.W.Frag → Bool) (g : Addr → Option Obj) : AlM := (He.obsD fa fn (He.frG g (asM g n)), ex (He.frG g (asM g n)))
structure SaysM (fa : List He.Fa) (fn : List He.DefD) (ex : PySem.W.Frag → Bool) (K : PySem.W.Frag) : Prop where
  d : He.SaysD fa fn K
  more : ex K = true
def hookM (n : Nat) (fa : List He.Fa) (fn : List He.DefD) (ex : PySem.W.Frag → Bool) : PySem.W.Hook where
  α := AlM
  obs := fun s => obsM n fa fn ex s.heap.get?
  val := fun _ => (He.valD fn, true)
  says := fun _ h => ∃ K : PySem.W.Frag, K.In h ∧ SaysM fa fn ex K
  of := fun _ _ e => ⟨_, He.frG_in, ⟨congrArg (fun z : AlM => z.1) e, congrArg (fun z : AlM => z.2) e⟩⟩
  keeps := fun _ _ _ ⟨K, hK, c⟩ k => ⟨K, PySem.W.Frag.In.keeps hK k, c⟩
theorem obsM_eq {n : Nat} {fa : List He.Fa} {fn : List He.DefD} {ex : PySem.W.Frag → Bool} {g : Addr → Option Obj} {s : Shared} (h : ∀ a, g a = s.heap.get? a) : obsM n fa fn ex g = (hookM n fa fn ex).obs s := by
  have e : g = s.heap.get? := funext h
  rw [e] <;> rfl
end Pd

set_option maxHeartbeats 0
namespace Pd
open PySem PySem.Spec PyProof.Rows L2
def top (i : Nat) : Stmt := PySem.Challenge.pw_manyleaf_k21_contents_shown_and_read.main.body.getD i (.Pass ⟨0, 0, 0, 0⟩)
abbrev s_Chapter_word : Stmt := mth (top 7) 0
abbrev s_Para_word : Stmt := mth (top 8) 0
abbrev s_Table_word : Stmt := mth (top 13) 0
abbrev s_kind_of_word : Stmt := top 14
abbrev s_Chapter_holds : Stmt := mth (top 7) 1
abbrev s_Kind_holds : Stmt := mth (top 6) 1
abbrev s__law_kinds_good : Stmt := top 30
abbrev s__law_stream : Stmt := top 17
abbrev s__law_text : Stmt := top 18
abbrev s__law_next : Stmt := top 20
abbrev s__law_digits : Stmt := top 21
abbrev s__law_table : Stmt := top 19
abbrev s__law_content : Stmt := top 22
abbrev s__law_odd : Stmt := top 29
abbrev s_Kind_shown : Stmt := mth (top 6) 3
abbrev s_cell_shown : Stmt := top 11
abbrev s_Table_shown : Stmt := mth (top 13) 2
abbrev s__law_cell : Stmt := top 16
abbrev s_is_text : Stmt := top 2
abbrev s_Kind_fits : Stmt := mth (top 6) 2
abbrev s_is_row : Stmt := top 9
abbrev s_is_cells : Stmt := top 10
abbrev s_Table_fits : Stmt := mth (top 13) 1
abbrev s__law_spoilt : Stmt := top 28
abbrev s__law_read_rows : Stmt := top 26
abbrev s__law_texts_fit : Stmt := top 25
abbrev s__law_read : Stmt := top 27
abbrev s_Kind_read_shown : Stmt := mth (top 6) 4
abbrev s_rows_read : Stmt := top 12
abbrev s_Table_read_shown : Stmt := mth (top 13) 3
abbrev s__law_cell_shown : Stmt := top 23
abbrev s__law_shown : Stmt := top 24
abbrev s_law : Stmt := top 31
def d_Chapter_word : He.DefD := ⟨("Chapter", some "word"), "word", "Chapter.word", defArgs s_Chapter_word, defBody s_Chapter_word, defScope s_Chapter_word, [], []⟩
def d_Para_word : He.DefD := ⟨("Para", some "word"), "word", "Para.word", defArgs s_Para_word, defBody s_Para_word, defScope s_Para_word, [], []⟩
def d_Table_word : He.DefD := ⟨("Table", some "word"), "word", "Table.word", defArgs s_Table_word, defBody s_Table_word, defScope s_Table_word, [], []⟩
def d_kind_of_word : He.DefD := ⟨("kind_of_word", none), "kind_of_word", "kind_of_word", defArgs s_kind_of_word, defBody s_kind_of_word, defScope s_kind_of_word, [], []⟩
def d_Chapter_holds : He.DefD := ⟨("Chapter", some "holds"), "holds", "Chapter.holds", defArgs s_Chapter_holds, defBody s_Chapter_holds, defScope s_Chapter_holds, [], []⟩
def d_Kind_holds : He.DefD := ⟨("Kind", some "holds"), "holds", "Kind.holds", defArgs s_Kind_holds, defBody s_Kind_holds, defScope s_Kind_holds, [], []⟩
def d__law_kinds_good : He.DefD := ⟨("_law_kinds_good", none), "_law_kinds_good", "_law_kinds_good", defArgs s__law_kinds_good, defBody s__law_kinds_good, defScope s__law_kinds_good, [], []⟩
def d__law_stream : He.DefD := ⟨("_law_stream", none), "_law_stream", "_law_stream", defArgs s__law_stream, defBody s__law_stream, defScope s__law_stream, [], []⟩
def d__law_text : He.DefD := ⟨("_law_text", none), "_law_text", "_law_text", defArgs s__law_text, defBody s__law_text, defScope s__law_text, [], []⟩
def d__law_next : He.DefD := ⟨("_law_next", none), "_law_next", "_law_next", defArgs s__law_next, defBody s__law_next, defScope s__law_next, [], []⟩
def d__law_digits : He.DefD := ⟨("_law_digits", none), "_law_digits", "_law_digits", defArgs s__law_digits, defBody s__law_digits, defScope s__law_digits, [], []⟩
def d__law_table : He.DefD := ⟨("_law_table", none), "_law_table", "_law_table", defArgs s__law_table, defBody s__law_table, defScope s__law_table, [], []⟩
def d__law_content : He.DefD := ⟨("_law_content", none), "_law_content", "_law_content", defArgs s__law_content, defBody s__law_content, defScope s__law_content, [], []⟩
def d__law_odd : He.DefD := ⟨("_law_odd", none), "_law_odd", "_law_odd", defArgs s__law_odd, defBody s__law_odd, defScope s__law_odd, [], []⟩
def d_Kind_shown : He.DefD := ⟨("Kind", some "shown"), "shown", "Kind.shown", defArgs s_Kind_shown, defBody s_Kind_shown, defScope s_Kind_shown, [], []⟩
def d_cell_shown : He.DefD := ⟨("cell_shown", none), "cell_shown", "cell_shown", defArgs s_cell_shown, defBody s_cell_shown, defScope s_cell_shown, [], []⟩
def d_Table_shown : He.DefD := ⟨("Table", some "shown"), "shown", "Table.shown", defArgs s_Table_shown, defBody s_Table_shown, defScope s_Table_shown, [], []⟩
def d__law_cell : He.DefD := ⟨("_law_cell", none), "_law_cell", "_law_cell", defArgs s__law_cell, defBody s__law_cell, defScope s__law_cell, [], []⟩
def d_is_text : He.DefD := ⟨("is_text", none), "is_text", "is_text", defArgs s_is_text, defBody s_is_text, defScope s_is_text, [], []⟩
def d_Kind_fits : He.DefD := ⟨("Kind", some "fits"), "fits", "Kind.fits", defArgs s_Kind_fits, defBody s_Kind_fits, defScope s_Kind_fits, [], []⟩
def d_is_row : He.DefD := ⟨("is_row", none), "is_row", "is_row", defArgs s_is_row, defBody s_is_row, defScope s_is_row, [], []⟩
def d_is_cells : He.DefD := ⟨("is_cells", none), "is_cells", "is_cells", defArgs s_is_cells, defBody s_is_cells, defScope s_is_cells, [], []⟩
def d_Table_fits : He.DefD := ⟨("Table", some "fits"), "fits", "Table.fits", defArgs s_Table_fits, defBody s_Table_fits, defScope s_Table_fits, [], []⟩
def d__law_spoilt : He.DefD := ⟨("_law_spoilt", none), "_law_spoilt", "_law_spoilt", defArgs s__law_spoilt, defBody s__law_spoilt, defScope s__law_spoilt, [], []⟩
def d__law_read_rows : He.DefD := ⟨("_law_read_rows", none), "_law_read_rows", "_law_read_rows", defArgs s__law_read_rows, defBody s__law_read_rows, defScope s__law_read_rows, [], []⟩
def d__law_texts_fit : He.DefD := ⟨("_law_texts_fit", none), "_law_texts_fit", "_law_texts_fit", defArgs s__law_texts_fit, defBody s__law_texts_fit, defScope s__law_texts_fit, [], []⟩
def d__law_read : He.DefD := ⟨("_law_read", none), "_law_read", "_law_read", defArgs s__law_read, defBody s__law_read, defScope s__law_read, [], []⟩
def d_Kind_read_shown : He.DefD := ⟨("Kind", some "read_shown"), "read_shown", "Kind.read_shown", defArgs s_Kind_read_shown, defBody s_Kind_read_shown, defScope s_Kind_read_shown, [], []⟩
def d_rows_read : He.DefD := ⟨("rows_read", none), "rows_read", "rows_read", defArgs s_rows_read, defBody s_rows_read, defScope s_rows_read, [], []⟩
def d_Table_read_shown : He.DefD := ⟨("Table", some "read_shown"), "read_shown", "Table.read_shown", defArgs s_Table_read_shown, defBody s_Table_read_shown, defScope s_Table_read_shown, [], []⟩
def d__law_cell_shown : He.DefD := ⟨("_law_cell_shown", none), "_law_cell_shown", "_law_cell_shown", defArgs s__law_cell_shown, defBody s__law_cell_shown, defScope s__law_cell_shown, [], []⟩
def d__law_shown : He.DefD := ⟨("_law_shown", none), "_law_shown", "_law_shown", defArgs s__law_shown, defBody s__law_shown, defScope s__law_shown, [], []⟩
def d_law : He.DefD := ⟨("law", none), "law", "law", defArgs s_law, defBody s_law, defScope s_law, [], []⟩
def fn : List He.DefD := ([d_Chapter_word, d_Para_word, d_Table_word, d_kind_of_word, d_Chapter_holds, d_Kind_holds, d__law_kinds_good, d__law_stream, d__law_text, d__law_next, d__law_digits, d__law_table, d__law_content, d__law_odd, d_Kind_shown, d_cell_shown, d_Table_shown, d__law_cell, d_is_text, d_Kind_fits, d_is_row, d_is_cells, d_Table_fits, d__law_spoilt, d__law_read_rows, d__law_texts_fit, d__law_read, d_Kind_read_shown, d_rows_read, d_Table_read_shown] : List He.DefD) ++ ([d__law_cell_shown, d__law_shown, d_law] : List He.DefD)
def fa : List He.Fa := ([.glo "kind_of_word", .glo "_law_kinds_good", .glo "_law_stream", .glo "_law_text", .glo "_law_next", .glo "_law_digits", .glo "_law_table", .glo "_law_content", .glo "_law_odd", .glo "cell_shown", .glo "_law_cell", .glo "is_text", .glo "is_row", .glo "is_cells", .glo "_law_spoilt", .glo "_law_read_rows", .glo "_law_texts_fit", .glo "_law_read", .glo "rows_read", .glo "_law_cell_shown", .glo "_law_shown", .glo "law", .free "all", .free "bool", .free "enumerate", .free "int", .free "isinstance", .free "len", .free "max", .free "min"] : List He.Fa) ++ ([.free "ord", .free "range", .free "str", .free "tuple", .int "MOST_COLUMNS" 6, .int "MOST_ROWS" 6, .cls "Chapter", .cls "Para", .cls "Table", .meth "Chapter" "fits", .meth "Chapter" "holds", .meth "Chapter" "read_shown", .meth "Chapter" "shown", .meth "Chapter" "word", .meth "Para" "fits", .meth "Para" "holds", .meth "Para" "read_shown", .meth "Para" "shown", .meth "Para" "word", .meth "Table" "fits", .meth "Table" "holds", .meth "Table" "read_shown", .meth "Table" "shown", .meth "Table" "word", .glo "Chapter", .glo "Para", .glo "Table", .glo "Kind"] : List He.Fa)
def exl (K : PySem.W.Frag) : List Bool := ([inhB K "Chapter" "Kind" "fits", inhB K "Chapter" "Kind" "read_shown", inhB K "Chapter" "Kind" "shown", inhB K "Para" "Kind" "fits", inhB K "Para" "Kind" "holds", inhB K "Para" "Kind" "read_shown", inhB K "Para" "Kind" "shown", inhB K "Table" "Kind" "holds", newB K "Chapter", newB K "Para", newB K "Table", insB K (He.ga K "Table"), decide (PySem.W.kitOne K (.ref (He.ga K "Table")) (.ref (He.ga K "Kind")) = some true), insB K (He.ga K "Para"), decide (PySem.W.kitOne K (.ref (He.ga K "Para")) (.ref (He.ga K "Kind")) = some true), insB K (He.ga K "Chapter"), decide (PySem.W.kitOne K (.ref (He.ga K "Chapter")) (.ref (He.ga K "Kind")) = some true)] : List Bool)
def exb (K : PySem.W.Frag) : Bool := (exl K).all id
abbrev R0 : PySem.W.OpenRow := PySem.W.OpenLaw.row PySem.Challenge.rw_manyleaf_k21_contents_shown_and_read
abbrev hk : PySem.W.Hook := hookM 4 fa fn exb
def ob (s : PySem.W.SharedT) : AlM := obsM 4 fa fn exb (HandSHeadRun.getT s)
theorem ob_eq (s : PySem.W.SharedT) : ob s = hk.obs s.abs := obsM_eq (HandSHeadRun.getT_eq s)
def loose : List Str := (["_wall", "is_text", "MOST_ROWS", "MOST_COLUMNS", "Kind", "Chapter", "Para", "is_row", "is_cells", "cell_shown", "rows_read", "Table", "kind_of_word", "_law_cell", "_law_stream", "_law_text", "_law_table", "_law_next", "_law_digits", "_law_content", "_law_cell_shown", "_law_shown", "_law_texts_fit", "_law_read_rows", "_law_read", "_law_spoilt", "_law_odd", "_law_kinds_good"] : List Str)
theorem run (w : World) : HandSHeadRun.RunEq R0 (PySem.W.view R0.prog [31]) hk ob 12000 loose w := by
  intro os
  kernel_rfl
end Pd

/-! Pd1: data without a heap, what represents them, the reading of an expression by a function of data -/
namespace Pd
open PySem PySem.Spec PyProof.Rows L2

/-- data -/
inductive D where
  | non | bl (b : Bool) | int (i : Int) | str (s : Str)
  | list (xs : List D) | tup (xs : List D)
  | dict (kvs : List (Key × D)) | dictT (kvs : List (List Key × D))
  | obj (c : Str) (fs : List (Str × D))
  /-- an object that may yet change: its number; where it stands -/
  | loc (k : Nat) | adr (a : Addr)
  deriving Inhabited
/-- an exception -/
structure Ex where
  cls : Str
  fs : List (Str × D)
/-- what a computation comes to; st: not told -/
inductive R (α : Type) where
  | ok (a : α) | ex (x : Ex) | st
def R.bind {α β : Type} (r : R α) (f : α → R β) : R β := match r with
  | .ok a => f a
  | .ex x => .ex x
  | .st => .st
instance : Monad R where
  pure := R.ok
  bind := R.bind
theorem ok_bind {α β : Type} (a : α) (f : α → R β) : (R.ok a).bind f = f a := rfl
theorem ex_bind {α β : Type} (x : Ex) (f : α → R β) : (R.ex x).bind f = R.ex x := rfl
theorem st_bind {α β : Type} (f : α → R β) : (R.st).bind f = R.st := rfl

/-! ### values that represent data -/
inductive Is (K : PySem.W.Frag) (H : Hp) : V → D → Prop
  | non : Is K H .non .non
  | bl (b : Bool) : Is K H (.bl b) (.bl b)
  | int (i : Int) : Is K H (.int i) (.int i)
  | str (s : Str) : Is K H (.str s) (.str s)
  | list {a : Addr} {xs : List V} {ds : List D} (h : SqL K H a xs) (l : xs.length = ds.length) (e : ∀ (i : Nat) x d, xs[i]? = some x → ds[i]? = some d → Is K H x d) : Is K H (.ref a) (.list ds)
  | tup {a : Addr} {xs : List V} {ds : List D} (h : SqT K H a xs) (l : xs.length = ds.length) (e : ∀ (i : Nat) x d, xs[i]? = some x → ds[i]? = some d → Is K H x d) : Is K H (.ref a) (.tup ds)
  | dict {a : Addr} {xs : List (Key × V)} {ds : List (Key × D)} (h : Rd H a (.dK xs)) (l : xs.length = ds.length) (e : ∀ (i : Nat) x d, xs[i]? = some x → ds[i]? = some d → x.1 = d.1)
      (e2 : ∀ (i : Nat) x d, xs[i]? = some x → ds[i]? = some d → Is K H x.2 d.2) : Is K H (.ref a) (.dict ds)
  | dictT {a : Addr} {xs : List (List Key × V)} {ds : List (List Key × D)} (h : H a = some (.dT xs)) (l : xs.length = ds.length) (e : ∀ (i : Nat) x d, xs[i]? = some x → ds[i]? = some d → x.1 = d.1)
      (e2 : ∀ (i : Nat) x d, xs[i]? = some x → ds[i]? = some d → Is K H x.2 d.2) : Is K H (.ref a) (.dictT ds)
  | obj {a : Addr} {c : Str} {dx : Addr} {xs : List (Str × V)} {ds : List (Str × D)} (h : H a = some (.ins (He.ga K c) dx xs)) (l : xs.length = ds.length) (e : ∀ (i : Nat) x d, xs[i]? = some x → ds[i]? = some d → x.1 = d.1)
      (e2 : ∀ (i : Nat) x d, xs[i]? = some x → ds[i]? = some d → Is K H x.2 d.2) : Is K H (.ref a) (.obj c ds)
  | adr (a : Addr) : Is K H (.ref a) (.adr a)
def IsL (K : PySem.W.Frag) (H : Hp) (xs : List V) (ds : List D) : Prop := xs.length = ds.length ∧ ∀ (i : Nat) x d, xs[i]? = some x → ds[i]? = some d → Is K H x d
def IsK {κ : Type} (K : PySem.W.Frag) (H : Hp) (xs : List (κ × V)) (ds : List (κ × D)) : Prop :=
  xs.length = ds.length ∧ (∀ (i : Nat) x d, xs[i]? = some x → ds[i]? = some d → x.1 = d.1) ∧ ∀ (i : Nat) x d, xs[i]? = some x → ds[i]? = some d → Is K H x.2 d.2
/-- what stands at an address, as the content of data -/
def IsC (K : PySem.W.Frag) (H : Hp) : HO → D → Prop
  | .lst xs, .list ds => IsL K H xs ds
  | .dK xs, .dict ds => IsK K H xs ds
  | .dT xs, .dictT ds => IsK K H xs ds
  | .ins C _ xs, .obj c ds => C = He.ga K c ∧ IsK K H xs ds
  | _, _ => False

section
variable {K : PySem.W.Frag} {H H' H1 H2 F F' F1 F2 : Hp} {v : V} {d : D}
theorem sameT {a : Addr} {xs : List V} (e : Same H H') (h : SqT K H a xs) : SqT K H' a xs := by
  rcases h with (h | ⟨o, h⟩) | h
  · exact .inl (.inl (e _ _ h))
  · exact .inl (.inr ⟨o, e _ _ h⟩)
  · exact .inr h
theorem sameR {a : Addr} {u : HO} (e : Same H H') (h : Rd H a u) : Rd H' a u := by
  rcases h with h | ⟨o, h⟩
  · exact .inl (e _ _ h)
  · exact .inr ⟨o, e _ _ h⟩
theorem Is.mono (h : Is K H v d) (s : Same H H') : Is K H' v d := by
  induction h with
  | non => exact .non
  | bl b => exact .bl b
  | int i => exact .int i
  | str x => exact .str x
  | list h l _ ih => exact .list (s.seq h) l ih
  | tup h l _ ih => exact .tup (sameT s h) l ih
  | dict h l e _ ih => exact .dict (sameR s h) l e ih
  | dictT h l e _ ih => exact .dictT (s _ _ h) l e ih
  | obj h l e _ ih => exact .obj (s _ _ h) l e ih
  | adr a => exact .adr a
theorem IsL.mono {xs : List V} {ds : List D} (h : IsL K H xs ds) (s : Same H H') : IsL K H' xs ds := ⟨h.1, fun i x d a b => (h.2 i x d a b).mono s⟩
theorem IsK.mono {κ : Type} {xs : List (κ × V)} {ds : List (κ × D)} (h : IsK K H xs ds) (s : Same H H') : IsK K H' xs ds := ⟨h.1, h.2.1, fun i x d a b => (h.2.2 i x d a b).mono s⟩
theorem IsC.mono {o : HO} (h : IsC K H o d) (s : Same H H') : IsC K H' o d := by
  cases o <;> cases d <;> first
    | exact h.elim
    | exact IsL.mono (show IsL K H _ _ from h) s
    | exact IsK.mono (show IsK K H _ _ from h) s
    | exact ⟨h.1, IsK.mono h.2 s⟩
theorem IsL.nil : IsL K H [] [] := ⟨rfl, fun i x d a _ => by simp at a⟩
theorem IsL.cons {x : V} {xs : List V} {ds : List D} (h : Is K H x d) (t : IsL K H xs ds) : IsL K H (x :: xs) (d :: ds) := by
  refine ⟨by simp [t.1], fun i y e a b => ?_⟩
  cases i with
  | zero => simp at a b; subst a; subst b; exact h
  | succ i => exact t.2 i y e (by simpa using a) (by simpa using b)
theorem IsL.uncons {xs : List V} {ds : List D} (h : IsL K H xs (d :: ds)) : ∃ x xr, xs = x :: xr ∧ Is K H x d ∧ IsL K H xr ds := by
  obtain ⟨l, e⟩ := h
  cases xs with
  | nil => simp at l
  | cons x xr => exact ⟨x, xr, rfl, e 0 x d rfl rfl, by simpa using l, fun i y z a b => e (i + 1) y z (by simpa using a) (by simpa using b)⟩
theorem IsL.unnil {xs : List V} (h : IsL K H xs []) : xs = [] := by
  have l := h.1
  cases xs with
  | nil => rfl
  | cons _ _ => simp at l
theorem IsL.append {xs ys : List V} {ds es : List D} (h : IsL K H xs ds) (t : IsL K H ys es) : IsL K H (xs ++ ys) (ds ++ es) := by
  refine ⟨by simp [h.1, t.1], fun i y e a b => ?_⟩
  by_cases hi : i < xs.length
  · rw [List.getElem?_append_left hi] at a
    rw [List.getElem?_append_left (by have := h.1; omega)] at b
    exact h.2 i y e a b
  · rw [List.getElem?_append_right (by omega)] at a
    rw [List.getElem?_append_right (by have := h.1; omega), ← h.1] at b
    exact t.2 _ y e a b
theorem IsL.snoc {x : V} {xs : List V} {ds : List D} (t : IsL K H xs ds) (h : Is K H x d) : IsL K H (xs ++ [x]) (ds ++ [d]) := t.append (.cons h .nil)
theorem IsL.take {xs : List V} {ds : List D} (n : Nat) (t : IsL K H xs ds) : IsL K H (xs.take n) (ds.take n) := by
  refine ⟨by simp [t.1], fun i y e a b => ?_⟩
  rw [List.getElem?_take] at a b
  split at a
  · rw [if_pos (by assumption)] at b; exact t.2 i y e a b
  · cases a
theorem IsL.drop {xs : List V} {ds : List D} (n : Nat) (t : IsL K H xs ds) : IsL K H (xs.drop n) (ds.drop n) := by
  refine ⟨by simp [t.1], fun i y e a b => ?_⟩
  rw [List.getElem?_drop] at a b
  exact t.2 _ y e a b
theorem IsL.at {xs : List V} {ds : List D} (t : IsL K H xs ds) {i : Nat} (h : ds[i]? = some d) : ∃ x, xs[i]? = some x ∧ Is K H x d := by
  have hi : i < ds.length := (List.getElem?_eq_some_iff.mp h).1
  have hx : i < xs.length := by have := t.1; omega
  exact ⟨xs[i], by simp [hx], t.2 i _ d (by simp [hx]) h⟩
theorem IsL.atV {x : V} {xs : List V} {ds : List D} (t : IsL K H xs ds) {i : Nat} (h : xs[i]? = some x) : ∃ d, ds[i]? = some d ∧ Is K H x d := by
  have hi : i < xs.length := (List.getElem?_eq_some_iff.mp h).1
  have hx : i < ds.length := by have := t.1; omega
  exact ⟨ds[i], by simp [hx], t.2 i x _ h (by simp [hx])⟩
theorem is_list {a : Addr} {xs : List V} {ds : List D} (h : SqL K H a xs) (t : IsL K H xs ds) : Is K H (.ref a) (.list ds) := .list h t.1 t.2
theorem is_tup {a : Addr} {xs : List V} {ds : List D} (h : SqT K H a xs) (t : IsL K H xs ds) : Is K H (.ref a) (.tup ds) := .tup h t.1 t.2
theorem Is.list_inv {ds : List D} (h : Is K H v (.list ds)) : ∃ a xs, v = .ref a ∧ SqL K H a xs ∧ IsL K H xs ds := by
  cases h with
  | list h l e => exact ⟨_, _, rfl, h, l, e⟩
theorem Is.tup_inv {ds : List D} (h : Is K H v (.tup ds)) : ∃ a xs, v = .ref a ∧ SqT K H a xs ∧ IsL K H xs ds := by
  cases h with
  | tup h l e => exact ⟨_, _, rfl, h, l, e⟩
theorem Is.dict_inv {ds : List (Key × D)} (h : Is K H v (.dict ds)) : ∃ a xs, v = .ref a ∧ Rd H a (.dK xs) ∧ IsK K H xs ds := by
  cases h with
  | dict h l e e2 => exact ⟨_, _, rfl, h, l, e, e2⟩
theorem Is.obj_inv {c : Str} {ds : List (Str × D)} (h : Is K H v (.obj c ds)) : ∃ a dx xs, v = .ref a ∧ H a = some (.ins (He.ga K c) dx xs) ∧ IsK K H xs ds := by
  cases h with
  | obj h l e e2 => exact ⟨_, _, _, rfl, h, l, e, e2⟩
theorem is_of_c {a : Addr} {o : HO} (h : H a = some o) (c : IsC K H o d) : Is K H (.ref a) d := by
  cases o <;> cases d <;> first
    | exact c.elim
    | exact is_list (.of h) c
    | exact .dict (.of h) c.1 c.2.1 c.2.2
    | exact .dictT h c.1 c.2.1 c.2.2
    | (obtain ⟨c1, c2⟩ := c; subst c1; exact .obj h c2.1 c2.2.1 c2.2.2)
end

/-! ### the state of a def: slots as data; m: the slots whose object is the frame's own (not yet shared) -/
abbrev Rho := List (Option D)
/-- what was there at the def's entry: the shared part, and what the caller lends -/
structure Bs where
  F : Hp
  bor : List (Nat × Addr × Option (D × HO))
/-- slot i is not lent -/
def Bs.ok (B : Bs) (i : Nat) : Prop := ∀ b ∈ B.bor, b.1 ≠ i
theorem Bs.ok_of {B : Bs} {i : Nat} (h : (B.bor.all fun b => !(b.1 == i)) = true) : B.ok i := fun b hb z => by
  have := List.all_eq_true.mp h b hb
  rw [z] at this
  simp at this
/-- slot i may be changed -/
def Bs.mut (B : Bs) (i : Nat) : Prop := ∀ b ∈ B.bor, b.1 = i → b.2.2 = none
theorem Bs.mut_of {B : Bs} {i : Nat} (h : (B.bor.all fun b => !(b.1 == i) || b.2.2.isNone) = true) : B.mut i := fun b hb z => by
  have := List.all_eq_true.mp h b hb
  rw [z] at this
  simpa using this
/-- F: what is shared (never changes again), H: all that stands. F0, H0: at the def's entry -/
structure Rep (K : PySem.W.Frag) (F0 : Bs) (H0 : Hp) (m : List Bool) (ρ : Rho) (σ : L2.St) (F H : Hp) : Prop where
  len : σ.length = ρ.length
  fh : Same F H
  f0 : Same F0.F F
  h0 : Same H0 H
  new : ∀ p, H0 p ≠ none → F0.F p = none → F p = none
  val : ∀ (i : Nat) d, ρ[i]? = some (some d) → m[i]? ≠ some true → ∃ v, σ[i]? = some (some v) ∧ Is K F v d
  own : ∀ (i : Nat) d, ρ[i]? = some (some d) → m[i]? = some true → ∃ p o, σ[i]? = some (some (.ref p)) ∧ H p = some o ∧ IsC K F o d ∧ F p = none ∧ H0 p = none
  apart : ∀ (i j : Nat) p d e, i ≠ j → m[i]? = some true → m[j]? = some true → ρ[i]? = some (some d) → ρ[j]? = some (some e) → σ[i]? = some (some (.ref p)) → σ[j]? ≠ some (some (.ref p))
  bor : ∀ b ∈ F0.bor, σ[b.1]? = some (some (.ref b.2.1)) ∧ m[b.1]? = some true ∧ (∃ d, ρ[b.1]? = some (some d)) ∧ ∀ d o, b.2.2 = some (d, o) → ρ[b.1]? = some (some d) ∧ H b.2.1 = some o
structure Ext (F H F' H' : Hp) : Prop where
  ff : Same F F'
  hh : Same H H'
  fh : Same F' H'
  nw : ∀ p, H p ≠ none → F p = none → F' p = none
section
variable {K : PySem.W.Frag} {F0 : Bs} {H0 F H F' H' F2 H2 : Hp} {m : List Bool} {ρ : Rho} {σ : L2.St}
theorem Ext.trans (a : Ext F H F' H') (b : Ext F' H' F2 H2) : Ext F H F2 H2 :=
  ⟨a.ff.trans b.ff, a.hh.trans b.hh, b.fh, fun p h f => b.nw p (fun z => by
    cases q : H p with
    | none => exact h q
    | some o => rw [a.hh p o q] at z; cases z) (a.nw p h f)⟩
theorem Ext.refl (h : Same F H) : Ext F H F H := ⟨.refl _, .refl _, h, fun _ _ f => f⟩
theorem same_upd {p : Addr} {o : HO} (h : H p = none) : Same H (upd H p o) := fun b u e => by
  rw [upd_ne (ne_of_none e h)]; exact e
/-- a new object is laid, shared at once -/
theorem Ext.laid {p : Addr} {o : HO} (h : Same F H) (n : H p = none) : Ext F H (upd F p o) (upd H p o) :=
  ⟨same_upd (h.free n), same_upd n, fun b u e => by
    by_cases q : b = p
    · subst q; rw [upd_same] at e ⊢; exact e
    · rw [upd_ne q] at e ⊢; exact h b u e, fun b hb fb => by
    have q : b ≠ p := fun z => hb (z ▸ n)
    rw [upd_ne q]; exact fb⟩
/-- a new object is laid, not shared -/
theorem Ext.laid' {p : Addr} {o : HO} (h : Same F H) (n : H p = none) : Ext F H F (upd H p o) :=
  ⟨.refl _, same_upd n, h.trans (same_upd n), fun _ _ f => f⟩
theorem Rep.ext (r : Rep K F0 H0 m ρ σ F H) (x : Ext F H F' H') : Rep K F0 H0 m ρ σ F' H' where
  len := r.len
  fh := x.fh
  f0 := r.f0.trans x.ff
  h0 := r.h0.trans x.hh
  new := fun p h f => x.nw p (fun z => by
    cases q : H0 p with
    | none => exact h q
    | some o => rw [r.h0 p o q] at z; cases z) (r.new p h f)
  val := fun i d a b => by
    obtain ⟨v, e, h⟩ := r.val i d a b
    exact ⟨v, e, h.mono x.ff⟩
  own := fun i d a b => by
    obtain ⟨p, o, e, h, c, f, h0⟩ := r.own i d a b
    exact ⟨p, o, e, x.hh _ _ h, c.mono x.ff, x.nw p (by rw [h]; simp) f, h0⟩
  apart := r.apart
  bor := fun b hb => by
    obtain ⟨h1, h2, h3, h4⟩ := r.bor b hb
    exact ⟨h1, h2, h3, fun d o e => ⟨(h4 d o e).1, x.hh _ _ (h4 d o e).2⟩⟩
end

/-! ### the reading by data -/
/-- an exception that is represented -/
def IsX (K : PySem.W.Frag) (F : Hp) (x : Ex) (cls : Value) (od : Option Addr) : Prop :=
  cls = .ref (He.ga K x.cls) ∧ (x.fs ≠ [] → ∃ d vs, od = some d ∧ F d = some (.xd vs) ∧ IsK K F vs x.fs) ∧ (x.fs = [] → od = none)
def after (K : PySem.W.Frag) (W : WX) (σ : L2.St) (F H : Hp) (r : R D) (Q : VK) : Prop := match r with
  | .ok d => ∀ v F' H', Ext F H F' H' → Is K F' v d → Q v H'
  | .ex x => ∀ cls od F' H', Ext F H F' H' → IsX K F' x cls od → W cls od σ H'
  | .st => False
def tSem (K : PySem.W.Frag) (F0 : Bs) (H0 : Hp) (m : List Bool) (W : WX) (g : Rho → R D) : TE := fun σ H Q => ∃ ρ F, Rep K F0 H0 m ρ σ F H ∧ after K W σ F H (g ρ) Q
/-- a test -/
def tSemT (K : PySem.W.Frag) (F0 : Bs) (H0 : Hp) (m : List Bool) (W : WX) (g : Rho → R Bool) : TT := fun σ H Q => ∃ ρ F, Rep K F0 H0 m ρ σ F H ∧ match g ρ with
  | .ok b => ∀ F' H', Ext F H F' H' → Q b H'
  | .ex x => ∀ cls od F' H', Ext F H F' H' → IsX K F' x cls od → W cls od σ H'
  | .st => False
/-- arguments -/
def tSemA (K : PySem.W.Frag) (F0 : Bs) (H0 : Hp) (m : List Bool) (W : WX) (g : Rho → R (List D)) : TA := fun σ H Q => ∃ ρ F, Rep K F0 H0 m ρ σ F H ∧ match g ρ with
  | .ok ds => ∀ vs F' H', Ext F H F' H' → IsL K F' vs ds → Q vs H'
  | .ex x => ∀ cls od F' H', Ext F H F' H' → IsX K F' x cls od → W cls od σ H'
  | .st => False
abbrev DE (X : Cx) (F0 : Bs) (H0 : Hp) (m : List Bool) (W : WX) (e : Expr) (g : Rho → R D) : Prop := PE X e (tSem X.K F0 H0 m W g)
abbrev DT (X : Cx) (F0 : Bs) (H0 : Hp) (m : List Bool) (W : WX) (e : Expr) (g : Rho → R Bool) : Prop := PT X e (tSemT X.K F0 H0 m W g)
abbrev DA (X : Cx) (F0 : Bs) (H0 : Hp) (m : List Bool) (W : WX) (es : List Expr) (g : Rho → R (List D)) : Prop := PA X es (tSemA X.K F0 H0 m W g)
theorem pe_imp {X : Cx} {e : Expr} {t t' : TE} (h : PE X e t) (f : ∀ σ H Q, t' σ H Q → t σ H Q) : PE X e t' := ⟨fun pins s σ H Q I q => h.run pins s σ H Q I (f σ H Q q)⟩
theorem pt_imp {X : Cx} {e : Expr} {t t' : TT} (h : PT X e t) (f : ∀ σ H Q, t' σ H Q → t σ H Q) : PT X e t' := ⟨fun pins s σ H Q I q => h.run pins s σ H Q I (f σ H Q q)⟩
theorem pa_imp {X : Cx} {e : List Expr} {t t' : TA} (h : PA X e t) (f : ∀ σ H Q, t' σ H Q → t σ H Q) : PA X e t' := ⟨fun pos pins s σ H Q I q => h.run pos pins s σ H Q I (f σ H Q q)⟩
theorem ps_imp {X : Cx} {e : Stmt} {t t' : TS} (h : PS X e t) (f : ∀ D σ H, t' D σ H → t D σ H) : PS X e t' := ⟨fun pins s σ H Q I q => h.run pins s σ H Q I (f Q σ H q)⟩
theorem pss_imp {X : Cx} {e : List Stmt} {t t' : TS} (h : PSs X e t) (f : ∀ D σ H, t' D σ H → t D σ H) : PSs X e t' := ⟨fun pins s σ H Q I q => h.run pins s σ H Q I (f Q σ H q)⟩
theorem pe_or2 {X : Cx} {e : Expr} {t t' : TE} (h : PE X e t) (h' : PE X e t') : PE X e (fun σ H Q => t σ H Q ∨ t' σ H Q) := ⟨fun pins s σ H Q I q => q.elim (h.run pins s σ H Q I) (h'.run pins s σ H Q I)⟩

section
variable {K : PySem.W.Frag} {F0 : Bs} {H0 F H F' H' : Hp} {m : List Bool} {W : WX} {ρ : Rho} {σ : L2.St} {g : Rho → R D} {Q : VK}
theorem after.ext {r : R D} (h : after K W σ F H r Q) (x : Ext F H F' H') : after K W σ F' H' r Q := by
  cases r with
  | ok d => exact fun v F2 H2 y i => h v F2 H2 (x.trans y) i
  | ex e => exact fun cls od F2 H2 y i => h cls od F2 H2 (x.trans y) i
  | st => exact h
theorem after.now {d : D} {v : V} (h : after K W σ F H (.ok d) Q) (s : Same F H) (i : Is K F v d) : Q v H := h v F H (.refl s) i
/-- one part of an expression is read, then the rest -/
theorem sem_bind {k : D → R D} {Φ : VK} (r : Rep K F0 H0 m ρ σ F H) (h : after K W σ F H ((g ρ).bind k) Q)
    (f : ∀ d v F' H', Ext F H F' H' → Is K F' v d → Rep K F0 H0 m ρ σ F' H' → after K W σ F' H' (k d) Q → Φ v H') : tSem K F0 H0 m W g σ H Φ := by
  refine ⟨ρ, F, r, ?_⟩
  cases e : g ρ with
  | ok d =>
    rw [e] at h
    exact fun v F' H' x i => f d v F' H' x i (r.ext x) (after.ext h x)
  | ex x =>
    rw [e] at h
    exact h
  | st =>
    rw [e] at h
    exact h
theorem semT_bind {gt : Rho → R Bool} {k : Bool → R D} {Φ : Bool → Hp → Prop} (r : Rep K F0 H0 m ρ σ F H) (h : after K W σ F H ((gt ρ).bind k) Q)
    (f : ∀ b F' H', Ext F H F' H' → Rep K F0 H0 m ρ σ F' H' → after K W σ F' H' (k b) Q → Φ b H') : tSemT K F0 H0 m W gt σ H Φ := by
  refine ⟨ρ, F, r, ?_⟩
  cases e : gt ρ with
  | ok d =>
    rw [e] at h
    exact fun F' H' x => f d F' H' x (r.ext x) (after.ext h x)
  | ex x =>
    rw [e] at h
    exact h
  | st =>
    rw [e] at h
    exact h
theorem semA_bind {ga : Rho → R (List D)} {k : List D → R D} {Φ : List V → Hp → Prop} (r : Rep K F0 H0 m ρ σ F H) (h : after K W σ F H ((ga ρ).bind k) Q)
    (f : ∀ ds vs F' H', Ext F H F' H' → IsL K F' vs ds → Rep K F0 H0 m ρ σ F' H' → after K W σ F' H' (k ds) Q → Φ vs H') : tSemA K F0 H0 m W ga σ H Φ := by
  refine ⟨ρ, F, r, ?_⟩
  cases e : ga ρ with
  | ok d =>
    rw [e] at h
    exact fun vs F' H' x i => f d vs F' H' x i (r.ext x) (after.ext h x)
  | ex x =>
    rw [e] at h
    exact h
  | st =>
    rw [e] at h
    exact h
end
end Pd

/-! Pd2: expressions read as functions of data -/
namespace Pd
open PySem PySem.Spec PyProof.Rows L2
section
variable {X : Cx} {F0 : Bs} {H0 : Hp} {m : List Bool} {W : WX} {pos : Pos} {a b c : Expr} {ga gb gc : Rho → R D}

/-! ### names, constants -/
def gVar (i : Nat) : Rho → R D := fun ρ => match ρ[i]? with
  | some (some d) => .ok d
  | _ => .st
theorem d_var (i : Nat) {x : Str} (hN : X.N[i]? = some x := by rfl) (hv : Vis X.env.scope x := by first | exact Or.inl rfl | exact Or.inr (Or.inl rfl) | exact Or.inr (Or.inr rfl)) (hm : (m[i]? == some true) = false := by rfl) (hd : (x == ("__debug__" : Str)) = false := by decide)
    (hcd : (x == ("__classdict__" : Str)) = false := by decide) : DE X F0 H0 m W (.Name x pos) (gVar i) := by
  refine pe_imp (pe_var hN hv hd hcd) fun σ H Q ⟨ρ, F, r, h⟩ => ?_
  unfold gVar at h
  split at h
  · rename_i d e
    obtain ⟨v, e1, i1⟩ := r.val i d e (by intro z; rw [z] at hm; cases hm)
    exact ⟨v, e1, after.now h r.fh i1⟩
  · exact h.elim
def gC (d : D) : Rho → R D := fun _ => .ok d
theorem sem_const {K : PySem.W.Frag} {v : V} {d : D} (i : ∀ H, Is K H v d) : ∀ (σ : L2.St) (H : Hp) (Q : VK), tSem K F0 H0 m W (gC d) σ H Q → tC v σ H Q :=
  fun σ H Q ⟨ρ, F, r, h⟩ => after.now h r.fh (i F)
theorem d_int {i : Int} {j} : DE X F0 H0 m W (.Constant (.int i) j pos) (gC (.int i)) := pe_imp pe_int (sem_const fun _ => .int i)
theorem d_bl {i : Bool} {j} : DE X F0 H0 m W (.Constant (.bool i) j pos) (gC (.bl i)) := pe_imp pe_bl (sem_const fun _ => .bl i)
theorem d_str {i : Str} {j} : DE X F0 H0 m W (.Constant (.str i) j pos) (gC (.str i)) := pe_imp pe_str (sem_const fun _ => .str i)
theorem d_non {j} : DE X F0 H0 m W (.Constant .none j pos) (gC .non) := pe_imp pe_non (sem_const fun _ => .non)
theorem d_glob {x : Str} {v : V} {u : Value} {d : D} (hg : Gl X x) (hm : X.mg x = some u) (r : RelV v u) (i : ∀ H, Is X.K H v d) (hd : (x == ("__debug__" : Str)) = false := by decide) : DE X F0 H0 m W (.Name x pos) (gC d) :=
  pe_imp (pe_glob hg hm r hd) (sem_const i)
theorem d_gint {x : Str} {i : Int} (hg : Gl X x) (hm : ∃ t, X.mg x = some (.int i t)) (hd : (x == ("__debug__" : Str)) = false := by decide) : DE X F0 H0 m W (.Name x pos) (gC (.int i)) := by
  obtain ⟨t, hm⟩ := hm
  exact d_glob (v := .int i) hg hm ⟨t, rfl⟩ (fun _ => .int i) hd
theorem d_gstr {x : Str} {i : Str} (hg : Gl X x) (hm : ∃ t, X.mg x = some (.str i t)) (hd : (x == ("__debug__" : Str)) = false := by decide) : DE X F0 H0 m W (.Name x pos) (gC (.str i)) := by
  obtain ⟨t, hm⟩ := hm
  exact d_glob (v := .str i) hg hm ⟨t, rfl⟩ (fun _ => .str i) hd

/-! ### two operands -/
def g2 (f : D → D → R D) (ga gb : Rho → R D) : Rho → R D := fun ρ => (ga ρ).bind fun d => (gb ρ).bind fun e => f d e
def OpD (K : PySem.W.Frag) (f : D → D → R D) (r : R2) : Prop :=
  ∀ (W : WX) (σ : L2.St) (F H : Hp) (d e : D) (v u : V) (Q : VK), Same F H → Is K F v d → Is K F u e → after K W σ F H (f d e) Q → r v u H Q
theorem sem2 {f : D → D → R D} {r : R2} (o : OpD X.K f r) : ∀ (σ : L2.St) (H : Hp) (Q : VK), tSem X.K F0 H0 m W (g2 f ga gb) σ H Q → tOp r (tSem X.K F0 H0 m W ga) (tSem X.K F0 H0 m W gb) σ H Q :=
  fun σ H Q ⟨ρ, F, r, h⟩ => sem_bind (k := fun d => (gb ρ).bind fun e => f d e) r h fun d v F1 H1 _ i1 r1 h1 =>
    sem_bind (k := fun e => f d e) r1 h1 fun e u F2 H2 x2 i2 r2 h2 => o W σ F2 H2 d e v u Q r2.fh (i1.mono x2.ff) i2 h2
theorem OpD.or {K : PySem.W.Frag} {f g : D → D → R D} {r r' : R2} (h : OpD K f r) (h' : OpD K g r') : OpD K (fun d e => match f d e with | .st => g d e | x => x) (fun x y H Q => r x y H Q ∨ r' x y H Q) := by
  intro W σ F H d e v u Q s i j q
  dsimp only at q
  cases z : f d e with
  | ok _ => rw [z] at q; exact .inl (h W σ F H d e v u Q s i j (by rw [z]; exact q))
  | ex _ => rw [z] at q; exact .inl (h W σ F H d e v u Q s i j (by rw [z]; exact q))
  | st => rw [z] at q; exact .inr (h' W σ F H d e v u Q s i j q)
theorem OpD.imp {K : PySem.W.Frag} {f g : D → D → R D} {r : R2} (h : OpD K f r) (e : ∀ d e, g d e = f d e ∨ g d e = .st) : OpD K g r := by
  intro W σ F H d e' v u Q s i j q
  rcases e d e' with z | z
  · rw [z] at q; exact h W σ F H d e' v u Q s i j q
  · rw [z] at q; exact q.elim
theorem d_op {op : Operator} {f : D → D → R D} {r : R2} (ho : OpR X (binaryOp op) r) (o : OpD X.K f r) (ha : DE X F0 H0 m W a ga) (hb : DE X F0 H0 m W b gb) : DE X F0 H0 m W (.BinOp a op b pos) (g2 f ga gb) :=
  pe_imp (pe_op ho ha hb) (sem2 o)
theorem d_cmp {op : CmpOp} {f : D → D → R D} {r : R2} (ho : OpR X (compareOp op) r) (o : OpD X.K f r) (ha : DE X F0 H0 m W a ga) (hb : DE X F0 H0 m W b gb) (hm : behindInMarks op b = false) : DE X F0 H0 m W (.Compare a [op] [b] pos) (g2 f ga gb) :=
  pe_imp (pe_cmpR ho ha hb hm) (sem2 o)
/-- a value as a truth value -/
def asB : D → R Bool
  | .bl b => .ok b
  | _ => .st
def gB (g : Rho → R D) : Rho → R Bool := fun ρ => (g ρ).bind asB
theorem sem_test {t : TE} {g : Rho → R D} (f : ∀ σ H Q, tSem X.K F0 H0 m W g σ H Q → t σ H Q) (mono : ∀ σ H Q Q', (∀ v H', Q v H' → Q' v H') → t σ H Q → t σ H Q') : ∀ (σ : L2.St) (H : Hp) (Q : Bool → Hp → Prop), tSemT X.K F0 H0 m W (gB g) σ H Q → t σ H fun x H' => ∃ k, x = .bl k ∧ Q k H' := by
  intro σ H Q ⟨ρ, F, r, h⟩
  refine f σ H _ ⟨ρ, F, r, ?_⟩
  unfold gB at h
  cases e : g ρ with
  | ok d =>
    rw [e] at h
    intro v F' H' x i
    cases i with
    | bl b => exact ⟨b, rfl, h F' H' x⟩
    | _ => exact h.elim
  | ex x =>
    rw [e] at h
    exact h
  | st =>
    rw [e] at h
    exact h.elim
theorem t_cmp {op : CmpOp} {f : D → D → R D} {r : R2} (ho : OpR X (compareOp op) r) (o : OpD X.K f r) (ha : DE X F0 H0 m W a ga) (hb : DE X F0 H0 m W b gb) (hm : behindInMarks op b = false) : DT X F0 H0 m W (.Compare a [op] [b] pos) (gB (g2 f ga gb)) := by
  refine pt_imp (pt_cmpR ho ha hb hm) fun σ H Q ⟨ρ, F, r, h⟩ => ?_
  refine sem2 o σ H _ ⟨ρ, F, r, ?_⟩
  unfold gB at h
  cases e : g2 f ga gb ρ with
  | ok d =>
    rw [e] at h
    intro v F' H' x i
    cases i with
    | bl b => exact ⟨b, rfl, h F' H' x⟩
    | _ => exact h.elim
  | ex x =>
    rw [e] at h
    exact h
  | st =>
    rw [e] at h
    exact h.elim
/-- a op b op' c -/
def g3 (f f' : D → D → R D) (ga gb gc : Rho → R D) : Rho → R D := fun ρ => (ga ρ).bind fun d => (gb ρ).bind fun e => (f d e).bind fun z => (asB z).bind fun k => if k = true then (gc ρ).bind fun y => f' e y else .ok (.bl false)
theorem sem3 {f f' : D → D → R D} {r r' : R2} (o : OpD X.K f r) (o' : OpD X.K f' r') (nx : ∀ d e, ∃ k, f d e = .ok (.bl k) ∨ f d e = .st) : ∀ (σ : L2.St) (H : Hp) (Q : VK), tSem X.K F0 H0 m W (g3 f f' ga gb gc) σ H Q →
    tChain r r' (tSem X.K F0 H0 m W ga) (tSem X.K F0 H0 m W gb) (tSem X.K F0 H0 m W gc) σ H Q :=
  fun σ H Q ⟨ρ, F, r, h⟩ => sem_bind (k := fun d => (gb ρ).bind fun e => (f d e).bind fun z => (asB z).bind fun k => if k = true then (gc ρ).bind fun y => f' e y else .ok (.bl false)) r h fun d v F1 H1 _ i1 r1 h1 =>
    sem_bind (k := fun e => (f d e).bind fun z => (asB z).bind fun k => if k = true then (gc ρ).bind fun y => f' e y else .ok (.bl false)) r1 h1 fun e u F2 H2 x2 i2 r2 h2 => by
      refine o W σ F2 H2 d e v u _ r2.fh (i1.mono x2.ff) i2 ?_
      obtain ⟨k, z | z⟩ := nx d e
      · rw [z] at h2 ⊢
        intro v' F3 H3 x3 i3
        cases i3
        refine ⟨k, rfl, ?_⟩
        have h3 := after.ext h2 x3
        cases k with
        | true => exact iteT (sem_bind (k := fun y => f' e y) (r2.ext x3) h3 fun y w' F4 H4 x4 i4 r4 h4 => o' W σ F4 H4 e y u w' Q r4.fh ((i2.mono x3.ff).mono x4.ff) i4 h4)
        | false => exact iteF (after.now h3 x3.fh (.bl false))
      · rw [z] at h2
        exact h2.elim
theorem d_chain {op op' : CmpOp} {f f' : D → D → R D} {r r' : R2} (ho : OpR X (compareOp op) r) (o : OpD X.K f r) (ho' : OpR X (compareOp op') r') (o' : OpD X.K f' r') (nx : ∀ d e, ∃ k, f d e = .ok (.bl k) ∨ f d e = .st)
    (ha : DE X F0 H0 m W a ga) (hb : DE X F0 H0 m W b gb) (hc : DE X F0 H0 m W c gc) (hm : lastMarks [op, op'] [b, c] = false := by with_unfolding_all rfl) : DE X F0 H0 m W (.Compare a [op, op'] [b, c] pos) (g3 f f' ga gb gc) :=
  pe_imp (pe_chain ho ho' ha hb hc hm) (sem3 o o' nx)
theorem semT_of {t : TE} {g : Rho → R D} (f : ∀ σ H Q, tSem X.K F0 H0 m W g σ H Q → t σ H Q) : ∀ (σ : L2.St) (H : Hp) (Q : Bool → Hp → Prop), tSemT X.K F0 H0 m W (gB g) σ H Q → t σ H fun x H' => ∃ k, x = .bl k ∧ Q k H' :=
  fun σ H Q ⟨ρ, F, r, h⟩ => by
  refine f σ H _ ⟨ρ, F, r, ?_⟩
  unfold gB at h
  cases e : g ρ with
  | ok d =>
    rw [e] at h
    intro v F' H' x i
    cases i with
    | bl b => exact ⟨b, rfl, h F' H' x⟩
    | _ => exact h.elim
  | ex x =>
    rw [e] at h
    exact h
  | st =>
    rw [e] at h
    exact h.elim
theorem t_chain {op op' : CmpOp} {f f' : D → D → R D} {r r' : R2} (ho : OpR X (compareOp op) r) (o : OpD X.K f r) (ho' : OpR X (compareOp op') r') (o' : OpD X.K f' r') (nx : ∀ d e, ∃ k, f d e = .ok (.bl k) ∨ f d e = .st)
    (ha : DE X F0 H0 m W a ga) (hb : DE X F0 H0 m W b gb) (hc : DE X F0 H0 m W c gc) (hm : lastMarks [op, op'] [b, c] = false := by with_unfolding_all rfl) : DT X F0 H0 m W (.Compare a [op, op'] [b, c] pos) (gB (g3 f f' ga gb gc)) :=
  pt_imp (pt_chain ho ho' ha hb hc hm) (semT_of (sem3 o o' nx))
/-- a bool as a test -/
theorem t_val {e : Expr} {g : Rho → R D} (h : DE X F0 H0 m W e g) (he : ∀ whole, isTrue e X.env whole = (do let v ← whole; standAt e.pos; holding [v] (truthy v)) := by intro _; rfl) : DT X F0 H0 m W e (gB g) :=
  pt_imp (pt_val h he) (semT_of fun _ _ _ z => z)
/-- truth of data -/
def truD : D → R Bool
  | .non => .ok false
  | .bl b => .ok b
  | .int i => .ok (i != 0)
  | .str s => if s.length ≤ sizeLine then .ok ((s.length : Int) != 0) else .st
  | .list xs => .ok (!xs.isEmpty)
  | .tup xs => .ok (!xs.isEmpty)
  | _ => .st
theorem IsL.empty {K : PySem.W.Frag} {H : Hp} {xs : List V} {ds : List D} (h : IsL K H xs ds) : xs.isEmpty = ds.isEmpty := by
  have l := h.1
  cases xs <;> cases ds <;> first | rfl | (simp at l)
theorem tru_of {K : PySem.W.Frag} {F H : Hp} {v : V} {d : D} {k : Bool} (s : Same F H) (i : Is K F v d) (h : truD d = .ok k) : TruV K v H k := by
  cases i with
  | non => cases h; rfl
  | bl b => cases h; rfl
  | int i => cases h; rfl
  | str x =>
    have h' : (if x.length ≤ sizeLine then R.ok ((x.length : Int) != 0) else .st) = .ok k := h
    by_cases hx : x.length ≤ sizeLine
    · rw [if_pos hx] at h'
      cases h'
      exact ⟨hx, rfl⟩
    · rw [if_neg hx] at h'
      cases h'
  | list hl l e => cases h; exact .inl ⟨_, s.seq hl, by rw [IsL.empty (K := K) (H := F) ⟨l, e⟩]⟩
  | tup hl l e => cases h; exact .inr (.inl ⟨_, sameT s hl, by rw [IsL.empty (K := K) (H := F) ⟨l, e⟩]⟩)
  | dict _ _ _ _ => cases h
  | dictT _ _ _ _ => cases h
  | obj _ _ _ _ => cases h
  | adr _ => cases h
def gTru (g : Rho → R D) : Rho → R Bool := fun ρ => (g ρ).bind truD
theorem truD_nx (d : D) : (∃ k, truD d = .ok k) ∨ truD d = .st := by
  cases d with
  | str x =>
    show (∃ k, (if x.length ≤ sizeLine then R.ok ((x.length : Int) != 0) else .st) = .ok k) ∨ (if x.length ≤ sizeLine then R.ok ((x.length : Int) != 0) else .st) = .st
    by_cases hx : x.length ≤ sizeLine
    · rw [if_pos hx]; exact .inl ⟨_, rfl⟩
    · rw [if_neg hx]; exact .inr rfl
  | dict _ => exact .inr rfl
  | dictT _ => exact .inr rfl
  | obj _ _ => exact .inr rfl
  | loc _ => exact .inr rfl
  | adr _ => exact .inr rfl
  | _ => exact .inl ⟨_, rfl⟩
theorem t_tru {e : Expr} {g : Rho → R D} (h : DE X F0 H0 m W e g) (he : ∀ whole, isTrue e X.env whole = (do let v ← whole; standAt e.pos; holding [v] (truthy v)) := by intro _; rfl) : DT X F0 H0 m W e (gTru g) := by
  refine pt_imp (pt_truth h he) fun σ H Q ⟨ρ, F, r, h⟩ => ⟨ρ, F, r, ?_⟩
  unfold gTru at h
  cases e : g ρ with
  | ok d =>
    rw [e] at h
    intro v F' H' x i
    have h' : match truD d with
      | .ok b => ∀ F' H', Ext F H F' H' → Q b H'
      | .ex x => ∀ cls od F' H', Ext F H F' H' → IsX X.K F' x cls od → W cls od σ H'
      | .st => False := h
    rcases truD_nx d with ⟨k, z⟩ | z
    · rw [z] at h'
      exact ⟨k, tru_of x.fh i z, h' F' H' x⟩
    · rw [z] at h'
      exact h'.elim
  | ex x =>
    rw [e] at h
    exact h
  | st =>
    rw [e] at h
    exact h.elim

/-! ### and, or, not, if else -/
abbrev DW (X : Cx) (F0 : Bs) (H0 : Hp) (m : List Bool) (W : WX) (e : Expr) (g : Rho → R Bool) : Prop := PW X e (tSemT X.K F0 H0 m W g)
theorem pw_imp {e : Expr} {t t' : TT} (h : PW X e t) (f : ∀ σ H Q, t' σ H Q → t σ H Q) : PW X e t' := ⟨fun wh pins s σ H Q I q => h.run wh pins s σ H Q I (f σ H Q q)⟩
def bAnd (p q : Rho → R Bool) : Rho → R Bool := fun ρ => (p ρ).bind fun k => if k = true then q ρ else .ok false
def bOr (p q : Rho → R Bool) : Rho → R Bool := fun ρ => (p ρ).bind fun k => if k = true then .ok true else q ρ
def bNot (p : Rho → R Bool) : Rho → R Bool := fun ρ => (p ρ).bind fun k => .ok (!k)
/-- a test is read, then the rest -/
def afterT (K : PySem.W.Frag) (W : WX) (σ : L2.St) (F H : Hp) (r : R Bool) (Q : Bool → Hp → Prop) : Prop := match r with
  | .ok b => ∀ F' H', Ext F H F' H' → Q b H'
  | .ex x => ∀ cls od F' H', Ext F H F' H' → IsX K F' x cls od → W cls od σ H'
  | .st => False
theorem afterT.ext {K : PySem.W.Frag} {σ : L2.St} {F H F' H' : Hp} {Q : Bool → Hp → Prop} {r : R Bool} (h : afterT K W σ F H r Q) (x : Ext F H F' H') : afterT K W σ F' H' r Q := by
  cases r with
  | ok d => exact fun F2 H2 y => h F2 H2 (x.trans y)
  | ex e => exact fun cls od F2 H2 y i => h cls od F2 H2 (x.trans y) i
  | st => exact h
theorem semTT {K : PySem.W.Frag} {σ : L2.St} {F H : Hp} {ρ : Rho} {p : Rho → R Bool} {k : Bool → R Bool} {Q Φ : Bool → Hp → Prop} (r : Rep K F0 H0 m ρ σ F H) (h : afterT K W σ F H ((p ρ).bind k) Q)
    (f : ∀ b F' H', Ext F H F' H' → Rep K F0 H0 m ρ σ F' H' → afterT K W σ F' H' (k b) Q → Φ b H') : tSemT K F0 H0 m W p σ H Φ := by
  refine ⟨ρ, F, r, ?_⟩
  cases e : p ρ with
  | ok d =>
    rw [e] at h
    exact fun F' H' x => f d F' H' x (r.ext x) (afterT.ext h x)
  | ex x =>
    rw [e] at h
    exact h
  | st =>
    rw [e] at h
    exact h
variable {p q : Rho → R Bool} {rest : List Expr}
theorem w_and1 (ha : DT X F0 H0 m W a p) : DW X F0 H0 m W (.BoolOp .And [a] pos) p := pw_and1 ha
theorem w_or1 (ha : DT X F0 H0 m W a p) : DW X F0 H0 m W (.BoolOp .Or [a] pos) p := pw_or1 ha
theorem w_and (ha : DT X F0 H0 m W a p) (hb : DW X F0 H0 m W (.BoolOp .And (b :: rest) pos) q) : DW X F0 H0 m W (.BoolOp .And (a :: b :: rest) pos) (bAnd p q) := by
  refine pw_imp (pw_and ha hb) fun σ H Q ⟨ρ, F, r, h⟩ => ?_
  refine semTT (k := fun k => if k = true then q ρ else .ok false) r h fun k F1 H1 x1 r1 h1 => ?_
  cases k with
  | true => exact iteT ⟨ρ, F1, r1, h1⟩
  | false => exact iteF (h1 F1 H1 (.refl r1.fh))
theorem w_or (ha : DT X F0 H0 m W a p) (hb : DW X F0 H0 m W (.BoolOp .Or (b :: rest) pos) q) : DW X F0 H0 m W (.BoolOp .Or (a :: b :: rest) pos) (bOr p q) := by
  refine pw_imp (pw_or ha hb) fun σ H Q ⟨ρ, F, r, h⟩ => ?_
  refine semTT (k := fun k => if k = true then .ok true else q ρ) r h fun k F1 H1 x1 r1 h1 => ?_
  cases k with
  | true => exact iteT (h1 F1 H1 (.refl r1.fh))
  | false => exact iteF ⟨ρ, F1, r1, h1⟩
theorem t_w {e : Expr} (h : DW X F0 H0 m W e p) : DT X F0 H0 m W e p := PW.pt h
theorem t_not (ha : DT X F0 H0 m W a p) : DT X F0 H0 m W (.UnaryOp .Not a pos) (bNot p) := by
  refine pt_imp (pt_not ha) fun σ H Q ⟨ρ, F, r, h⟩ => ?_
  exact semTT (k := fun k => .ok (!k)) r h fun k F1 H1 x1 r1 h1 => h1 F1 H1 (.refl r1.fh)
def gAnd (ga gb : Rho → R D) : Rho → R D := fun ρ => (ga ρ).bind fun d => (asB d).bind fun k => if k = true then gb ρ else .ok (.bl false)
def gOr (ga gb : Rho → R D) : Rho → R D := fun ρ => (ga ρ).bind fun d => (asB d).bind fun k => if k = true then .ok (.bl true) else gb ρ
def gNot (ga : Rho → R D) : Rho → R D := fun ρ => (ga ρ).bind fun d => (asB d).bind fun k => .ok (.bl (!k))
theorem asB_of {K : PySem.W.Frag} {F H : Hp} {σ : L2.St} {v : V} {d : D} {k : Bool → R D} {Q : VK} (i : Is K F v d) (h : after K W σ F H ((asB d).bind k) Q) : ∃ b, v = .bl b ∧ d = .bl b ∧ after K W σ F H (k b) Q := by
  cases i with
  | bl b => exact ⟨b, rfl, rfl, h⟩
  | _ => exact h.elim
theorem d_one {op} (ha : DE X F0 H0 m W a ga) : DE X F0 H0 m W (.BoolOp op [a] pos) ga := pe_one ha
theorem d_and (ha : DE X F0 H0 m W a ga) (hb : DE X F0 H0 m W (.BoolOp .And (b :: rest) pos) gb) : DE X F0 H0 m W (.BoolOp .And (a :: b :: rest) pos) (gAnd ga gb) := by
  refine pe_imp (pe_and ha hb) fun σ H Q ⟨ρ, F, r, h⟩ => ?_
  refine sem_bind (k := fun d => (asB d).bind fun k => if k = true then gb ρ else .ok (.bl false)) r h fun d v F1 H1 _ i1 r1 h1 => ?_
  obtain ⟨k, rfl, rfl, h2⟩ := asB_of i1 h1
  refine ⟨k, rfl, ?_⟩
  cases k with
  | true => exact iteT ⟨ρ, F1, r1, h2⟩
  | false => exact iteF (after.now h2 r1.fh (.bl false))
theorem d_or (ha : DE X F0 H0 m W a ga) (hb : DE X F0 H0 m W (.BoolOp .Or (b :: rest) pos) gb) : DE X F0 H0 m W (.BoolOp .Or (a :: b :: rest) pos) (gOr ga gb) := by
  refine pe_imp (pe_or ha hb) fun σ H Q ⟨ρ, F, r, h⟩ => ?_
  refine sem_bind (k := fun d => (asB d).bind fun k => if k = true then .ok (.bl true) else gb ρ) r h fun d v F1 H1 _ i1 r1 h1 => ?_
  obtain ⟨k, rfl, rfl, h2⟩ := asB_of i1 h1
  refine ⟨k, rfl, ?_⟩
  cases k with
  | true => exact iteT (after.now h2 r1.fh (.bl true))
  | false => exact iteF ⟨ρ, F1, r1, h2⟩
theorem d_not (ha : DE X F0 H0 m W a ga) : DE X F0 H0 m W (.UnaryOp .Not a pos) (gNot ga) := by
  refine pe_imp (pe_not ha) fun σ H Q ⟨ρ, F, r, h⟩ => ?_
  refine sem_bind (k := fun d => (asB d).bind fun k => .ok (.bl (!k))) r h fun d v F1 H1 _ i1 r1 h1 => ?_
  obtain ⟨k, rfl, rfl, h2⟩ := asB_of i1 h1
  exact ⟨k, rfl, after.now h2 r1.fh (.bl _)⟩
def gIf (p : Rho → R Bool) (ga gb : Rho → R D) : Rho → R D := fun ρ => (p ρ).bind fun k => if k = true then ga ρ else gb ρ
theorem d_if (hc : DT X F0 H0 m W c p) (ha : DE X F0 H0 m W a ga) (hb : DE X F0 H0 m W b gb) : DE X F0 H0 m W (.IfExp c a b pos) (gIf p ga gb) := by
  refine pe_imp (pe_ifExp hc ha hb) fun σ H Q ⟨ρ, F, r, h⟩ => ?_
  refine semT_bind (k := fun k => if k = true then ga ρ else gb ρ) r h fun k F1 H1 _ r1 h1 => ?_
  cases k with
  | true => exact iteT ⟨ρ, F1, r1, h1⟩
  | false => exact iteF ⟨ρ, F1, r1, h1⟩

/-! ### one operand -/
def g1 (f : D → R D) (ga : Rho → R D) : Rho → R D := fun ρ => (ga ρ).bind f
def UnD (K : PySem.W.Frag) (f : D → R D) (r : V → Hp → VK → Prop) : Prop :=
  ∀ (W : WX) (σ : L2.St) (F H : Hp) (d : D) (v : V) (Q : VK), Same F H → Is K F v d → after K W σ F H (f d) Q → r v H Q
theorem d_un {op : UnaryOp} {f : D → R D} {r : V → Hp → VK → Prop} (ho : UnR X (unaryOp op) r) (o : UnD X.K f r) (ha : DE X F0 H0 m W a ga) : DE X F0 H0 m W (.UnaryOp op a pos) (g1 f ga) :=
  pe_imp (pe_un ho ha) fun σ H Q ⟨ρ, F, r, h⟩ => sem_bind (k := f) r h fun d v F1 H1 _ i1 r1 h1 => o W σ F1 H1 d v Q r1.fh i1 h1
def negD : D → R D
  | .int i => .ok (.int (-i))
  | _ => .st
theorem o_neg {K : PySem.W.Frag} : UnD K negD (rU fun i => .int (-i)) := by
  intro W σ F H d v Q s i q
  cases i with
  | int k => exact ⟨k, rfl, after.now q s (.int _)⟩
  | _ => exact q.elim

/-! ### arguments, displays, calls of built-ins -/
def aNil : Rho → R (List D) := fun _ => .ok []
def aCons (g : Rho → R D) (t : Rho → R (List D)) : Rho → R (List D) := fun ρ => (g ρ).bind fun d => (t ρ).bind fun ds => .ok (d :: ds)
variable {e : Expr} {es : List Expr} {g : Rho → R D} {t : Rho → R (List D)}
theorem da_nil : DA X F0 H0 m W [] aNil := pa_imp pa_nil fun σ H Q ⟨ρ, F, r, h⟩ => h [] F H (.refl r.fh) .nil
def afterA (K : PySem.W.Frag) (W : WX) (σ : L2.St) (F H : Hp) (r : R (List D)) (Q : List V → Hp → Prop) : Prop := match r with
  | .ok ds => ∀ vs F' H', Ext F H F' H' → IsL K F' vs ds → Q vs H'
  | .ex x => ∀ cls od F' H', Ext F H F' H' → IsX K F' x cls od → W cls od σ H'
  | .st => False
theorem afterA.ext {K : PySem.W.Frag} {σ : L2.St} {F H F' H' : Hp} {Q : List V → Hp → Prop} {r : R (List D)} (h : afterA K W σ F H r Q) (x : Ext F H F' H') : afterA K W σ F' H' r Q := by
  cases r with
  | ok d => exact fun vs F2 H2 y i => h vs F2 H2 (x.trans y) i
  | ex e => exact fun cls od F2 H2 y i => h cls od F2 H2 (x.trans y) i
  | st => exact h
theorem da_cons (ha : DE X F0 H0 m W e g) (hr : DA X F0 H0 m W es t) (hs : starEach (e :: es) X.env = (false, eval e X.env) :: starEach es X.env := by rfl) : DA X F0 H0 m W (e :: es) (aCons g t) := by
  refine pa_imp (pa_cons ha hr hs) fun σ H Q ⟨ρ, F, r, h⟩ => ?_
  refine ⟨ρ, F, r, ?_⟩
  have h' : afterA X.K W σ F H ((g ρ).bind fun d => (t ρ).bind fun ds => .ok (d :: ds)) Q := h
  cases eg : g ρ with
  | ok d =>
    rw [eg] at h'
    intro v F1 H1 x1 i1
    refine ⟨ρ, F1, r.ext x1, ?_⟩
    have h2 : afterA X.K W σ F1 H1 ((t ρ).bind fun ds => .ok (d :: ds)) Q := afterA.ext h' x1
    show afterA X.K W σ F1 H1 (t ρ) _
    cases et : t ρ with
    | ok ds =>
      rw [et] at h2
      exact fun vs F2 H2 x2 i2 => h2 (v :: vs) F2 H2 x2 (.cons (i1.mono x2.ff) i2)
    | ex x =>
      rw [et] at h2
      exact h2
    | st =>
      rw [et] at h2
      exact h2.elim
  | ex x =>
    rw [eg] at h'
    exact h'
  | st =>
    rw [eg] at h'
    exact h'.elim
def gA (f : List D → R D) (t : Rho → R (List D)) : Rho → R D := fun ρ => (t ρ).bind f
def CallD (K : PySem.W.Frag) (f : List D → R D) (r : List V → Hp → VK → Prop) : Prop :=
  ∀ (W : WX) (σ : L2.St) (F H : Hp) (ds : List D) (vs : List V) (Q : VK), Same F H → IsL K F vs ds → after K W σ F H (f ds) Q → r vs H Q
theorem semA {f : List D → R D} {r : List V → Hp → VK → Prop} (o : CallD X.K f r) : ∀ (σ : L2.St) (H : Hp) (Q : VK), tSem X.K F0 H0 m W (gA f t) σ H Q → tSemA X.K F0 H0 m W t σ H fun vs H1 => r vs H1 Q :=
  fun σ H Q ⟨ρ, F, r, h⟩ => semA_bind (k := f) r h fun ds vs F1 H1 _ i1 r1 h1 => o W σ F1 H1 ds vs Q r1.fh i1 h1
theorem d_callB {x : Str} {p : Pos} {id : String} {f : List D → R D} {r : List V → Hp → VK → Prop} (hc : CallR X (.builtin id) r) (o : CallD X.K f r) (hm : X.mg x = none) (ha : DA X F0 H0 m W (e :: es) t) (hg : Gl X x := by rfl) (hv : bootBuiltins x = some (.builtin id) := by decide +kernel) (hn : x ≠ "__name__" := by decide) (hdb : (x == ("__debug__" : Str)) = false := by decide)
    (he : starEach (e :: es) X.env = (false, eval e X.env) :: starEach es X.env := by rfl) (hpl : (backTo pos (starEach es X.env)).any (·.1) = false := by rfl) : DE X F0 H0 m W (.Call (.Name x p) (e :: es) [] pos) (gA f t) :=
  pe_imp (pe_callB hc hg hm hv ha hn hdb he hpl) (semA o)
theorem d_callTy {x : Str} {p : Pos} {T : String} {f : List D → R D} {r : List V → Hp → VK → Prop} (hc : CallR X (.type T) r) (o : CallD X.K f r) (hm : X.mg x = none) (ha : DA X F0 H0 m W (e :: es) t) (hg : Gl X x := by rfl) (hv : bootBuiltins x = some (.type T) := by decide +kernel) (hn : x ≠ "__name__" := by decide) (hdb : (x == ("__debug__" : Str)) = false := by decide)
    (he : starEach (e :: es) X.env = (false, eval e X.env) :: starEach es X.env := by rfl) (hpl : (backTo pos (starEach es X.env)).any (·.1) = false := by rfl) : DE X F0 H0 m W (.Call (.Name x p) (e :: es) [] pos) (gA f t) :=
  pe_imp (pe_callTy hc hg hm hv ha hn hdb he hpl) (semA o)
def lstD : List D → R D := fun ds => if ds.length ≤ sizeLine then .ok (.list ds) else .st
def tupD : List D → R D := fun ds => if ds.length ≤ sizeLine then .ok (.tup ds) else .st
theorem d_list (ha : DA X F0 H0 m W es t) : DE X F0 H0 m W (.List es pos) (gA lstD t) := by
  refine pe_imp (pe_lst ha) fun σ H Q ⟨ρ, F, r, h⟩ => semA_bind (k := lstD) r h fun ds vs F1 H1 _ i1 r1 h1 => ?_
  unfold lstD at h1
  split at h1
  · rename_i hl
    refine ⟨by rw [i1.1]; exact hl, fun p hp => ?_⟩
    have x := Ext.laid (o := .lst vs) r1.fh hp
    exact h1 (.ref p) _ _ x (is_list (.of upd_same) (i1.mono x.ff))
  · exact h1.elim
theorem d_tup {k} (ha : DA X F0 H0 m W es t) : DE X F0 H0 m W (.Tuple es k pos) (gA tupD t) := by
  refine pe_imp (pe_tup ha) fun σ H Q ⟨ρ, F, r, h⟩ => semA_bind (k := tupD) r h fun ds vs F1 H1 _ i1 r1 h1 => ?_
  unfold tupD at h1
  split at h1
  · rename_i hl
    refine ⟨by rw [i1.1]; exact hl, fun p hp => ?_⟩
    have x := Ext.laid (o := .tup vs) r1.fh hp
    exact h1 (.ref p) _ _ x (is_tup (.of upd_same) (i1.mono x.ff))
  · exact h1.elim
end
end Pd

/-! Pd3: operators, built-ins, subscripts, methods, calls -/
namespace Pd
open PySem PySem.Spec PyProof.Rows L2
section
variable {K : PySem.W.Frag}
/-! ### operators of ints -/
def iD (g : Int → Int → D) : D → D → R D
  | .int i, .int j => .ok (g i j)
  | _, _ => .st
def icD (C : Int → Int → Bool) (g : Int → Int → D) : D → D → R D
  | .int i, .int j => if C i j = true then .ok (g i j) else .st
  | _, _ => .st
theorem o_i {g : Int → Int → D} {g' : Int → Int → V} (h : ∀ i j H, Is K H (g' i j) (g i j)) : OpD K (iD g) (rI0 g') := by
  intro W σ F H d e v u Q s i j q
  cases i with
  | int k =>
    cases j with
    | int l => exact ⟨k, l, rfl, rfl, after.now q s (h k l F)⟩
    | _ => exact q.elim
  | _ => exact q.elim
theorem o_ic {C : Int → Int → Prop} {C' : Int → Int → Bool} {g : Int → Int → D} {g' : Int → Int → V} (hC : ∀ i j, C' i j = true → C i j) (h : ∀ i j H, Is K H (g' i j) (g i j)) : OpD K (icD C' g) (rI C g') := by
  intro W σ F H d e v u Q s i j q
  cases i with
  | int k =>
    cases j with
    | int l =>
      have q' : after K W σ F H (if C' k l = true then .ok (g k l) else .st) Q := q
      by_cases hc : C' k l = true
      · rw [if_pos hc] at q'
        exact ⟨k, l, rfl, rfl, hC k l hc, after.now q' s (h k l F)⟩
      · rw [if_neg hc] at q'
        exact q'.elim
    | _ => exact q.elim
  | _ => exact q.elim
def subD : D → D → R D := iD fun i j => .int (i - j)
theorem o_sub : OpD K subD (rI0 fun i j => .int (i - j)) := o_i fun _ _ _ => .int _
def small64b (i : Int) : Bool := decide (-(2 ^ 64) < i) && decide (i < 2 ^ 64)
def mulD : D → D → R D := icD (fun i j => small64b i || small64b j) fun i j => .int (i * j)
theorem o_mul : OpD K mulD (rI CMul fun i j => .int (i * j)) := o_ic (fun i j h => by
  simp only [small64b, Bool.or_eq_true, Bool.and_eq_true, decide_eq_true_eq] at h
  exact h) fun _ _ _ => .int _
def fdivD : D → D → R D := icD (fun _ j => decide (0 < j) && decide (j < 1073741824)) fun i j => .int (i / j)
theorem o_fdiv : OpD K fdivD (rI CDiv fun i j => .int (i / j)) := o_ic (fun i j h => by
  simp only [Bool.and_eq_true, decide_eq_true_eq] at h
  exact h) fun _ _ _ => .int _
def modD : D → D → R D := icD (fun _ j => decide (0 < j)) fun i j => .int (i % j)
theorem o_mod : OpD K modD (rI (fun _ j => 0 < j) fun i j => .int (i % j)) := o_ic (fun i j h => of_decide_eq_true h) fun _ _ _ => .int _
def powOk (i j : Int) : Bool := decide (0 ≤ j) && (decide (j ≤ 1000000) && decide (i.natAbs < 2 ^ 64))
theorem powOk_ok {i j : Int} (h : powOk i j = true) : CPow i j := by
  simp only [powOk, Bool.and_eq_true, decide_eq_true_eq] at h
  exact h
def powD : D → D → R D := icD powOk fun i j => .int (i ^ j.toNat)
theorem o_pow : OpD K powD (rI CPow fun i j => .int (i ^ j.toNat)) := o_ic (fun _ _ h => powOk_ok h) fun _ _ _ => .int _
def shlD : D → D → R D := icD powOk fun i j => .int (i * 2 ^ j.toNat)
theorem o_shl : OpD K shlD (rI CPow fun i j => .int (i * 2 ^ j.toNat)) := o_ic (fun _ _ h => powOk_ok h) fun _ _ _ => .int _
def shrD : D → D → R D := icD (fun _ j => decide (0 ≤ j)) fun i j => .int (i / 2 ^ j.toNat)
theorem o_shr : OpD K shrD (rI (fun _ j => 0 ≤ j) fun i j => .int (i / 2 ^ j.toNat)) := o_ic (fun i j h => of_decide_eq_true h) fun _ _ _ => .int _
def andD : D → D → R D := iD fun i j => .int (Builtin.bitAnd i j)
theorem o_and : OpD K andD (rI0 fun i j => .int (Builtin.bitAnd i j)) := o_i fun _ _ _ => .int _
def orD : D → D → R D := iD fun i j => .int (Builtin.bitOr i j)
theorem o_or : OpD K orD (rI0 fun i j => .int (Builtin.bitOr i j)) := o_i fun _ _ _ => .int _
def xorD : D → D → R D := iD fun i j => .int (Builtin.bitXor i j)
theorem o_xor : OpD K xorD (rI0 fun i j => .int (Builtin.bitXor i j)) := o_i fun _ _ _ => .int _

/-! ### + -/
def rCatL (K : PySem.W.Frag) : R2 := fun x y H Q => ∃ l b xs zs, x = .ref l ∧ y = .ref b ∧ SqL K H l xs ∧ SqL K H b zs ∧ xs.length + zs.length ≤ sizeLine ∧ ∀ p, H p = none → Q (.ref p) (upd H p (.lst (xs ++ zs)))
theorem op_catL {X : Cx} : OpR X (binaryOp .Add) (rCatL X.K) := by
  intro pins s σ H x y v u Q I rx ry h
  obtain ⟨l, b, xs, zs, rfl, rfl, hH, hB, hz, q⟩ := h
  cases rx
  cases ry
  obtain ⟨its, r, pl, z⟩ := I.list hH
  obtain ⟨its2, r2, pl2, z2⟩ := I.list hB
  obtain ⟨⟨cls, dd, data, sl⟩, n, ho, hc, h0, hd⟩ := id pl
  obtain ⟨⟨cls2, dd2, data2, sl2⟩, n2, ho2, hc2, h02, hd2⟩ := id pl2
  simp only at hc hd hc2 hd2
  subst hc hd hc2 hd2
  have ea : its.toArray ++ its2.toArray = (its ++ its2).toArray := by simp
  refine concat_meets ⟨_, ho, rfl⟩ ⟨_, ho2, rfl⟩ noFill_list_add seq_list_add PySem.F.slot_list_add PySem.F.entry_list_add (PySem.F.args_list_add_2 _ _) (list_addW l b its.toArray its2.toArray n n2 dd dd2 sl sl2 (by rw [List.size_toArray, List.size_toArray, ← r.length, ← r2.length]; exact hz)) ⟨ho, ho2, ?_⟩
  rw [ea]
  exact ⟨.ref _, _, I.lnew (t' := s.toks) (r.append r2) (by rw [List.length_append]; omega), rfl, q _ I.fresh⟩
def addD : D → D → R D
  | .int i, .int j => .ok (.int (i + j))
  | .str a, .str b => if a.length + b.length ≤ sizeLine then .ok (.str (a ++ b)) else .st
  | .list a, .list b => if a.length + b.length ≤ sizeLine then .ok (.list (a ++ b)) else .st
  | .tup a, .tup b => if a.length + b.length ≤ sizeLine then .ok (.tup (a ++ b)) else .st
  | _, _ => .st
def rAddD (K : PySem.W.Frag) : R2 := fun x y H Q => rI0 (fun i j => .int (i + j)) x y H Q ∨ ((∃ i j, x = .str i ∧ y = .str j ∧ i.length + j.length ≤ sizeLine ∧ Q (.str (i ++ j)) H) ∨ (rCatL K x y H Q ∨ rCatA K x y H Q))
theorem op_addD {X : Cx} : OpR X (binaryOp .Add) (rAddD X.K) := op_add.or (op_add_str.or (op_catL.or op_catA))
theorem o_add : OpD K addD (rAddD K) := by
  intro W σ F H d e v u Q s i j q
  cases i with
  | int k =>
    cases j with
    | int l => exact .inl ⟨k, l, rfl, rfl, after.now q s (.int _)⟩
    | _ => exact q.elim
  | str x =>
    cases j with
    | str y =>
      have q' : after K W σ F H (if x.length + y.length ≤ sizeLine then .ok (.str (x ++ y)) else .st) Q := q
      by_cases hc : x.length + y.length ≤ sizeLine
      · rw [if_pos hc] at q'
        exact .inr (.inl ⟨x, y, rfl, rfl, hc, after.now q' s (.str _)⟩)
      · rw [if_neg hc] at q'
        exact q'.elim
    | _ => exact q.elim
  | @list a xs ds h l e =>
    cases j with
    | @list b ys es h' l' e' =>
      have q' : after K W σ F H (if ds.length + es.length ≤ sizeLine then .ok (.list (ds ++ es)) else .st) Q := q
      by_cases hc : ds.length + es.length ≤ sizeLine
      · rw [if_pos hc] at q'
        refine .inr (.inr (.inl ⟨a, b, xs, ys, rfl, rfl, s.seq h, s.seq h', by omega, fun p hp => ?_⟩))
        have x := Ext.laid (o := .lst (xs ++ ys)) s hp
        exact q' _ _ _ x (is_list (.of upd_same) ((IsL.append ⟨l, e⟩ ⟨l', e'⟩).mono x.ff))
      · rw [if_neg hc] at q'
        exact q'.elim
    | _ => exact q.elim
  | @tup a xs ds h l e =>
    cases j with
    | @tup b ys es h' l' e' =>
      have q' : after K W σ F H (if ds.length + es.length ≤ sizeLine then .ok (.tup (ds ++ es)) else .st) Q := q
      by_cases hc : ds.length + es.length ≤ sizeLine
      · rw [if_pos hc] at q'
        have ap := IsL.append (K := K) (H := F) ⟨l, e⟩ ⟨l', e'⟩
        refine .inr (.inr (.inr ⟨a, b, xs, ys, rfl, rfl, sameT s h, sameT s h', by omega, fun hx => ?_, fun hx hy => ?_, fun hx hy p hp => ?_⟩))
        · subst hx
          refine after.now q' s (is_tup h' ?_)
          have hd : ds = [] := by
            cases ds with
            | nil => rfl
            | cons _ _ => simp at l
          subst hd
          exact ⟨l', e'⟩
        · subst hy
          refine after.now q' s (is_tup h ?_)
          have hd : es = [] := by
            cases es with
            | nil => rfl
            | cons _ _ => simp at l'
          subst hd
          rw [List.append_nil]
          exact ⟨l, e⟩
        · have x := Ext.laid (o := .tup (xs ++ ys)) s hp
          exact q' _ _ _ x (is_tup (.of upd_same) (ap.mono x.ff))
      · rw [if_neg hc] at q'
        exact q'.elim
    | _ => exact q.elim
  | _ => exact q.elim

/-! ### comparisons -/
mutual
def D.py : D → PyData
  | .non => .none
  | .bl b => .bool b
  | .int i => .int i
  | .str s => .str s
  | .list xs => .list (D.pyAll xs)
  | .tup xs => .tuple (D.pyAll xs)
  | .dict _ => .dict []
  | .dictT _ => .dict []
  | .obj _ _ => .dict []
  | .loc _ => .dict []
  | .adr _ => .dict []
def D.pyAll : List D → List PyData
  | [] => []
  | d :: ds => D.py d :: D.pyAll ds
end
mutual
/-- no dicts, no objects in it -/
def D.flat : D → Bool
  | .non => true
  | .bl _ => true
  | .int _ => true
  | .str _ => true
  | .list xs => D.flatAll xs
  | .tup xs => D.flatAll xs
  | .dict _ => false
  | .dictT _ => false
  | .obj _ _ => false
  | .loc _ => false
  | .adr _ => false
def D.flatAll : List D → Bool
  | [] => true
  | d :: ds => D.flat d && D.flatAll ds
end
mutual
theorem dp_of {F : Hp} : ∀ (d : D) (v : V), D.flat d = true → Is K F v d → Dp K F v (D.py d)
  | .non, _, _, i => by cases i; exact .non
  | .bl b, _, _, i => by cases i; exact .bl b
  | .int k, _, _, i => by cases i; exact .int k
  | .str s, _, _, i => by cases i; exact .str s
  | .list ds, _, f, i => by
    obtain ⟨a, xs, rfl, h, l⟩ := i.list_inv
    exact .lst h (dp_ofAll ds xs f l)
  | .tup ds, _, f, i => by
    obtain ⟨a, xs, rfl, h, l⟩ := i.tup_inv
    exact .tup h (dp_ofAll ds xs f l)
  | .dict _, _, f, _ => by cases f
  | .dictT _, _, f, _ => by cases f
  | .obj _ _, _, f, _ => by cases f
  | .loc _, _, f, _ => by cases f
  | .adr _, _, f, _ => by cases f
theorem dp_ofAll {F : Hp} : ∀ (ds : List D) (vs : List V), D.flatAll ds = true → IsL K F vs ds → DpAll K F vs (D.pyAll ds)
  | [], vs, _, l => by rw [l.unnil]; exact .nil
  | d :: ds, vs, f, l => by
    obtain ⟨x, xr, rfl, h, t⟩ := l.uncons
    have f' : (D.flat d && D.flatAll ds) = true := f
    rw [Bool.and_eq_true] at f'
    exact .cons (dp_of d x f'.1 h) (dp_ofAll ds xr f'.2 t)
end
end
end Pd

/-! Pd4: comparisons, built-ins, subscripts, slices, methods, calls -/
namespace Pd
open PySem PySem.Spec PyProof.Rows L2
section
variable {K : PySem.W.Frag}
/-! ### == -/
def eqvD (d e : D) : Bool := PyData.eqv d.py e.py
def D.sh (d : D) : Bool := D.flat d && SeqAt.shaped d.py
/-- scalars of which == is told at once -/
def scD : D → D → Bool
  | .non, .non => true | .non, .int _ => true | .int _, .non => true | .non, .bl _ => true | .bl _, .non => true | .non, .str _ => true | .str _, .non => true
  | .int _, .int _ => true | .bl _, .bl _ => true | .str _, .str _ => true
  | .int _, .str _ => true | .str _, .int _ => true | .bl _, .str _ => true | .str _, .bl _ => true
  | _, _ => false
def eqD (d e : D) : R D := if scD d e = true then .ok (.bl (eqvD d e)) else if (D.sh d && D.sh e) = true then .ok (.bl (eqvD d e)) else .st
def neD (d e : D) : R D := if scD d e = true then .ok (.bl (!eqvD d e)) else if (D.sh d && D.sh e) = true then .ok (.bl (!eqvD d e)) else .st
theorem sc_eq {F : Hp} {v u : V} {d e : D} (i : Is K F v d) (j : Is K F u e) (h : scD d e = true) : scal v u = true ∧ decide (v = u) = eqvD d e := by
  cases i <;> cases j <;> first
    | exact ⟨rfl, rfl⟩
    | exact ⟨rfl, dec_int⟩
    | exact ⟨rfl, dec_bl⟩
    | exact ⟨rfl, dec_str⟩
    | exact absurd h (by intro z; cases z)
def rEq2 (K : PySem.W.Frag) : R2 := fun x y H Q => rEq x y H Q ∨ rEqD K x y H Q
def rNe2 (K : PySem.W.Frag) : R2 := fun x y H Q => rNe x y H Q ∨ rNeD K x y H Q
theorem op_eq2 {X : Cx} (hu : X.A.units + 64 < cLine) : OpR X (compareOp .Eq) (rEq2 X.K) := op_eq.or (op_eqD hu)
theorem op_ne2 {X : Cx} (hu : X.A.units + 64 < cLine) : OpR X (compareOp .NotEq) (rNe2 X.K) := op_ne.or (op_neD hu)
theorem dp_mono {F H : Hp} {v : V} {d : D} (s : Same F H) (i : Is K F v d) (h : D.sh d = true) : Dp K H v d.py ∧ SeqAt.shaped d.py = true := by
  have h' : (D.flat d && SeqAt.shaped d.py) = true := h
  rw [Bool.and_eq_true] at h'
  exact ⟨dp_of d v h'.1 (i.mono s), h'.2⟩
theorem o_eq : OpD K eqD (rEq2 K) := by
  intro W σ F H d e v u Q s i j q
  unfold eqD at q
  by_cases h1 : scD d e = true
  · rw [if_pos h1] at q
    obtain ⟨a, b⟩ := sc_eq i j h1
    exact .inl ⟨a, by rw [b]; exact after.now q s (.bl _)⟩
  · rw [if_neg h1] at q
    by_cases h2 : (D.sh d && D.sh e) = true
    · rw [if_pos h2] at q
      rw [Bool.and_eq_true] at h2
      obtain ⟨a1, a2⟩ := dp_mono s i h2.1
      obtain ⟨b1, b2⟩ := dp_mono s j h2.2
      exact .inr ⟨_, _, a1, b1, a2, b2, after.now q s (.bl _)⟩
    · rw [if_neg h2] at q
      exact q.elim
theorem o_ne : OpD K neD (rNe2 K) := by
  intro W σ F H d e v u Q s i j q
  unfold neD at q
  by_cases h1 : scD d e = true
  · rw [if_pos h1] at q
    obtain ⟨a, b⟩ := sc_eq i j h1
    exact .inl ⟨a, by rw [b]; exact after.now q s (.bl _)⟩
  · rw [if_neg h1] at q
    by_cases h2 : (D.sh d && D.sh e) = true
    · rw [if_pos h2] at q
      rw [Bool.and_eq_true] at h2
      obtain ⟨a1, a2⟩ := dp_mono s i h2.1
      obtain ⟨b1, b2⟩ := dp_mono s j h2.2
      exact .inr ⟨_, _, a1, b1, a2, b2, after.now q s (.bl _)⟩
    · rw [if_neg h2] at q
      exact q.elim
/-! ### order -/
def ltS (a b : Str) : Bool := decide (a.cps.toList < b.cps.toList)
def ltD : D → D → R D
  | .int i, .int j => .ok (.bl (decide (i < j)))
  | .str a, .str b => .ok (.bl (ltS a b))
  | _, _ => .st
def gtD : D → D → R D
  | .int i, .int j => .ok (.bl (decide (j < i)))
  | .str a, .str b => .ok (.bl (ltS b a))
  | _, _ => .st
def leD : D → D → R D := iD fun i j => .bl (decide (i ≤ j))
def geD : D → D → R D := iD fun i j => .bl (decide (j ≤ i))
def rLt2 : R2 := fun x y H Q => rI0 (fun i j => .bl (decide (i < j))) x y H Q ∨ ∃ i j, x = .str i ∧ y = .str j ∧ Q (.bl (decide (i.cps.toList < j.cps.toList))) H
def rGt2 : R2 := fun x y H Q => rI0 (fun i j => .bl (decide (j < i))) x y H Q ∨ ∃ i j, x = .str i ∧ y = .str j ∧ Q (.bl (decide (j.cps.toList < i.cps.toList))) H
theorem op_lt2 {X : Cx} : OpR X (compareOp .Lt) rLt2 := op_lt.or op_lt_str
theorem op_gt2 {X : Cx} : OpR X (compareOp .Gt) rGt2 := op_gt.or op_gt_str
theorem o_lt : OpD K ltD rLt2 := by
  intro W σ F H d e v u Q s i j q
  cases i <;> cases j <;> first
    | exact .inl ⟨_, _, rfl, rfl, after.now q s (.bl _)⟩
    | exact .inr ⟨_, _, rfl, rfl, after.now q s (.bl _)⟩
    | exact q.elim
theorem o_gt : OpD K gtD rGt2 := by
  intro W σ F H d e v u Q s i j q
  cases i <;> cases j <;> first
    | exact .inl ⟨_, _, rfl, rfl, after.now q s (.bl _)⟩
    | exact .inr ⟨_, _, rfl, rfl, after.now q s (.bl _)⟩
    | exact q.elim
theorem o_le : OpD K leD (rI0 fun i j => .bl (decide (i ≤ j))) := o_i fun _ _ _ => .bl _
theorem o_ge : OpD K geD (rI0 fun i j => .bl (decide (j ≤ i))) := o_i fun _ _ _ => .bl _
theorem nx_lt (d e : D) : ∃ k, ltD d e = .ok (.bl k) ∨ ltD d e = .st := by
  cases d <;> cases e <;> first | exact ⟨_, .inl rfl⟩ | exact ⟨true, .inr rfl⟩
theorem nx_le (d e : D) : ∃ k, leD d e = .ok (.bl k) ∨ leD d e = .st := by
  cases d <;> cases e <;> first | exact ⟨_, .inl rfl⟩ | exact ⟨true, .inr rfl⟩
theorem nx_gt (d e : D) : ∃ k, gtD d e = .ok (.bl k) ∨ gtD d e = .st := by
  cases d <;> cases e <;> first | exact ⟨_, .inl rfl⟩ | exact ⟨true, .inr rfl⟩
theorem nx_ge (d e : D) : ∃ k, geD d e = .ok (.bl k) ∨ geD d e = .st := by
  cases d <;> cases e <;> first | exact ⟨_, .inl rfl⟩ | exact ⟨true, .inr rfl⟩
/-! ### is None -/
def isND : D → D → R D
  | .non, .non => .ok (.bl true)
  | _, .non => .ok (.bl false)
  | _, _ => .st
def notND : D → D → R D
  | .non, .non => .ok (.bl false)
  | _, .non => .ok (.bl true)
  | _, _ => .st
theorem o_isN : OpD K isND (fun x y H Q => y = .non ∧ Q (.bl (decide (x = .non))) H) := by
  intro W σ F H d e v u Q s i j q
  cases j <;> cases i <;> first
    | exact ⟨rfl, after.now q s (.bl _)⟩
    | exact q.elim
theorem o_notN : OpD K notND (fun x y H Q => y = .non ∧ Q (.bl (!decide (x = .non))) H) := by
  intro W σ F H d e v u Q s i j q
  cases j <;> cases i <;> first
    | exact ⟨rfl, after.now q s (.bl _)⟩
    | exact q.elim
/-! ### in -/
def hasSub (j i : Str) : Bool := !(Builtin.Str.occurrences j i 0 j.length 1).isEmpty
theorem hasSub_one (j : Str) (c : Nat) : hasSub j ⟨#[c]⟩ = decide (c ∈ j.cps.toList) := PySem.StrLaws.found_one j c
def flD : D → Bool
  | .non => true
  | .bl _ => true
  | .int _ => true
  | .str _ => true
  | _ => false
def inD : D → D → R Bool
  | .str a, .str b => .ok (hasSub b a)
  | d, .list ds => if (flD d && ds.all flD) = true then .ok (ds.any fun z => eqvD z d) else if (D.sh d && D.sh (.list ds)) = true then .ok (ds.any fun z => eqvD z d) else .st
  | d, .tup ds => if (flD d && ds.all flD) = true then .ok (ds.any fun z => eqvD z d) else .st
  | _, _ => .st
def inDD (d e : D) : R D := (inD d e).bind fun b => .ok (.bl b)
def notInDD (d e : D) : R D := (inD d e).bind fun b => .ok (.bl (!b))
theorem fl_of {F : Hp} {v : V} {d : D} (i : Is K F v d) (h : flD d = true) : flatV v = true := by
  cases i <;> first | rfl | exact absurd h (by intro z; cases z)
theorem fl_all {F : Hp} {xs : List V} {ds : List D} (i : IsL K F xs ds) (h : ds.all flD = true) : xs.all flatV = true := by
  rw [List.all_eq_true] at h ⊢
  intro x hx
  obtain ⟨k, hk⟩ := List.getElem?_of_mem hx
  obtain ⟨d, e, z⟩ := i.atV hk
  exact fl_of z (h d (List.mem_of_getElem? e))
theorem eqV_of {F : Hp} {v u : V} {d e : D} (i : Is K F v d) (j : Is K F u e) (h : flD d = true) (h' : flD e = true) : eqV v u = eqvD d e := by
  cases i <;> cases j <;> first
    | rfl
    | exact absurd h (by intro z; cases z)
    | exact absurd h' (by intro z; cases z)
theorem inV_of {F : Hp} {v : V} {d : D} (i : Is K F v d) (hd : flD d = true) : ∀ {xs : List V} {ds : List D}, IsL K F xs ds → ds.all flD = true → inV v xs = ds.any fun z => eqvD z d
  | xs, [], l, _ => by rw [l.unnil]; rfl
  | xs, e :: ds, l, f => by
    obtain ⟨x, xr, rfl, h, t⟩ := l.uncons
    rw [List.all_cons, Bool.and_eq_true] at f
    have ih := inV_of i hd t f.2
    show (eqV x v || inV v xr) = (eqvD e d || ds.any fun z => eqvD z d)
    rw [ih, eqV_of h i f.1 hd]
theorem any_py : ∀ (ds : List D) (d : D), ((D.pyAll ds).any fun z => PyData.eqv z d.py) = ds.any fun z => eqvD z d
  | [], _ => rfl
  | e :: ds, d => by
    show (PyData.eqv e.py d.py || _) = (eqvD e d || _)
    rw [any_py ds d]
    rfl
def rIn2 (K : PySem.W.Frag) : R2 := fun x y H Q => (∃ i j, x = .str i ∧ y = .str j ∧ Q (.bl (!(Builtin.Str.occurrences j i 0 j.length 1).isEmpty)) H) ∨ (rIn K false x y H Q ∨ rInD K x y H Q)
def rNotIn2 (K : PySem.W.Frag) : R2 := fun x y H Q => (∃ i j, x = .str i ∧ y = .str j ∧ Q (.bl (!(!(Builtin.Str.occurrences j i 0 j.length 1).isEmpty))) H) ∨ (rIn K true x y H Q ∨ rNotInD K x y H Q)
theorem op_in2 {X : Cx} (hu : X.A.units + 65 < cLine) : OpR X (compareOp .In) (rIn2 X.K) := op_in_str.or (op_in_seq.or (op_inD hu))
theorem op_notIn2 {X : Cx} (hu : X.A.units + 65 < cLine) : OpR X (compareOp .NotIn) (rNotIn2 X.K) := op_notIn_str.or (op_notIn_seq.or (op_notInD hu))
theorem in_cases {F H : Hp} {v u : V} {d e : D} {b : Bool} (s : Same F H) (i : Is K F v d) (j : Is K F u e) (h : inD d e = .ok b) :
    (∃ x y, v = .str x ∧ u = .str y ∧ (!(Builtin.Str.occurrences y x 0 y.length 1).isEmpty) = b) ∨ (∃ p xs, u = .ref p ∧ (SqL K H p xs ∨ SqT K H p xs) ∧ flatV v = true ∧ xs.all flatV = true ∧ inV v xs = b) ∨
      ∃ a c, Dp K H v a ∧ Dp K H u (.list c) ∧ SeqAt.shaped a = true ∧ SeqAt.shaped (.list c) = true ∧ (c.any fun z => PyData.eqv z a) = b := by
  cases e with
  | str y =>
    cases d with
    | str x =>
      cases i
      cases j
      injection h with h
      exact .inl ⟨x, y, rfl, rfl, h⟩
    | _ => cases h
  | list ds =>
    obtain ⟨p, xs, rfl, hp, l⟩ := j.list_inv
    have h' : (if (flD d && ds.all flD) = true then R.ok (ds.any fun z => eqvD z d) else if (D.sh d && D.sh (.list ds)) = true then .ok (ds.any fun z => eqvD z d) else .st) = .ok b := by
      rw [← h]
      cases d <;> rfl
    by_cases h1 : (flD d && ds.all flD) = true
    · rw [if_pos h1] at h'
      rw [Bool.and_eq_true] at h1
      injection h' with h'
      exact .inr (.inl ⟨p, xs, rfl, .inl (s.seq hp), fl_of i h1.1, fl_all l h1.2, (inV_of i h1.1 l h1.2).trans h'⟩)
    · rw [if_neg h1] at h'
      by_cases h2 : (D.sh d && D.sh (.list ds)) = true
      · rw [if_pos h2] at h'
        rw [Bool.and_eq_true] at h2
        injection h' with h'
        obtain ⟨a1, a2⟩ := dp_mono s i h2.1
        obtain ⟨b1, b2⟩ := dp_mono s (is_list hp l) h2.2
        exact .inr (.inr ⟨d.py, D.pyAll ds, a1, b1, a2, b2, (any_py ds d).trans h'⟩)
      · rw [if_neg h2] at h'
        cases h'
  | tup ds =>
    obtain ⟨p, xs, rfl, hp, l⟩ := j.tup_inv
    have h' : (if (flD d && ds.all flD) = true then R.ok (ds.any fun z => eqvD z d) else .st) = .ok b := by
      rw [← h]
      cases d <;> rfl
    by_cases h1 : (flD d && ds.all flD) = true
    · rw [if_pos h1] at h'
      rw [Bool.and_eq_true] at h1
      injection h' with h'
      exact .inr (.inl ⟨p, xs, rfl, .inr (sameT s hp), fl_of i h1.1, fl_all l h1.2, (inV_of i h1.1 l h1.2).trans h'⟩)
    · rw [if_neg h1] at h'
      cases h'
  | _ => cases d <;> cases h
theorem inD_nx (d e : D) : (∃ b, inD d e = .ok b) ∨ inD d e = .st := by
  cases h : inD d e with
  | ok b => exact .inl ⟨b, rfl⟩
  | st => exact .inr rfl
  | ex x =>
    exfalso
    unfold inD at h
    repeat' (first | split at h | cases h)
theorem o_in : OpD K inDD (rIn2 K) := by
  intro W σ F H d e v u Q s i j q
  unfold inDD at q
  rcases inD_nx d e with ⟨b, z⟩ | z
  · rw [z] at q
    have q' := after.now q s (.bl b)
    rcases in_cases s i j z with ⟨x, y, rfl, rfl, h⟩ | ⟨p, xs, rfl, h1, h2, h3, h4⟩ | ⟨a, c, h1, h2, h3, h4, h5⟩
    · exact .inl ⟨x, y, rfl, rfl, by rw [h]; exact q'⟩
    · exact .inr (.inl ⟨p, xs, rfl, h1, h2, h3, by rw [h4]; exact q'⟩)
    · exact .inr (.inr ⟨a, c, h1, h2, h3, h4, by rw [h5]; exact q'⟩)
  · rw [z] at q
    exact q.elim
theorem o_notIn : OpD K notInDD (rNotIn2 K) := by
  intro W σ F H d e v u Q s i j q
  unfold notInDD at q
  rcases inD_nx d e with ⟨b, z⟩ | z
  · rw [z] at q
    have q' := after.now q s (.bl (!b))
    rcases in_cases s i j z with ⟨x, y, rfl, rfl, h⟩ | ⟨p, xs, rfl, h1, h2, h3, h4⟩ | ⟨a, c, h1, h2, h3, h4, h5⟩
    · exact .inl ⟨x, y, rfl, rfl, by rw [h]; exact q'⟩
    · exact .inr (.inl ⟨p, xs, rfl, h1, h2, h3, by rw [h4]; exact q'⟩)
    · exact .inr (.inr ⟨a, c, h1, h2, h3, h4, by rw [h5]; exact q'⟩)
  · rw [z] at q
    exact q.elim

/-! ### built-ins -/
def lenD : List D → R D
  | [.str s] => if s.length ≤ sizeLine then .ok (.int s.length) else .st
  | [.list ds] => .ok (.int ds.length)
  | [.tup ds] => .ok (.int ds.length)
  | _ => .st
theorem one_of {F : Hp} {vs : List V} {d : D} (l : IsL K F vs [d]) : ∃ v, vs = [v] ∧ Is K F v d := by
  obtain ⟨v, vr, rfl, h, t⟩ := l.uncons
  rw [t.unnil]
  exact ⟨v, rfl, h⟩
theorem two_of {F : Hp} {vs : List V} {d e : D} (l : IsL K F vs [d, e]) : ∃ v u, vs = [v, u] ∧ Is K F v d ∧ Is K F u e := by
  obtain ⟨v, vr, rfl, h, t⟩ := l.uncons
  obtain ⟨u, rfl, h'⟩ := one_of t
  exact ⟨v, u, rfl, h, h'⟩
theorem c_len : CallD K lenD (fun xs H Q => ∃ x n, xs = [x] ∧ LenV K x H n ∧ Q (.int n) H) := by
  intro W σ F H ds vs Q s l q
  match ds, l, q with
  | [.str z], l, q =>
    obtain ⟨v, rfl, i⟩ := one_of l
    cases i
    have q' : after K W σ F H (if z.length ≤ sizeLine then .ok (.int z.length) else .st) Q := q
    by_cases h : z.length ≤ sizeLine
    · rw [if_pos h] at q'
      exact ⟨_, _, rfl, ⟨h, rfl⟩, after.now q' s (.int _)⟩
    · rw [if_neg h] at q'
      exact q'.elim
  | [.list es], l, q =>
    obtain ⟨v, rfl, i⟩ := one_of l
    obtain ⟨a, xs, rfl, h, t⟩ := i.list_inv
    exact ⟨_, _, rfl, .inl ⟨xs, s.seq h, t.1.symm⟩, after.now q s (.int _)⟩
  | [.tup es], l, q =>
    obtain ⟨v, rfl, i⟩ := one_of l
    obtain ⟨a, xs, rfl, h, t⟩ := i.tup_inv
    exact ⟨_, _, rfl, .inr ⟨xs, sameT s h, t.1.symm⟩, after.now q s (.int _)⟩
def ordD : List D → R D
  | [.str s] => if s.length = 1 then .ok (.int (s.cps.getD 0 0 : Nat)) else .st
  | _ => .st
theorem c_ord : CallD K ordD (fun xs H Q => ∃ x, xs = [.str x] ∧ x.length = 1 ∧ Q (.int (x.cps.getD 0 0 : Nat)) H) := by
  intro W σ F H ds vs Q s l q
  match ds, l, q with
  | [.str z], l, q =>
    obtain ⟨v, rfl, i⟩ := one_of l
    cases i
    have q' : after K W σ F H (if z.length = 1 then .ok (.int (z.cps.getD 0 0 : Nat)) else .st) Q := q
    by_cases h : z.length = 1
    · rw [if_pos h] at q'
      exact ⟨_, rfl, h, after.now q' s (.int _)⟩
    · rw [if_neg h] at q'
      exact q'.elim
def intD : List D → R D
  | [.int i] => .ok (.int i)
  | [.bl b] => .ok (.int (if b then 1 else 0))
  | _ => .st
theorem c_int : CallD K intD (fun xs H Q => (∃ i, xs = [.int i] ∧ Q (.int i) H) ∨ ∃ k, xs = [.bl k] ∧ Q (.int (if k then 1 else 0)) H) := by
  intro W σ F H ds vs Q s l q
  match ds, l, q with
  | [.int z], l, q =>
    obtain ⟨v, rfl, i⟩ := one_of l
    cases i
    exact .inl ⟨_, rfl, after.now q s (.int _)⟩
  | [.bl z], l, q =>
    obtain ⟨v, rfl, i⟩ := one_of l
    cases i
    exact .inr ⟨_, rfl, after.now q s (.int _)⟩
def strD : List D → R D
  | [.int i] => if i.natAbs.log2 < 1920 then .ok (.str (toString i)) else .st
  | _ => .st
theorem c_str : CallD K strD (fun xs H Q => ∃ i, xs = [.int i] ∧ i.natAbs.log2 < 1920 ∧ Q (.str (toString i)) H) := by
  intro W σ F H ds vs Q s l q
  match ds, l, q with
  | [.int z], l, q =>
    obtain ⟨v, rfl, i⟩ := one_of l
    cases i
    have q' : after K W σ F H (if z.natAbs.log2 < 1920 then .ok (.str (toString z)) else .st) Q := q
    by_cases h : z.natAbs.log2 < 1920
    · rw [if_pos h] at q'
      exact ⟨_, rfl, h, after.now q' s (.str _)⟩
    · rw [if_neg h] at q'
      exact q'.elim
/-- isinstance(x, T), T a built-in type -/
def tyD : D → String
  | .non => "NoneType"
  | .bl _ => "bool"
  | .int _ => "int"
  | .str _ => "str"
  | .list _ => "list"
  | .tup _ => "tuple"
  | .dict _ => "dict"
  | .dictT _ => "dict"
  | .obj _ _ => ""
  | .loc _ => ""
  | .adr _ => ""
def subTy : String → String → Option Bool
  | "bool", "int" => some true
  | "NoneType", "int" => some false | "int", "int" => some true | "str", "int" => some false | "list", "int" => some false | "tuple", "int" => some false | "dict", "int" => some false
  | "NoneType", "bool" => some false | "bool", "bool" => some true | "int", "bool" => some false | "str", "bool" => some false | "list", "bool" => some false | "tuple", "bool" => some false | "dict", "bool" => some false
  | "NoneType", "str" => some false | "bool", "str" => some false | "int", "str" => some false | "str", "str" => some true | "list", "str" => some false | "tuple", "str" => some false | "dict", "str" => some false
  | "NoneType", "list" => some false | "bool", "list" => some false | "int", "list" => some false | "str", "list" => some false | "list", "list" => some true | "tuple", "list" => some false | "dict", "list" => some false
  | "NoneType", "tuple" => some false | "bool", "tuple" => some false | "int", "tuple" => some false | "str", "tuple" => some false | "list", "tuple" => some false | "tuple", "tuple" => some true | "dict", "tuple" => some false
  | "NoneType", "dict" => some false | "bool", "dict" => some false | "int", "dict" => some false | "str", "dict" => some false | "list", "dict" => some false | "tuple", "dict" => some false | "dict", "dict" => some true
  | _, _ => none
theorem subTy_kit {a b : String} {r : Bool} (h : subTy a b = some r) : kitB a b = some r := by
  unfold subTy at h
  split at h <;> first
    | (injection h with h; subst h; decide +kernel)
    | cases h
theorem tyx_of {F H : Hp} {v : V} {d : D} (s : Same F H) (i : Is K F v d) (h : ∀ c fs, d ≠ .obj c fs) (h2 : ∀ k, d ≠ .adr k) : TyX K H v (.type (tyD d)) := by
  cases i with
  | non => exact .base .non
  | bl b => exact .base (.bl b)
  | int b => exact .base (.int b)
  | str b => exact .base (.str b)
  | list hl _ _ =>
    rcases hl with (hl | ⟨o, hl⟩) | ⟨o, its, n, hk, hc, _⟩
    · exact .base (.lst (s _ _ hl))
    · exact .base (.frz (s _ _ hl))
    · exact .kList hk hc
  | tup hl _ _ =>
    rcases hl with (hl | ⟨o, hl⟩) | ⟨o, its, n, hk, hc, _⟩
    · exact .base (.tup (s _ _ hl))
    · exact .fTuple (s _ _ hl)
    · exact .kTuple hk hc
  | dict hl _ _ _ =>
    rcases hl with hl | ⟨o, hl⟩
    · exact .base (.dK (s _ _ hl))
    · exact .fDict (s _ _ hl)
  | dictT hl _ _ _ => exact .base (.dT (s _ _ hl))
  | obj _ _ _ _ => exact absurd rfl (h _ _)
  | adr _ => exact absurd rfl (h2 _)
def isiD (n : String) (d : D) : R D := match subTy (tyD d) n with
  | some b => .ok (.bl b)
  | none => .st
end
section
variable {X : Cx} {F0 : Bs} {H0 : Hp} {m : List Bool} {W : WX} {pos : Pos} {a b e : Expr} {es : List Expr} {ga gb g : Rho → R D} {t : Rho → R (List D)}
theorem d_isinst {y : Str} {p p2 : Pos} {n : String} (hm : X.mg "isinstance" = none) (hy : X.mg y = none) (ha : DE X F0 H0 m W e g) (hg : Gl X "isinstance" := by rfl) (hg2 : Gl X y := by rfl) (hv : bootBuiltins y = some (.type n) := by decide +kernel)
    (hn : y ≠ "__name__" := by decide) (hd : (y == ("__debug__" : Str)) = false := by decide)
    (hs : starEach [e, .Name y p2] X.env = (false, eval e X.env) :: starEach [.Name y p2] X.env := by rfl) (hs2 : starEach [.Name y p2] X.env = (false, eval (.Name y p2) X.env) :: starEach [] X.env := by rfl)
    (hpl : (backTo pos (starEach [.Name y p2] X.env)).any (·.1) = false := by rfl) : DE X F0 H0 m W (.Call (.Name "isinstance" p) [e, .Name y p2] [] pos) (g1 (isiD n) g) := by
  refine pe_imp (pe_callB call_isi hg hm (by decide +kernel) (pa_cons ha (pa_cons (pe_bltn (v := .ty n) hg2 hy hv rfl hn hd) pa_nil hs2) hs) (by decide) (by decide) hs hpl) fun σ H Q ⟨ρ, F, r, h⟩ => ?_
  refine sem_bind (k := isiD n) r h fun d v F1 H1 _ i1 r1 h1 => ?_
  unfold isiD at h1
  cases z : subTy (tyD d) n with
  | none => rw [z] at h1; exact h1.elim
  | some b =>
    rw [z] at h1
    refine ⟨v, .ty n, .type (tyD d), .type n, b, rfl, .ty n, tyx_of r1.fh i1 (fun c fs q => ?_) (fun c q => ?_), kit_ty (subTy_kit z), after.now h1 r1.fh (.bl b)⟩
    all_goals
      subst q
      have z' : subTy "" n = some b := z
      unfold subTy at z'
      split at z' <;> first | (simp_all; done) | cases z'

/-! ### subscripts -/
def ixD : D → D → R D
  | .list ds, .int i => match atI ds i with
    | some d => .ok d
    | none => .st
  | .tup ds, .int i => match atI ds i with
    | some d => .ok d
    | none => .st
  | .str s, .int i => if s.length ≤ sizeLine then (match atI s.cps.toList i with
    | some c => .ok (.str ⟨#[c]⟩)
    | none => .st) else .st
  | _, _ => .st
theorem atI_is {K : PySem.W.Frag} {F : Hp} {xs : List V} {ds : List D} (l : IsL K F xs ds) {i : Int} {d : D} (h : atI ds i = some d) : ∃ v, atI xs i = some v ∧ Is K F v d := by
  unfold atI at h ⊢
  rw [l.1]
  cases z : ixN ds.length i with
  | none => rw [z] at h; cases h
  | some j =>
    rw [z] at h
    exact l.at h
theorem o_ix {K : PySem.W.Frag} : OpD K ixD (rIx K) := by
  intro W σ F H d e v u Q s i j q
  cases d with
  | list ds =>
    obtain ⟨p, xs, rfl, hp, l⟩ := i.list_inv
    cases j with
    | int k =>
      have q' : after K W σ F H (match atI ds k with | some d => .ok d | none => .st) Q := q
      cases z : atI ds k with
      | none => rw [z] at q'; exact q'.elim
      | some d =>
        rw [z] at q'
        obtain ⟨w', e1, i1⟩ := atI_is l z
        exact .inl ⟨p, xs, k, w', rfl, rfl, s.seq hp, e1, after.now q' s i1⟩
    | _ => exact q.elim
  | tup ds =>
    obtain ⟨p, xs, rfl, hp, l⟩ := i.tup_inv
    cases j with
    | int k =>
      have q' : after K W σ F H (match atI ds k with | some d => .ok d | none => .st) Q := q
      cases z : atI ds k with
      | none => rw [z] at q'; exact q'.elim
      | some d =>
        rw [z] at q'
        obtain ⟨w', e1, i1⟩ := atI_is l z
        exact .inr (.inl ⟨p, xs, k, w', rfl, rfl, sameT s hp, e1, after.now q' s i1⟩)
    | _ => exact q.elim
  | str x =>
    cases i
    cases j with
    | int k =>
      have q' : after K W σ F H (if x.length ≤ sizeLine then (match atI x.cps.toList k with | some c => .ok (.str ⟨#[c]⟩) | none => .st) else .st) Q := q
      by_cases hx : x.length ≤ sizeLine
      · rw [if_pos hx] at q'
        cases z : atI x.cps.toList k with
        | none => rw [z] at q'; exact q'.elim
        | some c =>
          rw [z] at q'
          exact .inr (.inr ⟨x, k, c, rfl, rfl, hx, z, after.now q' s (.str _)⟩)
      · rw [if_neg hx] at q'
        exact q'.elim
    | _ => exact q.elim
  | _ => exact q.elim
theorem d_ix (ha : DE X F0 H0 m W a ga) (hb : DE X F0 H0 m W b gb) (hs : PlainIx b := by exact fun _ _ => rfl) : DE X F0 H0 m W (.Subscript a b pos) (g2 ixD ga gb) := pe_imp (pe_ix ix_seq ha hb hs) (sem2 o_ix)

/-! ### slices -/
abbrev DO (X : Cx) (F0 : Bs) (H0 : Hp) (m : List Bool) (W : WX) (e : Option Expr) (g : Rho → R (Option Int)) : Prop := PO X e (fun σ H Q => ∃ ρ F, Rep X.K F0 H0 m ρ σ F H ∧ match g ρ with
  | .ok i => ∀ F' H', Ext F H F' H' → Q i H'
  | .ex x => ∀ cls od F' H', Ext F H F' H' → IsX X.K F' x cls od → W cls od σ H'
  | .st => False)
theorem po_imp {e : Option Expr} {t t' : TO} (h : PO X e t) (f : ∀ σ H Q, t' σ H Q → t σ H Q) : PO X e t' := ⟨fun pins s σ H Q I q => h.run pins s σ H Q I (f σ H Q q)⟩
def pNone : Rho → R (Option Int) := fun _ => .ok none
def asI : D → R (Option Int)
  | .int i => .ok (some i)
  | _ => .st
def pSome (g : Rho → R D) : Rho → R (Option Int) := fun ρ => (g ρ).bind asI
theorem do_none : DO X F0 H0 m W none pNone := po_imp po_none fun σ H Q ⟨ρ, F, r, h⟩ => h F H (.refl r.fh)
theorem do_some (ha : DE X F0 H0 m W e g) : DO X F0 H0 m W (some e) (pSome g) := by
  refine po_imp (po_some ha) fun σ H Q ⟨ρ, F, r, h⟩ => ?_
  refine ⟨ρ, F, r, ?_⟩
  unfold pSome at h
  cases z : g ρ with
  | ok d =>
    rw [z] at h
    intro v F' H' x i
    cases i with
    | int k => exact ⟨k, rfl, h F' H' x⟩
    | _ => exact h.elim
  | ex x =>
    rw [z] at h
    exact h
  | st =>
    rw [z] at h
    exact h.elim
def cutD {α : Type} (xs : List α) (lo hi : Option Int) : List α := (xs.drop (HT.sIx xs.length 0 lo)).take (HT.sIx xs.length xs.length hi - HT.sIx xs.length 0 lo)
def slD : D → Option Int → Option Int → R D
  | .list ds, lo, hi => .ok (.list (cutD ds lo hi))
  | .tup ds, lo, hi => .ok (.tup (cutD ds lo hi))
  | .str s, lo, hi => if s.length ≤ sizeLine then .ok (.str (cutS s lo hi)) else .st
  | _, _, _ => .st
def gSl (g : Rho → R D) (pl ph : Rho → R (Option Int)) : Rho → R D := fun ρ => (g ρ).bind fun d => (pl ρ).bind fun lo => (ph ρ).bind fun hi => slD d lo hi
theorem cut_is {K : PySem.W.Frag} {F : Hp} {xs : List V} {ds : List D} (l : IsL K F xs ds) (lo hi : Option Int) : IsL K F (cutV xs lo hi) (cutD ds lo hi) := by
  unfold cutV cutD
  rw [l.1]
  exact (l.drop _).take _
def rSl2 (K : PySem.W.Frag) : V → Option Int → Option Int → Hp → VK → Prop := fun x lo hi H Q => rSlL K x lo hi H Q ∨ (rSlA K x lo hi H Q ∨ rSlS x lo hi H Q)
theorem sl2 : SlR X (rSl2 X.K) := sl_list.or (sl_tupA.or sl_str)
theorem cut_all {α : Type} (xs : List α) (lo hi : Option Int) (h : HT.sIx xs.length 0 lo = 0 ∧ HT.sIx xs.length xs.length hi = xs.length) : cutD xs lo hi = xs := by
  unfold cutD
  rw [h.1, h.2]
  simp
theorem sl_run {K : PySem.W.Frag} {σ : L2.St} {F H : Hp} {d : D} {v : V} {lo hi : Option Int} {Q : VK} (s : Same F H) (i : Is K F v d) (q : after K W σ F H (slD d lo hi) Q) : rSl2 K v lo hi H Q := by
  cases d with
  | list ds =>
    obtain ⟨p, xs, rfl, hp, l⟩ := i.list_inv
    refine .inl ⟨p, xs, rfl, s.seq hp, fun r hr => ?_⟩
    have x := Ext.laid (o := .lst (cutV xs lo hi)) s hr
    exact q _ _ _ x (is_list (.of upd_same) ((cut_is l lo hi).mono x.ff))
  | tup ds =>
    obtain ⟨p, xs, rfl, hp, l⟩ := i.tup_inv
    refine .inr (.inl ⟨p, xs, rfl, sameT s hp, fun hw => ?_, fun hw r hr => ?_⟩)
    · have q' : after K W σ F H (.ok (.tup (cutD ds lo hi))) Q := q
      rw [l.1] at hw
      rw [cut_all ds lo hi hw] at q'
      exact after.now q' s i
    · have x := Ext.laid (o := .tup (cutV xs lo hi)) s hr
      exact q _ _ _ x (is_tup (.of upd_same) ((cut_is l lo hi).mono x.ff))
  | str z =>
    cases i
    have q' : after K W σ F H (if z.length ≤ sizeLine then .ok (.str (cutS z lo hi)) else .st) Q := q
    by_cases hz : z.length ≤ sizeLine
    · rw [if_pos hz] at q'
      exact .inr (.inr ⟨z, rfl, hz, after.now q' s (.str _)⟩)
    · rw [if_neg hz] at q'
      exact q'.elim
  | _ => exact q.elim
theorem d_slice {lo hi : Option Expr} {pl ph : Rho → R (Option Int)} {p2 : Pos} (ha : DE X F0 H0 m W e g) (hl : DO X F0 H0 m W lo pl) (hh : DO X F0 H0 m W hi ph) : DE X F0 H0 m W (.Subscript e (.Slice lo hi none p2) pos) (gSl g pl ph) := by
  refine pe_imp (pe_slice sl2 ha hl hh) fun σ H Q ⟨ρ, F, r, h⟩ => ?_
  refine sem_bind (k := fun d => (pl ρ).bind fun lo => (ph ρ).bind fun hi => slD d lo hi) r h fun d v F1 H1 _ i1 r1 h1 => ?_
  refine ⟨ρ, F1, r1, ?_⟩
  cases z1 : pl ρ with
  | ok l =>
    rw [z1] at h1
    intro F2 H2 x2
    refine ⟨ρ, F2, r1.ext x2, ?_⟩
    have h2 : after X.K W σ F2 H2 ((ph ρ).bind fun hi => slD d l hi) Q := after.ext h1 x2
    cases z2 : ph ρ with
    | ok u =>
      rw [z2] at h2
      intro F3 H3 x3
      exact sl_run x3.fh ((i1.mono x2.ff).mono x3.ff) (after.ext h2 x3)
    | ex x =>
      rw [z2] at h2
      exact h2
    | st =>
      rw [z2] at h2
      exact h2.elim
  | ex x =>
    rw [z1] at h1
    exact h1
  | st =>
    rw [z1] at h1
    exact h1.elim
end
end Pd

/-! Pd5: new objects, targets, what is walked, comprehensions, methods, calls -/
namespace Pd
open PySem PySem.Spec PyProof.Rows L2
/-! ### an expression that makes a new object, not yet shared -/
def afterN (K : PySem.W.Frag) (W : WX) (σ : L2.St) (F H : Hp) (r : R D) (Q : VK) : Prop := match r with
  | .ok d => ∀ p o F' H', Ext F H F' H' → H' p = some o → IsC K F' o d → F' p = none → H p = none → Q (.ref p) H'
  | .ex x => ∀ cls od F' H', Ext F H F' H' → IsX K F' x cls od → W cls od σ H'
  | .st => False
def tSemN (K : PySem.W.Frag) (F0 : Bs) (H0 : Hp) (m : List Bool) (W : WX) (g : Rho → R D) : TE := fun σ H Q => ∃ ρ F, Rep K F0 H0 m ρ σ F H ∧ afterN K W σ F H (g ρ) Q
abbrev DN (X : Cx) (F0 : Bs) (H0 : Hp) (m : List Bool) (W : WX) (e : Expr) (g : Rho → R D) : Prop := PE X e (tSemN X.K F0 H0 m W g)
/-- shared from now on -/
theorem Ext.share {F H F' H' : Hp} {p : Addr} {o : HO} (x : Ext F H F' H') (h : H' p = some o) (f : F' p = none) (n : H p = none) : Ext F H (upd F' p o) H' :=
  ⟨x.ff.trans (same_upd f), x.hh, fun b u e => by
    by_cases q : b = p
    · subst q; rw [upd_same] at e; rw [h]; exact e
    · rw [upd_ne q] at e; exact x.fh b u e, fun b hb fb => by
    have q : b ≠ p := fun z => hb (z ▸ n)
    rw [upd_ne q]; exact x.nw b hb fb⟩
theorem afterN_of {K : PySem.W.Frag} {W : WX} {σ : L2.St} {F H : Hp} {r : R D} {Q : VK} (h : after K W σ F H r Q) : afterN K W σ F H r Q := by
  cases r with
  | ok d =>
    intro p o F' H' x e c f n
    exact h (.ref p) (upd F' p o) H' (x.share e f n) (is_of_c upd_same (c.mono (same_upd f)))
  | ex x => exact h
  | st => exact h
theorem d_new {X : Cx} {F0 : Bs} {H0 : Hp} {m : List Bool} {W : WX} {e : Expr} {g : Rho → R D} (h : DN X F0 H0 m W e g) : DE X F0 H0 m W e g :=
  pe_imp h fun σ H Q ⟨ρ, F, r, q⟩ => ⟨ρ, F, r, afterN_of q⟩
section
variable {K : PySem.W.Frag} {F0 : Bs} {H0 F H F' H' : Hp} {m : List Bool} {W : WX} {ρ : Rho} {σ : L2.St} {g : Rho → R D} {Q : VK}
theorem afterN.ext {r : R D} (h : afterN K W σ F H r Q) (x : Ext F H F' H') : afterN K W σ F' H' r Q := by
  cases r with
  | ok d =>
    intro p o F2 H2 y e c f n
    refine h p o F2 H2 (x.trans y) e c f ?_
    cases q : H p with
    | none => rfl
    | some u => rw [x.hh p u q] at n; cases n
  | ex e => exact fun cls od F2 H2 y i => h cls od F2 H2 (x.trans y) i
  | st => exact h
theorem afterN.now {d : D} {p : Addr} {o : HO} (h : afterN K W σ F H (.ok d) Q) (s : Same F H) (n : H p = none) (c : IsC K F o d) : Q (.ref p) (upd H p o) :=
  h p o F (upd H p o) (.laid' s n) upd_same c (s.free n) n
theorem sem_bindN {k : D → R D} {Φ : VK} (r : Rep K F0 H0 m ρ σ F H) (h : afterN K W σ F H ((g ρ).bind k) Q)
    (f : ∀ d v F' H', Ext F H F' H' → Is K F' v d → Rep K F0 H0 m ρ σ F' H' → afterN K W σ F' H' (k d) Q → Φ v H') : tSem K F0 H0 m W g σ H Φ := by
  refine ⟨ρ, F, r, ?_⟩
  cases e : g ρ with
  | ok d =>
    rw [e] at h
    exact fun v F' H' x i => f d v F' H' x i (r.ext x) (afterN.ext h x)
  | ex x =>
    rw [e] at h
    exact h
  | st =>
    rw [e] at h
    exact h
theorem semA_bindN {ga : Rho → R (List D)} {k : List D → R D} {Φ : List V → Hp → Prop} (r : Rep K F0 H0 m ρ σ F H) (h : afterN K W σ F H ((ga ρ).bind k) Q)
    (f : ∀ ds vs F' H', Ext F H F' H' → IsL K F' vs ds → Rep K F0 H0 m ρ σ F' H' → afterN K W σ F' H' (k ds) Q → Φ vs H') : tSemA K F0 H0 m W ga σ H Φ := by
  refine ⟨ρ, F, r, ?_⟩
  cases e : ga ρ with
  | ok d =>
    rw [e] at h
    exact fun vs F' H' x i => f d vs F' H' x i (r.ext x) (afterN.ext h x)
  | ex x =>
    rw [e] at h
    exact h
  | st =>
    rw [e] at h
    exact h
end
section
variable {X : Cx} {F0 : Bs} {H0 : Hp} {m : List Bool} {W : WX} {pos : Pos} {a b e : Expr} {es : List Expr} {ga gb g : Rho → R D} {t : Rho → R (List D)}
theorem n_list (ha : DA X F0 H0 m W es t) : DN X F0 H0 m W (.List es pos) (gA lstD t) := by
  refine pe_imp (pe_lst ha) fun σ H Q ⟨ρ, F, r, h⟩ => semA_bindN (k := lstD) r h fun ds vs F1 H1 _ i1 r1 h1 => ?_
  unfold lstD at h1
  split at h1
  · rename_i hl
    exact ⟨by rw [i1.1]; exact hl, fun p hp => afterN.now h1 r1.fh hp (show IsC _ _ (.lst vs) (.list ds) from i1)⟩
  · exact h1.elim
/-- list(x), tuple(x) -/
def listD : List D → R D
  | [.list ds] => .ok (.list ds)
  | [.tup ds] => .ok (.list ds)
  | _ => .st
def tupleD : List D → R D
  | [.list ds] => .ok (.tup ds)
  | [.tup ds] => .ok (.tup ds)
  | _ => .st
theorem c_tuple {K : PySem.W.Frag} : CallD K tupleD (fun xs H Q => ∃ p ys, xs = [.ref p] ∧ ((SqL K H p ys ∧ ∀ l, H l = none → Q (.ref l) (upd H l (.tup ys))) ∨ (SqT K H p ys ∧ Q (.ref p) H))) := by
  intro W σ F H ds vs Q s l q
  match ds, l, q with
  | [.list es], l, q =>
    obtain ⟨v, rfl, i⟩ := one_of l
    obtain ⟨a, xs, rfl, h, t⟩ := i.list_inv
    refine ⟨a, xs, rfl, .inl ⟨s.seq h, fun p hp => ?_⟩⟩
    have x := Ext.laid (o := .tup xs) s hp
    exact q _ _ _ x (is_tup (.of upd_same) (t.mono x.ff))
  | [.tup es], l, q =>
    obtain ⟨v, rfl, i⟩ := one_of l
    obtain ⟨a, xs, rfl, h, t⟩ := i.tup_inv
    exact ⟨a, xs, rfl, .inr ⟨sameT s h, after.now q s i⟩⟩
def CallDN (K : PySem.W.Frag) (f : List D → R D) (r : List V → Hp → VK → Prop) : Prop :=
  ∀ (W : WX) (σ : L2.St) (F H : Hp) (ds : List D) (vs : List V) (Q : VK), Same F H → IsL K F vs ds → afterN K W σ F H (f ds) Q → r vs H Q
theorem c_list {K : PySem.W.Frag} : CallDN K listD (fun xs H Q => ∃ p ys, xs = [.ref p] ∧ (SqL K H p ys ∨ SqT K H p ys) ∧ ∀ l, H l = none → Q (.ref l) (upd H l (.lst ys))) := by
  intro W σ F H ds vs Q s l q
  match ds, l, q with
  | [.list es], l, q =>
    obtain ⟨v, rfl, i⟩ := one_of l
    obtain ⟨a, xs, rfl, h, t⟩ := i.list_inv
    exact ⟨a, xs, rfl, .inl (s.seq h), fun p hp => afterN.now q s hp (show IsC _ _ (.lst xs) (.list es) from t)⟩
  | [.tup es], l, q =>
    obtain ⟨v, rfl, i⟩ := one_of l
    obtain ⟨a, xs, rfl, h, t⟩ := i.tup_inv
    exact ⟨a, xs, rfl, .inr (sameT s h), fun p hp => afterN.now q s hp (show IsC _ _ (.lst xs) (.list es) from t)⟩
theorem n_callTy {x : Str} {p : Pos} {T : String} {f : List D → R D} {r : List V → Hp → VK → Prop} (hc : CallR X (.type T) r) (o : CallDN X.K f r) (hm : X.mg x = none) (ha : DA X F0 H0 m W (e :: es) t) (hg : Gl X x := by rfl) (hv : bootBuiltins x = some (.type T) := by decide +kernel) (hn : x ≠ "__name__" := by decide) (hdb : (x == ("__debug__" : Str)) = false := by decide)
    (he : starEach (e :: es) X.env = (false, eval e X.env) :: starEach es X.env := by rfl) (hpl : (backTo pos (starEach es X.env)).any (·.1) = false := by rfl) : DN X F0 H0 m W (.Call (.Name x p) (e :: es) [] pos) (gA f t) :=
  pe_imp (pe_callTy hc hg hm hv ha hn hdb he hpl) fun σ H Q ⟨ρ, F, r, h⟩ => semA_bindN (k := f) r h fun ds vs F1 H1 _ i1 r1 h1 => o W σ F1 H1 ds vs Q r1.fh i1 h1

/-! ### targets -/
/-- is: the slots that it stores -/
def tSemG (K : PySem.W.Frag) (F0 : Bs) (H0 : Hp) (m m' : List Bool) (is : List Nat) (τ : D → Rho → R Rho) : TG := fun v σ H Q => ∃ ρ F d, Rep K F0 H0 m ρ σ F H ∧ Is K F v d ∧ match τ d ρ with
  | .ok ρ' => ∀ σ', Rep K F0 H0 m' ρ' σ' F H → σ'.length = σ.length → (∀ j, j ∉ is → σ'[j]? = σ[j]?) → Q σ' H
  | _ => False
abbrev DG (X : Cx) (F0 : Bs) (H0 : Hp) (m m' : List Bool) (is : List Nat) (tg : Expr) (τ : D → Rho → R Rho) : Prop := PG X tg (tSemG X.K F0 H0 m m' is τ)
theorem pg_imp {tg : Expr} {t t' : TG} (h : PG X tg t) (f : ∀ v σ H Q, t' v σ H Q → t v σ H Q) : PG X tg t' := ⟨fun pins s σ H v u Q I r q => h.run pins s σ H v u Q I r (f v σ H Q q)⟩
def τName (i : Nat) : D → Rho → R Rho := fun d ρ => .ok (ρ.set i (some d))
theorem getElem?_set_cases {α : Type} {l : List α} {i j : Nat} {x y : α} (h : (l.set i x)[j]? = some y) : (j = i ∧ y = x ∧ i < l.length) ∨ (j ≠ i ∧ l[j]? = some y) := by
  by_cases hj : j = i
  · subst hj
    by_cases hl : j < l.length
    · rw [List.getElem?_set_self hl] at h
      exact .inl ⟨rfl, (Option.some.inj h).symm, hl⟩
    · rw [List.getElem?_eq_none (by simpa using hl)] at h
      cases h
  · rw [List.getElem?_set_ne (Ne.symm hj)] at h
    exact .inr ⟨hj, h⟩
theorem mset {m : List Bool} {i j : Nat} (h : (m.set i false)[j]? = some true) : j ≠ i ∧ m[j]? = some true := by
  rcases getElem?_set_cases h with ⟨_, z, _⟩ | z
  · cases z
  · exact z
theorem mset' {m : List Bool} {i j : Nat} (hj : j ≠ i) (b : Bool) : (m.set i b)[j]? = m[j]? := List.getElem?_set_ne (Ne.symm hj)
/-- a slot gets shared data -/
theorem Rep.set {K : PySem.W.Frag} {ρ : Rho} {σ : L2.St} {F H : Hp} {v : V} {d : D} (r : Rep K F0 H0 m ρ σ F H) (i : Nat) (hi : F0.ok i) (h : Is K F v d) : Rep K F0 H0 (m.set i false) (ρ.set i (some d)) (σ.set i (some v)) F H where
  len := by rw [List.length_set, List.length_set, r.len]
  fh := r.fh
  f0 := r.f0
  h0 := r.h0
  new := r.new
  val := fun j e a b => by
    rcases getElem?_set_cases a with ⟨rfl, z, hl⟩ | ⟨hj, z⟩
    · cases z
      exact ⟨v, by rw [List.getElem?_set_self (by rw [r.len]; exact hl)], h⟩
    · rw [List.getElem?_set_ne (Ne.symm hj)]
      exact r.val j e z (by rw [mset' hj] at b; exact b)
  own := fun j e a b => by
    obtain ⟨hj, b⟩ := mset b
    rw [List.getElem?_set_ne (Ne.symm hj)] at a ⊢
    exact r.own j e a b
  apart := fun j k p d1 e1 hjk a b c c' q => by
    obtain ⟨hj, a⟩ := mset a
    obtain ⟨hk, b⟩ := mset b
    rw [List.getElem?_set_ne (Ne.symm hj)] at c q
    rw [List.getElem?_set_ne (Ne.symm hk)] at c' ⊢
    exact r.apart j k p d1 e1 hjk a b c c' q
  bor := fun b hb => by
    obtain ⟨h1, h2, h3, h4⟩ := r.bor b hb
    have ne := hi b hb
    rw [mset' ne, List.getElem?_set_ne (Ne.symm ne), List.getElem?_set_ne (Ne.symm ne)]
    exact ⟨h1, h2, h3, h4⟩
theorem dg_name (i : Nat) {x : Str} (hN : X.N.Nodup) (hi : X.N[i]? = some x := by rfl) (hx : Loc X.env.scope x := by exact Or.inl rfl) (hb : F0.ok i := by exact Bs.ok_of rfl) (hf : X.fn x = true ∨ X.env.scope.names.lookup x = some .local := by first | exact .inl rfl | exact .inr rfl | assumption) :
    DG X F0 H0 m (m.set i false) [i] (.Name x pos) (τName i) := by
  refine pg_imp (pg_name hN hi hx hf) fun v σ H Q ⟨ρ, F, d, r, h, q⟩ => ?_
  exact q _ (r.set i hb h) (List.length_set ..) fun j hj => List.getElem?_set_ne (fun z => hj (by simp [z]))
/-- several -/
def tSemGs (K : PySem.W.Frag) (F0 : Bs) (H0 : Hp) (m m' : List Bool) (is : List Nat) (τ : List D → Rho → R Rho) : TGs := fun vs σ H Q => ∃ ρ F ds, Rep K F0 H0 m ρ σ F H ∧ IsL K F vs ds ∧ match τ ds ρ with
  | .ok ρ' => ∀ σ', Rep K F0 H0 m' ρ' σ' F H → σ'.length = σ.length → (∀ j, j ∉ is → σ'[j]? = σ[j]?) → Q σ' H
  | _ => False
abbrev DGs (X : Cx) (F0 : Bs) (H0 : Hp) (m m' : List Bool) (is : List Nat) (tg : List Expr) (τ : List D → Rho → R Rho) : Prop := PGs X tg (tSemGs X.K F0 H0 m m' is τ)
theorem pgs_imp {tg : List Expr} {t t' : TGs} (h : PGs X tg t) (f : ∀ v σ H Q, t' v σ H Q → t v σ H Q) : PGs X tg t' := ⟨fun pins s σ H v u Q I r q => h.run pins s σ H v u Q I r (f v σ H Q q)⟩
def τNil : List D → Rho → R Rho := fun ds ρ => match ds with
  | [] => .ok ρ
  | _ => .st
def τCons (τ : D → Rho → R Rho) (τs : List D → Rho → R Rho) : List D → Rho → R Rho := fun ds ρ => match ds with
  | d :: r => (τ d ρ).bind fun ρ1 => τs r ρ1
  | [] => .st
theorem dgs_nil : DGs X F0 H0 m m [] [] τNil := by
  refine pgs_imp pgs_nil fun vs σ H Q ⟨ρ, F, ds, r, l, q⟩ => ?_
  cases ds with
  | nil => exact ⟨l.unnil, q σ r rfl fun _ _ => rfl⟩
  | cons d ds => exact q.elim
theorem dgs_cons {m1 m2 : List Bool} {is is2 : List Nat} {τ : D → Rho → R Rho} {τs : List D → Rho → R Rho} (h1 : DG X F0 H0 m m1 is e τ) (h2 : DGs X F0 H0 m1 m2 is2 es τs)
    (hs : (assignEach (e :: es) X.env).map (·.2) = assign e X.env :: (assignEach es X.env).map (·.2) := by rfl) : DGs X F0 H0 m m2 (is ++ is2) (e :: es) (τCons τ τs) := by
  refine pgs_imp (pgs_cons h1 h2 hs) fun vs σ H Q ⟨ρ, F, ds, r, l, q⟩ => ?_
  cases ds with
  | nil => exact q.elim
  | cons d ds =>
    obtain ⟨v, vr, rfl, i, t⟩ := l.uncons
    refine ⟨v, vr, rfl, ρ, F, d, r, i, ?_⟩
    have q' : match (τ d ρ).bind fun ρ1 => τs ds ρ1 with
      | .ok ρ' => ∀ σ', Rep X.K F0 H0 m2 ρ' σ' F H → σ'.length = σ.length → (∀ j, j ∉ is ++ is2 → σ'[j]? = σ[j]?) → Q σ' H
      | _ => False := q
    cases z : τ d ρ with
    | ok ρ1 =>
      rw [z] at q'
      intro σ1 r1 l1 k1
      refine ⟨ρ1, F, ds, r1, t, ?_⟩
      have q2 : match τs ds ρ1 with
        | .ok ρ' => ∀ σ', Rep X.K F0 H0 m2 ρ' σ' F H → σ'.length = σ.length → (∀ j, j ∉ is ++ is2 → σ'[j]? = σ[j]?) → Q σ' H
        | _ => False := q'
      cases z2 : τs ds ρ1 with
      | ok ρ2 =>
        rw [z2] at q2
        intro σ2 r2 l2 k2
        exact q2 σ2 r2 (l2.trans l1) fun j hj => (k2 j fun w => hj (List.mem_append_right _ w)).trans (k1 j fun w => hj (List.mem_append_left _ w))
      | ex x => rw [z2] at q2; exact q2.elim
      | st => rw [z2] at q2; exact q2.elim
    | ex x => rw [z] at q'; exact q'.elim
    | st => rw [z] at q'; exact q'.elim
def τTup (n : Nat) (τs : List D → Rho → R Rho) : D → Rho → R Rho := fun d ρ => match d with
  | .tup ds => if ds.length = n then τs ds ρ else .st
  | _ => .st
theorem dg_tup {m' : List Bool} {is : List Nat} {τs : List D → Rho → R Rho} {k : Nat} {n : Nat} (hc : X.calm = true) (h : DGs X F0 H0 m m' is es τs)
    (hn : (assignEach es X.env).length = n := by rfl) (hst : (assignEach es X.env).findIdx? (·.1) = none := by rfl) : DG X F0 H0 m m' is (.Tuple es k pos) (τTup n τs) := by
  refine pg_imp (pg_tup hc h hn hst) fun v σ H Q ⟨ρ, F, d, r, i, q⟩ => ?_
  cases d with
  | tup ds =>
    obtain ⟨a, xs, rfl, hp, l⟩ := i.tup_inv
    have q' : match (if ds.length = n then τs ds ρ else .st) with
      | .ok ρ' => ∀ σ', Rep X.K F0 H0 m' ρ' σ' F H → σ'.length = σ.length → (∀ j, j ∉ is → σ'[j]? = σ[j]?) → Q σ' H
      | _ => False := q
    by_cases hd : ds.length = n
    · rw [if_pos hd] at q'
      exact ⟨a, xs, rfl, sameT r.fh hp, l.1.trans hd, ρ, F, ds, r, l, q'⟩
    · rw [if_neg hd] at q'
      exact q'.elim
  | _ => exact q.elim

/-! ### what is walked -/
/-- the iterator J yields these -/
def Yl (K : PySem.W.Frag) (J : It) (items : List D) (F : Hp) : Prop := ∀ (i : Nat) (F1 H1 : Hp), Same F F1 → Same F1 H1 →
  (i < items.length → J.go i H1 ∧ ∀ x H2, J.yld i H1 x H2 → ∃ F2 d, items[i]? = some d ∧ Ext F1 H1 F2 H2 ∧ Is K F2 x d) ∧ (items.length ≤ i → J.stop i H1)
def tSemI (K : PySem.W.Frag) (F0 : Bs) (H0 : Hp) (m : List Bool) (W : WX) (g : Rho → R (List D)) : TI := fun σ H Q => ∃ ρ F, Rep K F0 H0 m ρ σ F H ∧ match g ρ with
  | .ok items => ∀ J F' H', Ext F H F' H' → Yl K J items F' → Q J H'
  | .ex x => ∀ cls od F' H', Ext F H F' H' → IsX K F' x cls od → W cls od σ H'
  | .st => False
abbrev DI (X : Cx) (F0 : Bs) (H0 : Hp) (m : List Bool) (W : WX) (tg e : Expr) (g : Rho → R (List D)) : Prop := PI X tg e (tSemI X.K F0 H0 m W g)
theorem pi_imp {tg e : Expr} {t t' : TI} (h : PI X tg e t) (f : ∀ σ H Q, t' σ H Q → t σ H Q) : PI X tg e t' := ⟨fun pins s σ H Q I q => h.run pins s σ H Q I (f σ H Q q)⟩
theorem pi_or2 {tg e : Expr} {t t' : TI} (h : PI X tg e t) (h' : PI X tg e t') : PI X tg e (fun σ H Q => t σ H Q ∨ t' σ H Q) := ⟨fun pins s σ H Q I q => q.elim (h.run pins s σ H Q I) (h'.run pins s σ H Q I)⟩
theorem yl_list {K : PySem.W.Frag} {a : Addr} {xs : List V} {ds : List D} {F : Hp} (h : SqL K F a xs) (l : IsL K F xs ds) : Yl K (Itl K a) ds F := by
  intro i F1 H1 s1 s2
  have h1 : SqL K H1 a xs := (s1.trans s2).seq h
  refine ⟨fun hi => ?_, fun hi => ⟨xs, h1, by rw [l.1]; exact hi⟩⟩
  obtain ⟨x, hx, ix⟩ := l.at (i := i) (d := ds[i]) (by simp [hi])
  refine ⟨⟨xs, x, h1, hx⟩, fun y H2 ⟨e, k⟩ => ?_⟩
  subst e
  have e1 := k xs h1
  rw [hx] at e1
  cases e1
  exact ⟨F1, ds[i], by simp [hi], .refl s2, ix.mono s1⟩
theorem yl_tup {K : PySem.W.Frag} {a : Addr} {xs : List V} {ds : List D} {F : Hp} (h : SqT K F a xs) (l : IsL K F xs ds) : Yl K (Itt K a) ds F := by
  intro i F1 H1 s1 s2
  have h1 : SqT K H1 a xs := sameT (s1.trans s2) h
  refine ⟨fun hi => ?_, fun hi => ⟨xs, h1, by rw [l.1]; exact hi⟩⟩
  obtain ⟨x, hx, ix⟩ := l.at (i := i) (d := ds[i]) (by simp [hi])
  refine ⟨⟨xs, x, h1, hx⟩, fun y H2 ⟨e, k⟩ => ?_⟩
  subst e
  have e1 := k xs h1
  rw [hx] at e1
  cases e1
  exact ⟨F1, ds[i], by simp [hi], .refl s2, ix.mono s1⟩
def signs (s : Str) : List D := s.cps.toList.map fun c => .str ⟨#[c]⟩
theorem yl_str {K : PySem.W.Frag} {s : Str} {F : Hp} : Yl K (Its s) (signs s) F := by
  intro i F1 H1 s1 s2
  have hl : (signs s).length = s.cps.size := by unfold signs; rw [List.length_map, Array.length_toList]
  refine ⟨fun hi => ?_, fun hi => by rw [hl] at hi; exact hi⟩
  rw [hl] at hi
  refine ⟨hi, fun y H2 ⟨e, c, hc, k⟩ => ?_⟩
  subst e k
  exact ⟨F1, .str ⟨#[c]⟩, by unfold signs; rw [List.getElem?_map, Array.getElem?_toList, hc]; rfl, .refl s2, .str _⟩
def itemsD : D → R (List D)
  | .list ds => .ok ds
  | .tup ds => .ok ds
  | .str s => .ok (signs s)
  | _ => .st
def iSeq (g : Rho → R D) : Rho → R (List D) := fun ρ => (g ρ).bind itemsD
theorem di_seq {tg : Expr} (h : DE X F0 H0 m W e g) : DI X F0 H0 m W tg e (iSeq g) := by
  refine pi_imp (pi_or2 (pi_list h) (pi_or2 (pi_tup h) (pi_str h))) fun σ H Q ⟨ρ, F, r, q⟩ => ?_
  unfold iSeq at q
  cases z : g ρ with
  | ok d =>
    rw [z] at q
    cases d with
    | list ds =>
      refine .inl ⟨ρ, F, r, ?_⟩
      rw [z]
      intro v F' H' x i
      obtain ⟨a, xs, rfl, hp, l⟩ := i.list_inv
      exact ⟨a, rfl, ⟨xs, x.fh.seq hp⟩, q (Itl X.K a) F' H' x (yl_list hp l)⟩
    | tup ds =>
      refine .inr (.inl ⟨ρ, F, r, ?_⟩)
      rw [z]
      intro v F' H' x i
      obtain ⟨a, xs, rfl, hp, l⟩ := i.tup_inv
      exact ⟨a, rfl, ⟨xs, sameT x.fh hp⟩, q (Itt X.K a) F' H' x (yl_tup hp l)⟩
    | str s =>
      refine .inr (.inr ⟨ρ, F, r, ?_⟩)
      rw [z]
      intro v F' H' x i
      cases i
      exact ⟨s, rfl, q (Its s) F' H' x yl_str⟩
    | _ => exact q.elim
  | ex x =>
    rw [z] at q
    refine .inl ⟨ρ, F, r, ?_⟩
    rw [z]
    exact q
  | st =>
    rw [z] at q
    exact q.elim
def rngL (lo : Int) (n : Nat) : List D := (List.range n).map fun (k : Nat) => .int (lo + k)
theorem yl_range {K : PySem.W.Frag} {lo : Int} {n : Nat} {F : Hp} : Yl K (Itr lo n) (rngL lo n) F := by
  intro i F1 H1 s1 s2
  have hl : (rngL lo n).length = n := by unfold rngL; simp
  refine ⟨fun hi => ?_, fun hi => by rw [hl] at hi; exact hi⟩
  rw [hl] at hi
  refine ⟨hi, fun y H2 ⟨e, k⟩ => ?_⟩
  subst e k
  refine ⟨F1, .int (lo + i), ?_, .refl s2, .int _⟩
  unfold rngL
  rw [List.getElem?_map, List.getElem?_range hi]
  rfl
def small62 (i : Int) : Bool := decide (-(2 ^ 62) ≤ i) && decide (i < 2 ^ 62)
def afterI (K : PySem.W.Frag) (W : WX) (σ : L2.St) (F H : Hp) (r : R (List D)) (Q : It → Hp → Prop) : Prop := match r with
  | .ok items => ∀ J F' H', Ext F H F' H' → Yl K J items F' → Q J H'
  | .ex x => ∀ cls od F' H', Ext F H F' H' → IsX K F' x cls od → W cls od σ H'
  | .st => False
theorem afterI.ext {K : PySem.W.Frag} {σ : L2.St} {F H F' H' : Hp} {Q : It → Hp → Prop} {r : R (List D)} (h : afterI K W σ F H r Q) (x : Ext F H F' H') : afterI K W σ F' H' r Q := by
  cases r with
  | ok d => exact fun J F2 H2 y i => h J F2 H2 (x.trans y) i
  | ex e => exact fun cls od F2 H2 y i => h cls od F2 H2 (x.trans y) i
  | st => exact h
/-- arguments, then what is walked -/
theorem semA_I {K : PySem.W.Frag} {σ : L2.St} {F H : Hp} {ρ : Rho} {f : List D → R (List D)} {Q : It → Hp → Prop} {Φ : List V → Hp → Prop} (r : Rep K F0 H0 m ρ σ F H) (h : afterI K W σ F H ((t ρ).bind f) Q)
    (k : ∀ ds vs F' H', Ext F H F' H' → IsL K F' vs ds → Rep K F0 H0 m ρ σ F' H' → afterI K W σ F' H' (f ds) Q → Φ vs H') : tSemA K F0 H0 m W t σ H Φ := by
  refine ⟨ρ, F, r, ?_⟩
  cases e : t ρ with
  | ok d =>
    rw [e] at h
    exact fun vs F' H' x i => k d vs F' H' x i (r.ext x) (afterI.ext h x)
  | ex x =>
    rw [e] at h
    exact h
  | st =>
    rw [e] at h
    exact h
def iA (f : List D → R (List D)) (t : Rho → R (List D)) : Rho → R (List D) := fun ρ => (t ρ).bind f
def rangeD1 : List D → R (List D)
  | [.int j] => if small62 j = true then .ok (rngL 0 j.toNat) else .st
  | _ => .st
def rangeD2 : List D → R (List D)
  | [.int i, .int j] => if (small62 i && small62 j) = true then .ok (rngL i (j - i).toNat) else .st
  | _ => .st
theorem di_range1 {tg : Expr} {p : Pos} (hm : X.mg "range" = none) (ha : DA X F0 H0 m W [a] t) (hg : Gl X "range" := by rfl) (hs : starEach [a] X.env = [(false, eval a X.env)] := by rfl) : DI X F0 H0 m W tg (.Call (.Name "range" p) [a] [] pos) (iA rangeD1 t) := by
  refine pi_imp (pi_range1 hg hm ha hs) fun σ H Q ⟨ρ, F, r, q⟩ => semA_I (f := rangeD1) r q fun ds vs F1 H1 _ l r1 q1 => ?_
  match ds, l, q1 with
  | [.int j], l, q1 =>
    obtain ⟨v, rfl, i⟩ := one_of l
    cases i
    have q' : afterI X.K W σ F1 H1 (if small62 j = true then .ok (rngL 0 j.toNat) else .st) Q := q1
    by_cases hj : small62 j = true
    · rw [if_pos hj] at q'
      simp only [small62, Bool.and_eq_true, decide_eq_true_eq] at hj
      exact ⟨j, rfl, hj.1, hj.2, q' _ F1 H1 (.refl r1.fh) yl_range⟩
    · rw [if_neg hj] at q'
      exact q'.elim
theorem di_range2 {tg : Expr} {p : Pos} (hm : X.mg "range" = none) (ha : DA X F0 H0 m W [a, b] t) (hg : Gl X "range" := by rfl) (hs : starEach [a, b] X.env = [(false, eval a X.env), (false, eval b X.env)] := by rfl) (hs2 : starEach [b] X.env = [(false, eval b X.env)] := by rfl) :
    DI X F0 H0 m W tg (.Call (.Name "range" p) [a, b] [] pos) (iA rangeD2 t) := by
  refine pi_imp (pi_range2 hg hm ha hs hs2) fun σ H Q ⟨ρ, F, r, q⟩ => semA_I (f := rangeD2) r q fun ds vs F1 H1 _ l r1 q1 => ?_
  match ds, l, q1 with
  | [.int i, .int j], l, q1 =>
    obtain ⟨v, u, rfl, z1, z2⟩ := two_of l
    cases z1
    cases z2
    have q' : afterI X.K W σ F1 H1 (if (small62 i && small62 j) = true then .ok (rngL i (j - i).toNat) else .st) Q := q1
    by_cases hj : (small62 i && small62 j) = true
    · rw [if_pos hj] at q'
      simp only [small62, Bool.and_eq_true, decide_eq_true_eq] at hj
      exact ⟨i, j, rfl, ⟨hj.1.1, hj.1.2, hj.2.1, hj.2.2⟩, q' _ F1 H1 (.refl r1.fh) yl_range⟩
    · rw [if_neg hj] at q'
      exact q'.elim
/-- zip of two lists -/
def zipL : List D → List D → List D
  | a :: as, b :: bs => .tup [a, b] :: zipL as bs
  | _, _ => []
theorem zipL_at : ∀ (as bs : List D) (i : Nat), (zipL as bs)[i]? = (match as[i]?, bs[i]? with | some a, some b => some (.tup [a, b]) | _, _ => none)
  | [], bs, i => by cases bs <;> simp [zipL]
  | a :: as, [], i => by simp [zipL]
  | a :: as, b :: bs, 0 => rfl
  | a :: as, b :: bs, i + 1 => by
    show (zipL as bs)[i]? = _
    rw [zipL_at as bs i]
    rfl
theorem zipL_len : ∀ (as bs : List D), (zipL as bs).length = min as.length bs.length
  | [], bs => by cases bs <;> simp [zipL]
  | a :: as, [] => by simp [zipL]
  | a :: as, b :: bs => by
    show (zipL as bs).length + 1 = _
    rw [zipL_len as bs]
    simp only [List.length_cons]
    omega
def zipD : List D → R (List D)
  | [.list as, .list bs] => .ok (zipL as bs)
  | _ => .st
theorem sizeLine_2 : (2 : Nat) ≤ sizeLine := by rw [sizeLine_eq]; decide
theorem yl_zip {K : PySem.W.Frag} {a b : Addr} {xs ys : List V} {as bs : List D} {F : Hp} (h : SqL K F a xs) (l : IsL K F xs as) (h' : SqL K F b ys) (l' : IsL K F ys bs) : Yl K (Itz K a b) (zipL as bs) F := by
  intro i F1 H1 s1 s2
  have h1 : SqL K H1 a xs := (s1.trans s2).seq h
  have h2 : SqL K H1 b ys := (s1.trans s2).seq h'
  rw [zipL_len]
  refine ⟨fun hi => ?_, fun hi => ⟨xs, ys, h1, h2, by have := l.1; have := l'.1; omega⟩⟩
  obtain ⟨x, hx, ix⟩ := l.at (i := i) (d := as[i]'(by omega)) (List.getElem?_eq_getElem _)
  obtain ⟨y, hy, iy⟩ := l'.at (i := i) (d := bs[i]'(by omega)) (List.getElem?_eq_getElem _)
  refine ⟨⟨xs, ys, x, y, h1, h2, hx, hy⟩, fun v H2 ⟨T, x', y', e, hT, e2, k1, k2⟩ => ?_⟩
  subst e e2
  have e3 := k1 xs h1
  rw [hx] at e3
  cases e3
  have e4 := k2 ys h2
  rw [hy] at e4
  cases e4
  have xe := Ext.laid (o := .tup [x, y]) s2 hT
  refine ⟨_, .tup [as[i]'(by omega), bs[i]'(by omega)], ?_, xe, is_tup (.of upd_same) (IsL.cons ((ix.mono s1).mono xe.ff) (IsL.cons ((iy.mono s1).mono xe.ff) .nil))⟩
  rw [zipL_at, List.getElem?_eq_getElem (by omega), List.getElem?_eq_getElem (by omega)]
theorem di_zip {p tpos : Pos} {elts : List Expr} {kk : Nat} (hm : X.mg "zip" = none) (ha : DA X F0 H0 m W [a, b] t) (hg : Gl X "zip" := by rfl)
    (hs : starEach [a, b] X.env = (false, eval a X.env) :: starEach [b] X.env := by rfl) (hpl : (backTo pos (starEach [b] X.env)).any (·.1) = false := by rfl) : DI X F0 H0 m W (.Tuple elts kk tpos) (.Call (.Name "zip" p) [a, b] [] pos) (iA zipD t) := by
  refine pi_imp (pi_zip hg hm ha hs hpl) fun σ H Q ⟨ρ, F, r, q⟩ => semA_I (f := zipD) r q fun ds vs F1 H1 _ l r1 q1 => ?_
  match ds, l, q1 with
  | [.list as, .list bs], l, q1 =>
    obtain ⟨v, u, rfl, z1, z2⟩ := two_of l
    obtain ⟨a1, xs, rfl, h1, l1⟩ := z1.list_inv
    obtain ⟨b1, ys, rfl, h2, l2⟩ := z2.list_inv
    exact ⟨a1, b1, xs, ys, rfl, r1.fh.seq h1, r1.fh.seq h2, q1 _ F1 H1 (.refl r1.fh) (yl_zip h1 l1 h2 l2)⟩
/-- enumerate of a list -/
def enumL : Nat → List D → List D
  | _, [] => []
  | k, d :: ds => .tup [.int k, d] :: enumL (k + 1) ds
theorem enumL_at : ∀ (ds : List D) (k i : Nat), (enumL k ds)[i]? = (ds[i]?).map fun d => .tup [.int ((k + i : Nat) : Int), d]
  | [], k, i => by simp [enumL]
  | d :: ds, k, 0 => rfl
  | d :: ds, k, i + 1 => by
    show (enumL (k + 1) ds)[i]? = _
    rw [enumL_at ds (k + 1) i, show k + 1 + i = k + (i + 1) by omega]
    rfl
theorem enumL_len : ∀ (ds : List D) (k : Nat), (enumL k ds).length = ds.length
  | [], k => rfl
  | d :: ds, k => by
    show (enumL (k + 1) ds).length + 1 = _
    rw [enumL_len ds (k + 1)]
    rfl
def enumD : List D → R (List D)
  | [.list ds] => .ok (enumL 0 ds)
  | _ => .st
theorem yl_enum {K : PySem.W.Frag} {a : Addr} {xs : List V} {ds : List D} {F : Hp} (h : SqL K F a xs) (l : IsL K F xs ds) : Yl K (Ite K a) (enumL 0 ds) F := by
  intro i F1 H1 s1 s2
  have h1 : SqL K H1 a xs := (s1.trans s2).seq h
  rw [enumL_len]
  refine ⟨fun hi => ?_, fun hi => ⟨xs, h1, by have := l.1; omega⟩⟩
  obtain ⟨x, hx, ix⟩ := l.at (i := i) (d := ds[i]'(by omega)) (List.getElem?_eq_getElem _)
  refine ⟨⟨xs, x, h1, hx⟩, fun v H2 y => ?_⟩
  obtain ⟨T, x', e, hT, e2, k1⟩ := y
  subst e e2
  have e3 := k1 xs h1
  rw [hx] at e3
  cases e3
  have xe := Ext.laid (o := .tup [.int (i : Nat), x]) s2 hT
  refine ⟨_, .tup [.int (i : Nat), ds[i]'(by omega)], ?_, xe, is_tup (.of upd_same) (IsL.cons (.int _) (IsL.cons ((ix.mono s1).mono xe.ff) .nil))⟩
  rw [enumL_at, List.getElem?_eq_getElem (by omega)]
  simp
theorem di_enum {p tpos : Pos} {elts : List Expr} {kk : Nat} (hm : X.mg "enumerate" = none) (ha : DA X F0 H0 m W [a] t) (hg : Gl X "enumerate" := by rfl)
    (hs : starEach [a] X.env = [(false, eval a X.env)] := by rfl) : DI X F0 H0 m W (.Tuple elts kk tpos) (.Call (.Name "enumerate" p) [a] [] pos) (iA enumD t) := by
  refine pi_imp (pi_enum hg hm ha hs) fun σ H Q ⟨ρ, F, r, q⟩ => semA_I (f := enumD) r q fun ds vs F1 H1 _ l r1 q1 => ?_
  match ds, l, q1 with
  | [.list as], l, q1 =>
    obtain ⟨v, rfl, z1⟩ := one_of l
    obtain ⟨a1, xs, rfl, h1, l1⟩ := z1.list_inv
    exact ⟨a1, xs, rfl, r1.fh.seq h1, q1 _ F1 H1 (.refl r1.fh) (yl_enum h1 l1)⟩
end
end Pd

/-! Pd6: comprehensions, methods of built-ins, calls -/
namespace Pd
open PySem PySem.Spec PyProof.Rows L2
def noX {α : Type} : R α → R α
  | .ok a => .ok a
  | _ => .st
def wipeR (ρ : Rho) : List Nat → Rho
  | [] => ρ
  | v :: vs => (wipeR ρ vs).set v none
/-- one after another: target, test, element -/
def lcR (τ : D → Rho → R Rho) (p : Rho → R Bool) (ge : Rho → R D) (ρ : Rho) : List D → R (List D)
  | [] => .ok []
  | d :: ds => (τ d ρ).bind fun ρ1 => (p ρ1).bind fun k => if k = true then (ge ρ1).bind fun y => (lcR τ p ge ρ ds).bind fun ys => .ok (y :: ys) else lcR τ p ge ρ ds
def gLc (gi : Rho → R (List D)) (vs : List Nat) (τ : D → Rho → R Rho) (p : Rho → R Bool) (ge : Rho → R D) : Rho → R D := fun ρ => (gi ρ).bind fun items =>
  if items.length ≤ sizeLine then (noX (lcR τ p ge (wipeR ρ vs) items)).bind fun ys => .ok (.list ys) else .st
def W0 : WX := fun _ _ _ _ => False
def bYes : Rho → R Bool := fun _ => .ok true
theorem Rep.wipe1 {K : PySem.W.Frag} {F0 : Bs} {H0 F H : Hp} {m : List Bool} {ρ : Rho} {σ : L2.St} (r : Rep K F0 H0 m ρ σ F H) (i : Nat) (hi : F0.ok i) : Rep K F0 H0 m (ρ.set i none) (σ.set i none) F H where
  len := by rw [List.length_set, List.length_set, r.len]
  fh := r.fh
  f0 := r.f0
  h0 := r.h0
  new := r.new
  val := fun j e a b => by
    rcases getElem?_set_cases a with ⟨_, z, _⟩ | ⟨hj, z⟩
    · cases z
    · rw [List.getElem?_set_ne (Ne.symm hj)]
      exact r.val j e z b
  own := fun j e a b => by
    rcases getElem?_set_cases a with ⟨_, z, _⟩ | ⟨hj, z⟩
    · cases z
    · rw [List.getElem?_set_ne (Ne.symm hj)]
      exact r.own j e z b
  apart := fun j k p d1 e1 hjk a b c c' q => by
    rcases getElem?_set_cases c with ⟨_, z, _⟩ | ⟨hj, z⟩
    · cases z
    · rcases getElem?_set_cases c' with ⟨_, z', _⟩ | ⟨hk, z'⟩
      · cases z'
      · rw [List.getElem?_set_ne (Ne.symm hj)] at q
        rw [List.getElem?_set_ne (Ne.symm hk)]
        exact r.apart j k p d1 e1 hjk a b z z' q
  bor := fun b hb => by
    obtain ⟨h1, h2, h3, h4⟩ := r.bor b hb
    have ne := hi b hb
    rw [List.getElem?_set_ne (Ne.symm ne), List.getElem?_set_ne (Ne.symm ne)]
    exact ⟨h1, h2, h3, h4⟩
theorem ok_all {B : Bs} {vs : List Nat} (h : (vs.all fun i => B.bor.all fun b => !(b.1 == i)) = true) : ∀ v ∈ vs, B.ok v := fun v hv => Bs.ok_of (List.all_eq_true.mp h v hv)
theorem Rep.wipe {K : PySem.W.Frag} {F0 : Bs} {H0 F H : Hp} {m : List Bool} {ρ : Rho} {σ : L2.St} (r : Rep K F0 H0 m ρ σ F H) : ∀ vs : List Nat, (∀ v ∈ vs, F0.ok v) → Rep K F0 H0 m (wipeR ρ vs) (L2.wipe σ vs) F H
  | [], _ => r
  | v :: vs, h => (r.wipe vs fun u hu => h u (by simp [hu])).wipe1 v (h v (by simp))
theorem wipe_same {σ σ2 : L2.St} (l : σ2.length = σ.length) : ∀ {vs : List Nat}, (∀ j, j ∉ vs → σ2[j]? = (L2.wipe σ vs)[j]?) → L2.wipe σ2 vs = L2.wipe σ vs := by
  intro vs h
  apply List.ext_getElem?
  intro j
  have key : ∀ (us : List Nat) (s : L2.St), j ∈ us → (L2.wipe s us)[j]? = if j < s.length then some none else none := by
    intro us s
    induction us with
    | nil => intro hj; cases hj
    | cons u us ih =>
      intro hj
      unfold L2.wipe
      by_cases e : j = u
      · subst e
        by_cases hl : j < s.length
        · rw [if_pos hl, List.getElem?_set_self (by rw [wipe_length]; exact hl)]
        · rw [if_neg hl, List.getElem?_eq_none (by rw [List.length_set, wipe_length]; omega)]
      · rw [List.getElem?_set_ne (Ne.symm e)]
        exact ih ((List.mem_cons.mp hj).resolve_left e)
  have key2 : ∀ (us : List Nat) (s : L2.St), j ∉ us → (L2.wipe s us)[j]? = s[j]? := by
    intro us s
    induction us with
    | nil => intro _; rfl
    | cons u us ih =>
      intro hj
      unfold L2.wipe
      rw [List.getElem?_set_ne (fun e => hj (by simp [e]))]
      exact ih fun z => hj (List.mem_cons_of_mem _ z)
  by_cases hj : j ∈ vs
  · rw [key vs σ2 hj, key vs σ hj, l]
  · rw [key2 vs σ2 hj, h j hj]
section
variable {X : Cx} {F0 : Bs} {H0 : Hp} {m m' : List Bool} {W : WX} {pos : Pos} {elt tg iter : Expr} {ifs : List Expr} {gi : Rho → R (List D)} {τ : D → Rho → R Rho} {p : Rho → R Bool} {ge : Rho → R D}
abbrev DTs (X : Cx) (F0 : Bs) (H0 : Hp) (m : List Bool) (W : WX) (es : List Expr) (g : Rho → R Bool) : Prop := PTs X es (tSemT X.K F0 H0 m W g)
theorem pts_imp {es : List Expr} {t t' : TT} (h : PTs X es t) (f : ∀ σ H Q, t' σ H Q → t σ H Q) : PTs X es t' := ⟨fun pins s σ H Q I q => h.run pins s σ H Q I (f σ H Q q)⟩
theorem dts_nil : DTs X F0 H0 m W [] bYes := pts_imp pts_nil fun σ H Q ⟨ρ, F, r, h⟩ => h F H (.refl r.fh)
theorem dts_one {c : Expr} (h : DT X F0 H0 m W c p) : DTs X F0 H0 m W [c] p := pts_one h
theorem lc_sem {K : PySem.W.Frag} {is vs : List Nat} (hw : ∀ v ∈ vs, F0.ok v) (hv : ∀ i ∈ is, i ∈ vs) (σ : L2.St) (H : Hp) (Q : VK) (h : tSemN K F0 H0 m W (gLc gi vs τ p ge) σ H Q) :
    tLc (tSemI K F0 H0 m W gi) (tSemG K F0 H0 m m' is τ) (tSemT K F0 H0 m' W0 p) (tSem K F0 H0 m' W0 ge) vs σ H Q := by
  obtain ⟨ρ, F, r, h⟩ := h
  unfold gLc at h
  refine ⟨ρ, F, r, ?_⟩
  cases z : gi ρ with
  | ex x =>
    rw [z] at h
    exact h
  | st =>
    rw [z] at h
    exact h.elim
  | ok items =>
    rw [z] at h
    intro J F1 H1 x1 y1 Dn hD
    have h1 : afterN K W σ F H (if items.length ≤ sizeLine then (noX (lcR τ p ge (wipeR ρ vs) items)).bind fun ys => .ok (.list ys) else .st) Q := h
    by_cases hz : items.length ≤ sizeLine
    · rw [if_pos hz] at h1
      cases e : lcR τ p ge (wipeR ρ vs) items with
      | ex x => rw [e] at h1; exact h1.elim
      | st => rw [e] at h1; exact h1.elim
      | ok ys =>
        rw [e] at h1
        have r1 := r.ext x1
        -- the invariant
        refine ⟨fun i mm Hc => ∃ Fc acc done rest, Ext F1 H1 Fc Hc ∧ Fc Dn = none ∧ Hc Dn = some (.lst acc) ∧ IsL K Fc acc done ∧ done.length ≤ i ∧ lcR τ p ge (wipeR ρ vs) (items.drop i) = .ok rest ∧ done ++ rest = ys ∧ i ≤ items.length ∧ mm = items.length - i,
          ⟨items.length, F1, [], [], ys, .laid' x1.fh hD, x1.fh.free hD, upd_same, .nil, Nat.le_refl _, e, rfl, Nat.zero_le _, rfl⟩, ?_⟩
        rintro i mm Hc ⟨Fc, acc, done, rest, xc, fD, hDc, ic, dl, ec, ey, hi, rfl⟩
        have x2 := x1.trans xc
        have yc := y1 i Fc Hc xc.ff xc.fh
        by_cases hlt : i < items.length
        · obtain ⟨go, yld⟩ := yc.1 hlt
          refine .inr ⟨go, fun Hn => ∃ Fc acc done rest, Ext F1 H1 Fc Hn ∧ Fc Dn = none ∧ Hn Dn = some (.lst acc) ∧ IsL K Fc acc done ∧ done.length ≤ i + 1 ∧ lcR τ p ge (wipeR ρ vs) (items.drop (i + 1)) = .ok rest ∧ done ++ rest = ys, fun Hn ⟨Fc, acc, done, rest, q1, q2, q3, q4, q5, q6, q7⟩ =>
            ⟨items.length - (i + 1), by omega, Fc, acc, done, rest, q1, q2, q3, q4, q5, q6, q7, hlt, rfl⟩, fun x Hy y => ?_⟩
          obtain ⟨F2, d, hd, xe, ix⟩ := yld x Hy y
          have ed : items.drop i = d :: items.drop (i + 1) := by
            rw [List.drop_eq_getElem_cons hlt]
            rw [List.getElem?_eq_getElem hlt] at hd
            rw [Option.some.inj hd]
          rw [ed] at ec
          have fD2 : F2 Dn = none := xe.nw Dn (by rw [hDc]; simp) fD
          have hD2 : Hy Dn = some (.lst acc) := xe.hh _ _ hDc
          have r2 := ((r1.ext xc).ext xe).wipe vs hw
          refine ⟨wipeR ρ vs, F2, d, r2, ix, ?_⟩
          have ec' : ((τ d (wipeR ρ vs)).bind fun ρ1 => (p ρ1).bind fun k => if k = true then (ge ρ1).bind fun y => (lcR τ p ge (wipeR ρ vs) (items.drop (i + 1))).bind fun ys => .ok (y :: ys) else lcR τ p ge (wipeR ρ vs) (items.drop (i + 1))) = .ok rest := ec
          cases e1 : τ d (wipeR ρ vs) with
          | ex x => rw [e1] at ec'; cases ec'
          | st => rw [e1] at ec'; cases ec'
          | ok ρ1 =>
            rw [e1] at ec'
            intro σ1 r3 l3 k3
            refine ⟨wipe_same (by rw [l3, wipe_length]) fun j hj => k3 j fun z => hj (hv j z), ρ1, F2, r3, ?_⟩
            have ec2 : ((p ρ1).bind fun k => if k = true then (ge ρ1).bind fun y => (lcR τ p ge (wipeR ρ vs) (items.drop (i + 1))).bind fun ys => .ok (y :: ys) else lcR τ p ge (wipeR ρ vs) (items.drop (i + 1))) = .ok rest := ec'
            cases e2 : p ρ1 with
            | ex x => rw [e2] at ec2; cases ec2
            | st => rw [e2] at ec2; cases ec2
            | ok k =>
              rw [e2] at ec2
              intro F3 H3 x3
              have x4 := (xc.trans xe).trans x3
              have fD3 : F3 Dn = none := x3.nw Dn (by rw [hD2]; simp) fD2
              have hD3 : H3 Dn = some (.lst acc) := x3.hh _ _ hD2
              cases k with
              | false =>
                refine iteF ⟨F3, acc, done, rest, x4, fD3, hD3, (ic.mono xe.ff).mono x3.ff, by omega, ec2, ey⟩
              | true =>
                refine iteT ⟨ρ1, F3, r3.ext x3, ?_⟩
                have ec3 : ((ge ρ1).bind fun y => (lcR τ p ge (wipeR ρ vs) (items.drop (i + 1))).bind fun ys => .ok (y :: ys)) = .ok rest := ec2
                cases e3 : ge ρ1 with
                | ex x => rw [e3] at ec3; cases ec3
                | st => rw [e3] at ec3; cases ec3
                | ok y =>
                  rw [e3] at ec3
                  intro v F4 H4 x5 iv
                  have fD4 : F4 Dn = none := x5.nw Dn (by rw [hD3]; simp) fD3
                  have hD4 : H4 Dn = some (.lst acc) := x5.hh _ _ hD3
                  have i4 := ((ic.mono xe.ff).mono x3.ff).mono x5.ff
                  have ec4 : ((lcR τ p ge (wipeR ρ vs) (items.drop (i + 1))).bind fun ys => R.ok (y :: ys)) = .ok rest := ec3
                  cases e4 : lcR τ p ge (wipeR ρ vs) (items.drop (i + 1)) with
                  | ex x => rw [e4] at ec4; cases ec4
                  | st => rw [e4] at ec4; cases ec4
                  | ok ys2 =>
                    rw [e4] at ec4
                    injection ec4 with ec4
                    refine ⟨acc, hD4, by have := ic.1; omega, F4, acc ++ [v], done ++ [y], ys2, ?_, fD4, upd_same, i4.snoc iv, by simp; omega, rfl, ?_⟩
                    · have x6 := x4.trans x5
                      refine ⟨x6.ff, fun b u eb => ?_, fun b u eb => ?_, x6.nw⟩
                      · rw [upd_ne (ne_of_none eb hD)]
                        exact x6.hh b u eb
                      · rw [upd_ne (ne_of_none eb fD4)]
                        exact x6.fh b u eb
                    · rw [List.append_assoc, List.singleton_append, ec4]
                      exact ey
        · have ei : i = items.length := by omega
          subst ei
          rw [List.drop_length] at ec
          have er : rest = [] := by
            have : (R.ok [] : R (List D)) = .ok rest := ec
            injection this with this
            exact this.symm
          subst er
          rw [List.append_nil] at ey
          subst ey
          refine .inl ⟨yc.2 (Nat.le_refl _), h1 Dn (.lst acc) Fc Hc x2 hDc ic fD ?_⟩
          exact x1.hh.free hD
    · rw [if_neg hz] at h1
      exact h1.elim
theorem n_lc {scope : Scope} {own : List (Str × Nat)} {is : List Nat} (hc : X.calm = true) (hN : X.N.Nodup) (hi : DI X F0 H0 m W tg iter gi) (ok : blkC X.N X.env.scope scope own = true)
    (hg : ∀ (s : Shared) (H : Hp) (C : Addr) (cl : List (Str × Addr)) (fp : List Addr), DG (X.blk s H scope (compEnvC scope cl C X.env) fp) F0 H0 m m' is tg τ)
    (ht : ∀ (s : Shared) (H : Hp) (C : Addr) (cl : List (Str × Addr)) (fp : List Addr), DTs (X.blk s H scope (compEnvC scope cl C X.env) fp) F0 H0 m' W0 ifs p)
    (he : ∀ (s : Shared) (H : Hp) (C : Addr) (cl : List (Str × Addr)) (fp : List Addr), DE (X.blk s H scope (compEnvC scope cl C X.env) fp) F0 H0 m' W0 elt ge) (hv : ∀ i ∈ is, i ∈ own.map (·.2)) (hw : ((own.map (·.2)).all fun i => F0.bor.all fun b => !(b.1 == i)) = true := by rfl) (hs : ∀ x, foldedSetIterable iter X.env x = pure x := by intro _; rfl) :
    DN X F0 H0 m W (.ListComp elt [⟨tg, iter, ifs, 0⟩] scope pos) (gLc gi (own.map (·.2)) τ p ge) :=
  pe_imp (pe_lc hc hN hi (blkOk_by ok) hg ht he hs) fun σ H Q h => lc_sem (ok_all hw) hv σ H Q h
end

/-! ### methods of built-ins -/
section
variable {X : Cx} {F0 : Bs} {H0 : Hp} {m : List Bool} {W : WX} {pos : Pos} {o e : Expr} {es : List Expr} {go g : Rho → R D} {t : Rho → R (List D)}
def tyOk (T : String) : D → Bool
  | .str _ => decide (T = "str")
  | .list _ => decide (T = "list")
  | _ => false
theorem tyOk_V {K : PySem.W.Frag} {F H : Hp} {T : String} {v : V} {d : D} (s : Same F H) (i : Is K F v d) (h : tyOk T d = true) : tyV K T v H := by
  cases i with
  | str x => exact (show T = "str" from of_decide_eq_true h)
  | list hl l e => exact .inl ⟨of_decide_eq_true h, _, s.seq hl⟩
  | _ => cases h
def MetD (K : PySem.W.Frag) (f : D → List D → R D) (r : V → List V → Hp → VK → Prop) : Prop :=
  ∀ (W : WX) (σ : L2.St) (F H : Hp) (d : D) (v : V) (ds : List D) (vs : List V) (Q : VK), Same F H → Is K F v d → IsL K F vs ds → after K W σ F H (f d ds) Q → r v vs H Q
def gMt (T : String) (f : D → List D → R D) (go : Rho → R D) (t : Rho → R (List D)) : Rho → R D := fun ρ => (go ρ).bind fun d => if tyOk T d = true then (t ρ).bind fun ds => f d ds else .st
theorem d_met {T : String} {id : String} {name : Str} {apos cpos : Pos} {f : D → List D → R D} {r : V → List V → Hp → VK → Prop} (pa : PlainAttrs T) (slot : Slot T name id) (hty : typeOf (.builtin id) = pure (.type "method_descriptor")) (hm : MtR X id r) (od : MetD X.K f r) (ho : DE X F0 H0 m W o go) (ha : DA X F0 H0 m W (e :: es) t)
    (hbase : attributeBase o name X.env (eval o X.env) = eval o X.env := by rfl)
    (hfew : ((backTo cpos (starEach (e :: es) X.env)).all (fun x => !x.1) && (backToKw cpos (keywordEach [] X.env)).all (fun x => x.1.isSome)
      && decide ((e :: es).length + ([] : List Keyword).length + (if ([] : List Keyword).isEmpty then 0 else 1) < 30)) = true := by rfl)
    (hline : (apos.endLine == cpos.line) = true := by rfl) (hs : starEach (e :: es) X.env = (false, eval e X.env) :: starEach es X.env := by rfl) (hplain : (backTo cpos (starEach es X.env)).any (·.1) = false := by rfl) :
    DE X F0 H0 m W (.Call (.Attribute o name apos) (e :: es) [] cpos) (gMt T f go t) := by
  refine pe_imp (pe_bm pa slot hty hm ho ha hbase hfew hline hs hplain) fun σ H Q ⟨ρ, F, r, h⟩ => ?_
  refine sem_bind (k := fun d => if tyOk T d = true then (t ρ).bind fun ds => f d ds else .st) r h fun d v F1 H1 _ i1 r1 h1 => ?_
  by_cases ht : tyOk T d = true
  · rw [if_pos ht] at h1
    refine ⟨tyOk_V r1.fh i1 ht, semA_bind (k := fun ds => f d ds) r1 h1 fun ds vs F2 H2 x2 i2 r2 h2 => od W σ F2 H2 d v ds vs Q r2.fh (i1.mono x2.ff) i2 h2⟩
  · rw [if_neg ht] at h1
    exact h1.elim
def strsOf : List D → Option (List Str)
  | [] => some []
  | .str s :: r => (strsOf r).map (s :: ·)
  | _ :: _ => none
theorem strs_is {K : PySem.W.Frag} {F : Hp} : ∀ {ds : List D} {vs : List V} {ys : List Str}, IsL K F vs ds → strsOf ds = some ys → vs = ys.map V.str
  | [], vs, ys, l, h => by cases h; exact l.unnil
  | d :: ds, vs, ys, l, h => by
    obtain ⟨x, xr, rfl, i, t⟩ := l.uncons
    cases d with
    | str s =>
      cases i
      have h' : (strsOf ds).map (s :: ·) = some ys := h
      cases e : strsOf ds with
      | none => rw [e] at h'; cases h'
      | some zs =>
        rw [e] at h'
        cases h'
        rw [strs_is t e]
        rfl
    | _ => cases h
def joinOk (a : Str) (ys : List Str) : Bool := decide ((ys.map (·.length)).sum + ys.length * a.length ≤ 16777216)
def joinSeq (a : Str) (ds : List D) : R D := match strsOf ds with
  | some ys => if joinOk a ys = true then .ok (.str (Txt.join a ys)) else .st
  | none => .st
def joinD : D → List D → R D
  | .str a, [.list ds] => joinSeq a ds
  | .str a, [.tup ds] => joinSeq a ds
  | _, _ => .st
theorem o_join {K : PySem.W.Frag} : MetD K joinD (fun x xs H Q => ∃ a p, ∃ ys : List Str, x = .str a ∧ xs = [.ref p] ∧ (SqL K H p (ys.map V.str) ∨ SqT K H p (ys.map V.str)) ∧ (ys.map (·.length)).sum + ys.length * a.length ≤ 16777216 ∧ Q (.str (Txt.join a ys)) H) := by
  intro W σ F H d v ds vs Q s i l q
  cases d with
  | str a =>
    cases i
    match ds, l, q with
    | [.list es], l, q =>
      obtain ⟨v, rfl, i⟩ := one_of l
      obtain ⟨p, xs, rfl, h, t⟩ := i.list_inv
      have q' : after K W σ F H (match strsOf es with | some ys => if joinOk a ys = true then .ok (.str (Txt.join a ys)) else .st | none => .st) Q := q
      cases e : strsOf es with
      | none => rw [e] at q'; exact q'.elim
      | some ys =>
        rw [e] at q'
        have q2 : after K W σ F H (if joinOk a ys = true then .ok (.str (Txt.join a ys)) else .st) Q := q'
        by_cases hz : joinOk a ys = true
        · rw [if_pos hz] at q2
          have e2 := strs_is t e
          subst e2
          exact ⟨a, p, ys, rfl, rfl, .inl (s.seq h), of_decide_eq_true hz, after.now q2 s (.str _)⟩
        · rw [if_neg hz] at q2
          exact q2.elim
    | [.tup es], l, q =>
      obtain ⟨v, rfl, i⟩ := one_of l
      obtain ⟨p, xs, rfl, h, t⟩ := i.tup_inv
      have q' : after K W σ F H (match strsOf es with | some ys => if joinOk a ys = true then .ok (.str (Txt.join a ys)) else .st | none => .st) Q := q
      cases e : strsOf es with
      | none => rw [e] at q'; exact q'.elim
      | some ys =>
        rw [e] at q'
        have q2 : after K W σ F H (if joinOk a ys = true then .ok (.str (Txt.join a ys)) else .st) Q := q'
        by_cases hz : joinOk a ys = true
        · rw [if_pos hz] at q2
          have e2 := strs_is t e
          subst e2
          exact ⟨a, p, ys, rfl, rfl, .inr (sameT s h), of_decide_eq_true hz, after.now q2 s (.str _)⟩
        · rw [if_neg hz] at q2
          exact q2.elim
  | _ => exact q.elim

/-! ### a def called -/
def spD (K : PySem.W.Frag) (G : List D → R D) : Sp := fun vs H Q E => ∃ ds F, IsL K F vs ds ∧ Same F H ∧ match G ds with
  | .ok d => ∀ v F' H', Ext F H F' H' → Is K F' v d → Q v H'
  | .ex x => ∀ cls od F' H', Ext F H F' H' → IsX K F' x cls od → E cls od H'
  | .st => False
/-- .. that hands back a new object of its own -/
def spN (K : PySem.W.Frag) (G : List D → R D) : Sp := fun vs H Q E => ∃ ds F, IsL K F vs ds ∧ Same F H ∧ match G ds with
  | .ok d => ∀ p o F' H', Ext F H F' H' → H' p = some o → IsC K F' o d → F' p = none → H p = none → Q (.ref p) H'
  | .ex x => ∀ cls od F' H', Ext F H F' H' → IsX K F' x cls od → E cls od H'
  | .st => False
theorem spN_of {K : PySem.W.Frag} {G : List D → R D} {vs : List V} {H : Hp} {Q : VK} {E : XK} (h : spD K G vs H Q E) : spN K G vs H Q E := by
  obtain ⟨ds, F, l, s, h⟩ := h
  refine ⟨ds, F, l, s, ?_⟩
  cases z : G ds with
  | ok d =>
    rw [z] at h
    exact fun p o F' H' x e c f n => h (.ref p) (upd F' p o) H' (x.share e f n) (is_of_c upd_same (c.mono (same_upd f)))
  | ex x =>
    rw [z] at h
    exact h
  | st =>
    rw [z] at h
    exact h
variable {f : Addr} {fd : FuncData} {ps : List Str} {k : Nat} {x : Str} {p : Pos} {G : List D → R D}
theorem d_call (C : FnOk X.prog X.w X.K X.mg X.base (L2.CX X.prog X.w) k f fd ps (spD X.K G)) (hr : Room k X.A) (hm : X.mg x = some (.ref f)) (hk : PySem.W.keepIn X.K (.ref f) = true) (hb : Binds X.K fd ps []) (tk : Takes X W) (ha : DA X F0 H0 m W (e :: es) t) (hg : Gl X x := by rfl)
    (hdb : (x == ("__debug__" : Str)) = false := by decide) (he : starEach (e :: es) X.env = (false, eval e X.env) :: starEach es X.env := by rfl) (hpl : (backTo pos (starEach es X.env)).any (·.1) = false := by rfl) : DE X F0 H0 m W (.Call (.Name x p) (e :: es) [] pos) (gA G t) := by
  refine pe_imp (pe_callS C hr hg hm hk hb (fun σ => passAt tk σ) ha hdb he hpl) fun σ H Q ⟨ρ, F, r, h⟩ => ?_
  refine semA_bind (k := G) r h fun ds vs F1 H1 _ i1 r1 h1 => ⟨ds, F1, i1, r1.fh, ?_⟩
  cases z : G ds with
  | ok d => rw [z] at h1; exact h1
  | ex x => rw [z] at h1; exact h1
  | st => rw [z] at h1; exact h1
theorem n_call (C : FnOk X.prog X.w X.K X.mg X.base (L2.CX X.prog X.w) k f fd ps (spN X.K G)) (hr : Room k X.A) (hm : X.mg x = some (.ref f)) (hk : PySem.W.keepIn X.K (.ref f) = true) (hb : Binds X.K fd ps []) (tk : Takes X W) (ha : DA X F0 H0 m W (e :: es) t) (hg : Gl X x := by rfl)
    (hdb : (x == ("__debug__" : Str)) = false := by decide) (he : starEach (e :: es) X.env = (false, eval e X.env) :: starEach es X.env := by rfl) (hpl : (backTo pos (starEach es X.env)).any (·.1) = false := by rfl) : DN X F0 H0 m W (.Call (.Name x p) (e :: es) [] pos) (gA G t) := by
  refine pe_imp (pe_callS C hr hg hm hk hb (fun σ => passAt tk σ) ha hdb he hpl) fun σ H Q ⟨ρ, F, r, h⟩ => ?_
  refine semA_bindN (k := G) r h fun ds vs F1 H1 _ i1 r1 h1 => ⟨ds, F1, i1, r1.fh, ?_⟩
  cases z : G ds with
  | ok d => rw [z] at h1; exact h1
  | ex x => rw [z] at h1; exact h1
  | st => rw [z] at h1; exact h1
end
end Pd

/-! Pd7: statements, defs -/
namespace Pd
open PySem PySem.Spec PyProof.Rows L2
/-- what a statement comes to; rn: a new object of the frame's own is handed back -/
inductive S where
  | nx (ρ : Rho) | rt (d : D) | rn (d : D) | rm (d : D) (ρ : Rho) | bk (ρ : Rho) | ct (ρ : Rho) | ex (x : Ex) (ρ : Rho) | st
/-- the slots that are lent -/
def bmask (B : Bs) (n : Nat) : List Bool := match B.bor with
  | [] => []
  | _ => (List.range n).map fun i => B.bor.any fun b => b.1 == i
theorem bm_of {B : Bs} {n i : Nat} (h : (bmask B n)[i]? = some true) : ∃ b ∈ B.bor, b.1 = i := by
  unfold bmask at h
  split at h
  · simp at h
  · rw [List.getElem?_map] at h
    cases e : (List.range n)[i]? with
    | none => rw [e] at h; cases h
    | some k =>
      rw [e] at h
      obtain ⟨hk, e2⟩ := List.getElem?_eq_some_iff.mp e
      have ek : i = k := by simpa using e2
      subst ek
      have h2 : (B.bor.any fun b => b.1 == i) = true := Option.some.inj h
      obtain ⟨b, hb, e3⟩ := List.any_eq_true.mp h2
      exact ⟨b, hb, by simpa using e3⟩
theorem bm_to {B : Bs} {n : Nat} {b : Nat × Addr × Option (D × HO)} (hb : b ∈ B.bor) (hn : b.1 < n) : (bmask B n)[b.1]? = some true := by
  unfold bmask
  split
  · rename_i e
    rw [e] at hb
    cases hb
  · rw [List.getElem?_map, List.getElem?_range hn]
    show some (B.bor.any fun c => c.1 == b.1) = some true
    rw [List.any_eq_true.mpr ⟨b, hb, by simp⟩]
/-- all that the frame owns, but what is lent, is shared from now on -/
theorem Rep.freeze {K : PySem.W.Frag} {F0 : Bs} {H0 F H : Hp} {m : List Bool} {ρ : Rho} {σ : L2.St} (r : Rep K F0 H0 m ρ σ F H) : ∃ F', Rep K F0 H0 (bmask F0 ρ.length) ρ σ F' H ∧ Same F F' := by
  classical
  let O : Addr → Prop := fun p => ∃ (i : Nat) (d : D), ρ[i]? = some (some d) ∧ m[i]? = some true ∧ σ[i]? = some (some (.ref p)) ∧ (bmask F0 ρ.length)[i]? ≠ some true
  let F' : Hp := fun p => if O p then H p else F p
  have sF : Same F F' := fun b u e => by
    show (if O b then H b else F b) = some u
    by_cases h : O b
    · rw [if_pos h]; exact r.fh b u e
    · rw [if_neg h]; exact e
  have bm : ∀ i, (bmask F0 ρ.length)[i]? = some true → m[i]? = some true := fun i h => by
    obtain ⟨b, hb, e⟩ := bm_of h
    rw [← e]
    exact (r.bor b hb).2.1
  refine ⟨F', ⟨r.len, fun b u e => ?_, r.f0.trans sF, r.h0, fun p h f => ?_, fun i d a nb => ?_, fun i d a b => ?_, fun i j p d e hij a b c c' => r.apart i j p d e hij (bm i a) (bm j b) c c', fun b hb => ?_⟩, sF⟩
  · have e' : (if O b then H b else F b) = some u := e
    by_cases h : O b
    · rw [if_pos h] at e'; exact e'
    · rw [if_neg h] at e'; exact r.fh b u e'
  · show (if O p then H p else F p) = none
    by_cases ho : O p
    · obtain ⟨i, d, a, b, c, _⟩ := ho
      obtain ⟨q, o, e1, e2, e3, e4, e5⟩ := r.own i d a b
      rw [c] at e1
      cases e1
      exact absurd e5 h
    · rw [if_neg ho]; exact r.new p h f
  · by_cases b : m[i]? = some true
    · obtain ⟨p, o, e1, e2, e3, e4, e5⟩ := r.own i d a b
      refine ⟨.ref p, e1, is_of_c (o := o) ?_ (e3.mono sF)⟩
      show (if O p then H p else F p) = some o
      rw [if_pos ⟨i, d, a, b, e1, nb⟩]; exact e2
    · obtain ⟨v, e1, e2⟩ := r.val i d a b
      exact ⟨v, e1, e2.mono sF⟩
  · obtain ⟨p, o, e1, e2, e3, e4, e5⟩ := r.own i d a (bm i b)
    refine ⟨p, o, e1, e2, e3.mono sF, ?_, e5⟩
    show (if O p then H p else F p) = none
    have nO : ¬ O p := fun ⟨j, d', a', b', c', nb'⟩ => by
      by_cases hij : i = j
      · subst hij; exact nb' b
      · exact r.apart i j p d d' hij (bm i b) b' a a' e1 c'
    rw [if_neg nO]
    exact e4
  · obtain ⟨h1, h2, ⟨d, h3⟩, h4⟩ := r.bor b hb
    exact ⟨h1, bm_to hb (List.getElem?_eq_some_iff.mp h3).1, ⟨d, h3⟩, h4⟩
/-- all is shared, as if a def of its own began here -/
theorem Rep.all {K : PySem.W.Frag} {F0 : Bs} {H0 F H : Hp} {m : List Bool} {ρ : Rho} {σ : L2.St} (r : Rep K F0 H0 m ρ σ F H) : ∃ F', Rep K ⟨F', []⟩ H [] ρ σ F' H ∧ Same F F' := by
  classical
  let O : Addr → Prop := fun p => ∃ (i : Nat) (d : D), ρ[i]? = some (some d) ∧ m[i]? = some true ∧ σ[i]? = some (some (.ref p))
  let F' : Hp := fun p => if O p then H p else F p
  have sF : Same F F' := fun b u e => by
    show (if O b then H b else F b) = some u
    by_cases h : O b
    · rw [if_pos h]; exact r.fh b u e
    · rw [if_neg h]; exact e
  refine ⟨F', ⟨r.len, fun b u e => ?_, .refl _, .refl _, fun p h f => f, fun i d a _ => ?_, fun i d _ b => by simp at b, fun i j p d e _ a => by simp at a, fun b hb => nomatch hb⟩, sF⟩
  · have e' : (if O b then H b else F b) = some u := e
    by_cases h : O b
    · rw [if_pos h] at e'; exact e'
    · rw [if_neg h] at e'; exact r.fh b u e'
  · by_cases b : m[i]? = some true
    · obtain ⟨p, o, e1, e2, e3, e4, e5⟩ := r.own i d a b
      refine ⟨.ref p, e1, is_of_c (o := o) ?_ (e3.mono sF)⟩
      show (if O p then H p else F p) = some o
      rw [if_pos ⟨i, d, a, b, e1⟩]; exact e2
    · obtain ⟨v, e1, e2⟩ := r.val i d a b
      exact ⟨v, e1, e2.mono sF⟩
theorem Is.monoX {K : PySem.W.Frag} {F F' : Hp} {x : Ex} {cls : Value} {od : Option Addr} (h : IsX K F x cls od) (s : Same F F') : IsX K F' x cls od :=
  ⟨h.1, fun n => let ⟨d, vs, e, a, b⟩ := h.2.1 n; ⟨d, vs, e, s _ _ a, b.mono s⟩, h.2.2⟩
/-- what is lent for reading stands as it stood -/
def BorC (B : Bs) (F H : Hp) : Prop := ∀ b ∈ B.bor, ∀ d o, b.2.2 = some (d, o) → H b.2.1 = some o ∧ F b.2.1 = none
theorem Rep.borC {K : PySem.W.Frag} {F0 : Bs} {H0 F H : Hp} {m : List Bool} {ρ : Rho} {σ : L2.St} (r : Rep K F0 H0 m ρ σ F H) : BorC F0 F H := fun b hb d o e => by
  obtain ⟨h1, h2, h3, h4⟩ := r.bor b hb
  obtain ⟨e1, e2⟩ := h4 d o e
  obtain ⟨p, o', z1, z2, z3, z4, z5⟩ := r.own b.1 d e1 h2
  rw [h1] at z1
  cases z1
  exact ⟨e2, z4⟩
def afterS (K : PySem.W.Frag) (F0 : Bs) (H0 : Hp) (m' mL : List Bool) (W : WX) (Fb : Hp) (r : S) (E : Ends) : Prop := match r with
  | .nx ρ => ∀ σ F H, Rep K F0 H0 m' ρ σ F H → Same Fb F → E.nx σ H
  | .rt d => ∀ v F H, Ext F0.F H0 F H → BorC F0 F H → Is K F v d → E.rt v H
  | .rn d => ∀ p o F H, Ext F0.F H0 F H → BorC F0 F H → H p = some o → IsC K F o d → F p = none → H0 p = none → (∀ b ∈ F0.bor, b.2.1 ≠ p) → E.rt (.ref p) H
  | .rm d ρ => ∀ v σ F H, Rep K F0 H0 (bmask F0 ρ.length) ρ σ F H → Is K F v d → E.rt v H
  | .bk ρ => ∀ σ F H, Rep K F0 H0 mL ρ σ F H → Same Fb F → E.bk σ H
  | .ct ρ => ∀ σ F H, Rep K F0 H0 mL ρ σ F H → Same Fb F → E.ct σ H
  | .ex x ρ => ∀ cls od σ F H, Rep K F0 H0 (bmask F0 ρ.length) ρ σ F H → Same Fb F → IsX K F x cls od → W cls od σ H
  | .st => False
def tSemS (K : PySem.W.Frag) (F0 : Bs) (H0 : Hp) (m m' mL : List Bool) (W : WX) (s : Rho → S) : TS := fun E σ H => ∃ ρ F, Rep K F0 H0 m ρ σ F H ∧ afterS K F0 H0 m' mL W F (s ρ) E
theorem afterS.mono {K : PySem.W.Frag} {F0 : Bs} {H0 F F2 : Hp} {m' mL : List Bool} {W : WX} {r : S} {E : Ends} (h : afterS K F0 H0 m' mL W F r E) (s : Same F F2) : afterS K F0 H0 m' mL W F2 r E := by
  cases r with
  | nx ρ => exact fun σ F' H' r x => h σ F' H' r (s.trans x)
  | bk ρ => exact fun σ F' H' r x => h σ F' H' r (s.trans x)
  | ct ρ => exact fun σ F' H' r x => h σ F' H' r (s.trans x)
  | ex x ρ => exact fun cls od σ F' H' r x => h cls od σ F' H' r (s.trans x)
  | _ => exact h
abbrev DS (X : Cx) (F0 : Bs) (H0 : Hp) (m m' mL : List Bool) (W : WX) (st : Stmt) (s : Rho → S) : Prop := PS X st (tSemS X.K F0 H0 m m' mL W s)
abbrev DSs (X : Cx) (F0 : Bs) (H0 : Hp) (m m' mL : List Bool) (W : WX) (st : List Stmt) (s : Rho → S) : Prop := PSs X st (tSemS X.K F0 H0 m m' mL W s)
/-- what is new is not what is lent -/
theorem Rep.bor_ne {K : PySem.W.Frag} {F0 : Bs} {H0 F H : Hp} {m : List Bool} {ρ : Rho} {σ : L2.St} {p : Addr} (r : Rep K F0 H0 m ρ σ F H) (n : H p = none) : ∀ b ∈ F0.bor, b.2.1 ≠ p := fun b hb z => by
  obtain ⟨h1, h2, ⟨d, h3⟩, _⟩ := r.bor b hb
  obtain ⟨q, o', z1, z2, _⟩ := r.own b.1 d h3 h2
  rw [h1] at z1
  cases z1
  rw [z, n] at z2
  cases z2
theorem Rep.ext0 {K : PySem.W.Frag} {F0 : Bs} {H0 F H : Hp} {m : List Bool} {ρ : Rho} {σ : L2.St} (r : Rep K F0 H0 m ρ σ F H) : Ext F0.F H0 F H := ⟨r.f0, r.h0, r.fh, r.new⟩
section
variable {X : Cx} {F0 : Bs} {H0 : Hp} {m m' m2 mL : List Bool} {W : WX} {pos : Pos} {e : Expr} {st : Stmt} {sts : List Stmt} {g : Rho → R D} {s u : Rho → S}
/-! ### blocks -/
def sNil : Rho → S := fun ρ => .nx ρ
def sSeq (s u : Rho → S) : Rho → S := fun ρ => match s ρ with
  | .nx ρ1 => u ρ1
  | r => r
theorem ss_nil : DSs X F0 H0 m m mL W [] sNil := pss_imp pss_nil fun E σ H ⟨ρ, F, r, h⟩ => h σ F H r (.refl F)
theorem ss_one (h : DS X F0 H0 m m' mL W st s) : DSs X F0 H0 m m' mL W [st] s := pss_one h
theorem ss_cons (h1 : DS X F0 H0 m m2 mL W st s) (h2 : DSs X F0 H0 m2 m' mL W sts u) : DSs X F0 H0 m m' mL W (st :: sts) (sSeq s u) := by
  refine pss_imp (pss_cons h1 h2) fun E σ H ⟨ρ, F, r, h⟩ => ⟨ρ, F, r, ?_⟩
  unfold sSeq at h
  cases z : s ρ with
  | nx ρ1 =>
    rw [z] at h
    exact fun σ1 F1 H1 r1 x1 => ⟨ρ1, F1, r1, h.mono x1⟩
  | _ => rw [z] at h; exact h
/-- an expression is read, then the rest -/
theorem semS {K : PySem.W.Frag} {σ : L2.St} {F H : Hp} {ρ : Rho} {k : D → S} {E : Ends} {Φ : VK} (r : Rep K F0 H0 m ρ σ F H)
    (h : afterS K F0 H0 m' mL W F (match g ρ with | .ok d => k d | .ex x => .ex x ρ | .st => .st) E)
    (f : ∀ d v F' H', Is K F' v d → Rep K F0 H0 m ρ σ F' H' → Same F F' → afterS K F0 H0 m' mL W F' (k d) E → Φ v H') : tSem K F0 H0 m W g σ H Φ := by
  refine ⟨ρ, F, r, ?_⟩
  cases z : g ρ with
  | ok d =>
    rw [z] at h
    exact fun v F' H' x i => f d v F' H' i (r.ext x) x.ff (h.mono x.ff)
  | ex x =>
    rw [z] at h
    intro cls od F' H' xe i
    obtain ⟨F2, r2, s2⟩ := (r.ext xe).freeze
    exact h cls od σ F2 H' r2 (xe.ff.trans s2) (Is.monoX i s2)
  | st =>
    rw [z] at h
    exact h.elim
theorem semST {K : PySem.W.Frag} {σ : L2.St} {F H : Hp} {ρ : Rho} {p : Rho → R Bool} {k : Bool → S} {E : Ends} {Φ : Bool → Hp → Prop} (r : Rep K F0 H0 m ρ σ F H)
    (h : afterS K F0 H0 m' mL W F (match p ρ with | .ok d => k d | .ex x => .ex x ρ | .st => .st) E)
    (f : ∀ d F' H', Rep K F0 H0 m ρ σ F' H' → Same F F' → afterS K F0 H0 m' mL W F' (k d) E → Φ d H') : tSemT K F0 H0 m W p σ H Φ := by
  refine ⟨ρ, F, r, ?_⟩
  cases z : p ρ with
  | ok d =>
    rw [z] at h
    exact fun F' H' x => f d F' H' (r.ext x) x.ff (h.mono x.ff)
  | ex x =>
    rw [z] at h
    intro cls od F' H' xe i
    obtain ⟨F2, r2, s2⟩ := (r.ext xe).freeze
    exact h cls od σ F2 H' r2 (xe.ff.trans s2) (Is.monoX i s2)
  | st =>
    rw [z] at h
    exact h.elim
/-- .. that makes a new object -/
theorem semSN {K : PySem.W.Frag} {σ : L2.St} {F H : Hp} {ρ : Rho} {k : D → S} {E : Ends} {Φ : VK} (r : Rep K F0 H0 m ρ σ F H)
    (h : afterS K F0 H0 m' mL W F (match g ρ with | .ok d => k d | .ex x => .ex x ρ | .st => .st) E)
    (f : ∀ d p o F' H', H' p = some o → IsC K F' o d → F' p = none → H p = none → Same H H' → Rep K F0 H0 m ρ σ F' H' → Same F F' → afterS K F0 H0 m' mL W F' (k d) E → Φ (.ref p) H') : tSemN K F0 H0 m W g σ H Φ := by
  refine ⟨ρ, F, r, ?_⟩
  cases z : g ρ with
  | ok d =>
    rw [z] at h
    exact fun p o F' H' x e c fn n => f d p o F' H' e c fn n x.hh (r.ext x) x.ff (h.mono x.ff)
  | ex x =>
    rw [z] at h
    intro cls od F' H' xe i
    obtain ⟨F2, r2, s2⟩ := (r.ext xe).freeze
    exact h cls od σ F2 H' r2 (xe.ff.trans s2) (Is.monoX i s2)
  | st =>
    rw [z] at h
    exact h.elim
/-! ### small statements -/
def sE (g : Rho → R D) (k : Rho → D → S) : Rho → S := fun ρ => match g ρ with
  | .ok d => k ρ d
  | .ex x => .ex x ρ
  | .st => .st
def sDrop (g : Rho → R D) : Rho → S := sE g fun ρ _ => .nx ρ
theorem s_expr (he : DE X F0 H0 m W e g) (hs : swapsWith e none pos.line X.env = pure false := by rfl) : DS X F0 H0 m m mL W (.Expr e pos) (sDrop g) :=
  ps_imp (ps_expr he hs) fun E σ H ⟨ρ, F, r, h⟩ => semS (k := fun _ => .nx ρ) r h fun d v F1 H1 i1 r1 _ h1 => h1 σ F1 H1 r1 (.refl F1)
def sRet (g : Rho → R D) : Rho → S := sE g fun _ d => .rt d
theorem s_ret (he : DE X F0 H0 m W e g) : DS X F0 H0 m m' mL W (.Return (some e) pos) (sRet g) :=
  ps_imp (ps_ret he) fun E σ H ⟨ρ, F, r, h⟩ => semS (k := fun d => .rt d) r h fun d v F1 H1 i1 r1 _ h1 => h1 v F1 H1 r1.ext0 r1.borC i1
def sRetN (g : Rho → R D) : Rho → S := sE g fun _ d => .rn d
theorem s_retN (he : DN X F0 H0 m W e g) : DS X F0 H0 m m' mL W (.Return (some e) pos) (sRetN g) :=
  ps_imp (ps_ret he) fun E σ H ⟨ρ, F, r, h⟩ => semSN (k := fun d => .rn d) r h fun d p o F1 H1 e c f n s r1 _ h1 => h1 p o F1 H1 r1.ext0 r1.borC e c f (r.h0.free n) (r.bor_ne n)
/-- return x, x the frame's own -/
def sRetO (i : Nat) : Rho → S := fun ρ => match ρ[i]? with
  | some (some d) => .rn d
  | _ => .st
theorem s_retO (i : Nat) {x : Str} {p2 : Pos} (hb : F0.ok i := by exact Bs.ok_of rfl) (hN : X.N[i]? = some x := by rfl) (hv : Vis X.env.scope x := by first | exact Or.inl rfl | exact Or.inr (Or.inl rfl) | exact Or.inr (Or.inr rfl)) (hm : m[i]? = some true := by rfl) (hd : (x == ("__debug__" : Str)) = false := by decide)
    (hcd : (x == ("__classdict__" : Str)) = false := by decide) : DS X F0 H0 m m' mL W (.Return (some (.Name x p2)) pos) (sRetO i) := by
  refine ps_imp (ps_ret (pe_var hN hv hd hcd)) fun E σ H ⟨ρ, F, r, h⟩ => ?_
  unfold sRetO at h
  split at h
  · rename_i d e
    obtain ⟨p, o, e1, e2, e3, e4, e5⟩ := r.own i d e hm
    exact ⟨.ref p, e1, h p o F H r.ext0 r.borC e2 e3 e4 e5 fun b hb' z => by
      obtain ⟨h1, h2, ⟨d', h3⟩, _⟩ := r.bor b hb'
      exact r.apart b.1 i p d' d (hb b hb') h2 hm h3 e (z ▸ h1) e1⟩
  · exact h.elim
theorem s_retNone : DS X F0 H0 m m' mL W (.Return none pos) (sRet (gC .non)) :=
  ps_imp ps_retN fun E σ H ⟨ρ, F, r, h⟩ => h .non F H r.ext0 r.borC .non
theorem s_pass : DS X F0 H0 m m mL W (.Pass pos) sNil := ps_imp ps_pass fun E σ H ⟨ρ, F, r, h⟩ => h σ F H r (.refl F)
def sBrk : Rho → S := fun ρ => .bk ρ
def sCnt : Rho → S := fun ρ => .ct ρ
theorem s_break : DS X F0 H0 m m' m W (.Break pos) sBrk := ps_imp ps_break fun E σ H ⟨ρ, F, r, h⟩ => h σ F H r (.refl F)
theorem s_continue : DS X F0 H0 m m' m W (.Continue pos) sCnt := ps_imp ps_continue fun E σ H ⟨ρ, F, r, h⟩ => h σ F H r (.refl F)
/-- x = e -/
def sSet (i : Nat) (g : Rho → R D) : Rho → S := sE g fun ρ d => .nx (ρ.set i (some d))
theorem s_set (i : Nat) {x : Str} {p2 : Pos} (hN : X.N.Nodup) (he : DE X F0 H0 m W e g) (hi : X.N[i]? = some x := by rfl) (hx : Loc X.env.scope x := by exact Or.inl rfl) (hb : F0.ok i := by exact Bs.ok_of rfl) (hs : swapsWith e (some (.Name x p2)) pos.line X.env = pure false := by rfl) (hf : X.fn x = true ∨ X.env.scope.names.lookup x = some .local := by first | exact .inl rfl | exact .inr rfl | assumption) :
    DS X F0 H0 m (m.set i false) mL W (.Assign [.Name x p2] e pos) (sSet i g) :=
  ps_imp (ps_set hN hi hx he hs hf) fun E σ H ⟨ρ, F, r, h⟩ => semS (k := fun d => .nx (ρ.set i (some d))) r h fun d v F1 H1 i1 r1 _ h1 => h1 _ F1 H1 (r1.set i hb i1) (.refl F1)
/-- a slot gets an object of the frame's own -/
theorem Rep.setN {K : PySem.W.Frag} {ρ : Rho} {σ : L2.St} {F H : Hp} {p : Addr} {o : HO} {d : D} (r : Rep K F0 H0 m ρ σ F H) (i : Nat) (hi : F0.ok i) (hm : i < m.length) (h : H p = some o) (c : IsC K F o d) (f : F p = none) (n : H0 p = none)
    (ne : ∀ (j : Nat) q e, m[j]? = some true → ρ[j]? = some (some e) → σ[j]? = some (some (.ref q)) → q ≠ p) : Rep K F0 H0 (m.set i true) (ρ.set i (some d)) (σ.set i (some (.ref p))) F H where
  len := by rw [List.length_set, List.length_set, r.len]
  fh := r.fh
  f0 := r.f0
  h0 := r.h0
  new := r.new
  val := fun j e a b => by
    rcases getElem?_set_cases a with ⟨rfl, z, hl⟩ | ⟨hj, z⟩
    · cases z
      rw [List.getElem?_set_self hm] at b
      exact absurd rfl b
    · rw [List.getElem?_set_ne (Ne.symm hj)]
      exact r.val j e z (by rw [mset' hj] at b; exact b)
  own := fun j e a b => by
    rcases getElem?_set_cases a with ⟨rfl, z, hl⟩ | ⟨hj, z⟩
    · cases z
      exact ⟨p, o, by rw [List.getElem?_set_self (by rw [r.len]; exact hl)], h, c, f, n⟩
    · rw [List.getElem?_set_ne (Ne.symm hj)]
      exact r.own j e z (by rw [mset' hj] at b; exact b)
  apart := fun j k q d1 e1 hjk a b c1 c2 e => by
    rcases getElem?_set_cases c1 with ⟨rfl, z, hl⟩ | ⟨hj, z⟩
    · rcases getElem?_set_cases c2 with ⟨rfl, z', hl'⟩ | ⟨hk, z'⟩
      · exact absurd rfl hjk
      · rw [List.getElem?_set_ne (Ne.symm hk)]
        rw [List.getElem?_set_self (by rw [r.len]; exact hl)] at e
        cases e
        intro w
        exact ne k _ e1 (by rw [mset' hk] at b; exact b) z' w rfl
    · rcases getElem?_set_cases c2 with ⟨rfl, z', hl'⟩ | ⟨hk, z'⟩
      · rw [List.getElem?_set_ne (Ne.symm hj)] at e
        rw [List.getElem?_set_self (by rw [r.len]; exact hl')]
        intro w
        cases w
        exact ne j _ d1 (by rw [mset' hj] at a; exact a) z e rfl
      · rw [List.getElem?_set_ne (Ne.symm hj)] at e
        rw [List.getElem?_set_ne (Ne.symm hk)]
        exact r.apart j k q d1 e1 hjk (by rw [mset' hj] at a; exact a) (by rw [mset' hk] at b; exact b) z z' e
  bor := fun b hb => by
    obtain ⟨h1, h2, h3, h4⟩ := r.bor b hb
    have hj := hi b hb
    rw [List.getElem?_set_ne (Ne.symm hj), List.getElem?_set_ne (Ne.symm hj), List.getElem?_set_ne (Ne.symm hj)]
    exact ⟨h1, h2, h3, h4⟩
theorem s_setN (i : Nat) {x : Str} {p2 : Pos} (hN : X.N.Nodup) (he : DN X F0 H0 m W e g) (hm : i < m.length := by decide) (hi : X.N[i]? = some x := by rfl) (hx : Loc X.env.scope x := by exact Or.inl rfl) (hb : F0.ok i := by exact Bs.ok_of rfl) (hs : swapsWith e (some (.Name x p2)) pos.line X.env = pure false := by rfl) (hf : X.fn x = true ∨ X.env.scope.names.lookup x = some .local := by first | exact .inl rfl | exact .inr rfl | assumption) :
    DS X F0 H0 m (m.set i true) mL W (.Assign [.Name x p2] e pos) (sSet i g) :=
  ps_imp (ps_set hN hi hx he hs hf) fun E σ H ⟨ρ, F, r, h⟩ => semSN (k := fun d => .nx (ρ.set i (some d))) r h fun d p o F1 H1 e c f n s r1 _ h1 => h1 _ F1 H1 (r1.setN i hb hm e c f (r.h0.free n) fun j q e' a b c' w => by
    obtain ⟨q', o', e1, e2, _⟩ := r.own j e' b a
    rw [c'] at e1
    cases e1
    rw [w, n] at e2
    cases e2) (.refl F1)
/-- one slot's object is shared from now on -/
theorem Rep.share {K : PySem.W.Frag} {ρ : Rho} {σ : L2.St} {F H : Hp} (r : Rep K F0 H0 m ρ σ F H) (i : Nat) (hi : F0.ok i) : ∃ F', Rep K F0 H0 (m.set i false) ρ σ F' H ∧ Same F F' := by
  have hbor : ∀ b ∈ F0.bor, σ[b.1]? = some (some (.ref b.2.1)) ∧ (m.set i false)[b.1]? = some true ∧ (∃ d, ρ[b.1]? = some (some d)) ∧ ∀ d o, b.2.2 = some (d, o) → ρ[b.1]? = some (some d) ∧ H b.2.1 = some o := fun b hb => by
    obtain ⟨h1, h2, h3, h4⟩ := r.bor b hb
    rw [mset' (hi b hb)]
    exact ⟨h1, h2, h3, h4⟩
  by_cases hm : m[i]? = some true
  · by_cases hd : ∃ d, ρ[i]? = some (some d)
    · obtain ⟨d, hd⟩ := hd
      obtain ⟨p, o, e1, e2, e3, e4, e5⟩ := r.own i d hd hm
      have sF : Same F (upd F p o) := same_upd e4
      refine ⟨upd F p o, ⟨r.len, fun b u e => ?_, r.f0.trans sF, r.h0, fun b h f => ?_, fun j d' a b => ?_, fun j d' a b => ?_, fun j k q d1 e1' hjk a b c c' q' => ?_, hbor⟩, sF⟩
      · by_cases q : b = p
        · subst q; rw [upd_same] at e; rw [e2]; exact e
        · rw [upd_ne q] at e; exact r.fh b u e
      · have q : b ≠ p := fun z => h (z ▸ e5)
        rw [upd_ne q]; exact r.new b h f
      · by_cases hj : j = i
        · subst hj
          rw [hd] at a
          cases a
          exact ⟨.ref p, e1, is_of_c upd_same (e3.mono sF)⟩
        · obtain ⟨v, z1, z2⟩ := r.val j d' a (by rw [mset' hj] at b; exact b)
          exact ⟨v, z1, z2.mono sF⟩
      · obtain ⟨hj, b⟩ := mset b
        obtain ⟨p', o', z1, z2, z3, z4, z5⟩ := r.own j d' a b
        have q : p' ≠ p := fun w => r.apart j i p d' d hj b hm a hd (w ▸ z1) e1
        exact ⟨p', o', z1, z2, z3.mono sF, by rw [upd_ne q]; exact z4, z5⟩
      · obtain ⟨hj, a⟩ := mset a
        obtain ⟨hk, b⟩ := mset b
        exact r.apart j k q d1 e1' hjk a b c c' q'
    · refine ⟨F, ⟨r.len, r.fh, r.f0, r.h0, r.new, fun j d' a b => ?_, fun j d' a b => ?_, fun j k q d1 e1' hjk a b c c' q' => ?_, hbor⟩, .refl F⟩
      · have hj : j ≠ i := fun z => hd ⟨d', z ▸ a⟩
        exact r.val j d' a (by rw [mset' hj] at b; exact b)
      · obtain ⟨hj, b⟩ := mset b
        exact r.own j d' a b
      · obtain ⟨hj, a⟩ := mset a
        obtain ⟨hk, b⟩ := mset b
        exact r.apart j k q d1 e1' hjk a b c c' q'
  · refine ⟨F, ⟨r.len, r.fh, r.f0, r.h0, r.new, fun j d' a b => ?_, fun j d' a b => ?_, fun j k q d1 e1' hjk a b c c' q' => ?_, hbor⟩, .refl F⟩
    · refine r.val j d' a fun z => ?_
      by_cases hj : j = i
      · subst hj; exact hm z
      · rw [mset' hj] at b; exact b z
    · obtain ⟨hj, b⟩ := mset b
      exact r.own j d' a b
    · obtain ⟨hj, a⟩ := mset a
      obtain ⟨hk, b⟩ := mset b
      exact r.apart j k q d1 e1' hjk a b c c' q'
theorem ss_share (i : Nat) (hb : F0.ok i) (h : DSs X F0 H0 (m.set i false) m' mL W sts s) : DSs X F0 H0 m m' mL W sts s := pss_imp h fun E σ H ⟨ρ, F, r, q⟩ => by
  obtain ⟨F', r', x⟩ := r.share i hb
  exact ⟨ρ, F', r', q.mono x⟩
/-! ### if, for, while -/
def sIf (p : Rho → R Bool) (s u : Rho → S) : Rho → S := fun ρ => match p ρ with
  | .ok b => if b = true then s ρ else u ρ
  | .ex x => .ex x ρ
  | .st => .st
theorem s_if {c : Expr} {a b : List Stmt} {p : Rho → R Bool} (hc : DT X F0 H0 m W c p) (ha : DSs X F0 H0 m m' mL W a s) (hb : DSs X F0 H0 m m' mL W b u) : DS X F0 H0 m m' mL W (.If c a b pos) (sIf p s u) := by
  refine ps_imp (ps_if hc ha hb) fun E σ H ⟨ρ, F, r, h⟩ => semST (k := fun b => if b = true then s ρ else u ρ) r h fun b F1 H1 r1 _ h1 => ?_
  cases b with
  | true => exact iteT ⟨ρ, F1, r1, h1⟩
  | false => exact iteF ⟨ρ, F1, r1, h1⟩
def forL (τ : D → Rho → R Rho) (b : Rho → S) : List D → Rho → S
  | [], ρ => .nx ρ
  | d :: ds, ρ => match τ d ρ with
    | .ok ρ1 => match b ρ1 with
      | .nx ρ2 => forL τ b ds ρ2
      | .ct ρ2 => forL τ b ds ρ2
      | .bk ρ2 => .nx ρ2
      | r => r
    | _ => .st
def sFor (gi : Rho → R (List D)) (τ : D → Rho → R Rho) (b : Rho → S) : Rho → S := fun ρ => match gi ρ with
  | .ok items => forL τ b items ρ
  | .ex x => .ex x ρ
  | .st => .st
theorem s_for {tg iter : Expr} {body : List Stmt} {gi : Rho → R (List D)} {τ : D → Rho → R Rho} {b : Rho → S} {m1 : List Bool} {is : List Nat} (hp : PassesOwn (model X.prog X.w) X.A X.env X.xe) (hc : X.calm = true) (hi : DI X F0 H0 m W tg iter gi) (hg : DG X F0 H0 m m1 is tg τ) (hb : DSs X F0 H0 m1 m m W body b)
    (hs : ∀ x, foldedSetIterable iter X.env x = pure x := by intro _; rfl) : DS X F0 H0 m m mL W (.For tg iter body [] pos) (sFor gi τ b) := by
  refine ps_imp (ps_for hp hc hi hg hb hs) fun E σ H ⟨ρ, F, r, h⟩ => ⟨ρ, F, r, ?_⟩
  unfold sFor at h
  cases z : gi ρ with
  | ex x =>
    rw [z] at h
    intro cls od F' H' xe i
    obtain ⟨F2, r2, s2⟩ := (r.ext xe).freeze
    exact h cls od σ F2 H' r2 (xe.ff.trans s2) (Is.monoX i s2)
  | st => rw [z] at h; exact h.elim
  | ok items =>
    rw [z] at h
    intro J F1 H1 x1 y1
    refine ⟨fun i mm σ H => ∃ ρ F, Rep X.K F0 H0 m ρ σ F H ∧ Same F1 F ∧ i ≤ items.length ∧ mm = items.length - i ∧ afterS X.K F0 H0 m mL W F (forL τ b (items.drop i) ρ) E, ⟨items.length, ρ, F1, r.ext x1, .refl _, Nat.zero_le _, rfl, h.mono x1.ff⟩, ?_⟩
    rintro i mm σ2 H2 ⟨ρ2, F2, r2, x2, hi, rfl, h2⟩
    have yc := y1 i F2 H2 x2 r2.fh
    by_cases hlt : i < items.length
    · obtain ⟨go, yld⟩ := yc.1 hlt
      refine .inr ⟨go, fun σ3 H3 => ∃ ρ3 F3, Rep X.K F0 H0 m ρ3 σ3 F3 H3 ∧ Same F1 F3 ∧ afterS X.K F0 H0 m mL W F3 (forL τ b (items.drop (i + 1)) ρ3) E, fun σ3 H3 ⟨ρ3, F3, q1, q2, q3⟩ => ⟨items.length - (i + 1), by omega, ρ3, F3, q1, q2, hlt, rfl, q3⟩, fun x Hy y => ?_⟩
      obtain ⟨F3, d, hd, xe, ix⟩ := yld x Hy y
      have ed : items.drop i = d :: items.drop (i + 1) := by
        rw [List.drop_eq_getElem_cons hlt]
        rw [List.getElem?_eq_getElem hlt] at hd
        rw [Option.some.inj hd]
      rw [ed] at h2
      refine ⟨ρ2, F3, d, r2.ext xe, ix, ?_⟩
      have h3 : afterS X.K F0 H0 m mL W F3 (match τ d ρ2 with
        | .ok ρ1 => match b ρ1 with
          | .nx ρ2 => forL τ b (items.drop (i + 1)) ρ2
          | .ct ρ2 => forL τ b (items.drop (i + 1)) ρ2
          | .bk ρ2 => .nx ρ2
          | r => r
        | _ => .st) E := h2.mono xe.ff
      cases z1 : τ d ρ2 with
      | ex x => rw [z1] at h3; exact h3.elim
      | st => rw [z1] at h3; exact h3.elim
      | ok ρ4 =>
        rw [z1] at h3
        intro σ4 r4 _ _
        refine ⟨ρ4, F3, r4, ?_⟩
        have h4 : afterS X.K F0 H0 m mL W F3 (match b ρ4 with
          | .nx ρ2 => forL τ b (items.drop (i + 1)) ρ2
          | .ct ρ2 => forL τ b (items.drop (i + 1)) ρ2
          | .bk ρ2 => .nx ρ2
          | r => r) E := h3
        cases z2 : b ρ4 with
        | nx ρ5 =>
          rw [z2] at h4
          exact fun σ5 F5 H5 r5 x5 => ⟨ρ5, F5, r5, (x2.trans xe.ff).trans x5, h4.mono x5⟩
        | ct ρ5 =>
          rw [z2] at h4
          exact fun σ5 F5 H5 r5 x5 => ⟨ρ5, F5, r5, (x2.trans xe.ff).trans x5, h4.mono x5⟩
        | bk ρ5 =>
          rw [z2] at h4
          exact h4
        | rt d => rw [z2] at h4; exact h4
        | rn d => rw [z2] at h4; exact h4
        | rm d ρ5 => rw [z2] at h4; exact h4
        | ex x ρ5 => rw [z2] at h4; exact h4
        | st => rw [z2] at h4; exact h4
    · have ei : i = items.length := by omega
      subst ei
      rw [List.drop_length] at h2
      exact .inl ⟨yc.2 (Nat.le_refl _), h2 σ2 F2 H2 r2 (.refl F2)⟩
def whileL (p : Rho → R Bool) (b : Rho → S) : Nat → Rho → S
  | 0, _ => .st
  | n + 1, ρ => match p ρ with
    | .ok k => if k = true then (match b ρ with
      | .nx ρ2 => whileL p b n ρ2
      | .ct ρ2 => whileL p b n ρ2
      | .bk ρ2 => .nx ρ2
      | r => r) else .nx ρ
    | .ex x => .ex x ρ
    | .st => .st
/-- fuel: how many turns at most (one more) -/
def sWhile (fuel : Rho → Nat) (p : Rho → R Bool) (b : Rho → S) : Rho → S := fun ρ => whileL p b (fuel ρ) ρ
theorem s_while {c : Expr} {body : List Stmt} {p : Rho → R Bool} {b : Rho → S} (fuel : Rho → Nat) (hp : PassesOwn (model X.prog X.w) X.A X.env X.xe) (hc : DT X F0 H0 m W c p) (hb : DSs X F0 H0 m m m W body b) : DS X F0 H0 m m mL W (.While c body [] pos) (sWhile fuel p b) := by
  refine ps_imp (ps_while hp hc hb) fun E σ H ⟨ρ, F, r, h⟩ => ?_
  refine ⟨fun n σ H => ∃ ρ F, Rep X.K F0 H0 m ρ σ F H ∧ afterS X.K F0 H0 m mL W F (whileL p b n ρ) E, ⟨fuel ρ, ρ, F, r, h⟩, ?_⟩
  rintro n σ1 H1 ⟨ρ1, F1, r1, h1⟩
  cases n with
  | zero => exact h1.elim
  | succ n =>
    refine semST (k := fun k => if k = true then (match b ρ1 with | .nx ρ2 => whileL p b n ρ2 | .ct ρ2 => whileL p b n ρ2 | .bk ρ2 => .nx ρ2 | r => r) else .nx ρ1) r1 h1 fun k F2 H2 r2 _ h2 => ?_
    cases k with
    | false => exact iteF (h2 σ1 F2 H2 r2 (.refl F2))
    | true =>
      refine iteT ⟨fun σ3 H3 => ∃ ρ F, Rep X.K F0 H0 m ρ σ3 F H3 ∧ afterS X.K F0 H0 m mL W F (whileL p b n ρ) E, fun σ3 H3 q => ⟨n, Nat.lt_succ_self _, q⟩, ρ1, F2, r2, ?_⟩
      have h4 : afterS X.K F0 H0 m mL W F2 (match b ρ1 with | .nx ρ2 => whileL p b n ρ2 | .ct ρ2 => whileL p b n ρ2 | .bk ρ2 => .nx ρ2 | r => r) E := h2
      cases z2 : b ρ1 with
      | nx ρ5 =>
        rw [z2] at h4
        exact fun σ5 F5 H5 r5 x5 => ⟨ρ5, F5, r5, h4.mono x5⟩
      | ct ρ5 =>
        rw [z2] at h4
        exact fun σ5 F5 H5 r5 x5 => ⟨ρ5, F5, r5, h4.mono x5⟩
      | bk ρ5 => rw [z2] at h4; exact h4
      | rt d => rw [z2] at h4; exact h4
      | rn d => rw [z2] at h4; exact h4
      | rm d ρ5 => rw [z2] at h4; exact h4
      | ex x ρ5 => rw [z2] at h4; exact h4
      | st => rw [z2] at h4; exact h4
/-! ### targets of any form; += -/
def sAsg (g : Rho → R D) (τ : D → Rho → R Rho) : Rho → S := sE g fun ρ d => match τ d ρ with
  | .ok ρ' => .nx ρ'
  | _ => .st
theorem s_asg {tg : Expr} {τ : D → Rho → R Rho} {is : List Nat} (he : DE X F0 H0 m W e g) (hg : DG X F0 H0 m m' is tg τ) (hs : swapsWithSole [tg] e pos.line X.env = pure false := by rfl) (hw : swappedStores [tg] e X.env = pure none := by rfl)
    (h1 : (assignEach [tg] X.env).map (·.2) = [assign tg X.env] := by rfl) : DS X F0 H0 m m' mL W (.Assign [tg] e pos) (sAsg g τ) := by
  refine ps_imp (ps_asg he hg hs hw h1) fun E σ H ⟨ρ, F, r, h⟩ => semS (k := fun d => match τ d ρ with | .ok ρ' => .nx ρ' | _ => .st) r h fun d v F1 H1 i1 r1 _ h1 => ⟨ρ, F1, d, r1, i1, ?_⟩
  cases z : τ d ρ with
  | ok ρ' =>
    rw [z] at h1
    exact fun σ' r' _ _ => h1 σ' F1 H1 r' (.refl F1)
  | ex x => rw [z] at h1; exact h1
  | st => rw [z] at h1; exact h1
def sAug (i : Nat) (f : D → D → R D) (g : Rho → R D) : Rho → S := fun ρ => match ρ[i]? with
  | some (some d) => sE g (fun ρ e => match f d e with
    | .ok z => .nx (ρ.set i (some z))
    | .ex x => .ex x ρ
    | .st => .st) ρ
  | _ => .st
theorem s_aug (i : Nat) {x : Str} {p2 : Pos} {op : Operator} {f : D → D → R D} {r2 : R2} (hN : X.N.Nodup) (ho : OpR X (inplaceOp op) r2) (o : OpD X.K f r2) (he : DE X F0 H0 m W e g) (hm : (m[i]? == some true) = false := by rfl) (hi : X.N[i]? = some x := by rfl) (hx : Loc X.env.scope x := by exact Or.inl rfl) (hb : F0.ok i := by exact Bs.ok_of rfl) (hf : X.fn x = true ∨ X.env.scope.names.lookup x = some .local := by first | exact .inl rfl | exact .inr rfl | assumption) :
    DS X F0 H0 m (m.set i false) mL W (.AugAssign (.Name x p2) op e pos) (sAug i f g) := by
  refine ps_imp (ps_aug hN hi hx he (ti := r2) (fun pins s σ H x y v u Q I r1 r2 h => ho pins s σ H x y v u Q I r1 r2 h) hf) fun E σ H ⟨ρ, F, r, h⟩ => ?_
  unfold sAug at h
  split at h
  · rename_i d e1
    obtain ⟨v, ev, iv⟩ := r.val i d e1 (by intro z; rw [z] at hm; cases hm)
    refine ⟨v, ev, ?_⟩
    refine semS (k := fun e => match f d e with | .ok z => .nx (ρ.set i (some z)) | .ex x => .ex x ρ | .st => .st) r h fun d2 v2 F1 H1 i1 r1 x1 h1 => ?_
    refine o W σ F1 H1 d d2 v v2 _ r1.fh (iv.mono x1) i1 ?_
    cases z : f d d2 with
    | ok d3 =>
      rw [z] at h1
      exact fun v3 F3 H3 x3 i3 => (h1.mono x3.ff) _ F3 H3 ((r1.ext x3).set i hb i3) (.refl F3)
    | ex x =>
      rw [z] at h1
      intro cls od F' H' xe ie
      obtain ⟨F2, r2, s2⟩ := (r1.ext xe).freeze
      exact h1 cls od σ F2 H' r2 (xe.ff.trans s2) (Is.monoX ie s2)
    | st => rw [z] at h1; exact h1
  · exact h.elim
/-! ### an own object changes -/
theorem Rep.mut {K : PySem.W.Frag} {ρ : Rho} {σ : L2.St} {F H : Hp} {i : Nat} {p : Addr} {d d' : D} {o' : HO} (r : Rep K F0 H0 m ρ σ F H) (hi : F0.mut i) (hm : m[i]? = some true) (hd : ρ[i]? = some (some d)) (hp : σ[i]? = some (some (.ref p))) (f : F p = none) (n : H0 p = none) (c : IsC K F o' d') :
    Rep K F0 H0 m (ρ.set i (some d')) σ F (upd H p o') where
  len := by rw [List.length_set, r.len]
  fh := fun b u e => by rw [upd_ne (ne_of_none e f)]; exact r.fh b u e
  f0 := r.f0
  h0 := fun b u e => by rw [upd_ne (ne_of_none e n)]; exact r.h0 b u e
  new := r.new
  val := fun j e a b => by
    rcases getElem?_set_cases a with ⟨rfl, z, hl⟩ | ⟨hj, z⟩
    · exact absurd hm b
    · exact r.val j e z b
  own := fun j e a b => by
    rcases getElem?_set_cases a with ⟨rfl, z, hl⟩ | ⟨hj, z⟩
    · cases z
      exact ⟨p, o', hp, upd_same, c, f, n⟩
    · obtain ⟨q, o, z1, z2, z3, z4, z5⟩ := r.own j e z b
      have ne : q ≠ p := fun w => r.apart j i p e d hj b hm z hd (w ▸ z1) hp
      exact ⟨q, o, z1, by rw [upd_ne ne]; exact z2, z3, z4, z5⟩
  apart := fun j k q d1 e1 hjk a b c1 c2 e => by
    have k1 : ∃ d2, ρ[j]? = some (some d2) := by
      rcases getElem?_set_cases c1 with ⟨rfl, _, _⟩ | ⟨_, z⟩
      · exact ⟨d, hd⟩
      · exact ⟨d1, z⟩
    have k2 : ∃ d2, ρ[k]? = some (some d2) := by
      rcases getElem?_set_cases c2 with ⟨rfl, _, _⟩ | ⟨_, z⟩
      · exact ⟨d, hd⟩
      · exact ⟨e1, z⟩
    obtain ⟨d3, z3⟩ := k1
    obtain ⟨d4, z4⟩ := k2
    exact r.apart j k q d3 d4 hjk a b z3 z4 e
  bor := fun b hb => by
    obtain ⟨h1, h2, ⟨e, h3⟩, h4⟩ := r.bor b hb
    by_cases hj : b.1 = i
    · refine ⟨h1, h2, ⟨d', ?_⟩, fun x o z => ?_⟩
      · rw [hj, List.getElem?_set_self (List.getElem?_eq_some_iff.mp hd).1]
      · rw [hi b hb hj] at z
        cases z
    · refine ⟨h1, h2, ⟨e, by rw [List.getElem?_set_ne (Ne.symm hj)]; exact h3⟩, fun x o z => ?_⟩
      obtain ⟨z1, z2⟩ := h4 x o z
      have ne : b.2.1 ≠ p := fun w => r.apart b.1 i p e d hj h2 hm h3 hd (w ▸ h1) hp
      exact ⟨by rw [List.getElem?_set_ne (Ne.symm hj)]; exact z1, by rw [upd_ne ne]; exact z2⟩
def sAppend (i : Nat) (g : Rho → R D) : Rho → S := fun ρ => match ρ[i]? with
  | some (some (.list ds)) => sE g (fun ρ d => if ds.length < sizeLine then .nx (ρ.set i (some (.list (ds ++ [d])))) else .st) ρ
  | _ => .st
theorem s_append (i : Nat) {x : Str} {p2 apos cpos : Pos} (he : DE X F0 H0 m W e g) (hb : F0.mut i := by exact Bs.mut_of rfl) (hm : m[i]? = some true := by rfl) (hN : X.N[i]? = some x := by rfl) (hv : Vis X.env.scope x := by first | exact Or.inl rfl | exact Or.inr (Or.inl rfl) | exact Or.inr (Or.inr rfl)) (hd : (x == ("__debug__" : Str)) = false := by decide)
    (hcd : (x == ("__classdict__" : Str)) = false := by decide) (hsw : swapsWith (.Call (.Attribute (.Name x p2) "append" apos) [e] [] cpos) none pos.line X.env = pure false := by rfl)
    (hbase : attributeBase (.Name x p2) "append" X.env (eval (.Name x p2) X.env) = eval (.Name x p2) X.env := by rfl)
    (hfew : ((backTo cpos (starEach [e] X.env)).all (fun x => !x.1) && (backToKw cpos (keywordEach [] X.env)).all (fun x => x.1.isSome)
      && decide ([e].length + ([] : List Keyword).length + (if ([] : List Keyword).isEmpty then 0 else 1) < 30)) = true := by rfl)
    (hline : (apos.endLine == cpos.line) = true := by rfl) (hs : starEach [e] X.env = (false, eval e X.env) :: starEach [] X.env := by rfl) (hplain : (backTo cpos (starEach [] X.env)).any (·.1) = false := by rfl) :
    DS X F0 H0 m m mL W (.Expr (.Call (.Attribute (.Name x p2) "append" apos) [e] [] cpos) pos) (sAppend i g) := by
  refine ps_imp (ps_expr (pe_bm PySem.F.plainAttrs_list PySem.F.slot_list_append PySem.F.type_list_append mt_append (pe_var hN hv hd hcd) (pa_cons he pa_nil hs) hbase hfew hline hs hplain) hsw) fun E σ H ⟨ρ, F, r, h⟩ => ?_
  unfold sAppend at h
  split at h
  · rename_i ds e1
    obtain ⟨p, o, z1, z2, z3, z4, z5⟩ := r.own i _ e1 hm
    cases o with
    | lst xs =>
      have l : IsL X.K F xs ds := z3
      refine ⟨.ref p, z1, .inl ⟨rfl, xs, .of z2⟩, ?_⟩
      refine semS (k := fun d => if ds.length < sizeLine then .nx (ρ.set i (some (.list (ds ++ [d])))) else .st) r h fun d v F1 H1 i1 r1 x1 h1 => ?_
      by_cases hz : ds.length < sizeLine
      · rw [if_pos hz] at h1
        obtain ⟨p', o', y1, y2, y3, y4, y5⟩ := r1.own i _ e1 hm
        rw [z1] at y1
        cases y1
        cases o' with
        | lst xs' =>
          have l' : IsL X.K F1 xs' ds := y3
          exact ⟨p, xs', v, rfl, rfl, y2, by rw [l'.1]; exact hz, h1 σ F1 _ (r1.mut hb hm e1 z1 y4 y5 (show IsC _ _ (.lst (xs' ++ [v])) (.list (ds ++ [d])) from l'.snoc i1)) (.refl F1)⟩
        | _ => exact y3.elim
      · rw [if_neg hz] at h1
        exact h1.elim
    | _ => exact z3.elim
  · exact h.elim
/-! ### a value of the frame's own objects that is no object: read as if they were shared -/
def scalD : D → R D
  | .non => .ok .non
  | .bl b => .ok (.bl b)
  | .int i => .ok (.int i)
  | .str s => .ok (.str s)
  | _ => .st
theorem scal_is {K : PySem.W.Frag} {F F' : Hp} {v : V} {d e : D} (h : scalD d = .ok e) (i : Is K F v d) : Is K F' v e := by
  cases i <;> cases h
  · exact .non
  · exact .bl _
  · exact .int _
  · exact .str _
theorem back_ext {K : PySem.W.Frag} {σ : L2.St} {ρ : Rho} {F F1 H F2 H2 : Hp} (r : Rep K F0 H0 m ρ σ F H) (x : Ext F1 H F2 H2) : Ext F H F H2 := ⟨.refl _, x.hh, r.fh.trans x.hh, fun _ _ f => f⟩
def gScal (g : Rho → R D) : Rho → R D := fun ρ => noX ((g ρ).bind scalD)
def bScal (p : Rho → R Bool) : Rho → R Bool := fun ρ => noX (p ρ)
theorem pe_some {e : Expr} {t : Hp → Hp → TE} (h : ∀ a b, PE X e (t a b)) : PE X e (fun σ H Q => ∃ a b, t a b σ H Q) := ⟨fun pins s σ H Q I ⟨a, b, q⟩ => (h a b).run pins s σ H Q I q⟩
theorem pt_some {e : Expr} {t : Hp → Hp → TT} (h : ∀ a b, PT X e (t a b)) : PT X e (fun σ H Q => ∃ a b, t a b σ H Q) := ⟨fun pins s σ H Q I ⟨a, b, q⟩ => (h a b).run pins s σ H Q I q⟩
theorem d_scal (h : ∀ Fb Hb : Hp, DE X ⟨Fb, []⟩ Hb [] W0 e g) : DE X F0 H0 m W e (gScal g) := by
  refine pe_imp (pe_some h) fun σ H Q ⟨ρ, F, r, q⟩ => ?_
  obtain ⟨F1, r1, s1⟩ := r.all
  refine ⟨F1, H, ρ, F1, r1, ?_⟩
  unfold gScal at q
  cases z : g ρ with
  | ex x => rw [z] at q; exact q.elim
  | st => rw [z] at q; exact q.elim
  | ok d =>
    rw [z] at q
    have q' : after X.K W σ F H (noX (scalD d)) Q := q
    cases z2 : scalD d with
    | ex x => rw [z2] at q'; exact q'.elim
    | st => rw [z2] at q'; exact q'.elim
    | ok d2 =>
      rw [z2] at q'
      intro v F2 H2 x2 i2
      exact q' v F H2 (back_ext r x2) (scal_is z2 i2)
theorem t_scal {p : Rho → R Bool} (h : ∀ Fb Hb : Hp, DT X ⟨Fb, []⟩ Hb [] W0 e p) : DT X F0 H0 m W e (bScal p) := by
  refine pt_imp (pt_some h) fun σ H Q ⟨ρ, F, r, q⟩ => ?_
  obtain ⟨F1, r1, s1⟩ := r.all
  refine ⟨F1, H, ρ, F1, r1, ?_⟩
  unfold bScal at q
  cases z : p ρ with
  | ex x => rw [z] at q; exact q.elim
  | st => rw [z] at q; exact q.elim
  | ok d =>
    rw [z] at q
    exact fun F2 H2 x2 => q F H2 (back_ext r x2)
end
/-! ### defs -/
def startR (n : Nat) (ds : List D) : Rho := ds.map some ++ List.replicate (n - ds.length) none
def endS : S → R D
  | .rt d => .ok d
  | .rn d => .ok d
  | .nx _ => .ok .non
  | .ex x _ => .ex x
  | _ => .st
def endN : S → R D
  | .rn d => .ok d
  | .ex x _ => .ex x
  | _ => .st
/-- the def with n names, np of them parameters -/
def runS (n np : Nat) (s : Rho → S) (ds : List D) : R D := if ds.length = np then endS (s (startR n ds)) else .st
def runN (n np : Nat) (s : Rho → S) (ds : List D) : R D := if ds.length = np then endN (s (startR n ds)) else .st
theorem rep_start {K : PySem.W.Frag} {F H : Hp} {N : List Str} {ds : List D} {vs : List V} {m : List Bool} (l : IsL K F vs ds) (s : Same F H) (hm : m.all (!·) = true) : Rep K ⟨F, []⟩ H m (startR N.length ds) (L2.start N vs) F H := by
  have nm : ∀ i : Nat, m[i]? ≠ some true := fun i z => by
    have := List.all_eq_true.mp hm true (List.mem_of_getElem? z)
    cases this
  refine ⟨?_, s, .refl _, .refl _, fun p h f => f, fun i d a _ => ?_, fun i d _ b => absurd b (nm i), fun i j p d e _ a => absurd a (nm i), fun b hb => nomatch hb⟩
  · unfold startR L2.start
    rw [List.length_append, List.length_append, List.length_map, List.length_map, List.length_replicate, List.length_replicate, l.1]
  · unfold startR at a
    by_cases hi : i < ds.length
    · rw [List.getElem?_append_left (by simpa using hi), List.getElem?_map] at a
      cases e : ds[i]? with
      | none => rw [e] at a; cases a
      | some d' =>
        rw [e] at a
        cases a
        obtain ⟨v, e2, i2⟩ := l.at e
        refine ⟨v, ?_, i2⟩
        unfold L2.start
        rw [List.getElem?_append_left (by rw [List.length_map, l.1]; exact hi), List.getElem?_map, e2]
        rfl
    · rw [List.getElem?_append_right (by simpa using hi), List.getElem?_replicate] at a
      split at a <;> cases a
section
variable {P : Program} {w : World} {K : PySem.W.Frag} {mg : Str → Option Value} {base : Heap} {x qual : Str} {params : Arguments} {body : List Stmt} {scope : Scope} {dvs : List V} {kws : List (Str × V)} {f : Addr} {fd : FuncData}
theorem fn_d {N ps : List Str} {k : Nat} {m m' : List Bool} {s : Rho → S} (n : Nat) (Fn : FunD K x qual params body scope dvs kws f fd) (Sc : FnScope N ps scope) (hn : N.length = n) (hm : m.all (!·) = true)
    (hb : ∀ (cdv : Value) (A : Around) (outer : List Env) (st : Shared) (H : Hp) (E : XK) (Fb : Hp), Room k (A.deeper (envOfC qual scope st.heap.objs.size f cdv)) →
      DSs (cxOf (L2.CX P w) P w K mg base N qual scope f cdv A outer st H E) ⟨Fb, []⟩ H m m' [] (fun cls d _ H => E cls d H) body s) : FnOk P w K mg base (L2.CX P w) (k + 1) f fd ps (spD K (runS n ps.length s)) := by
  subst hn
  refine Fn.ok Sc (fun vs H Q E h => ?_) fun cdv A outer st H vs Q E hr h => ?_
  · obtain ⟨ds, F, l, _, h⟩ := h
    unfold runS at h
    by_cases hd : ds.length = ps.length
    · rw [l.1]; exact hd
    · rw [if_neg hd] at h
      exact h.elim
  · obtain ⟨ds, F, l, sm, h⟩ := h
    refine ⟨_, hb cdv A outer st H E F hr, startR N.length ds, F, rep_start l sm hm, ?_⟩
    unfold runS at h
    by_cases hd : ds.length = ps.length
    · rw [if_pos hd] at h
      cases z : s (startR N.length ds) with
      | nx ρ => rw [z] at h; exact fun σ' F' H' r' _ => h .non F' H' r'.ext0 .non
      | rt d => rw [z] at h; exact fun v F' H' x _ i => h v F' H' x i
      | rm d ρ => rw [z] at h; exact h.elim
      | rn d => rw [z] at h; exact fun p o F' H' x _ e c fn n _ => h (.ref p) (upd F' p o) H' (x.share e fn n) (is_of_c upd_same (c.mono (same_upd fn)))
      | bk ρ => rw [z] at h; exact h.elim
      | ct ρ => rw [z] at h; exact h.elim
      | ex x ρ => rw [z] at h; exact fun cls od σ' F' H' r' _ i => h cls od F' H' r'.ext0 i
      | st => rw [z] at h; exact h.elim
    · rw [if_neg hd] at h
      exact h.elim
theorem fn_n {N ps : List Str} {k : Nat} {m m' : List Bool} {s : Rho → S} (n : Nat) (Fn : FunD K x qual params body scope dvs kws f fd) (Sc : FnScope N ps scope) (hn : N.length = n) (hm : m.all (!·) = true)
    (hb : ∀ (cdv : Value) (A : Around) (outer : List Env) (st : Shared) (H : Hp) (E : XK) (Fb : Hp), Room k (A.deeper (envOfC qual scope st.heap.objs.size f cdv)) →
      DSs (cxOf (L2.CX P w) P w K mg base N qual scope f cdv A outer st H E) ⟨Fb, []⟩ H m m' [] (fun cls d _ H => E cls d H) body s) : FnOk P w K mg base (L2.CX P w) (k + 1) f fd ps (spN K (runN n ps.length s)) := by
  subst hn
  refine Fn.ok Sc (fun vs H Q E h => ?_) fun cdv A outer st H vs Q E hr h => ?_
  · obtain ⟨ds, F, l, _, h⟩ := h
    unfold runN at h
    by_cases hd : ds.length = ps.length
    · rw [l.1]; exact hd
    · rw [if_neg hd] at h
      exact h.elim
  · obtain ⟨ds, F, l, sm, h⟩ := h
    refine ⟨_, hb cdv A outer st H E F hr, startR N.length ds, F, rep_start l sm hm, ?_⟩
    unfold runN at h
    by_cases hd : ds.length = ps.length
    · rw [if_pos hd] at h
      cases z : s (startR N.length ds) with
      | nx ρ => rw [z] at h; exact h.elim
      | rt d => rw [z] at h; exact h.elim
      | rm d ρ => rw [z] at h; exact h.elim
      | rn d => rw [z] at h; exact fun p o F' H' x _ e c fn n _ => h p o F' H' x e c fn n
      | bk ρ => rw [z] at h; exact h.elim
      | ct ρ => rw [z] at h; exact h.elim
      | ex x ρ => rw [z] at h; exact fun cls od σ' F' H' r' _ i => h cls od F' H' r'.ext0 i
      | st => rw [z] at h; exact h.elim
    · rw [if_neg hd] at h
      exact h.elim
/-- a def that hands back its own may be taken as one that hands back what is shared -/
theorem FnOk.ofN {k : Nat} {ps : List Str} {G : List D → R D} (h : FnOk P w K mg base (L2.CX P w) k f fd ps (spN K G)) : FnOk P w K mg base (L2.CX P w) k f fd ps (spD K G) := h.imp fun vs H Q E => spN_of
end
/-- the law's own promise -/
theorem law_sp {K : PySem.W.Frag} {G : List D → R D} {H : Hp} {a : Addr} {ns : List Int} (h : SqL K H a (ns.map V.int)) (hG : G [.list (ns.map D.int)] = .ok (.bl true)) : spD K G [.ref a] H (fun v _ => v = .bl true) fun _ _ _ => False := by
  refine ⟨[.list (ns.map D.int)], H, .cons (is_list h ⟨by rw [List.length_map, List.length_map], fun i x d a b => ?_⟩) .nil, .refl H, ?_⟩
  · rw [List.getElem?_map] at a b
    cases e : ns[i]? with
    | none => rw [e] at a; cases a
    | some z =>
      rw [e] at a b
      cases a
      cases b
      exact .int z
  · rw [hG]
    intro v F' H' x i
    cases i
    rfl
end Pd

/-! Pd8: defs as callers see them; y = [..]; all, any -/
namespace Pd
open PySem PySem.Spec PyProof.Rows L2
/-- the module's def x does G (shared results); CalN: hands back an object of its own -/
structure CalF (P : Program) (w : World) (K : PySem.W.Frag) (mg : Str → Option Value) (base : Heap) (k : Nat) (x : Str) (ps : List Str) (G : List D → R D) : Prop where
  ex : ∃ f fd, FnOk P w K mg base (L2.CX P w) k f fd ps (spD K G) ∧ mg x = some (.ref f) ∧ PySem.W.keepIn K (.ref f) = true ∧ Binds K fd ps []
structure CalN (P : Program) (w : World) (K : PySem.W.Frag) (mg : Str → Option Value) (base : Heap) (k : Nat) (x : Str) (ps : List Str) (G : List D → R D) : Prop where
  ex : ∃ f fd, FnOk P w K mg base (L2.CX P w) k f fd ps (spN K G) ∧ mg x = some (.ref f) ∧ PySem.W.keepIn K (.ref f) = true ∧ Binds K fd ps []
/-- a def as the top left it -/
structure DefF (K : PySem.W.Frag) (mg : Str → Option Value) (x : Str) (st : Stmt) (ps : List Str) : Prop where
  ex : ∃ f fd, FunD K x x (defArgs st) (defBody st) (defScope st) [] [] f fd ∧ mg x = some (.ref f) ∧ Binds K fd ps []
section
variable {P : Program} {w : World} {K : PySem.W.Frag} {mg : Str → Option Value} {base : Heap} {k j : Nat} {x : Str} {ps : List Str} {G : List D → R D} {st : Stmt}
theorem CalN.cal (h : CalN P w K mg base k x ps G) : CalF P w K mg base k x ps G := by
  obtain ⟨f, fd, a, b, c, d⟩ := h.ex
  exact ⟨f, fd, FnOk.ofN a, b, c, d⟩
theorem cal_d {N : List Str} {m m' : List Bool} {s : Rho → S} (n : Nat) (Df : DefF K mg x st ps) (Sc : FnScope N ps (defScope st)) (hn : N.length = n) (hm : m.all (!·) = true)
    (hb : ∀ (f : Addr) (cdv : Value) (A : Around) (outer : List Env) (sh : Shared) (H : Hp) (E : XK) (Fb : Hp), Room k (A.deeper (envOfC x (defScope st) sh.heap.objs.size f cdv)) →
      DSs (cxOf (L2.CX P w) P w K mg base N x (defScope st) f cdv A outer sh H E) ⟨Fb, []⟩ H m m' [] (fun cls d _ H => E cls d H) (defBody st) s) : CalF P w K mg base (k + 1) x ps (runS n ps.length s) := by
  obtain ⟨f, fd, F, gm, b⟩ := Df.ex
  exact ⟨f, fd, fn_d n F Sc hn hm (hb f), gm, F.kp, b⟩
theorem cal_n {N : List Str} {m m' : List Bool} {s : Rho → S} (n : Nat) (Df : DefF K mg x st ps) (Sc : FnScope N ps (defScope st)) (hn : N.length = n) (hm : m.all (!·) = true)
    (hb : ∀ (f : Addr) (cdv : Value) (A : Around) (outer : List Env) (sh : Shared) (H : Hp) (E : XK) (Fb : Hp), Room k (A.deeper (envOfC x (defScope st) sh.heap.objs.size f cdv)) →
      DSs (cxOf (L2.CX P w) P w K mg base N x (defScope st) f cdv A outer sh H E) ⟨Fb, []⟩ H m m' [] (fun cls d _ H => E cls d H) (defBody st) s) : CalN P w K mg base (k + 1) x ps (runN n ps.length s) := by
  obtain ⟨f, fd, F, gm, b⟩ := Df.ex
  exact ⟨f, fd, fn_n n F Sc hn hm (hb f), gm, F.kp, b⟩
end
section
variable {X : Cx} {F0 : Bs} {H0 : Hp} {m m' mL : List Bool} {W : WX} {pos : Pos} {e : Expr} {es : List Expr} {g : Rho → R D} {t : Rho → R (List D)} {k j : Nat} {x : Str} {ps : List Str} {G : List D → R D} {p : Pos}
theorem d_c (C : CalF X.prog X.w X.K X.mg X.base k x ps G) (hr : Room j X.A) (hj : k ≤ j) (tk : Takes X W) (ha : DA X F0 H0 m W (e :: es) t) (hg : Gl X x := by rfl)
    (hdb : (x == ("__debug__" : Str)) = false := by decide) (he : starEach (e :: es) X.env = (false, eval e X.env) :: starEach es X.env := by rfl) (hpl : (backTo pos (starEach es X.env)).any (·.1) = false := by rfl) : DE X F0 H0 m W (.Call (.Name x p) (e :: es) [] pos) (gA G t) := by
  obtain ⟨f, fd, a, b, c, d⟩ := C.ex
  exact d_call a (hr.mono hj) b c d tk ha hg hdb he hpl
theorem n_c (C : CalN X.prog X.w X.K X.mg X.base k x ps G) (hr : Room j X.A) (hj : k ≤ j) (tk : Takes X W) (ha : DA X F0 H0 m W (e :: es) t) (hg : Gl X x := by rfl)
    (hdb : (x == ("__debug__" : Str)) = false := by decide) (he : starEach (e :: es) X.env = (false, eval e X.env) :: starEach es X.env := by rfl) (hpl : (backTo pos (starEach es X.env)).any (·.1) = false := by rfl) : DN X F0 H0 m W (.Call (.Name x p) (e :: es) [] pos) (gA G t) := by
  obtain ⟨f, fd, a, b, c, d⟩ := C.ex
  exact n_call a (hr.mono hj) b c d tk ha hg hdb he hpl
/-- f() -/
def gC0 (G : List D → R D) : Rho → R D := fun _ => noX (G [])
theorem d_c0 (C : CalF X.prog X.w X.K X.mg X.base k x ps G) (hr : Room j X.A) (hj : k ≤ j) (hg : Gl X x := by rfl) (hdb : (x == ("__debug__" : Str)) = false := by decide) : DE X F0 H0 m W (.Call (.Name x p) [] [] pos) (gC0 G) := by
  obtain ⟨f, fd, a, b, c, d⟩ := C.ex
  refine pe_imp (pe_call0 a (hr.mono hj) hg b c d .nil passL hdb) fun σ H Q ⟨ρ, F, r, h⟩ => ⟨[], F, .nil, r.fh, ?_⟩
  unfold gC0 at h
  cases z : G [] with
  | ok d => rw [z] at h; exact h
  | ex x => rw [z] at h; exact h.elim
  | st => rw [z] at h; exact h.elim
/-! ### y = [..] on one line -/
theorem tN_of {K : PySem.W.Frag} {σ : L2.St} {H : Hp} {Q : VK} (h : tSem K F0 H0 m W g σ H Q) : tSemN K F0 H0 m W g σ H Q := by
  obtain ⟨ρ, F, r, h⟩ := h
  exact ⟨ρ, F, r, afterN_of h⟩
section
variable {elt tg iter : Expr} {ifs : List Expr} {gi : Rho → R (List D)} {τ : D → Rho → R Rho} {q : Rho → R Bool} {ge : Rho → R D} {m2 : List Bool}
theorem s_setLcN (i : Nat) {y : Str} {py : Pos} {scope : Scope} {own : List (Str × Nat)} {is : List Nat} {spos : Pos} (hc : X.calm = true) (hN : X.N.Nodup) (hi : DI X F0 H0 m W tg iter gi) (ok : blkC X.N X.env.scope scope own = true)
    (hg : ∀ (s : Shared) (H : Hp) (C : Addr) (cl : List (Str × Addr)) (fp : List Addr), DG (X.blk s H scope (compEnvC scope cl C X.env) fp) F0 H0 m m2 is tg τ)
    (ht : ∀ (s : Shared) (H : Hp) (C : Addr) (cl : List (Str × Addr)) (fp : List Addr), DTs (X.blk s H scope (compEnvC scope cl C X.env) fp) F0 H0 m2 W0 ifs q)
    (he : ∀ (s : Shared) (H : Hp) (C : Addr) (cl : List (Str × Addr)) (fp : List Addr), DE (X.blk s H scope (compEnvC scope cl C X.env) fp) F0 H0 m2 W0 elt ge) (hv : ∀ i ∈ is, i ∈ own.map (·.2)) (hm : i < m.length := by decide) (hb : F0.ok i := by exact Bs.ok_of rfl) (hw : ((own.map (·.2)).all fun i => F0.bor.all fun b => !(b.1 == i)) = true := by rfl) (hy : X.N[i]? = some y := by rfl) (hyl : X.env.scope.names.lookup y = some .local := by rfl)
    (hsw : swapsWith (.ListComp elt [⟨tg, iter, ifs, 0⟩] scope pos) (some (.Name y py)) spos.line X.env = pure true := by exact sw_true rfl rfl rfl (by decide +kernel)) (hs : ∀ x, foldedSetIterable iter X.env x = pure x := by intro _; rfl) :
    DS X F0 H0 m (m.set i true) mL W (.Assign [.Name y py] (.ListComp elt [⟨tg, iter, ifs, 0⟩] scope pos) spos) (sSet i (gLc gi (own.map (·.2)) τ q ge)) :=
  ps_imp (ps_setLc hc hN hy hyl hsw hi (blkOk_by ok) hg ht he hs) fun E σ H ⟨ρ, F, r, h⟩ => lc_sem (ok_all hw) hv σ H _ (semSN (k := fun d => .nx (ρ.set i (some d))) r h fun d p o F1 H1 e c f n s r1 _ h1 => h1 _ F1 H1 (r1.setN i hb hm e c f (r.h0.free n) fun j q e' a b c' w => by
    obtain ⟨q', o', e1, e2, _⟩ := r.own j e' b a
    rw [c'] at e1
    cases e1
    rw [w, n] at e2
    cases e2) (.refl F1))
theorem s_setLc (i : Nat) {y : Str} {py : Pos} {scope : Scope} {own : List (Str × Nat)} {is : List Nat} {spos : Pos} (hc : X.calm = true) (hN : X.N.Nodup) (hi : DI X F0 H0 m W tg iter gi) (ok : blkC X.N X.env.scope scope own = true)
    (hg : ∀ (s : Shared) (H : Hp) (C : Addr) (cl : List (Str × Addr)) (fp : List Addr), DG (X.blk s H scope (compEnvC scope cl C X.env) fp) F0 H0 m m2 is tg τ)
    (ht : ∀ (s : Shared) (H : Hp) (C : Addr) (cl : List (Str × Addr)) (fp : List Addr), DTs (X.blk s H scope (compEnvC scope cl C X.env) fp) F0 H0 m2 W0 ifs q)
    (he : ∀ (s : Shared) (H : Hp) (C : Addr) (cl : List (Str × Addr)) (fp : List Addr), DE (X.blk s H scope (compEnvC scope cl C X.env) fp) F0 H0 m2 W0 elt ge) (hv : ∀ i ∈ is, i ∈ own.map (·.2)) (hb : F0.ok i := by exact Bs.ok_of rfl) (hw : ((own.map (·.2)).all fun i => F0.bor.all fun b => !(b.1 == i)) = true := by rfl) (hy : X.N[i]? = some y := by rfl) (hyl : X.env.scope.names.lookup y = some .local := by rfl)
    (hsw : swapsWith (.ListComp elt [⟨tg, iter, ifs, 0⟩] scope pos) (some (.Name y py)) spos.line X.env = pure true := by exact sw_true rfl rfl rfl (by decide +kernel)) (hs : ∀ x, foldedSetIterable iter X.env x = pure x := by intro _; rfl) :
    DS X F0 H0 m (m.set i false) mL W (.Assign [.Name y py] (.ListComp elt [⟨tg, iter, ifs, 0⟩] scope pos) spos) (sSet i (gLc gi (own.map (·.2)) τ q ge)) :=
  ps_imp (ps_setLc hc hN hy hyl hsw hi (blkOk_by ok) hg ht he hs) fun E σ H ⟨ρ, F, r, h⟩ => lc_sem (ok_all hw) hv σ H _ (tN_of (semS (k := fun d => .nx (ρ.set i (some d))) r h fun d v F1 H1 i1 r1 _ h1 => h1 _ F1 H1 (r1.set i hb i1) (.refl F1)))
end
/-! ### all, any -/
def bools : List D → Option (List Bool)
  | [] => some []
  | .bl b :: r => (bools r).map (b :: ·)
  | _ :: _ => none
theorem bools_is {K : PySem.W.Frag} {F : Hp} : ∀ {ds : List D} {vs : List V} {ys : List Bool}, IsL K F vs ds → bools ds = some ys → vs = ys.map V.bl
  | [], vs, ys, l, h => by cases h; exact l.unnil
  | d :: ds, vs, ys, l, h => by
    obtain ⟨x, xr, rfl, i, t⟩ := l.uncons
    cases d with
    | bl s =>
      cases i
      have h' : (bools ds).map (s :: ·) = some ys := h
      cases e : bools ds with
      | none => rw [e] at h'; cases h'
      | some zs =>
        rw [e] at h'
        cases h'
        rw [bools_is t e]
        rfl
    | _ => cases h
def allD : List D → R D
  | [.list ds] => match bools ds with
    | some bs => .ok (.bl (bs.all id))
    | none => .st
  | _ => .st
def anyD : List D → R D
  | [.list ds] => match bools ds with
    | some bs => .ok (.bl (bs.any id))
    | none => .st
  | _ => .st
theorem c_all {K : PySem.W.Frag} : CallD K allD (rAll K) := by
  intro W σ F H ds vs Q s l q
  match ds, l, q with
  | [.list es], l, q =>
    obtain ⟨v, rfl, i⟩ := one_of l
    obtain ⟨a, xs, rfl, h, t⟩ := i.list_inv
    have q' : after K W σ F H (match bools es with | some bs => .ok (.bl (bs.all id)) | none => .st) Q := q
    cases e : bools es with
    | none => rw [e] at q'; exact q'.elim
    | some bs =>
      rw [e] at q'
      have e2 := bools_is t e
      subst e2
      exact ⟨a, bs, rfl, s.seq h, after.now q' s (.bl _)⟩
theorem c_any {K : PySem.W.Frag} : CallD K anyD (rAny K) := by
  intro W σ F H ds vs Q s l q
  match ds, l, q with
  | [.list es], l, q =>
    obtain ⟨v, rfl, i⟩ := one_of l
    obtain ⟨a, xs, rfl, h, t⟩ := i.list_inv
    have q' : after K W σ F H (match bools es with | some bs => .ok (.bl (bs.any id)) | none => .st) Q := q
    cases e : bools es with
    | none => rw [e] at q'; exact q'.elim
    | some bs =>
      rw [e] at q'
      have e2 := bools_is t e
      subst e2
      exact ⟨a, bs, rfl, s.seq h, after.now q' s (.bl _)⟩
end
/-! ### op= -/
def iaddD : D → D → R D
  | .int i, .int j => .ok (.int (i + j))
  | .str a, .str b => if a.length + b.length ≤ sizeLine then .ok (.str (a ++ b)) else .st
  | _, _ => .st
def rIadd : R2 := fun x y H Q => rI0 (fun i j => .int (i + j)) x y H Q ∨ ∃ i j, x = .str i ∧ y = .str j ∧ i.length + j.length ≤ sizeLine ∧ Q (.str (i ++ j)) H
theorem iop_addD {X : Cx} : OpR X (inplaceOp .Add) rIadd := iop_add.or iop_add_str
theorem o_iadd {K : PySem.W.Frag} : OpD K iaddD rIadd := by
  intro W σ F H d e v u Q s i j q
  cases i with
  | int k =>
    cases j with
    | int l => exact .inl ⟨k, l, rfl, rfl, after.now q s (.int _)⟩
    | _ => exact q.elim
  | str x =>
    cases j with
    | str y =>
      have q' : after K W σ F H (if x.length + y.length ≤ sizeLine then .ok (.str (x ++ y)) else .st) Q := q
      by_cases hc : x.length + y.length ≤ sizeLine
      · rw [if_pos hc] at q'
        exact .inr ⟨x, y, rfl, rfl, hc, after.now q' s (.str _)⟩
      · rw [if_neg hc] at q'
        exact q'.elim
    | _ => exact q.elim
  | _ => exact q.elim
theorem hu65 {A : Around} {k : Nat} (hr : Room k A) : A.units + 65 < cLine := by
  have := hr.un
  omega
/-! ### the law's end -/
theorem walk_d {l : PySem.W.OpenLaw} {n k : Nat} {q : Program} {loose : List Str} {XP : (Str → Option Value) → Heap → Prop} {YP : World → Heap → Prop} {d : DefRec} {x : Str} {G : List D → R D}
    (hn : l.most = some n) (hz : n ≤ sizeLine) (hdf : d.params.defaults = []) (hr : Room k callerA) (hG : ∀ ns : List Int, ns.length ≤ n → G [.list (ns.map D.int)] = .ok (.bl true))
    (hF : ∀ (w : World) (mg : Str → Option Value) (fa : Addr) (h : Heap), YP w h → h.Ns mainGlobals mg → mg d.name = some (.ref fa) →
      ∃ (K : PySem.W.Frag) (fd : FuncData), K.In h ∧ (∀ (s : Shared) (u : Value), BindsTo s fd ⟨[u], []⟩ [(x, u)]) ∧ ∀ base : Heap, K.In base → base.Ns mainGlobals mg → FnOk l.prog w K mg base (L2.CX l.prog w) k fa fd [x] (spD K G)) :
    PySem.W.WalkO q loose XP YP l.row.toRowW d [] (fun f vs => PySem.call f vs) := by
  refine Att.attach_call hn hdf ?_
  intro w s₀ s₁ mg mb fa o pm cd doc a vs ns Gr Y h1 h2 h3 hm ho hi hl hg
  obtain ⟨K, fd, KX, hb, ok⟩ := hF w mg fa _ Y Gr.T.g hm
  refine law_call (CX := L2.CX l.prog w) KX Gr.T.g Gr.T.b Gr.T.builtins Gr.T.nolimit hg ho hi (Nat.le_trans hl hz) hr ok hb (fun H _ hS => law_sp hS (hG ns hl)) fun H e s' z => ?_
  obtain ⟨_, _, _, _, _, _, _, _, _, _, _, _, z⟩ := z
  exact z.elim
/-- turns enough for a while that lowers the int in slot i -/
def fuelInt (i : Nat) : Rho → Nat := fun ρ => match gVar i ρ with
  | .ok (.int n) => n.toNat + 1
  | _ => 0
end Pd

/-! Pd9: objects that are read: fields, methods, objects of classes without __init__; raise, try -/
namespace Pd
open PySem PySem.Spec PyProof.Rows L2
section
variable {X : Cx} {F0 : Bs} {H0 : Hp} {m m' mL : List Bool} {W : WX} {pos : Pos} {e o : Expr} {es : List Expr} {g go : Rho → R D} {t : Rho → R (List D)} {k j : Nat} {x : Str} {ps : List Str} {G : List D → R D} {p : Pos}
/-! ### fields -/
def fldD (cs : List Str) (f : Str) : D → R D
  | .obj c fs => if cs.contains c = true then (match fs.lookup f with
    | some d => .ok d
    | none => .st) else .st
  | _ => .st
def gFld (cs : List Str) (f : Str) (g : Rho → R D) : Rho → R D := fun ρ => (g ρ).bind (fldD cs f)
theorem isK_lookup {K : PySem.W.Frag} {F : Hp} {f : Str} : ∀ {xs : List (Str × V)} {ds : List (Str × D)}, IsK K F xs ds → (∀ d, ds.lookup f = some d → ∃ v, xs.lookup f = some v ∧ Is K F v d) ∧ (ds.lookup f = none → xs.lookup f = none)
  | [], [], _ => ⟨fun d h => by simp at h, fun _ => rfl⟩
  | [], _ :: _, h => by have := h.1; simp at this
  | _ :: _, [], h => by have := h.1; simp at this
  | (a, v) :: xs, (b, d) :: ds, h => by
    obtain ⟨l, e1, e2⟩ := h
    have hk : a = b := e1 0 (a, v) (b, d) rfl rfl
    have hv : Is K F v d := e2 0 (a, v) (b, d) rfl rfl
    have tl : IsK K F xs ds := ⟨by simpa using l, fun i y z q w => e1 (i + 1) y z (by simpa using q) (by simpa using w), fun i y z q w => e2 (i + 1) y z (by simpa using q) (by simpa using w)⟩
    subst hk
    obtain ⟨i1, i2⟩ := isK_lookup (f := f) tl
    by_cases hf : f = a
    · subst hf
      refine ⟨fun z hz => ?_, fun hz => ?_⟩
      · rw [List.lookup_cons_self] at hz ⊢
        cases hz
        exact ⟨v, rfl, hv⟩
      · rw [List.lookup_cons_self] at hz
        cases hz
    · have hb : (f == a) = false := beq_eq_false_iff_ne.mpr hf
      refine ⟨fun z hz => ?_, fun hz => ?_⟩
      · simp only [List.lookup, hb] at hz ⊢
        exact i1 z hz
      · simp only [List.lookup, hb] at hz ⊢
        exact i2 hz
theorem d_fld {f : Str} (cs : List Str) (hc : ∀ c ∈ cs, Cls X.K (He.ga X.K c) ∧ NoAttr X.K (He.ga X.K c) f) (he : DE X F0 H0 m W e g) (hb : attributeBase e f X.env (eval e X.env) = eval e X.env := by rfl) : DE X F0 H0 m W (.Attribute e f pos) (gFld cs f g) := by
  refine pe_imp (pe_fld he hb) fun σ H Q ⟨ρ, F, r, h⟩ => ?_
  refine sem_bind (k := fldD cs f) r h fun d v F1 H1 _ i1 r1 h1 => ?_
  cases d with
  | obj c fs =>
    have h2 : after X.K W σ F1 H1 (if cs.contains c = true then (match fs.lookup f with
      | some d => .ok d
      | none => .st) else .st) Q := h1
    by_cases hz : cs.contains c = true
    · rw [if_pos hz] at h2
      obtain ⟨a, dx, xs, rfl, ha, ik⟩ := i1.obj_inv
      obtain ⟨cl, na⟩ := hc c (by simpa using hz)
      cases q : fs.lookup f with
      | none => rw [q] at h2; exact h2.elim
      | some d =>
        rw [q] at h2
        obtain ⟨v, e1, e2⟩ := (isK_lookup ik).1 d q
        exact ⟨a, _, dx, xs, v, rfl, r1.fh a _ ha, cl, na, e1, after.now h2 r1.fh e2⟩
    · rw [if_neg hz] at h2
      exact h2.elim
  | _ => exact h1.elim
/-! ### methods -/
/-- class c's method does G; dv: the defaults that fill up -/
structure CalM (P : Program) (w : World) (K : PySem.W.Frag) (mg : Str → Option Value) (base : Heap) (k : Nat) (c m : Str) (G : List D → R D) : Prop where
  ex : ∃ f fd ps ds dvs dv, FnOk P w K mg base (L2.CX P w) k f fd ps (spD K dv) ∧ Cls K (He.ga K c) ∧ Meth K (He.ga K c) m f ∧ Binds K fd ps ds ∧ Vals dvs ds ∧ ∃ ed : List D, (∀ H, IsL K H dvs ed) ∧ ∀ as, G as = dv (as ++ ed)
structure CalMN (P : Program) (w : World) (K : PySem.W.Frag) (mg : Str → Option Value) (base : Heap) (k : Nat) (c m : Str) (G : List D → R D) : Prop where
  ex : ∃ f fd ps ds dvs dv, FnOk P w K mg base (L2.CX P w) k f fd ps (spN K dv) ∧ Cls K (He.ga K c) ∧ Meth K (He.ga K c) m f ∧ Binds K fd ps ds ∧ Vals dvs ds ∧ ∃ ed : List D, (∀ H, IsL K H dvs ed) ∧ ∀ as, G as = dv (as ++ ed)
theorem CalMN.cal {P : Program} {w : World} {K : PySem.W.Frag} {mg : Str → Option Value} {base : Heap} {c m : Str} (h : CalMN P w K mg base k c m G) : CalM P w K mg base k c m G := by
  obtain ⟨f, fd, ps, ds, dvs, dv, a, b⟩ := h.ex
  exact ⟨f, fd, ps, ds, dvs, dv, FnOk.ofN a, b⟩
theorem run_fnW {CX : CXT} {f : Addr} {fd : FuncData} {sp : Sp} {ds : List Value} {dvs : List V} {E : L2.St → XK} {pins : List (Addr × Obj)} {σ : L2.St} {H : Hp} {s : Shared} {Q : VK} {us : List Value} {vs : List V} (F : FnOk X.prog X.w X.K X.mg X.base CX k f fd ps sp) (hr : Room k X.A) (hb : Binds X.K fd ps ds) (hd : Vals dvs ds) (hx : PassesAt CX X σ (E σ))
    (I : Inv X pins σ H s) (r : Vals vs us) (h : sp (vs ++ dvs) H Q (E σ)) : wpAny (model X.prog X.w) X.A (call (.ref f) us) (EP X pins σ Q) X.xe s := by
  have r2 : Vals (vs ++ dvs) (us ++ ds) := r.append hd
  have hl : (us ++ ds).length = ps.length := by rw [← r2.length]; exact F.len _ _ _ _ h
  refine wpAny_call (codeAny_mono (F.run X.A X.stack s H ⟨us, []⟩ (us ++ ds) (vs ++ dvs) Q (E σ) hr I.env0 (hb s us I.kIn hl) r2 h) fun r s' hq => ?_)
  cases r with
  | error e => exact hx pins H s e s' I hq
  | ok fl =>
    cases fl with
    | ret u => exact I.after hq
    | next => exact False.elim hq
    | brk => exact False.elim hq
    | cont => exact False.elim hq
/-- o.m(..) of an instance of the class at C, what it lets out told at the slots -/
def tMethW (C : Addr) (m : Str) (sp : Sp) (dvs : List V) (E : L2.St → XK) (ta : TE) (t : TA) : TE := fun σ H Q => ta σ H fun x H1 => ∃ a dx fs, x = .ref a ∧ H1 a = some (.ins C dx fs) ∧ fs.lookup m = none ∧
  t σ H1 fun vs H2 => sp (x :: (vs ++ dvs)) H2 Q (E σ)
section
variable {CX : CXT} {C f : Addr} {fd : FuncData} {sp : Sp} {dvs : List V} {ds : List Value} {E : L2.St → XK} {mn : Str} {ta : TE} {tt : TA} {apos : Pos}
theorem pe_methW {pl : Sem Bool} (he : PE X o ta) (c : Cls X.K C) (hm : Meth X.K C mn f) (F : FnOk X.prog X.w X.K X.mg X.base CX k f fd ps sp) (hr : Room k X.A) (hb : Binds X.K fd ps ds) (hd : Vals dvs ds) (hx : ∀ σ, PassesAt CX X σ (E σ)) (ha : PA X (e :: es) tt)
    (hst : starEach (e :: es) X.env = (false, eval e X.env) :: starEach es X.env) (hpl : (backTo pos (starEach es X.env)).any (·.1) = false)
    (ht : eval (.Call (.Attribute o mn apos) (e :: es) [] pos) X.env = (do
      let ov ← eval o X.env
      standAt apos.atName
      let (f, first) ← holding [ov] (getMethod ov mn pl)
      callWith pos f first (backTo pos (starEach (e :: es) X.env)) (backToKw pos (keywordEach [] X.env)))) :
    PE X (.Call (.Attribute o mn apos) (e :: es) [] pos) (tMethW C mn sp dvs E ta tt) := by
  refine ⟨fun pins s σ H Q I h => ?_⟩
  refine PySem.W.methodCall_KW (pl := pl) (thn (he.run pins s σ H _ I h) fun u s1 ⟨x, H1, I1, rx, a, dx, fs, ex, ea, l, q⟩ => ?_) ht
  subst ex
  obtain rfl : u = Value.ref a := rx
  refine getmeth_ok I1 ea c hm l ?_
  refine PySem.W.callWith_K (first := [.ref a]) (h₀ := X.base) I.ok.mod.kin hm.kp (thn (ha.run pos pins s1 σ H1 _ I1 q) fun us s2 ⟨vs, H2, I2, r, q2⟩ => ⟨I2.kIn, ?_⟩) hst hpl
  exact run_fnW (us := .ref a :: us) (vs := .ref a :: vs) F hr hb hd (hx σ) I2 (.cons rfl r) q2
theorem pe_methW0 {pl : Sem Bool} (he : PE X o ta) (c : Cls X.K C) (hm : Meth X.K C mn f) (F : FnOk X.prog X.w X.K X.mg X.base CX k f fd ps sp) (hr : Room k X.A) (hb : Binds X.K fd ps ds) (hd : Vals dvs ds) (hx : ∀ σ, PassesAt CX X σ (E σ))
    (ht : eval (.Call (.Attribute o mn apos) [] [] pos) X.env = (do
      let ov ← eval o X.env
      standAt apos.atName
      let (f, first) ← holding [ov] (getMethod ov mn pl)
      callWith pos f first (backTo pos (starEach [] X.env)) (backToKw pos (keywordEach [] X.env)))) :
    PE X (.Call (.Attribute o mn apos) [] [] pos) (tMethW C mn sp dvs E ta tNil) := by
  refine ⟨fun pins s σ H Q I h => ?_⟩
  refine PySem.W.methodCall_KW (pl := pl) (thn (he.run pins s σ H _ I h) fun u s1 ⟨x, H1, I1, rx, a, dx, fs, ex, ea, l, q⟩ => ?_) ht
  subst ex
  obtain rfl : u = Value.ref a := rx
  refine getmeth_ok I1 ea c hm l ?_
  exact PySem.W.callWith_K0 (first := [.ref a]) I1.kIn hm.kp (run_fnW (us := [.ref a]) (vs := [.ref a]) F hr hb hd (hx σ) I1 (.cons rfl .nil) q)
end
/-- which def an object's method is -/
def metD (tb : List (Str × (List D → R D))) (mn : Str) (d : D) (k : (List D → R D) → R D) : R D := match d with
  | .obj c fs => (match fs.lookup mn with
    | some _ => .st
    | none => match tb.lookup c with
      | some G => k fun as => G (d :: as)
      | none => .st)
  | _ => .st
def gMeth (tb : List (Str × (List D → R D))) (mn : Str) (go : Rho → R D) (t : Rho → R (List D)) : Rho → R D := fun ρ => (go ρ).bind fun d => metD tb mn d fun G => (t ρ).bind G
theorem lookup_mem {α : Type} {c : Str} {G : α} : ∀ {l : List (Str × α)}, l.lookup c = some G → (c, G) ∈ l
  | (a, b) :: r, h => by
    by_cases hc : c = a
    · subst hc
      rw [List.lookup_cons_self] at h
      cases h
      simp
    · have hb : (c == a) = false := beq_eq_false_iff_ne.mpr hc
      simp only [List.lookup, hb] at h
      exact List.mem_cons_of_mem _ (lookup_mem h)
theorem gMeth_row {tb : List (Str × (List D → R D))} {mn : Str} {ρ : Rho} (hne : tb ≠ []) (hs : gMeth tb mn go t ρ ≠ .st) : ∃ q ∈ tb, gMeth [q] mn go t ρ = gMeth tb mn go t ρ := by
  unfold gMeth at hs ⊢
  cases z : go ρ with
  | st => rw [z] at hs; exact absurd rfl hs
  | ex x =>
    obtain ⟨q, hq⟩ := List.exists_mem_of_ne_nil _ hne
    exact ⟨q, hq, rfl⟩
  | ok d =>
    rw [z] at hs
    cases d with
    | obj c fs =>
      have hs2 : (match fs.lookup mn with
        | some _ => R.st
        | none => match tb.lookup c with
          | some G => (t ρ).bind fun as => G (.obj c fs :: as)
          | none => R.st) ≠ .st := hs
      cases z2 : fs.lookup mn with
      | some _ => rw [z2] at hs2; exact absurd rfl hs2
      | none =>
        rw [z2] at hs2
        cases z3 : tb.lookup c with
        | none => rw [z3] at hs2; exact absurd rfl hs2
        | some G =>
          refine ⟨(c, G), lookup_mem z3, ?_⟩
          show (match fs.lookup mn with
            | some _ => R.st
            | none => match List.lookup c [(c, G)] with
              | some G => (t ρ).bind fun as => G (.obj c fs :: as)
              | none => R.st) = (match fs.lookup mn with
            | some _ => R.st
            | none => match tb.lookup c with
              | some G => (t ρ).bind fun as => G (.obj c fs :: as)
              | none => R.st)
          rw [z2, z3, List.lookup_cons_self]
    | _ => exact absurd rfl hs
theorem pe_mem {α : Type} {l : List α} {tt : α → TE} (h : ∀ q ∈ l, PE X e (tt q)) : PE X e (fun σ H Q => ∃ q, q ∈ l ∧ tt q σ H Q) := ⟨fun pins s σ H Q I ⟨q, hq, z⟩ => (h q hq).run pins s σ H Q I z⟩
theorem d_meth {tb : List (Str × (List D → R D))} {mn : Str} (h : ∀ q ∈ tb, DE X F0 H0 m W e (gMeth [q] mn go t)) (hne : tb ≠ [] := by simp) : DE X F0 H0 m W e (gMeth tb mn go t) :=
  pe_imp (pe_mem h) fun σ H Q ⟨ρ, F, r, q⟩ => by
    by_cases hs : gMeth tb mn go t ρ = .st
    · rw [hs] at q
      exact q.elim
    · obtain ⟨z, hz, ez⟩ := gMeth_row hne hs
      exact ⟨z, hz, ρ, F, r, by rw [ez]; exact q⟩
theorem n_meth {tb : List (Str × (List D → R D))} {mn : Str} (h : ∀ q ∈ tb, DN X F0 H0 m W e (gMeth [q] mn go t)) (hne : tb ≠ [] := by simp) : DN X F0 H0 m W e (gMeth tb mn go t) :=
  pe_imp (pe_mem h) fun σ H Q ⟨ρ, F, r, q⟩ => by
    by_cases hs : gMeth tb mn go t ρ = .st
    · rw [hs] at q
      exact q.elim
    · obtain ⟨z, hz, ez⟩ := gMeth_row hne hs
      exact ⟨z, hz, ρ, F, r, by rw [ez]; exact q⟩
theorem meth_sem {new : Bool} {mn c : Str} {dv : List D → R D} {dvs : List V} {ed : List D} (he : ∀ H, IsL X.K H dvs ed) (hG : ∀ as, G as = dv (as ++ ed)) (σ : L2.St) (H : Hp) (Q : VK)
    (h : if new = true then tSemN X.K F0 H0 m W (gMeth [(c, G)] mn go t) σ H Q else tSem X.K F0 H0 m W (gMeth [(c, G)] mn go t) σ H Q) :
    tMethW (He.ga X.K c) mn (if new = true then spN X.K dv else spD X.K dv) dvs (WE W) (tSem X.K F0 H0 m W go) (tSemA X.K F0 H0 m W t) σ H Q := by
  cases new with
  | true =>
    obtain ⟨ρ, F, r, h⟩ := (show tSemN X.K F0 H0 m W (gMeth [(c, G)] mn go t) σ H Q from h)
    refine sem_bindN (k := fun d => metD [(c, G)] mn d fun G => (t ρ).bind G) r h fun d v F1 H1 _ i1 r1 h1 => ?_
    cases d with
    | obj c' fs =>
      obtain ⟨a, dx, xs, rfl, ha, ik⟩ := i1.obj_inv
      have h2 : afterN X.K W σ F1 H1 (match fs.lookup mn with
        | some _ => .st
        | none => match List.lookup c' [(c, G)] with
          | some G => (t ρ).bind fun as => G (.obj c' fs :: as)
          | none => .st) Q := h1
      cases z : fs.lookup mn with
      | some _ => rw [z] at h2; exact h2.elim
      | none =>
        rw [z] at h2
        by_cases hc : c' = c
        · subst hc
          rw [List.lookup_cons_self] at h2
          refine ⟨a, dx, xs, rfl, r1.fh a _ ha, (isK_lookup ik).2 z, ?_⟩
          refine semA_bindN (k := fun as => G (.obj c' fs :: as)) r1 h2 fun ds vs F2 H2 x2 i2 r2 h3 => ?_
          refine ⟨(.obj c' fs :: ds) ++ ed, F2, ?_, r2.fh, ?_⟩
          · exact IsL.append (.cons (.mono (.obj ha ik.1 ik.2.1 ik.2.2) x2.ff) i2) (he F2)
          · have h4 : afterN X.K W σ F2 H2 (G (.obj c' fs :: ds)) Q := h3
            rw [hG] at h4
            cases z4 : dv ((.obj c' fs :: ds) ++ ed) with
            | ok d => rw [z4] at h4; exact h4
            | ex x => rw [z4] at h4; exact h4
            | st => rw [z4] at h4; exact h4
        · have hb : (c' == c) = false := beq_eq_false_iff_ne.mpr hc
          simp only [List.lookup, hb] at h2
          exact h2.elim
    | _ => exact h1.elim
  | false =>
    obtain ⟨ρ, F, r, h⟩ := (show tSem X.K F0 H0 m W (gMeth [(c, G)] mn go t) σ H Q from h)
    refine sem_bind (k := fun d => metD [(c, G)] mn d fun G => (t ρ).bind G) r h fun d v F1 H1 _ i1 r1 h1 => ?_
    cases d with
    | obj c' fs =>
      obtain ⟨a, dx, xs, rfl, ha, ik⟩ := i1.obj_inv
      have h2 : after X.K W σ F1 H1 (match fs.lookup mn with
        | some _ => .st
        | none => match List.lookup c' [(c, G)] with
          | some G => (t ρ).bind fun as => G (.obj c' fs :: as)
          | none => .st) Q := h1
      cases z : fs.lookup mn with
      | some _ => rw [z] at h2; exact h2.elim
      | none =>
        rw [z] at h2
        by_cases hc : c' = c
        · subst hc
          rw [List.lookup_cons_self] at h2
          refine ⟨a, dx, xs, rfl, r1.fh a _ ha, (isK_lookup ik).2 z, ?_⟩
          refine semA_bind (k := fun as => G (.obj c' fs :: as)) r1 h2 fun ds vs F2 H2 x2 i2 r2 h3 => ?_
          refine ⟨(.obj c' fs :: ds) ++ ed, F2, ?_, r2.fh, ?_⟩
          · exact IsL.append (.cons (.mono (.obj ha ik.1 ik.2.1 ik.2.2) x2.ff) i2) (he F2)
          · have h4 : after X.K W σ F2 H2 (G (.obj c' fs :: ds)) Q := h3
            rw [hG] at h4
            cases z4 : dv ((.obj c' fs :: ds) ++ ed) with
            | ok d => rw [z4] at h4; exact h4
            | ex x => rw [z4] at h4; exact h4
            | st => rw [z4] at h4; exact h4
        · have hb : (c' == c) = false := beq_eq_false_iff_ne.mpr hc
          simp only [List.lookup, hb] at h2
          exact h2.elim
    | _ => exact h1.elim
section
variable {mn c : Str} {apos : Pos} {pl : Sem Bool}
theorem d_meth1 (C : CalM X.prog X.w X.K X.mg X.base k c mn G) (hr : Room j X.A) (hj : k ≤ j) (tk : Takes X W) (ho : DE X F0 H0 m W o go) (ha : DA X F0 H0 m W (e :: es) t)
    (hst : starEach (e :: es) X.env = (false, eval e X.env) :: starEach es X.env) (hpl : (backTo pos (starEach es X.env)).any (·.1) = false)
    (ht : eval (.Call (.Attribute o mn apos) (e :: es) [] pos) X.env = (do
      let ov ← eval o X.env
      standAt apos.atName
      let (f, first) ← holding [ov] (getMethod ov mn pl)
      callWith pos f first (backTo pos (starEach (e :: es) X.env)) (backToKw pos (keywordEach [] X.env)))) : DE X F0 H0 m W (.Call (.Attribute o mn apos) (e :: es) [] pos) (gMeth [(c, G)] mn go t) := by
  obtain ⟨f, fd, ps, ds, dvs, dv, F, cl, hm, hb, hd, ed, he, hG⟩ := C.ex
  exact pe_imp (pe_methW ho cl hm F (hr.mono hj) hb hd (fun σ => passAt tk σ) ha hst hpl ht) fun σ H Q h => meth_sem (new := false) he hG σ H Q h
theorem n_meth1 (C : CalMN X.prog X.w X.K X.mg X.base k c mn G) (hr : Room j X.A) (hj : k ≤ j) (tk : Takes X W) (ho : DE X F0 H0 m W o go) (ha : DA X F0 H0 m W (e :: es) t)
    (hst : starEach (e :: es) X.env = (false, eval e X.env) :: starEach es X.env) (hpl : (backTo pos (starEach es X.env)).any (·.1) = false)
    (ht : eval (.Call (.Attribute o mn apos) (e :: es) [] pos) X.env = (do
      let ov ← eval o X.env
      standAt apos.atName
      let (f, first) ← holding [ov] (getMethod ov mn pl)
      callWith pos f first (backTo pos (starEach (e :: es) X.env)) (backToKw pos (keywordEach [] X.env)))) : DN X F0 H0 m W (.Call (.Attribute o mn apos) (e :: es) [] pos) (gMeth [(c, G)] mn go t) := by
  obtain ⟨f, fd, ps, ds, dvs, dv, F, cl, hm, hb, hd, ed, he, hG⟩ := C.ex
  exact pe_imp (pe_methW ho cl hm F (hr.mono hj) hb hd (fun σ => passAt tk σ) ha hst hpl ht) fun σ H Q h => meth_sem (new := true) he hG σ H Q h
theorem da_nil0 (σ : L2.St) (H : Hp) (Q : List V → Hp → Prop) (h : tSemA X.K F0 H0 m W aNil σ H Q) : tNil σ H Q := by
  obtain ⟨ρ, F, r, h⟩ := h
  exact h [] F H (.refl r.fh) .nil
theorem tMethW_imp {C : Addr} {sp : Sp} {dvs : List V} {E : L2.St → XK} {ta : TE} {t1 t2 : TA} (h : ∀ σ H Q, t1 σ H Q → t2 σ H Q) (mono : ∀ σ H (Q Q' : VK), (∀ v H', Q v H' → Q' v H') → ta σ H Q → ta σ H Q') (σ : L2.St) (H : Hp) (Q : VK) : tMethW C mn sp dvs E ta t1 σ H Q → tMethW C mn sp dvs E ta t2 σ H Q :=
  mono σ H _ _ fun v H' ⟨a, dx, fs, z1, z2, z3, z4⟩ => ⟨a, dx, fs, z1, z2, z3, h _ _ _ z4⟩
theorem tSem_mono (σ : L2.St) (H : Hp) (Q Q' : VK) (h : ∀ v H', Q v H' → Q' v H') : tSem X.K F0 H0 m W go σ H Q → tSem X.K F0 H0 m W go σ H Q' := fun ⟨ρ, F, r, q⟩ => by
  refine ⟨ρ, F, r, ?_⟩
  cases z : go ρ with
  | ok d => rw [z] at q; exact fun v F' H' x i => h _ _ (q v F' H' x i)
  | ex x => rw [z] at q; exact q
  | st => rw [z] at q; exact q
theorem d_meth0 (C : CalM X.prog X.w X.K X.mg X.base k c mn G) (hr : Room j X.A) (hj : k ≤ j) (tk : Takes X W) (ho : DE X F0 H0 m W o go)
    (ht : eval (.Call (.Attribute o mn apos) [] [] pos) X.env = (do
      let ov ← eval o X.env
      standAt apos.atName
      let (f, first) ← holding [ov] (getMethod ov mn pl)
      callWith pos f first (backTo pos (starEach [] X.env)) (backToKw pos (keywordEach [] X.env)))) : DE X F0 H0 m W (.Call (.Attribute o mn apos) [] [] pos) (gMeth [(c, G)] mn go aNil) := by
  obtain ⟨f, fd, ps, ds, dvs, dv, F, cl, hm, hb, hd, ed, he, hG⟩ := C.ex
  exact pe_imp (pe_methW0 ho cl hm F (hr.mono hj) hb hd (fun σ => passAt tk σ) ht) fun σ H Q h => tMethW_imp (fun σ H Q => da_nil0 σ H Q) (fun σ H Q Q' => tSem_mono σ H Q Q') σ H Q (meth_sem (new := false) he hG σ H Q h)
theorem n_meth0 (C : CalMN X.prog X.w X.K X.mg X.base k c mn G) (hr : Room j X.A) (hj : k ≤ j) (tk : Takes X W) (ho : DE X F0 H0 m W o go)
    (ht : eval (.Call (.Attribute o mn apos) [] [] pos) X.env = (do
      let ov ← eval o X.env
      standAt apos.atName
      let (f, first) ← holding [ov] (getMethod ov mn pl)
      callWith pos f first (backTo pos (starEach [] X.env)) (backToKw pos (keywordEach [] X.env)))) : DN X F0 H0 m W (.Call (.Attribute o mn apos) [] [] pos) (gMeth [(c, G)] mn go aNil) := by
  obtain ⟨f, fd, ps, ds, dvs, dv, F, cl, hm, hb, hd, ed, he, hG⟩ := C.ex
  exact pe_imp (pe_methW0 ho cl hm F (hr.mono hj) hb hd (fun σ => passAt tk σ) ht) fun σ H Q h => tMethW_imp (fun σ H Q => da_nil0 σ H Q) (fun σ H Q Q' => tSem_mono σ H Q Q') σ H Q (meth_sem (new := true) he hG σ H Q h)
end
theorem fm {α : Type} {p : α → Prop} {a : α} {l : List α} (h : p a) (t : ∀ x ∈ l, p x) : ∀ x ∈ a :: l, p x := List.forall_mem_cons.mpr ⟨h, t⟩
theorem fn0 {α : Type} {p : α → Prop} : ∀ x ∈ ([] : List α), p x := fun _ h => (nomatch h)
/-! ### raise C('..') -/
/-- what a class of exceptions without an __init__ of its own must have -/
structure ExcK (K : PySem.W.Frag) (mg : Str → Option Value) (x : Str) : Prop where
  q : PySem.W.excIn K (He.ga K x) He.veBase "ValueError.__new__" = true
  kC : PySem.W.keepIn K (.ref (He.ga K x)) = true
  sb : PySem.W.subIn K (.ref (He.ga K x)) (.type "BaseException") = some true
  ty : PySem.W.typeIn K (.ref (He.ga K x)) = some (.type "type")
  gC : mg x = some (.ref (He.ga K x))
abbrev ExcF (X : Cx) (x : Str) : Prop := ExcK X.K X.mg x
def sRaise (x : Str) : Rho → S := fun ρ => .ex ⟨x, []⟩ ρ
theorem s_raise {msg : Str} {i : Nat} {p2 pos' : Pos} (Fx : ExcF X x) (hc : X.calm = true) (tk : Takes X W) (hg : Gl X x := by rfl) (hdb : (x == ("__debug__" : Str)) = false := by decide) :
    DS X F0 H0 m m' mL W (.Raise (some (.Call (.Name x p) [.Constant (.str msg) i p2] [] pos')) none pos) (sRaise x) :=
  ps_imp (ps_raise hc tk (pmk_own F.excBase_ValueError Fx.q Fx.gC Fx.kC (raises_own Fx.sb Fx.ty) hg hdb)) fun E σ H ⟨ρ, F, r, h⟩ => by
    obtain ⟨F', r', s1⟩ := r.freeze
    exact h _ none σ F' H r' s1 ⟨rfl, fun z => absurd rfl z, fun _ => rfl⟩
/-! ### try: .. except C: .. -/
theorem Rep.nomask {K : PySem.W.Frag} {ρ : Rho} {σ : L2.St} {F H : Hp} (r : Rep K F0 H0 m ρ σ F H) (h1 : m.all (!·) = true) (h2 : m'.all (!·) = true) : Rep K F0 H0 m' ρ σ F H := by
  have nm : ∀ {m : List Bool}, m.all (!·) = true → ∀ i : Nat, m[i]? ≠ some true := fun h i z => by
    have := List.all_eq_true.mp h true (List.mem_of_getElem? z)
    cases this
  exact ⟨r.len, r.fh, r.f0, r.h0, r.new, fun i d a _ => r.val i d a (nm h1 i), fun i d _ b => absurd b (nm h2 i), fun i j p d e _ a => absurd a (nm h2 i), fun b hb => absurd (r.bor b hb).2.1 (nm h1 _)⟩
def noXS : S → S
  | .ex _ _ => .st
  | r => r
/-- which exceptions a clause catches -/
def sTry (tb : List (Str × Bool)) (s u : Rho → S) : Rho → S := fun ρ => match s ρ with
  | .ex x ρ1 => (match tb.lookup x.cls with
    | some true => noXS (u ρ1)
    | some false => .ex x ρ1
    | none => .st)
  | r => r
theorem afterS.noX {K : PySem.W.Frag} {Fb : Hp} {r : S} {E : Ends} (h : afterS K F0 H0 m' mL W Fb (noXS r) E) : afterS K F0 H0 m' mL W0 Fb r E := by
  cases r with
  | ex x ρ => exact h.elim
  | _ => exact h
/-- the class that a clause names, and what it catches -/
structure CatF (X : Cx) (x : Str) (c : Value) (tb : List (Str × Bool)) : Prop where
  nm : Names X x c
  ex : ∀ q ∈ tb, PySem.W.exmOne X.K (.ref (He.ga X.K q.1)) c = some q.2
theorem s_try_only {body suite : List Stmt} {b₀ : Stmt} {np pos' : Pos} {c : Value} {mh : List Bool} {tb : List (Str × Bool)} {s u : Rho → S} (hs : X.stack = X.env :: X.outer) (hf : X.env.frame = some X.env.locals) (Ct : CatF X x c tb) (tk : Takes X W) (h0 : F0.bor = [])
    (hb : ∀ (W : WX) (pn : List (Addr × Obj)) (xe : Value → Shared → Prop), Takes (X.tr pn xe) W → DSs (X.tr pn xe) F0 H0 m m' mL W body s) (hmh : mh.all (!·) = true)
    (hsu : ∀ (a : Addr) (pn : List (Addr × Obj)), DSs (X.suite a pn) F0 H0 mh m' mL W0 (b₀ :: suite) u) :
    DS X F0 H0 m m' mL W (.Try body [.ExceptHandler (some (.Name x np)) none (b₀ :: suite) pos'] [] [] pos) (sTry tb s u) := by
  refine ps_imp (ps_try_only (tb := fun W => tSemS X.K F0 H0 m m' mL W s) (ts := fun _ _ _ => tSemS X.K F0 H0 mh m' mL W0 u) hs hf Ct.nm tk (fun W pn xe t _ => hb W pn xe t) fun a oe cls d pn _ _ => hsu a _) fun E σ H ⟨ρ, F, r, h⟩ => ?_
  refine ⟨ρ, F, r, ?_⟩
  unfold sTry at h
  cases z : s ρ with
  | ex x1 ρ1 =>
    rw [z] at h
    intro cls od σ1 F1 H1 r1 s1 i1
    have h2 : afterS X.K F0 H0 m' mL W F (match tb.lookup x1.cls with
      | some true => noXS (u ρ1)
      | some false => .ex x1 ρ1
      | none => .st) E := h
    cases q : tb.lookup x1.cls with
    | none => rw [q] at h2; exact h2.elim
    | some b =>
      rw [q] at h2
      refine ⟨b, ?_, fun e a na => ?_, fun e => ?_⟩
      · rw [i1.1]
        exact Ct.ex _ (lookup_mem q)
      · subst e
        refine ⟨ρ1, F1, r1.nomask ?_ hmh, (afterS.noX h2).mono s1⟩
        unfold bmask
        rw [h0]
        rfl
      · subst e
        exact h2 cls od σ1 F1 H1 r1 s1 i1
  | nx _ => rw [z] at h; exact h
  | rt _ => rw [z] at h; exact h
  | rn _ => rw [z] at h; exact h
  | rm _ _ => rw [z] at h; exact h
  | bk _ => rw [z] at h; exact h
  | ct _ => rw [z] at h; exact h
  | st => rw [z] at h; exact h.elim
/-! ### C() of a class without __init__ -/
structure NewK (K : PySem.W.Frag) (mg : Str → Option Value) (x : Str) : Prop where
  mks : PySem.W.makesIn K (He.ga K x) = true
  ini : PySem.W.findIn K (.ref (He.ga K x)) "__init__" = some (some (.builtin "object.__init__"))
  kp : PySem.W.keepIn K (.ref (He.ga K x)) = true
  gC : mg x = some (.ref (He.ga K x))
abbrev NewF (X : Cx) (x : Str) : Prop := NewK X.K X.mg x
theorem run_make0 {C : Addr} {pins : List (Addr × Obj)} {σ : L2.St} {H : Hp} {s : Shared} {Q : VK} (hm : PySem.W.makesIn X.K C = true) (hi : PySem.W.findIn X.K (.ref C) "__init__" = some (some (.builtin "object.__init__"))) (I : Inv X pins σ H s)
    (h : ∀ x dx, H x = none → H dx = none → dx ≠ x → Q (.ref x) (upd (upd H dx (.own x)) x (.ins C dx []))) :
    wpAny (model X.prog X.w) X.A (call (.ref C) []) (EP X pins σ Q) X.xe s := by
  have hq := h (s.heap.objs.size + 1) s.heap.objs.size (I.hok.fresh (Nat.le_succ _)) (I.hok.fresh (Nat.le_refl _)) (Nat.ne_of_lt (Nat.lt_succ_self _))
  have I2 := Inv.made (C := C) I
  have Y := PySem.W.makes_of (M := model X.prog X.w) I.kIn hm
  have t1 : PySem.W.Looks (model X.prog X.w) ((s.heap.push PySem.W.emptyDict).push (PySem.W.instObj C s.heap.objs.size)) (typeOf (.ref (s.heap.objs.size + 1))) (.ref C) :=
    (PySem.W.Looks.ld (show ((s.heap.push PySem.W.emptyDict).push (PySem.W.instObj C s.heap.objs.size)).get? (s.heap.objs.size + 1) = some (PySem.W.instObj C s.heap.objs.size) from by
      have := Heap.get?_push_size (s.heap.push PySem.W.emptyDict) (o := PySem.W.instObj C s.heap.objs.size) rfl
      rwa [Heap.size_push] at this)).andThen .now
  have t2 : PySem.W.Looks (model X.prog X.w) ((s.heap.push PySem.W.emptyDict).push (PySem.W.instObj C s.heap.objs.size)) (isInstance (.ref (s.heap.objs.size + 1)) (.type "object")) true :=
    t1.andThen (Y.top.keeps fun b o e => Heap.get?_push_of_some _ (Heap.get?_push_of_some _ e))
  refine wpAny_call (make_map0 I.kIn hm hi (fun self => PySem.W.Looks.of_pure (PySem.W.oi_bind self)) ?_)
  refine codeAny_call_builtin PySem.W.oi_plain PySem.W.entry_oi (@PySem.W.check_slot (model X.prog X.w) _ _ _ "object.__init__" "object" "__init__" (.ref (s.heap.objs.size + 1)) [] [] _ PySem.W.oi_kind PySem.W.oi_split t2 (PySem.W.oi_args (.ref (s.heap.objs.size + 1))) ?_)
  rw [PySem.W.oi_run]
  exact wpAny_pure (And.intro rfl (show EP X pins σ Q (Value.ref (s.heap.objs.size + 1)) _ from ⟨V.ref (s.heap.objs.size + 1), _, I2, rfl, hq⟩))
def tMake0 (C : Addr) : TE := fun σ H Q => ∀ x dx, H x = none → H dx = none → dx ≠ x → Q (.ref x) (upd (upd H dx (.own x)) x (.ins C dx []))
theorem pe_new0' (Nf : NewF X x) (hg : Gl X x) (hdb : (x == ("__debug__" : Str)) = false := by decide) : PE X (.Call (.Name x p) [] [] pos) (tMake0 (He.ga X.K x)) := by
  refine ⟨fun pins s σ H Q I h => ?_⟩
  refine wpAny_Call_Name_kw (ld_glob I hg Nf.gC ?_ hdb)
  exact PySem.W.callWith_K0 I.kIn Nf.kp (run_make0 Nf.mks Nf.ini I h)
theorem n_new0 (Nf : NewF X x) (hg : Gl X x := by rfl) (hdb : (x == ("__debug__" : Str)) = false := by decide) : DN X F0 H0 m W (.Call (.Name x p) [] [] pos) (gC (.obj x [])) := by
  refine pe_imp (pe_new0' Nf hg hdb) fun σ H Q ⟨ρ, F, r, h⟩ => ?_
  intro y dx hy hdx ne
  have hy1 : upd H dx (.own y) y = none := by rw [upd_ne (Ne.symm ne)]; exact hy
  exact h y _ F _ ((Ext.laid' r.fh hdx).trans (Ext.laid' (r.fh.trans (same_upd hdx)) hy1)) upd_same ⟨rfl, rfl, fun i z d a _ => by simp at a, fun i z d a _ => by simp at a⟩ (r.fh.free hy) hy
end
end Pd

/-! Pd10: more of the built-ins: repetition, max, min, range by steps, {}, a place of a list stored -/
namespace Pd
open PySem PySem.Spec PyProof.Rows L2
section
variable {X : Cx} {K : PySem.W.Frag} {F0 : Bs} {H0 : Hp} {m m' mL : List Bool} {W : WX} {pos : Pos} {a b c e o : Expr} {es : List Expr} {g gi : Rho → R D} {t : Rho → R (List D)}
/-! ### text * int, tuple * int -/
def repS (s : Str) (k : Int) : Str := ⟨(List.replicate k.toNat s.cps).foldl (· ++ ·) #[]⟩
def rSmul : R2 := fun x y H Q => ∃ (s : Str) (k : Int), x = .str s ∧ y = .int k ∧ 2 ≤ k ∧ k ≤ 1000 ∧ 1 ≤ s.length ∧ s.length ≤ 1000 ∧ (repS s k).cps.size ≤ sizeLine ∧ Q (.str (repS s k)) H
theorem op_smul : OpR X (binaryOp .Mult) rSmul := by
  intro pins s σ H x y v u Q I rx ry h
  obtain ⟨z, k, rfl, rfl, h1, h2, h3, h4, h5, q⟩ := h
  obtain ⟨tx, rfl⟩ := rx
  obtain ⟨ty, rfl⟩ := ry
  have n1 : ¬ k < 1 := by omega
  have n2 : (k == 1 || z.length == 0) = false := by
    rw [Bool.or_eq_false_iff]
    exact ⟨beq_eq_false_iff_ne.mpr (by omega), beq_eq_false_iff_ne.mpr (by omega)⟩
  have hb : z.length * k.toNat ≤ 1000000 := by
    have : k.toNat ≤ 1000 := by omega
    calc z.length * k.toNat ≤ 1000 * 1000 := Nat.mul_le_mul h4 this
      _ = 1000000 := by decide
  refine PySem.P.mul_str ?_ (fun _ _ => ?_) (fun _ _ => ?_) ?_
  · rw [decide_eq_false (by omega), decide_eq_false (by omega)]
    rfl
  · have : (z.length : Int) * k ≤ 9223372036854775807 := by
      have e : (z.length : Int) * k = ((z.length * k.toNat : Nat) : Int) := by
        rw [Int.natCast_mul, Int.toNat_of_nonneg (by omega)]
      omega
    intro hc
    have h5 := (Int.le_ediv_iff_mul_le (show (0 : Int) < k by omega)).mpr (show (z.length : Int) * k ≤ 2 ^ 63 - 1 by omega)
    omega
  · refine decide_eq_false ?_
    rw [sizeLine_eq]
    omega
  · rw [if_neg n1, if_neg (by rw [n2]; exact Bool.false_ne_true)]
    exact ⟨h5, ⟨.str (repS z k), H, I.tok _, ⟨_, rfl⟩, q⟩⟩
def rMulX (K : PySem.W.Frag) : R2 := fun x y H Q => rI CMul (fun i j => .int (i * j)) x y H Q ∨ rSmul x y H Q ∨ rRepT K x y H Q
theorem op_mulXX : OpR X (binaryOp .Mult) (rMulX X.K) := op_mul.or (op_smul.or op_repT)
def repOk (k : Int) : Bool := decide (2 ≤ k) && decide (k ≤ 1000)
def mulXD : D → D → R D
  | .int i, .int j => mulD (.int i) (.int j)
  | .str s, .int k => if (repOk k && (decide (1 ≤ s.length) && (decide (s.length ≤ 1000) && decide ((repS s k).cps.size ≤ sizeLine)))) = true then .ok (.str (repS s k)) else .st
  | .tup ds, .int k => if (repOk k && (!ds.isEmpty && decide (ds.length ≤ 1000))) = true then .ok (.tup (List.replicate k.toNat ds).flatten) else .st
  | _, _ => .st
theorem isL_flat {F : Hp} {xs : List V} {ds : List D} (l : IsL K F xs ds) : ∀ n : Nat, IsL K F (List.replicate n xs).flatten (List.replicate n ds).flatten
  | 0 => .nil
  | n + 1 => by
    rw [List.replicate_succ, List.replicate_succ, List.flatten_cons, List.flatten_cons]
    exact l.append (isL_flat l n)
theorem o_mulX : OpD K mulXD (rMulX K) := by
  intro W σ F H d e v u Q s i j q
  cases d with
  | int x =>
    cases e with
    | int y => exact .inl (o_mul W σ F H (.int x) (.int y) v u Q s i j q)
    | _ => exact q.elim
  | str x =>
    cases e with
    | int y =>
      cases i
      cases j
      have q' : after K W σ F H (if (repOk y && (decide (1 ≤ x.length) && (decide (x.length ≤ 1000) && decide ((repS x y).cps.size ≤ sizeLine)))) = true then .ok (.str (repS x y)) else .st) Q := q
      by_cases hc : (repOk y && (decide (1 ≤ x.length) && (decide (x.length ≤ 1000) && decide ((repS x y).cps.size ≤ sizeLine)))) = true
      · rw [if_pos hc] at q'
        simp only [repOk, Bool.and_eq_true, decide_eq_true_eq] at hc
        exact .inr (.inl ⟨x, y, rfl, rfl, hc.1.1, hc.1.2, hc.2.1, hc.2.2.1, hc.2.2.2, after.now q' s (.str _)⟩)
      · rw [if_neg hc] at q'
        exact q'.elim
    | _ => exact q.elim
  | tup ds =>
    cases e with
    | int y =>
      obtain ⟨a, xs, rfl, h, l⟩ := i.tup_inv
      cases j
      have q' : after K W σ F H (if (repOk y && (!ds.isEmpty && decide (ds.length ≤ 1000))) = true then .ok (.tup (List.replicate y.toNat ds).flatten) else .st) Q := q
      by_cases hc : (repOk y && (!ds.isEmpty && decide (ds.length ≤ 1000))) = true
      · rw [if_pos hc] at q'
        simp only [repOk, Bool.and_eq_true, decide_eq_true_eq, Bool.not_eq_true', List.isEmpty_eq_false_iff] at hc
        refine .inr (.inr ⟨a, y, xs, rfl, rfl, sameT s h, fun z => ?_, hc.1.1, hc.1.2, by rw [l.1]; exact hc.2.2, fun p hp => ?_⟩)
        · have := l.1
          rw [z] at this
          exact hc.2.1 (List.length_eq_zero_iff.mp this.symm)
        · have x := Ext.laid (o := .tup (List.replicate y.toNat xs).flatten) s hp
          exact q' _ _ _ x (is_tup (.of upd_same) ((isL_flat l _).mono x.ff))
      · rw [if_neg hc] at q'
        exact q'.elim
    | _ => exact q.elim
  | _ => exact q.elim
/-! ### max, min of two ints -/
def maxD : List D → R D
  | [.int i, .int j] => .ok (.int (if j > i then j else i))
  | _ => .st
def minD : List D → R D
  | [.int i, .int j] => .ok (.int (if j < i then j else i))
  | _ => .st
theorem c_max : CallD K maxD (fun xs H Q => ∃ i j, xs = [.int i, .int j] ∧ Q (.int (if j > i then j else i)) H) := by
  intro W σ F H ds vs Q s l q
  match ds, l, q with
  | [.int i, .int j], l, q =>
    obtain ⟨v, u, rfl, z1, z2⟩ := two_of l
    cases z1
    cases z2
    exact ⟨i, j, rfl, after.now q s (.int _)⟩
theorem c_min : CallD K minD (fun xs H Q => ∃ i j, xs = [.int i, .int j] ∧ Q (.int (if j < i then j else i)) H) := by
  intro W σ F H ds vs Q s l q
  match ds, l, q with
  | [.int i, .int j], l, q =>
    obtain ⟨v, u, rfl, z1, z2⟩ := two_of l
    cases z1
    cases z2
    exact ⟨i, j, rfl, after.now q s (.int _)⟩
/-! ### range by steps -/
def rngC (lo c : Int) (n : Nat) : List D := (List.range n).map fun (k : Nat) => .int (lo + k * c)
theorem yl_rangeC {lo c : Int} {n : Nat} {F : Hp} : Yl K (Itc lo c n) (rngC lo c n) F := by
  intro i F1 H1 s1 s2
  have hl : (rngC lo c n).length = n := by unfold rngC; simp
  refine ⟨fun hi => ?_, fun hi => by rw [hl] at hi; exact hi⟩
  rw [hl] at hi
  refine ⟨hi, fun y H2 ⟨e, k⟩ => ?_⟩
  subst e k
  refine ⟨F1, .int (lo + i * c), ?_, .refl s2, .int _⟩
  unfold rngC
  rw [List.getElem?_map, List.getElem?_range hi]
  rfl
def rangeD3 : List D → R (List D)
  | [.int i, .int j, .int c] => if (decide (c ≠ 0) && (decide (c.natAbs < 1073741824) && (Builtin.Range.small i j c && decide (0 ≤ Builtin.Range.rangeSize i j c)))) = true then .ok (rngC i c (Builtin.Range.rangeSize i j c).toNat) else .st
  | _ => .st
theorem di_range3 {tg : Expr} {p : Pos} (hm : X.mg "range" = none) (ha : DA X F0 H0 m W [a, b, c] t) (hg : Gl X "range" := by rfl) (hs : starEach [a, b, c] X.env = (false, eval a X.env) :: starEach [b, c] X.env := by rfl) (hpl : (backTo pos (starEach [b, c] X.env)).any (·.1) = false := by rfl) : DI X F0 H0 m W tg (.Call (.Name "range" p) [a, b, c] [] pos) (iA rangeD3 t) := by
  refine pi_imp (pi_range3 hg hm ha hs hpl) fun σ H Q ⟨ρ, F, r, q⟩ => semA_I (f := rangeD3) r q fun ds vs F1 H1 _ l r1 q1 => ?_
  match ds, l, q1 with
  | [.int i, .int j, .int c], l, q1 =>
    obtain ⟨v, vr, rfl, z1, l2⟩ := l.uncons
    obtain ⟨u, w', rfl, z2, z3⟩ := two_of l2
    cases z1
    cases z2
    cases z3
    have q' : afterI X.K W σ F1 H1 (if (decide (c ≠ 0) && (decide (c.natAbs < 1073741824) && (Builtin.Range.small i j c && decide (0 ≤ Builtin.Range.rangeSize i j c)))) = true then .ok (rngC i c (Builtin.Range.rangeSize i j c).toNat) else .st) Q := q1
    by_cases hj : (decide (c ≠ 0) && (decide (c.natAbs < 1073741824) && (Builtin.Range.small i j c && decide (0 ≤ Builtin.Range.rangeSize i j c)))) = true
    · rw [if_pos hj] at q'
      simp only [Bool.and_eq_true, decide_eq_true_eq] at hj
      exact ⟨i, j, c, _, rfl, ⟨hj.1, hj.2.1, hj.2.2.1, (Int.toNat_of_nonneg hj.2.2.2).symm⟩, q' _ F1 H1 (.refl r1.fh) yl_rangeC⟩
    · rw [if_neg hj] at q'
      exact q'.elim
/-! ### {} -/
theorem n_dict0 : DN X F0 H0 m W (.Dict [] [] pos) (gC (.dict [])) :=
  pe_imp pe_dnewK fun σ H Q ⟨ρ, F, r, h⟩ => fun p hp => afterN.now h r.fh hp (show IsC _ _ (.dK []) (.dict []) from ⟨rfl, fun i x d a _ => by simp at a, fun i x d a _ => by simp at a⟩)
/-! ### x[i] = e, x the frame's own list -/
def sSetIx (i : Nat) (gi g : Rho → R D) : Rho → S := sE g fun ρ d => match ρ[i]? with
  | some (some (.list _)) => sE gi (fun ρ k => match ρ[i]?, k with
    | some (some (.list ds)), .int k => (match ixN ds.length k with
      | some j => .nx (ρ.set i (some (.list (ds.set j d))))
      | none => .st)
    | _, _ => .st) ρ
  | _ => .st
theorem IsL.set {F : Hp} {xs : List V} {ds : List D} {v : V} {d : D} (l : IsL K F xs ds) (h : Is K F v d) (j : Nat) : IsL K F (xs.set j v) (ds.set j d) := by
  refine ⟨by rw [List.length_set, List.length_set]; exact l.1, fun i x e a b => ?_⟩
  rcases getElem?_set_cases a with ⟨rfl, z, hl⟩ | ⟨hj, z⟩
  · rw [List.getElem?_set_self (by rw [← l.1]; exact hl)] at b
    cases b
    subst z
    exact h
  · rw [List.getElem?_set_ne (Ne.symm hj)] at b
    exact l.2 i x e z b
theorem s_setIx (i : Nat) {x : Str} {ix value : Expr} {p2 pos' : Pos} (hv : DE X F0 H0 m W value g) (hx : DE X F0 H0 m W ix gi) (hb : F0.mut i := by exact Bs.mut_of rfl) (hm : m[i]? = some true := by rfl) (hN : X.N[i]? = some x := by rfl) (hvis : Vis X.env.scope x := by first | exact Or.inl rfl | exact Or.inr (Or.inl rfl) | exact Or.inr (Or.inr rfl)) (hd : (x == ("__debug__" : Str)) = false := by decide)
    (hcd : (x == ("__classdict__" : Str)) = false := by decide) (hs : swapsWithSole [.Subscript (.Name x p2) ix pos'] value pos.line X.env = pure false := by rfl) (hw : swappedStores [.Subscript (.Name x p2) ix pos'] value X.env = pure none := by rfl)
    (h1 : (assignEach [.Subscript (.Name x p2) ix pos'] X.env).map (·.2) = [assign (.Subscript (.Name x p2) ix pos') X.env] := by rfl)
    (ha : ∀ v, assign (.Subscript (.Name x p2) ix pos') X.env v = (do
      let ov ← holding [v] (eval (.Name x p2) X.env)
      let iv ← holding [v, ov] (eval ix X.env)
      standAt pos'
      holding [v, ov, iv] (setItem ov iv v)
      release [v, ov, iv] []) := by intro _; rfl) : DS X F0 H0 m m mL W (.Assign [.Subscript (.Name x p2) ix pos'] value pos) (sSetIx i gi g) := by
  refine ps_imp (ps_asg hv (pg_sub (pe_var hN hvis hd hcd) hx set_list ha) hs hw h1) fun E σ H ⟨ρ, F, r, h⟩ => ?_
  refine semS (k := fun d => match ρ[i]? with
    | some (some (.list _)) => sE gi (fun ρ k => match ρ[i]?, k with
      | some (some (.list ds)), .int k => (match ixN ds.length k with
        | some j => .nx (ρ.set i (some (.list (ds.set j d))))
        | none => .st)
      | _, _ => .st) ρ
    | _ => .st) r h fun d v F1 H1 i1 r1 _ h1 => ?_
  split at h1
  · rename_i ds0 e1
    obtain ⟨p, o, z1, z2, z3, z4, z5⟩ := r1.own i _ e1 hm
    refine ⟨.ref p, z1, ?_⟩
    refine semS (k := fun k => match ρ[i]?, k with
      | some (some (.list ds)), .int k => (match ixN ds.length k with
        | some j => .nx (ρ.set i (some (.list (ds.set j d))))
        | none => .st)
      | _, _ => .st) r1 h1 fun k u F2 H2 i2 r2 x2 h2 => ?_
    split at h2
    · rename_i ds k' e2
      split at h2
      · rename_i j ej
        obtain ⟨p', o', y1, y2, y3, y4, y5⟩ := r2.own i _ e2 hm
        rw [z1] at y1
        cases y1
        cases i2
        cases o' with
        | lst xs' =>
          have l' : IsL X.K F2 xs' ds := y3
          exact ⟨p, xs', k', j, rfl, rfl, y2, by rw [l'.1]; exact ej, h2 σ F2 _ (r2.mut hb hm e2 z1 y4 y5 (show IsC _ _ (.lst (xs'.set j v)) (.list (ds.set j d)) from l'.set (i1.mono x2) j)) (.refl F2)⟩
        | _ => exact y3.elim
      · exact h2.elim
    · exact h2.elim
  · exact h1.elim
/-! ### list + list, a new one -/
def catD : D → D → R D
  | .list a, .list b => if a.length + b.length ≤ sizeLine then .ok (.list (a ++ b)) else .st
  | _, _ => .st
theorem n_cat {ga gb : Rho → R D} (ha : DE X F0 H0 m W a ga) (hb : DE X F0 H0 m W b gb) : DN X F0 H0 m W (.BinOp a .Add b pos) (g2 catD ga gb) := by
  refine pe_imp (pe_op op_catL ha hb) fun σ H Q ⟨ρ, F, r, h⟩ => ?_
  refine sem_bindN (k := fun x => (gb ρ).bind fun y => catD x y) r h fun d v F1 H1 x1 i1 r1 h1 => ?_
  refine sem_bindN (k := fun y => catD d y) r1 h1 fun d2 v2 F2 H2 x2 i2 r2 h2 => ?_
  cases d with
  | list ds =>
    cases d2 with
    | list es =>
      obtain ⟨p1, xs, rfl, q1, l1⟩ := (i1.mono x2.ff).list_inv
      obtain ⟨p2, ys, rfl, q2, l2⟩ := i2.list_inv
      have h3 : afterN X.K W σ F2 H2 (if ds.length + es.length ≤ sizeLine then .ok (.list (ds ++ es)) else .st) Q := h2
      by_cases hc : ds.length + es.length ≤ sizeLine
      · rw [if_pos hc] at h3
        exact ⟨p1, p2, xs, ys, rfl, rfl, r2.fh.seq q1, r2.fh.seq q2, by have := l1.1; have := l2.1; omega, fun p hp => afterN.now h3 r2.fh hp (show IsC _ _ (.lst (xs ++ ys)) (.list (ds ++ es)) from l1.append l2)⟩
      · rw [if_neg hc] at h3
        exact h3.elim
    | _ => exact h2.elim
  | _ => exact h2.elim
end
end Pd

/-! Pd11: try: .. except C as e: .., isinstance of the exception -/
namespace Pd
open PySem PySem.Spec PyProof.Rows L2
def dropS (i : Nat) : S → S
  | .nx ρ => .nx (ρ.set i none)
  | .bk ρ => .bk (ρ.set i none)
  | .ct ρ => .ct (ρ.set i none)
  | .rm _ _ => .st
  | .ex _ _ => .st
  | r => r
noncomputable def pick (f : Addr → S) : S := open Classical in if ∀ a, f a = f 0 then f 0 else .st
theorem pick_eq {f : Addr → S} {r : S} (h : ∀ a, f a = r) : pick f = r := by
  unfold pick
  rw [if_pos (fun a => (h a).trans (h 0).symm)]
  exact h 0
/-- the clause's suite by the exception; slot i is its name -/
noncomputable def sTryAs (tb : List (Str × Bool)) (i : Nat) (s : Rho → S) (u : Ex → Addr → Rho → S) : Rho → S := fun ρ => match s ρ with
  | .ex x ρ1 => (match tb.lookup x.cls with
    | some true => pick fun a => dropS i (u x a (ρ1.set i (some (.adr a))))
    | some false => .ex x ρ1
    | none => .st)
  | r => r
section
variable {X : Cx} {F0 : Bs} {H0 : Hp} {m m' mL : List Bool} {W : WX} {pos : Pos} {x : Str}
theorem s_try_as {body suite : List Stmt} {b₀ : Stmt} {np pos' : Pos} {n : Str} {c : Value} {mh : List Bool} {tb : List (Str × Bool)} {s : Rho → S} {u : Ex → Addr → Rho → S} (i : Nat) (hs : X.stack = X.env :: X.outer) (hf : X.env.frame = some X.env.locals) (hN : X.N.Nodup) (hi : X.N[i]? = some n) (hln : X.env.kindOf n = some .local) (Ct : CatF X x c tb) (tk : Takes X W) (h0 : F0.bor = [])
    (hb : ∀ (W : WX) (pn : List (Addr × Obj)) (xe : Value → Shared → Prop), Takes (X.tr pn xe) W → DSs (X.tr pn xe) F0 H0 m m' mL W body s) (hmh : mh.all (!·) = true)
    (hsu : ∀ (a : Addr) (oe : Obj) (x1 : Ex) (d : Option Addr) (pn : List (Addr × Obj)), Zc (.ref (He.ga X.K x1.cls)) d oe → (∃ vs, oe.data = .fields vs) → (x1.fs = [] → d = none) → tb.lookup x1.cls = some true → DSs (X.suite a ((a, oe) :: pn)) F0 H0 mh m' mL W0 (b₀ :: suite) (u x1 a)) :
    DS X F0 H0 m m' mL W (.Try body [.ExceptHandler (some (.Name x np)) (some n) (b₀ :: suite) pos'] [] [] pos) (sTryAs tb i s u) := by
  have ok : F0.ok i := fun b hb => by rw [h0] at hb; cases hb
  refine ps_imp (ps_try_as (tb := fun W => tSemS X.K F0 H0 m m' mL W s) (ts := fun a cls d => fun E σ H => ∃ x1 : Ex, cls = .ref (He.ga X.K x1.cls) ∧ (x1.fs = [] → d = none) ∧ tb.lookup x1.cls = some true ∧ tSemS X.K F0 H0 mh m' mL W0 (u x1 a) E σ H) hs hf hN hi hln Ct.nm tk (fun W pn xe t _ => hb W pn xe t)
    fun a oe cls d pn hz hd => ⟨fun pins s σ H E I ⟨x1, e1, e2, e3, h⟩ => (hsu a oe x1 d pn (e1 ▸ hz) hd e2 e3).run pins s σ H E I h⟩) fun E σ H ⟨ρ, F, r, h⟩ => ?_
  refine ⟨ρ, F, r, ?_⟩
  unfold sTryAs at h
  cases z : s ρ with
  | ex x1 ρ1 =>
    rw [z] at h
    intro cls od σ1 F1 H1 r1 s1 i1
    have h2 : afterS X.K F0 H0 m' mL W F (match tb.lookup x1.cls with
      | some true => pick fun a => dropS i (u x1 a (ρ1.set i (some (.adr a))))
      | some false => .ex x1 ρ1
      | none => .st) E := h
    cases q : tb.lookup x1.cls with
    | none => rw [q] at h2; exact h2.elim
    | some b =>
      rw [q] at h2
      refine ⟨b, ?_, fun e a na => ?_, fun e => ?_⟩
      · rw [i1.1]
        exact Ct.ex _ (lookup_mem q)
      · subst e
        refine ⟨x1, i1.1, i1.2.2, q, ρ1.set i (some (.adr a)), F1, ?_, ?_⟩
        · have r2 : Rep X.K F0 H0 [] ρ1 σ1 F1 H1 := r1.nomask (by unfold bmask; rw [h0]; rfl) rfl
          have r3 := (r2.set i ok (Is.adr (K := X.K) (H := F1) a))
          exact r3.nomask (by rfl) hmh
        · have h3 : afterS X.K F0 H0 m' mL W F (pick fun a => dropS i (u x1 a (ρ1.set i (some (.adr a))))) E := h2
          unfold pick at h3
          by_cases hall : ∀ a, (fun a => dropS i (u x1 a (ρ1.set i (some (.adr a))))) a = (fun a => dropS i (u x1 a (ρ1.set i (some (.adr a))))) 0
          · rw [if_pos hall, ← hall a] at h3
            have h4 := h3.mono s1
            cases z2 : u x1 a (ρ1.set i (some (.adr a))) with
            | nx ρ2 => simp only [z2, dropS] at h4; exact fun σ2 F2 H2 r2 x2 => h4 _ F2 H2 (r2.wipe1 i ok) x2
            | bk ρ2 => simp only [z2, dropS] at h4; exact fun σ2 F2 H2 r2 x2 => h4 _ F2 H2 (r2.wipe1 i ok) x2
            | ct ρ2 => simp only [z2, dropS] at h4; exact fun σ2 F2 H2 r2 x2 => h4 _ F2 H2 (r2.wipe1 i ok) x2
            | rt d => simp only [z2, dropS] at h4; exact h4
            | rn d => simp only [z2, dropS] at h4; exact h4
            | rm d ρ2 => simp only [z2, dropS] at h4; exact h4.elim
            | ex x2 ρ2 => simp only [z2, dropS] at h4; exact h4.elim
            | st => simp only [z2, dropS] at h4; exact h4.elim
          · rw [if_neg hall] at h3
            exact h3.elim
      · subst e
        exact h2 cls od σ1 F1 H1 r1 s1 i1
  | nx _ => rw [z] at h; exact h
  | rt _ => rw [z] at h; exact h
  | rn _ => rw [z] at h; exact h
  | rm _ _ => rw [z] at h; exact h
  | bk _ => rw [z] at h; exact h
  | ct _ => rw [z] at h; exact h
  | st => rw [z] at h; exact h.elim
/-! ### isinstance(e, C), isinstance(e, (C, D)) -/
/-- is the exception one of that class -/
def bIsE (i : Nat) (tb : List (Str × Bool)) (x : Ex) (a : Addr) : Rho → R Bool := fun ρ => match ρ[i]?, tb.lookup x.cls, x.fs with
  | some (some (.adr a')), some b, [] => if a' = a then .ok b else .st
  | _, _, _ => .st
theorem bIsE_cases (i : Nat) (tb : List (Str × Bool)) (x : Ex) (a : Addr) (ρ : Rho) : bIsE i tb x a ρ = .st ∨ ∃ b, bIsE i tb x a ρ = .ok b ∧ ρ[i]? = some (some (.adr a)) ∧ tb.lookup x.cls = some b ∧ x.fs = [] := by
  unfold bIsE
  split
  · rename_i a' b e1 e2 e3
    by_cases h : a' = a
    · subst h
      rw [if_pos rfl]
      exact .inr ⟨b, rfl, e1, e2, e3⟩
    · rw [if_neg h]
      exact .inl rfl
  · exact .inl rfl
/-- a class as the text names it: an own one, or a built-in type -/
inductive CN where
  | own (c : Str) | ty (n : String)
def CN.u (K : PySem.W.Frag) : CN → Value
  | .own c => .ref (He.ga K c)
  | .ty n => .type n
def CN.v (K : PySem.W.Frag) : CN → V
  | .own c => .ref (He.ga K c)
  | .ty n => .ty n
theorem CN.rel {K : PySem.W.Frag} (c : CN) {u : Value} (r : RelV (c.v K) u) : u = c.u K := by
  cases c with
  | own c => exact r
  | ty n => exact r
end
section
variable {X : Cx} {F0 : Bs} {H0 : Hp} {m : List Bool} {pos : Pos} {a : Addr} {oe : Obj} {pn : List (Addr × Obj)} {x1 : Ex} {d : Option Addr} {i : Nat} {c : Expr} {n : Str} {p p2 : Pos}
theorem t_isE (cn : CN) {tb : List (Str × Bool)} (C : ∀ q ∈ tb, ExcC X.K (He.ga X.K q.1) ∧ PySem.W.kitOne X.K (.ref (He.ga X.K q.1)) (cn.u X.K) = some q.2) (hz : Zc (.ref (He.ga X.K x1.cls)) d oe) (hd : ∃ vs, oe.data = .fields vs) (hn : x1.fs = [] → d = none)
    (hm : X.mg "isinstance" = none) (hc : PE (X.suite a ((a, oe) :: pn)) c (tC (cn.v X.K))) (hg : Gl X "isinstance" := by rfl) (hN : X.N[i]? = some n := by rfl) (hvis : Vis X.env.scope n := by first | exact Or.inl rfl | exact Or.inr (Or.inl rfl) | exact Or.inr (Or.inr rfl)) (hdb : (n == ("__debug__" : Str)) = false := by decide) (hcd : (n == ("__classdict__" : Str)) = false := by decide)
    (hs : starEach [.Name n p2, c] (X.suite a ((a, oe) :: pn)).env = (false, eval (.Name n p2) (X.suite a ((a, oe) :: pn)).env) :: starEach [c] (X.suite a ((a, oe) :: pn)).env := by rfl) (hs2 : starEach [c] (X.suite a ((a, oe) :: pn)).env = (false, eval c (X.suite a ((a, oe) :: pn)).env) :: starEach [] (X.suite a ((a, oe) :: pn)).env := by rfl)
    (hpl : (backTo pos (starEach [c] (X.suite a ((a, oe) :: pn)).env)).any (·.1) = false := by rfl) (ht : ∀ whole, isTrue (.Call (.Name "isinstance" p) [.Name n p2, c] [] pos) (X.suite a ((a, oe) :: pn)).env whole = (do let v ← whole; standAt (Expr.Call (.Name "isinstance" p) [.Name n p2, c] [] pos).pos; holding [v] (truthy v)) := by intro _; rfl) :
    DT (X.suite a ((a, oe) :: pn)) F0 H0 m W0 (.Call (.Name "isinstance" p) [.Name n p2, c] [] pos) (bIsE i tb x1 a) := by
  by_cases hfs : x1.fs = []
  case neg =>
    refine pt_imp (t := fun _ _ _ => False) ⟨fun _ _ _ _ _ _ h => h.elim⟩ fun σ H Q ⟨ρ, F, r, h⟩ => ?_
    rcases bIsE_cases i tb x1 a ρ with e | ⟨b, _, _, _, e⟩
    · rw [e] at h
      exact h
    · exact hfs e
  have hd0 := hn hfs
  subst hd0
  cases hb : tb.lookup x1.cls with
  | none =>
    refine pt_imp (t := fun _ _ _ => False) ⟨fun _ _ _ _ _ _ h => h.elim⟩ fun σ H Q ⟨ρ, F, r, h⟩ => ?_
    rcases bIsE_cases i tb x1 a ρ with e | ⟨b, _, _, e, _⟩
    · rw [e] at h
      exact h
    · rw [hb] at e
      cases e
  | some b =>
    obtain ⟨C1, C2⟩ := C _ (lookup_mem hb)
    refine pt_imp (pt_val (pe_callB (X := X.suite a ((a, oe) :: pn)) (call_isE (D := He.ga X.K x1.cls) C1 hz hd) hg hm (by decide +kernel) (pa_cons (pe_var hN hvis hdb hcd) (pa_cons hc pa_nil hs2) hs) (by decide) (by decide) hs hpl) ht) fun σ H Q ⟨ρ, F, r, h⟩ => ?_
    rcases bIsE_cases i tb x1 a ρ with e | ⟨b', e, e1, e2, _⟩
    · rw [e] at h
      exact h.elim
    · rw [hb] at e2
      cases e2
      rw [e] at h
      have nm : ∃ v, σ[i]? = some (some v) ∧ v = .ref a := by
        by_cases hmm : m[i]? = some true
        · obtain ⟨q, o, z1, z2, z3, z4, z5⟩ := r.own i _ e1 hmm
          cases o <;> exact z3.elim
        · obtain ⟨v, z1, z2⟩ := r.val i _ e1 hmm
          cases z2
          exact ⟨_, z1, rfl⟩
      obtain ⟨v, z1, rfl⟩ := nm
      exact ⟨.ref a, z1, cn.v X.K, cn.u X.K, b, rfl, fun u ru => cn.rel ru, C2, b, rfl, h F H (.refl r.fh)⟩
end
def rIsET (K : PySem.W.Frag) (D a : Addr) : List V → Hp → VK → Prop := fun xs H Q => ∃ (tp : Addr) (cs : List V) (us : List Value) (b : Bool), xs = [.ref a, .ref tp] ∧ H tp = some (.tup cs) ∧ Paired ClsV cs us ∧ PySem.W.kitAny K (.ref D) us = some b ∧ Q (.bl b) H
theorem call_isET {X : Cx} {a D : Addr} {oe : Obj} {pn : List (Addr × Obj)} (C : ExcC X.K D) (hz : Zc (.ref D) none oe) (hf : ∃ vs, oe.data = .fields vs) : CallR (X.suite a ((a, oe) :: pn)) (.builtin "isinstance") (rIsET X.K D a) := by
  intro pins s σ H xs us Q I r h
  obtain ⟨tp, cs, ws, b, rfl, hT, k, e, q⟩ := h
  obtain ⟨u1, u2, rfl, r1, r2⟩ := vals2 r
  cases (show u1 = Value.ref a from r1)
  cases (show u2 = Value.ref tp from r2)
  obtain ⟨hget, _⟩ := I.pin (a, oe) (List.mem_append.mpr (.inl List.mem_cons_self))
  obtain ⟨vs, hv⟩ := hf
  have J : PySem.W.InstAt s.heap a oe D none := by
    obtain ⟨oc, od, oda, osl⟩ := oe
    obtain ⟨h1, h2⟩ := hz
    dsimp only at h1 h2 hv
    subst h1 h2 hv
    exact ⟨hget, rfl, rfl, trivial⟩
  obtain ⟨_, its, rv, o, h1, h2, n, h3⟩ := (show ObjOk X.prog X.w H s.heap tp (.tup cs) from I.hok tp _ hT)
  have e3 := ClsV.all k rv
  subst e3
  obtain ⟨oc, od, dt, sl⟩ := o
  simp only at h2 h3
  subst h2 h3
  exact PySem.W.kia_tup (PySem.W.handS_kitx_exc C.hg C.hk C.hs C.hd C.ha C.hn C.ht C.hm) I.kIn J h1 e (fun z => nomatch z) fun tk => ⟨.bl b, H, I.kept (t' := tk) fun _ _ z => z, rfl, q⟩
section
variable {X : Cx} {F0 : Bs} {H0 : Hp} {m : List Bool} {pos : Pos} {a : Addr} {oe : Obj} {pn : List (Addr × Obj)} {x1 : Ex} {d : Option Addr} {i : Nat} {c1 c2 : Expr} {n : Str} {p p2 p3 : Pos} {kk : Nat}
theorem t_isE2 (cn1 cn2 : CN) {tb : List (Str × Bool)} (C : ∀ q ∈ tb, ExcC X.K (He.ga X.K q.1) ∧ PySem.W.kitAny X.K (.ref (He.ga X.K q.1)) [cn1.u X.K, cn2.u X.K] = some q.2) (hz : Zc (.ref (He.ga X.K x1.cls)) d oe) (hd : ∃ vs, oe.data = .fields vs) (hn : x1.fs = [] → d = none)
    (hm : X.mg "isinstance" = none) (hc1 : PE (X.suite a ((a, oe) :: pn)) c1 (tC (cn1.v X.K))) (hc2 : PE (X.suite a ((a, oe) :: pn)) c2 (tC (cn2.v X.K))) (hg : Gl X "isinstance" := by rfl) (hN : X.N[i]? = some n := by rfl) (hvis : Vis X.env.scope n := by first | exact Or.inl rfl | exact Or.inr (Or.inl rfl) | exact Or.inr (Or.inr rfl)) (hdb : (n == ("__debug__" : Str)) = false := by decide) (hcd : (n == ("__classdict__" : Str)) = false := by decide)
    (hs : starEach [.Name n p2, .Tuple [c1, c2] kk p3] (X.suite a ((a, oe) :: pn)).env = (false, eval (.Name n p2) (X.suite a ((a, oe) :: pn)).env) :: starEach [.Tuple [c1, c2] kk p3] (X.suite a ((a, oe) :: pn)).env := by rfl) (hs2 : starEach [.Tuple [c1, c2] kk p3] (X.suite a ((a, oe) :: pn)).env = (false, eval (.Tuple [c1, c2] kk p3) (X.suite a ((a, oe) :: pn)).env) :: starEach [] (X.suite a ((a, oe) :: pn)).env := by rfl)
    (hs3 : starEach [c1, c2] (X.suite a ((a, oe) :: pn)).env = (false, eval c1 (X.suite a ((a, oe) :: pn)).env) :: starEach [c2] (X.suite a ((a, oe) :: pn)).env := by rfl) (hs4 : starEach [c2] (X.suite a ((a, oe) :: pn)).env = (false, eval c2 (X.suite a ((a, oe) :: pn)).env) :: starEach [] (X.suite a ((a, oe) :: pn)).env := by rfl)
    (hpl : (backTo pos (starEach [.Tuple [c1, c2] kk p3] (X.suite a ((a, oe) :: pn)).env)).any (·.1) = false := by rfl) (ht : ∀ whole, isTrue (.Call (.Name "isinstance" p) [.Name n p2, .Tuple [c1, c2] kk p3] [] pos) (X.suite a ((a, oe) :: pn)).env whole = (do let v ← whole; standAt (Expr.Call (.Name "isinstance" p) [.Name n p2, .Tuple [c1, c2] kk p3] [] pos).pos; holding [v] (truthy v)) := by intro _; rfl) :
    DT (X.suite a ((a, oe) :: pn)) F0 H0 m W0 (.Call (.Name "isinstance" p) [.Name n p2, .Tuple [c1, c2] kk p3] [] pos) (bIsE i tb x1 a) := by
  by_cases hfs : x1.fs = []
  case neg =>
    refine pt_imp (t := fun _ _ _ => False) ⟨fun _ _ _ _ _ _ h => h.elim⟩ fun σ H Q ⟨ρ, F, r, h⟩ => ?_
    rcases bIsE_cases i tb x1 a ρ with e | ⟨b, _, _, _, e⟩
    · rw [e] at h
      exact h
    · exact hfs e
  have hd0 := hn hfs
  subst hd0
  have cv : ∀ cn : CN, ClsV (cn.v X.K) (cn.u X.K) := fun cn => by
    cases cn with
    | own c => constructor
    | ty n => constructor
  cases hb : tb.lookup x1.cls with
  | none =>
    refine pt_imp (t := fun _ _ _ => False) ⟨fun _ _ _ _ _ _ h => h.elim⟩ fun σ H Q ⟨ρ, F, r, h⟩ => ?_
    rcases bIsE_cases i tb x1 a ρ with e | ⟨b, _, _, e, _⟩
    · rw [e] at h
      exact h
    · rw [hb] at e
      cases e
  | some b =>
    obtain ⟨C1, C2⟩ := C _ (lookup_mem hb)
    refine pt_imp (pt_val (pe_callB (X := X.suite a ((a, oe) :: pn)) (call_isET (D := He.ga X.K x1.cls) C1 hz hd) hg hm (by decide +kernel) (pa_cons (pe_var hN hvis hdb hcd) (pa_cons (pe_tup (pa_cons hc1 (pa_cons hc2 pa_nil hs4) hs3)) pa_nil hs2) hs) (by decide) (by decide) hs hpl) ht) fun σ H Q ⟨ρ, F, r, h⟩ => ?_
    rcases bIsE_cases i tb x1 a ρ with e | ⟨b', e, e1, e2, _⟩
    · rw [e] at h
      exact h.elim
    · rw [hb] at e2
      cases e2
      rw [e] at h
      have nm : ∃ v, σ[i]? = some (some v) ∧ v = .ref a := by
        by_cases hmm : m[i]? = some true
        · obtain ⟨q, o, z1, z2, z3, z4, z5⟩ := r.own i _ e1 hmm
          cases o <;> exact z3.elim
        · obtain ⟨v, z1, z2⟩ := r.val i _ e1 hmm
          cases z2
          exact ⟨_, z1, rfl⟩
      obtain ⟨v, z1, rfl⟩ := nm
      refine ⟨.ref a, z1, by show ([cn1.v X.K, cn2.v X.K] : List V).length ≤ sizeLine; rw [sizeLine_eq]; simp, fun tp hp => ⟨tp, _, _, b, rfl, upd_same, .cons (cv cn1) (.cons (cv cn2) .nil), C2, b, rfl, ?_⟩⟩
      exact h F _ (Ext.laid' r.fh hp)
end
theorem excB_ok {K : PySem.W.Frag} {D : Addr} (h : excB K D = true) : ExcC K D := by
  obtain ⟨a, h⟩ := He.ba h
  obtain ⟨b, h⟩ := He.ba h
  obtain ⟨c, h⟩ := He.ba h
  obtain ⟨d, h⟩ := He.ba h
  obtain ⟨e, h⟩ := He.ba h
  obtain ⟨f, h⟩ := He.ba h
  obtain ⟨g, i⟩ := He.ba h
  exact ⟨He.eqO_ok a, He.eqO_ok b, of_decide_eq_true c, d, He.eqO_ok e, He.eqO_ok f, of_decide_eq_true g, of_decide_eq_true i⟩
end Pd

/-! Pd12: a dict is no text -/
namespace PySem.SeqAt
open PySem PySem.F
theorem dict_eq_declines_str (l : Addr) (es : Array DictEntry) (n : Nat) (dd : Option Addr) (sl : Array (Option Value)) (b : Str) (u : Tok) :
    Meets (Builtin.«dict.__eq__» ⟨[.ref l, .str b u], []⟩) (fun _ R s => s.heap.get? l = some { cls := .type "dict", dict := dd, data := .dict es n, slots := sl } ∧ R (.ok (.ret .notImplemented)) s) :=
  .of_wp fun prog w A R s h => by obtain ⟨hp, g, d, tk, os⟩ := s; obtain ⟨hl, h⟩ := h; have f1 := F.sub_str_dict; wp_walk using wpAny_loadPart' hl, wpAny_load hl; exact ⟨_, rfl, h⟩
theorem str_eq_declines_dict (b : Str) (u : Tok) (l : Addr) (c : Value) (es : Array DictEntry) (n : Nat) (dd : Option Addr) (sl : Array (Option Value)) :
    Meets (Builtin.«str.__eq__» ⟨[.str b u, .ref l], []⟩) (fun _ R s => s.heap.get? l = some { cls := c, dict := dd, data := .dict es n, slots := sl } ∧ R (.ok (.ret .notImplemented)) s) :=
  .of_wp fun prog w A R s h => by obtain ⟨hp, g, d, tk, os⟩ := s; obtain ⟨hl, h⟩ := h; wp_walk using wpAny_loadPart' hl, wpAny_load hl; exact ⟨_, rfl, h⟩
theorem dict_ne_declines_str (l : Addr) (es : Array DictEntry) (n : Nat) (dd : Option Addr) (sl : Array (Option Value)) (b : Str) (u : Tok) :
    Meets (Builtin.«dict.__ne__» ⟨[.ref l, .str b u], []⟩) (fun _ R s => s.heap.get? l = some { cls := .type "dict", dict := dd, data := .dict es n, slots := sl } ∧ R (.ok (.ret .notImplemented)) s) :=
  .of_wp fun prog w A R s h => by obtain ⟨hp, g, d, tk, os⟩ := s; obtain ⟨hl, h⟩ := h; have f1 := F.sub_str_dict; wp_walk using wpAny_loadPart' hl, wpAny_load hl; exact ⟨_, rfl, h⟩
theorem str_ne_declines_dict (b : Str) (u : Tok) (l : Addr) (c : Value) (es : Array DictEntry) (n : Nat) (dd : Option Addr) (sl : Array (Option Value)) :
    Meets (Builtin.«str.__ne__» ⟨[.str b u, .ref l], []⟩) (fun _ R s => s.heap.get? l = some { cls := c, dict := dd, data := .dict es n, slots := sl } ∧ R (.ok (.ret .notImplemented)) s) :=
  .of_wp fun prog w A R s h => by obtain ⟨hp, g, d, tk, os⟩ := s; obtain ⟨hl, h⟩ := h; wp_walk using wpAny_loadPart' hl, wpAny_load hl; exact ⟨_, rfl, h⟩
section
variable {A : Around} {s : Shared}
theorem RcAt.dict_str {l : Addr} {es : Array DictEntry} {n : Nat} {dd : Option Addr} {sl : Array (Option Value)} (b : Str) (u : Tok) (ho : s.heap.get? l = some { cls := .type "dict", dict := dd, data := .dict es n, slots := sl }) (hu : A.units < cLine) : RcAt A s (.ref l) (.str b u) false := fun prog w E Q h =>
  rc_eq_decline_or (k := false) ⟨_, ho, rfl⟩ (typeIs_str s b u) (by decide) F.sub_str_dict F.slot_dict_eq F.slot_str_eq_refl
    (fun _ hq => call_meets F.slot_dict_eq ⟨_, ho, rfl⟩ F.entry_dict_eq (F.args_dict_eq_2 _ _) (dict_eq_declines_str l es n dd sl b u) ⟨ho, hq⟩)
    (fun _ hq => call_meets F.slot_str_eq_refl (typeIs_str s b u) F.entry_str_eq (F.args_str_eq_2 _ _) (str_eq_declines_dict b u l (.type "dict") es n dd sl) ⟨ho, hq⟩)
    (fun _ hq => wpAny_of_eq (rfl : isSame (.ref l) (.str b u) = pure false) hq) (.inr hu) h
theorem RcAt.str_dict {l : Addr} {es : Array DictEntry} {n : Nat} {dd : Option Addr} {sl : Array (Option Value)} (b : Str) (u : Tok) (ho : s.heap.get? l = some { cls := .type "dict", dict := dd, data := .dict es n, slots := sl }) (hu : A.units < cLine) : RcAt A s (.str b u) (.ref l) false := fun prog w E Q h =>
  rc_eq_decline_or (k := false) (typeIs_str s b u) ⟨_, ho, rfl⟩ (by decide) F.sub_dict_str F.slot_str_eq F.slot_dict_eq_refl
    (fun _ hq => call_meets F.slot_str_eq (typeIs_str s b u) F.entry_str_eq (F.args_str_eq_2 _ _) (str_eq_declines_dict b u l (.type "dict") es n dd sl) ⟨ho, hq⟩)
    (fun _ hq => call_meets F.slot_dict_eq_refl ⟨_, ho, rfl⟩ F.entry_dict_eq (F.args_dict_eq_2 _ _) (dict_eq_declines_str l es n dd sl b u) ⟨ho, hq⟩)
    (fun _ hq => wpAny_of_eq (rfl : isSame (.str b u) (.ref l) = pure false) hq) (.inr hu) h
theorem RcNeAt.dict_str {l : Addr} {es : Array DictEntry} {n : Nat} {dd : Option Addr} {sl : Array (Option Value)} (b : Str) (u : Tok) (ho : s.heap.get? l = some { cls := .type "dict", dict := dd, data := .dict es n, slots := sl }) (hu : A.units < cLine) : RcNeAt A s (.ref l) (.str b u) true := fun prog w E Q h =>
  rc_ne_decline_or (k := false) ⟨_, ho, rfl⟩ (typeIs_str s b u) (by decide) F.sub_str_dict F.slot_dict_ne F.slot_str_ne_refl
    (fun _ hq => call_meets F.slot_dict_ne ⟨_, ho, rfl⟩ F.entry_dict_ne (F.args_dict_ne_2 _ _) (dict_ne_declines_str l es n dd sl b u) ⟨ho, hq⟩)
    (fun _ hq => call_meets F.slot_str_ne_refl (typeIs_str s b u) F.entry_str_ne (F.args_str_ne_2 _ _) (str_ne_declines_dict b u l (.type "dict") es n dd sl) ⟨ho, hq⟩)
    (fun _ hq => wpAny_of_eq (rfl : isSame (.ref l) (.str b u) = pure false) hq) (.inr hu) h
end
end PySem.SeqAt
namespace Pd
open PySem PySem.Spec PyProof.Rows L2
section
variable {X : Cx} {K : PySem.W.Frag}
def rEqDS : R2 := fun x y H Q => ∃ (a : Addr) (kvs : List (Key × V)) (s : Str), Rd H a (.dK kvs) ∧ ((x = .ref a ∧ y = .str s) ∨ (x = .str s ∧ y = .ref a)) ∧ Q (.bl false) H
def rNeDS : R2 := fun x y H Q => ∃ (a : Addr) (kvs : List (Key × V)) (s : Str), Rd H a (.dK kvs) ∧ (x = .ref a ∧ y = .str s) ∧ Q (.bl true) H
theorem dict_at {pins : List (Addr × Obj)} {σ : L2.St} {H : Hp} {s : Shared} {a : Addr} {kvs : List (Key × V)} (I : Inv X pins σ H s) (ha : Rd H a (.dK kvs)) : ∃ (es : Array DictEntry) (n : Nat) (dd : Option Addr) (sl : Array (Option Value)), s.heap.get? a = some { cls := .type "dict", dict := dd, data := .dict es n, slots := sl } := by
  rcases ha with ha | ⟨ob, ha⟩
  · obtain ⟨_, _, vs, _, o, es, ep, h1, h2, h3, _⟩ := (show ObjOk X.prog X.w H s.heap a (.dK kvs) from I.hok a _ ha)
    obtain ⟨oc, od, dt, sl⟩ := o
    obtain ⟨h4, h5⟩ := h2
    simp only at h3 h4 h5
    subst h3 h4
    exact ⟨es, ep, od, sl, h1⟩
  · obtain ⟨_, _, _, vs, _, o, es, ep, h1, h2, h3, _⟩ := (show ObjOk X.prog X.w H s.heap a (.frz ob (.dK kvs)) from I.hok a _ ha)
    obtain ⟨oc, od, dt, sl⟩ := o
    obtain ⟨h4, h5⟩ := h2
    simp only at h3 h4 h5
    subst h3 h4
    exact ⟨es, ep, od, sl, h1⟩
theorem op_eqDS (hu : X.A.units < cLine) : OpR X (compareOp .Eq) rEqDS := by
  intro pins s σ H x y v u Q I rx ry h
  obtain ⟨a, kvs, z, ha, hxy, q⟩ := h
  obtain ⟨es, ep, od, sl, h1⟩ := dict_at I ha
  rcases hxy with ⟨rfl, rfl⟩ | ⟨rfl, rfl⟩
  · cases (show v = Value.ref a from rx)
    obtain ⟨t, rfl⟩ := ry
    exact SeqAt.RcAt.dict_str z t h1 hu X.prog X.w _ _ ⟨.bl false, H, I, rfl, q⟩
  · cases (show u = Value.ref a from ry)
    obtain ⟨t, rfl⟩ := rx
    exact SeqAt.RcAt.str_dict z t h1 hu X.prog X.w _ _ ⟨.bl false, H, I, rfl, q⟩
theorem op_neDS (hu : X.A.units < cLine) : OpR X (compareOp .NotEq) rNeDS := by
  intro pins s σ H x y v u Q I rx ry h
  obtain ⟨a, kvs, z, ha, ⟨rfl, rfl⟩, q⟩ := h
  obtain ⟨es, ep, od, sl, h1⟩ := dict_at I ha
  cases (show v = Value.ref a from rx)
  obtain ⟨t, rfl⟩ := ry
  exact SeqAt.RcNeAt.dict_str z t h1 hu X.prog X.w _ _ ⟨.bl true, H, I, rfl, q⟩
/-! ### a tuple against the empty one -/
def rEqT0 (K : PySem.W.Frag) : R2 := fun x y H Q => ∃ (a b : Addr) (xs : List V), x = .ref a ∧ y = .ref b ∧ SqT K H a xs ∧ SqT K H b [] ∧ Q (.bl xs.isEmpty) H
def rNeT0 (K : PySem.W.Frag) : R2 := fun x y H Q => ∃ (a b : Addr) (xs : List V), x = .ref a ∧ y = .ref b ∧ SqT K H a xs ∧ SqT K H b [] ∧ Q (.bl (!xs.isEmpty)) H
theorem vals_nil {us : List Value} (r : Vals [] us) : us = [] := by cases r; rfl
theorem vals_empty {xs : List V} {us : List Value} (r : Vals xs us) : ((List.range (min us.toArray.size (#[] : Array Value).size)).all (fun _ => true) && us.toArray.size == (#[] : Array Value).size) = xs.isEmpty := by
  have l := r.length
  cases r with
  | nil => rfl
  | cons a b => simp
theorem op_eqT0 (hu : X.A.units < cLine) : OpR X (compareOp .Eq) (rEqT0 X.K) := by
  intro pins s σ H x y v u Q I rx ry h
  obtain ⟨a, b, xs, rfl, rfl, ha, hb, q⟩ := h
  cases (show v = Value.ref a from rx)
  cases (show u = Value.ref b from ry)
  obtain ⟨us, r1, p1, _⟩ := I.tuple ha
  obtain ⟨ws, r2, p2, _⟩ := I.tuple hb
  have e2 := vals_nil r2
  subst e2
  refine SeqAt.RcAt.tuples (e := fun _ => true) p1 p2 hu (fun j h1 h2 => absurd h2 (Nat.not_lt_zero j)) X.prog X.w _ _ ?_
  rw [vals_empty r1]
  exact ⟨.bl xs.isEmpty, H, I, rfl, q⟩
theorem op_neT0 (hu : X.A.units < cLine) : OpR X (compareOp .NotEq) (rNeT0 X.K) := by
  intro pins s σ H x y v u Q I rx ry h
  obtain ⟨a, b, xs, rfl, rfl, ha, hb, q⟩ := h
  cases (show v = Value.ref a from rx)
  cases (show u = Value.ref b from ry)
  obtain ⟨us, r1, p1, _⟩ := I.tuple ha
  obtain ⟨ws, r2, p2, _⟩ := I.tuple hb
  have e2 := vals_nil r2
  subst e2
  refine SeqAt.RcNeAt.tuples (e := fun _ => true) p1 p2 hu (fun j h1 h2 => absurd h2 (Nat.not_lt_zero j)) X.prog X.w _ _ ?_
  rw [vals_empty r1]
  exact ⟨.bl (!xs.isEmpty), H, I, rfl, q⟩
/-! ### ==, != with a dict against a text -/
def rEqX (K : PySem.W.Frag) : R2 := fun x y H Q => rEq2 K x y H Q ∨ (rEqDS x y H Q ∨ rEqT0 K x y H Q)
def rNeX (K : PySem.W.Frag) : R2 := fun x y H Q => rNe2 K x y H Q ∨ (rNeDS x y H Q ∨ rNeT0 K x y H Q)
theorem hu_le {A : Around} (h : A.units + 64 < cLine) : A.units < cLine := by omega
theorem op_eqX (hu : X.A.units + 64 < cLine) : OpR X (compareOp .Eq) (rEqX X.K) := (op_eq2 hu).or ((op_eqDS (hu_le hu)).or (op_eqT0 (hu_le hu)))
theorem op_neX (hu : X.A.units + 64 < cLine) : OpR X (compareOp .NotEq) (rNeX X.K) := (op_ne2 hu).or ((op_neDS (hu_le hu)).or (op_neT0 (hu_le hu)))
def isDS : D → D → Bool
  | .dict _, .str _ => true
  | .str _, .dict _ => true
  | _, _ => false
def isDS' : D → D → Bool
  | .dict _, .str _ => true
  | _, _ => false
def isT0 : D → D → Option Bool
  | .tup ds, .tup [] => some ds.isEmpty
  | _, _ => none
def eqXD (d e : D) : R D := match isT0 d e with
  | some b => .ok (.bl b)
  | none => if isDS d e = true then .ok (.bl false) else eqD d e
theorem isT0_ok {d e : D} {b : Bool} (h : isT0 d e = some b) : ∃ ds, d = .tup ds ∧ e = .tup [] ∧ b = ds.isEmpty := by
  unfold isT0 at h
  split at h
  · cases h; exact ⟨_, rfl, rfl, rfl⟩
  · cases h
theorem isL_emp {F : Hp} {xs : List V} {ds : List D} (l : IsL K F xs ds) : xs.isEmpty = ds.isEmpty := l.empty
def neXD (d e : D) : R D := match isT0 d e with
  | some b => .ok (.bl (!b))
  | none => if isDS' d e = true then .ok (.bl true) else neD d e
theorem rd_mono {F H : Hp} {a : Addr} {u : HO} (s : Same F H) (h : Rd F a u) : Rd H a u := sameR s h
theorem o_eqX : OpD K eqXD (rEqX K) := by
  intro W σ F H d e v u Q s i j q
  unfold eqXD at q
  cases zt : isT0 d e with
  | some b =>
    obtain ⟨ds, rfl, rfl, rfl⟩ := isT0_ok zt
    obtain ⟨a, xs, rfl, h1, l1⟩ := i.tup_inv
    obtain ⟨b, ys, rfl, h2, l2⟩ := j.tup_inv
    have e2 := l2.unnil
    subst e2
    rw [zt] at q
    refine .inr (.inr ⟨a, b, xs, rfl, rfl, sameT s h1, sameT s h2, ?_⟩)
    rw [isL_emp l1]
    exact after.now q s (.bl _)
  | none =>
  rw [zt] at q
  by_cases hz : isDS d e = true
  · rw [if_pos hz] at q
    cases d with
    | dict kvs =>
      cases e with
      | str y =>
        obtain ⟨a, xs, rfl, h, _⟩ := i.dict_inv
        cases j
        exact .inr (.inl ⟨a, xs, y, sameR s h, .inl ⟨rfl, rfl⟩, after.now q s (.bl _)⟩)
      | _ => cases hz
    | str y =>
      cases e with
      | dict kvs =>
        obtain ⟨a, xs, rfl, h, _⟩ := j.dict_inv
        cases i
        exact .inr (.inl ⟨a, xs, y, sameR s h, .inr ⟨rfl, rfl⟩, after.now q s (.bl _)⟩)
      | _ => cases hz
    | _ => cases hz
  · simp only [if_neg hz] at q
    exact .inl (o_eq W σ F H d e v u Q s i j q)
theorem o_neX : OpD K neXD (rNeX K) := by
  intro W σ F H d e v u Q s i j q
  unfold neXD at q
  cases zt : isT0 d e with
  | some b =>
    obtain ⟨ds, rfl, rfl, rfl⟩ := isT0_ok zt
    obtain ⟨a, xs, rfl, h1, l1⟩ := i.tup_inv
    obtain ⟨b, ys, rfl, h2, l2⟩ := j.tup_inv
    have e2 := l2.unnil
    subst e2
    rw [zt] at q
    refine .inr (.inr ⟨a, b, xs, rfl, rfl, sameT s h1, sameT s h2, ?_⟩)
    rw [isL_emp l1]
    exact after.now q s (.bl _)
  | none =>
  rw [zt] at q
  by_cases hz : isDS' d e = true
  · rw [if_pos hz] at q
    cases d with
    | dict kvs =>
      cases e with
      | str y =>
        obtain ⟨a, xs, rfl, h, _⟩ := i.dict_inv
        cases j
        exact .inr (.inl ⟨a, xs, y, sameR s h, ⟨rfl, rfl⟩, after.now q s (.bl _)⟩)
      | _ => cases hz
    | _ => cases hz
  · simp only [if_neg hz] at q
    exact .inl (o_ne W σ F H d e v u Q s i j q)
end
end Pd

/-! Pq1: data with numbers of objects that may yet change (flag true), a memory of what they hold; the state; expressions -/
namespace Pd
open PySem PySem.Spec PyProof.Rows L2
/-! ### addresses for numbers -/
mutual
def D.sub (A : List Addr) : D → D
  | .non => .non
  | .bl b => .bl b
  | .int i => .int i
  | .str s => .str s
  | .list xs => .list (D.subAll A xs)
  | .tup xs => .tup (D.subAll A xs)
  | .dict kvs => .dict (D.subK A kvs)
  | .dictT kvs => .dictT (D.subT A kvs)
  | .obj c fs => .obj c (D.subF A fs)
  | .loc k => match A[k]? with
    | some a => .adr a
    | none => .loc k
  | .adr a => .adr a
def D.subAll (A : List Addr) : List D → List D
  | [] => []
  | d :: ds => D.sub A d :: D.subAll A ds
def D.subK (A : List Addr) : List (Key × D) → List (Key × D)
  | [] => []
  | (k, d) :: ds => (k, D.sub A d) :: D.subK A ds
def D.subT (A : List Addr) : List (List Key × D) → List (List Key × D)
  | [] => []
  | (k, d) :: ds => (k, D.sub A d) :: D.subT A ds
def D.subF (A : List Addr) : List (Str × D) → List (Str × D)
  | [] => []
  | (k, d) :: ds => (k, D.sub A d) :: D.subF A ds
end
theorem subAll_map (A : List Addr) : ∀ ds : List D, D.subAll A ds = ds.map (D.sub A)
  | [] => rfl
  | d :: ds => congrArg (D.sub A d :: ·) (subAll_map A ds)
theorem subK_map (A : List Addr) : ∀ ds : List (Key × D), D.subK A ds = ds.map fun q => (q.1, q.2.sub A)
  | [] => rfl
  | d :: ds => congrArg ((d.1, D.sub A d.2) :: ·) (subK_map A ds)
theorem subT_map (A : List Addr) : ∀ ds : List (List Key × D), D.subT A ds = ds.map fun q => (q.1, q.2.sub A)
  | [] => rfl
  | d :: ds => congrArg ((d.1, D.sub A d.2) :: ·) (subT_map A ds)
theorem subF_map (A : List Addr) : ∀ ds : List (Str × D), D.subF A ds = ds.map fun q => (q.1, q.2.sub A)
  | [] => rfl
  | d :: ds => congrArg ((d.1, D.sub A d.2) :: ·) (subF_map A ds)
section
variable {K : PySem.W.Frag} {F F' : Hp} {κ : Type}
theorem IsK.nil : IsK (κ := κ) K F [] [] := ⟨rfl, fun i x d a _ => by simp at a, fun i x d a _ => by simp at a⟩
theorem IsK.cons {k : κ} {x : V} {d : D} {xs : List (κ × V)} {ds : List (κ × D)} (h : Is K F x d) (t : IsK K F xs ds) : IsK K F ((k, x) :: xs) ((k, d) :: ds) := by
  refine ⟨by simp [t.1], fun i y e a b => ?_, fun i y e a b => ?_⟩
  · cases i with
    | zero => simp at a b; subst a; subst b; rfl
    | succ i => exact t.2.1 i y e (by simpa using a) (by simpa using b)
  · cases i with
    | zero => simp at a b; subst a; subst b; exact h
    | succ i => exact t.2.2 i y e (by simpa using a) (by simpa using b)
theorem IsK.uncons {k : κ} {d : D} {xs : List (κ × V)} {ds : List (κ × D)} (h : IsK K F xs ((k, d) :: ds)) : ∃ x xr, xs = (k, x) :: xr ∧ Is K F x d ∧ IsK K F xr ds := by
  obtain ⟨l, e1, e2⟩ := h
  cases xs with
  | nil => simp at l
  | cons y xr =>
    obtain ⟨k', x⟩ := y
    obtain rfl : k' = k := e1 0 (k', x) (k, d) rfl rfl
    exact ⟨x, xr, rfl, e2 0 _ (k', d) rfl rfl, by simpa using l, fun i y z a b => e1 (i + 1) y z (by simpa using a) (by simpa using b), fun i y z a b => e2 (i + 1) y z (by simpa using a) (by simpa using b)⟩
theorem IsK.unnil {xs : List (κ × V)} (h : IsK (κ := κ) K F xs []) : xs = [] := by
  have l := h.1
  cases xs with
  | nil => rfl
  | cons _ _ => simp at l
end
mutual
theorem is_sub {K : PySem.W.Frag} {F : Hp} {A t : List Addr} : ∀ (d : D) (v : V), Is K F v (d.sub A) → Is K F v (d.sub (A ++ t))
  | .non, _, h => h
  | .bl _, _, h => h
  | .int _, _, h => h
  | .str _, _, h => h
  | .adr _, _, h => h
  | .list xs, v, h => by
    obtain ⟨a, ys, rfl, hs, l⟩ := (show Is K F v (.list (D.subAll A xs)) from h).list_inv
    exact is_list hs (isL_sub xs ys l)
  | .tup xs, v, h => by
    obtain ⟨a, ys, rfl, hs, l⟩ := (show Is K F v (.tup (D.subAll A xs)) from h).tup_inv
    exact is_tup hs (isL_sub xs ys l)
  | .dict xs, v, h => by
    obtain ⟨a, ys, rfl, hs, l⟩ := (show Is K F v (.dict (D.subK A xs)) from h).dict_inv
    have l2 := isK_sub (t := t) xs ys l
    exact .dict hs l2.1 l2.2.1 l2.2.2
  | .dictT xs, v, h => by
    cases (show Is K F v (.dictT (D.subT A xs)) from h) with
    | dictT hs l1 l2 l3 =>
      have l2 := isT_sub (t := t) xs _ ⟨l1, l2, l3⟩
      exact .dictT hs l2.1 l2.2.1 l2.2.2
  | .obj c xs, v, h => by
    obtain ⟨a, dx, ys, rfl, hs, l⟩ := (show Is K F v (.obj c (D.subF A xs)) from h).obj_inv
    have l2 := isF_sub (t := t) xs ys l
    exact .obj hs l2.1 l2.2.1 l2.2.2
  | .loc k, v, h => by
    have h' : Is K F v (match A[k]? with | some a => .adr a | none => .loc k) := h
    show Is K F v (match (A ++ t)[k]? with | some a => .adr a | none => .loc k)
    cases e : A[k]? with
    | none => rw [e] at h'; cases h'
    | some a =>
      rw [e] at h'
      rw [List.getElem?_append_left (List.getElem?_eq_some_iff.mp e).1, e]
      exact h'
theorem isL_sub {K : PySem.W.Frag} {F : Hp} {A t : List Addr} : ∀ (ds : List D) (vs : List V), IsL K F vs (D.subAll A ds) → IsL K F vs (D.subAll (A ++ t) ds)
  | [], vs, h => h
  | d :: ds, vs, h => by
    obtain ⟨x, xr, rfl, i, l⟩ := (show IsL K F vs (D.sub A d :: D.subAll A ds) from h).uncons
    exact .cons (is_sub d x i) (isL_sub ds xr l)
theorem isK_sub {K : PySem.W.Frag} {F : Hp} {A t : List Addr} : ∀ (ds : List (Key × D)) (vs : List (Key × V)), IsK K F vs (D.subK A ds) → IsK K F vs (D.subK (A ++ t) ds)
  | [], vs, h => h
  | (k, d) :: ds, vs, h => by
    obtain ⟨x, xr, rfl, i, l⟩ := (show IsK K F vs ((k, D.sub A d) :: D.subK A ds) from h).uncons
    exact .cons (is_sub d x i) (isK_sub ds xr l)
theorem isT_sub {K : PySem.W.Frag} {F : Hp} {A t : List Addr} : ∀ (ds : List (List Key × D)) (vs : List (List Key × V)), IsK K F vs (D.subT A ds) → IsK K F vs (D.subT (A ++ t) ds)
  | [], vs, h => h
  | (k, d) :: ds, vs, h => by
    obtain ⟨x, xr, rfl, i, l⟩ := (show IsK K F vs ((k, D.sub A d) :: D.subT A ds) from h).uncons
    exact .cons (is_sub d x i) (isT_sub ds xr l)
theorem isF_sub {K : PySem.W.Frag} {F : Hp} {A t : List Addr} : ∀ (ds : List (Str × D)) (vs : List (Str × V)), IsK K F vs (D.subF A ds) → IsK K F vs (D.subF (A ++ t) ds)
  | [], vs, h => h
  | (k, d) :: ds, vs, h => by
    obtain ⟨x, xr, rfl, i, l⟩ := (show IsK K F vs ((k, D.sub A d) :: D.subF A ds) from h).uncons
    exact .cons (is_sub d x i) (isF_sub ds xr l)
end
/-! ### data with a flag -/
/-- true: there may be numbers in it -/
abbrev P := Bool × D
def P.at (A : List Addr) (p : P) : D := match p.1 with
  | true => p.2.sub A
  | false => p.2
abbrev RhoQ := List (Option P)
abbrev Mem := List P
theorem P.mono {K : PySem.W.Frag} {F F' : Hp} {A t : List Addr} {v : V} {p : P} (h : Is K F v (p.at A)) (s : Same F F') : Is K F' v (p.at (A ++ t)) := by
  obtain ⟨b, d⟩ := p
  cases b with
  | false => exact Is.mono (show Is K F v d from h) s
  | true => exact (is_sub d v h).mono s
theorem isC_sub {K : PySem.W.Frag} {F : Hp} {A t : List Addr} {o : HO} : ∀ (d : D), IsC K F o (d.sub A) → IsC K F o (d.sub (A ++ t))
  | .list xs, h => by cases o <;> first | exact isL_sub xs _ h | exact h.elim
  | .dict xs, h => by cases o <;> first | exact isK_sub xs _ h | exact h.elim
  | .dictT xs, h => by cases o <;> first | exact isT_sub xs _ h | exact h.elim
  | .obj c xs, h => by cases o <;> first | exact ⟨h.1, isF_sub xs _ h.2⟩ | exact h.elim
  | .non, h => by cases o <;> exact h.elim
  | .bl _, h => by cases o <;> exact h.elim
  | .int _, h => by cases o <;> exact h.elim
  | .str _, h => by cases o <;> exact h.elim
  | .tup _, h => by cases o <;> exact h.elim
  | .adr _, h => by cases o <;> exact h.elim
  | .loc k, h => by
    have h' : IsC K F o (match A[k]? with | some a => .adr a | none => .loc k) := h
    split at h' <;> cases o <;> exact h'.elim
theorem P.monoC {K : PySem.W.Frag} {F F' : Hp} {A t : List Addr} {o : HO} {p : P} (h : IsC K F o (p.at A)) (s : Same F F') : IsC K F' o (p.at (A ++ t)) := by
  obtain ⟨b, d⟩ := p
  cases b with
  | false => exact IsC.mono (show IsC K F o d from h) s
  | true => exact (isC_sub d h).mono s
/-- what stands at the numbers -/
structure Cells (K : PySem.W.Frag) (F H : Hp) (A : List Addr) (M : Mem) : Prop where
  fh : Same F H
  len : A.length = M.length
  nd : A.Nodup
  dj : ∀ a ∈ A, F a = none
  at_ : ∀ (k : Nat) p, M[k]? = some p → ∃ a o, A[k]? = some a ∧ H a = some o ∧ IsC K F o (p.at A)
/-- from an earlier state to a later one -/
structure ExtQ (F H : Hp) (A : List Addr) (F' H' : Hp) (A' : List Addr) : Prop where
  ff : Same F F'
  pre : ∃ t, A' = A ++ t
  hh : ∀ a o, H a = some o → a ∉ A → H' a = some o
  nw : ∀ p, H p ≠ none → F p = none → p ∉ A → F' p = none ∧ p ∉ A'
section
variable {K : PySem.W.Frag} {F H F1 H1 F2 H2 : Hp} {A A1 A2 : List Addr} {M M1 : Mem}
theorem ExtQ.refl : ExtQ F H A F H A := ⟨.refl _, ⟨[], by simp⟩, fun _ _ h _ => h, fun p _ f n => ⟨f, n⟩⟩
theorem ExtQ.trans (a : ExtQ F H A F1 H1 A1) (c : Cells K F1 H1 A1 M1) (b : ExtQ F1 H1 A1 F2 H2 A2) : ExtQ F H A F2 H2 A2 := by
  obtain ⟨t, e⟩ := a.pre
  obtain ⟨u, e2⟩ := b.pre
  have out : ∀ p o, H p = some o → p ∉ A → p ∉ A1 := fun p o h n => by
    cases z : F p with
    | none => exact (a.nw p (by rw [h]; simp) z n).2
    | some o' =>
      intro m
      have := c.dj p m
      rw [a.ff p o' z] at this
      cases this
  refine ⟨a.ff.trans b.ff, ⟨t ++ u, by rw [e2, e, List.append_assoc]⟩, fun p o h n => b.hh p o (a.hh p o h n) (out p o h n), fun p h f n => ?_⟩
  obtain ⟨f1, n1⟩ := a.nw p h f n
  refine b.nw p (fun z => ?_) f1 n1
  cases q : H p with
  | none => exact h q
  | some o => rw [a.hh p o q n] at z; cases z
/-- a pure step -/
theorem ExtQ.pure (c : Cells K F H A M) (x : Ext F H F1 H1) : ExtQ F H A F1 H1 A ∧ Cells K F1 H1 A M := by
  have inH : ∀ a ∈ A, H a ≠ none := fun a m z => by
    obtain ⟨k, hk⟩ := List.mem_iff_getElem?.mp m
    obtain ⟨p, hp⟩ : ∃ p, M[k]? = some p := by
      have : k < M.length := by rw [← c.len]; exact (List.getElem?_eq_some_iff.mp hk).1
      exact ⟨M[k], by simp [this]⟩
    obtain ⟨a', o, e1, e2, _⟩ := c.at_ k p hp
    rw [hk] at e1
    cases e1
    rw [z] at e2
    cases e2
  refine ⟨⟨x.ff, ⟨[], by simp⟩, fun a o h _ => x.hh a o h, fun p h f n => ⟨x.nw p h f, n⟩⟩, x.fh, c.len, c.nd, fun a m => x.nw a (inH a m) (c.dj a m), fun k p hp => ?_⟩
  obtain ⟨a, o, e1, e2, e3⟩ := c.at_ k p hp
  refine ⟨a, o, e1, x.hh a o e2, ?_⟩
  have := P.monoC (t := []) e3 x.ff
  rwa [List.append_nil] at this
/-- a new object, that may change -/
theorem ExtQ.alloc {p : Addr} {o : HO} {q : P} (c : Cells K F H A M) (h : H p = some o) (f : F p = none) (n : p ∉ A) (i : IsC K F o (q.at A)) : Cells K F H (A ++ [p]) (M ++ [q]) := by
  refine ⟨c.fh, by simp [c.len], ?_, fun a m => ?_, fun k z hz => ?_⟩
  · rw [List.nodup_append]
    exact ⟨c.nd, by simp, fun a ha b hb => by simp at hb; subst hb; exact fun e => n (e ▸ ha)⟩
  · rcases List.mem_append.mp m with m | m
    · exact c.dj a m
    · simp at m; subst m; exact f
  · by_cases hk : k < M.length
    · rw [List.getElem?_append_left hk] at hz
      obtain ⟨a, o', e1, e2, e3⟩ := c.at_ k z hz
      exact ⟨a, o', by rw [List.getElem?_append_left (by rw [c.len]; exact hk)]; exact e1, e2, P.monoC e3 (.refl F)⟩
    · rw [List.getElem?_append_right (by omega)] at hz
      have hk2 : k - M.length = 0 := by
        have := (List.getElem?_eq_some_iff.mp hz).1
        simp at this
        omega
      rw [hk2] at hz
      cases hz
      refine ⟨p, o, ?_, h, P.monoC i (.refl F)⟩
      rw [List.getElem?_append_right (by rw [c.len]; omega), c.len, hk2]
      rfl
/-- an object changes -/
theorem ExtQ.put {k : Nat} {a : Addr} {o : HO} {q : P} (c : Cells K F H A M) (ha : A[k]? = some a) (i : IsC K F o (q.at A)) : ExtQ F H A F (upd H a o) A ∧ Cells K F (upd H a o) A (M.set k q) := by
  have mA : a ∈ A := List.mem_iff_getElem?.mpr ⟨k, ha⟩
  have nzA : ∀ b : Addr, b ∉ A → b ≠ a := fun b nb z => nb (by rw [z]; exact mA)
  refine ⟨⟨.refl _, ⟨[], by simp⟩, fun b u e nb => by rw [upd_ne (nzA b nb)]; exact e, fun p _ f n => ⟨f, n⟩⟩, fun b u e => ?_, by simp [c.len], c.nd, c.dj, fun j z hz => ?_⟩
  · have nz : b ≠ a := fun z => by
      rw [z, c.dj a mA] at e
      cases e
    rw [upd_ne nz]
    exact c.fh b u e
  · rcases getElem?_set_cases hz with ⟨rfl, e, hl⟩ | ⟨hj, e⟩
    · cases e
      exact ⟨a, o, ha, upd_same, i⟩
    · obtain ⟨b, u, e1, e2, e3⟩ := c.at_ j z e
      refine ⟨b, u, e1, ?_, e3⟩
      have nz : b ≠ a := fun w => hj (by
        subst w
        have l1 := (List.getElem?_eq_some_iff.mp e1)
        have l2 := (List.getElem?_eq_some_iff.mp ha)
        exact (List.getElem_inj c.nd).mp (l1.2.trans l2.2.symm))
      rw [upd_ne nz]
      exact e2
end
/-! ### the state -/
structure QB where
  F : Hp
  H : Hp
  A : List Addr
structure RepQ (K : PySem.W.Frag) (B : QB) (ρ : RhoQ) (M : Mem) (σ : L2.St) (F H : Hp) (A : List Addr) : Prop where
  len : σ.length = ρ.length
  cl : Cells K F H A M
  ext : ExtQ B.F B.H B.A F H A
  val : ∀ (i : Nat) p, ρ[i]? = some (some p) → ∃ v, σ[i]? = some (some v) ∧ Is K F v (p.at A)
theorem RepQ.to {K : PySem.W.Frag} {B : QB} {ρ : RhoQ} {M M' : Mem} {σ : L2.St} {F H F' H' : Hp} {A A' : List Addr} (r : RepQ K B ρ M σ F H A) (x : ExtQ F H A F' H' A') (c : Cells K F' H' A' M') : RepQ K B ρ M' σ F' H' A' := by
  refine ⟨r.len, c, r.ext.trans r.cl x, fun i p h => ?_⟩
  obtain ⟨v, e, h⟩ := r.val i p h
  obtain ⟨t, rfl⟩ := x.pre
  exact ⟨v, e, P.mono h x.ff⟩
/-- what of the slots is without numbers -/
def clR (ρ : RhoQ) : Rho := ρ.map fun
  | some (false, d) => some d
  | _ => none
theorem RepQ.clean {K : PySem.W.Frag} {B : QB} {ρ : RhoQ} {M : Mem} {σ : L2.St} {F H : Hp} {A : List Addr} (r : RepQ K B ρ M σ F H A) : Rep K ⟨F, []⟩ H [] (clR ρ) σ F H := by
  refine ⟨by unfold clR; rw [List.length_map]; exact r.len, r.cl.fh, .refl _, .refl _, fun p h f => f, fun i d a _ => ?_, fun i d _ b => by simp at b, fun i j p d e _ a => by simp at a, fun b hb => nomatch hb⟩
  unfold clR at a
  rw [List.getElem?_map] at a
  cases e : ρ[i]? with
  | none => rw [e] at a; cases a
  | some q =>
    rw [e] at a
    cases q with
    | none => cases a
    | some p =>
      obtain ⟨b, d'⟩ := p
      cases b with
      | true => cases a
      | false =>
        cases a
        exact r.val i (false, d) e
/-! ### expressions -/
inductive RQ (α : Type) where
  | ok (a : α) (M : Mem) | ex (x : Ex) (M : Mem) | st
def RQ.bind {α β : Type} (r : RQ α) (f : α → Mem → RQ β) : RQ β := match r with
  | .ok a M => f a M
  | .ex x M => .ex x M
  | .st => .st
def R.up {α β : Type} (r : R α) (M : Mem) (f : α → β) : RQ β := match r with
  | .ok a => .ok (f a) M
  | .ex x => .ex x M
  | .st => .st
abbrev GQ := RhoQ → Mem → RQ P
abbrev GQA := RhoQ → Mem → RQ (List P)
def IsLP (K : PySem.W.Frag) (F : Hp) (A : List Addr) (vs : List V) (ps : List P) : Prop := IsL K F vs (ps.map (P.at A))
def ExK (K : PySem.W.Frag) (W : WX) (σ : L2.St) (F H : Hp) (A : List Addr) (x : Ex) (M : Mem) : Prop := ∀ cls od F' H' A', ExtQ F H A F' H' A' → Cells K F' H' A' M → IsX K F' x cls od → W cls od σ H'
def afterQ (K : PySem.W.Frag) (W : WX) (σ : L2.St) (F H : Hp) (A : List Addr) (r : RQ P) (Q : VK) : Prop := match r with
  | .ok p M => ∀ v F' H' A', ExtQ F H A F' H' A' → Cells K F' H' A' M → Is K F' v (p.at A') → Q v H'
  | .ex x M => ExK K W σ F H A x M
  | .st => False
def tSemQ (K : PySem.W.Frag) (B : QB) (W : WX) (g : GQ) : TE := fun σ H Q => ∃ ρ M F A, RepQ K B ρ M σ F H A ∧ afterQ K W σ F H A (g ρ M) Q
abbrev DQ (X : Cx) (B : QB) (W : WX) (e : Expr) (g : GQ) : Prop := PE X e (tSemQ X.K B W g)
def tSemQA (K : PySem.W.Frag) (B : QB) (W : WX) (g : GQA) : TA := fun σ H Q => ∃ ρ M F A, RepQ K B ρ M σ F H A ∧ match g ρ M with
  | .ok ps M => ∀ vs F' H' A', ExtQ F H A F' H' A' → Cells K F' H' A' M → IsLP K F' A' vs ps → Q vs H'
  | .ex x M => ExK K W σ F H A x M
  | .st => False
abbrev DQA (X : Cx) (B : QB) (W : WX) (es : List Expr) (g : GQA) : Prop := PA X es (tSemQA X.K B W g)
section
variable {K : PySem.W.Frag} {B : QB} {W : WX} {F H F1 H1 : Hp} {A A1 : List Addr} {M M1 : Mem} {ρ : RhoQ} {σ : L2.St} {Q : VK}
theorem ExK.ext {x : Ex} {M2 : Mem} (h : ExK K W σ F H A x M2) (e : ExtQ F H A F1 H1 A1) (c : Cells K F1 H1 A1 M1) : ExK K W σ F1 H1 A1 x M2 := fun cls od F' H' A' y cy i => h cls od F' H' A' (e.trans c y) cy i
theorem afterQ.ext {r : RQ P} (h : afterQ K W σ F H A r Q) (e : ExtQ F H A F1 H1 A1) (c : Cells K F1 H1 A1 M1) : afterQ K W σ F1 H1 A1 r Q := by
  cases r with
  | ok p M2 => exact fun v F' H' A' y cy i => h v F' H' A' (e.trans c y) cy i
  | ex x M2 => exact ExK.ext (M1 := M1) h e c
  | st => exact h
/-- one part is read, then the rest -/
theorem semQ_bind {g : GQ} {k : P → Mem → RQ P} {Φ : VK} (r : RepQ K B ρ M σ F H A) (h : afterQ K W σ F H A ((g ρ M).bind k) Q)
    (f : ∀ p M1 v F1 H1 A1, ExtQ F H A F1 H1 A1 → Is K F1 v (p.at A1) → RepQ K B ρ M1 σ F1 H1 A1 → afterQ K W σ F1 H1 A1 (k p M1) Q → Φ v H1) : tSemQ K B W g σ H Φ := by
  refine ⟨ρ, M, F, A, r, ?_⟩
  cases e : g ρ M with
  | ok p M1 =>
    rw [e] at h
    exact fun v F' H' A' x c i => f p M1 v F' H' A' x i (r.to x c) (afterQ.ext (M1 := M1) h x c)
  | ex x M1 =>
    rw [e] at h
    exact h
  | st =>
    rw [e] at h
    exact h
theorem semQA_bind {g : GQA} {k : List P → Mem → RQ P} {Φ : List V → Hp → Prop} (r : RepQ K B ρ M σ F H A) (h : afterQ K W σ F H A ((g ρ M).bind k) Q)
    (f : ∀ ps M1 vs F1 H1 A1, ExtQ F H A F1 H1 A1 → IsLP K F1 A1 vs ps → RepQ K B ρ M1 σ F1 H1 A1 → afterQ K W σ F1 H1 A1 (k ps M1) Q → Φ vs H1) : tSemQA K B W g σ H Φ := by
  refine ⟨ρ, M, F, A, r, ?_⟩
  cases e : g ρ M with
  | ok p M1 =>
    rw [e] at h
    exact fun v F' H' A' x c i => f p M1 v F' H' A' x i (r.to x c) (afterQ.ext (M1 := M1) h x c)
  | ex x M1 =>
    rw [e] at h
    exact h
  | st =>
    rw [e] at h
    exact h
theorem afterQ.now {p : P} (h : afterQ K W σ F H A (.ok p M) Q) (c : Cells K F H A M) {v : V} (i : Is K F v (p.at A)) : Q v H := h v F H A .refl c i
end
/-- without numbers -/
def qP (g : Rho → R D) : GQ := fun ρ M => (g (clR ρ)).up M fun d => (false, d)
def qPA (g : Rho → R (List D)) : GQA := fun ρ M => (g (clR ρ)).up M fun ds => ds.map fun d => (false, d)
/-- a new object -/
def qNew (g : Rho → R D) : GQ := fun ρ M => match g (clR ρ) with
  | .ok d => .ok (true, .loc M.length) (M ++ [(false, d)])
  | .ex x => .ex x M
  | .st => .st
def qVar (i : Nat) : GQ := fun ρ M => match ρ[i]? with
  | some (some p) => .ok p M
  | _ => .st
section
variable {X : Cx} {B : QB} {W : WX} {pos : Pos} {e : Expr} {es : List Expr} {g : Rho → R D}
theorem q_pure (h : ∀ Fb Hb : Hp, DE X ⟨Fb, []⟩ Hb [] W e g) : DQ X B W e (qP g) := by
  refine pe_imp (pe_some h) fun σ H Q ⟨ρ, M, F, A, r, q⟩ => ⟨F, H, clR ρ, F, r.clean, ?_⟩
  unfold qP at q
  cases z : g (clR ρ) with
  | ok d =>
    rw [z] at q
    exact fun v F' H' x i => let ⟨a, b⟩ := ExtQ.pure r.cl x; q v F' H' A a b i
  | ex x =>
    rw [z] at q
    exact fun cls od F' H' y i => let ⟨a, b⟩ := ExtQ.pure r.cl y; q cls od F' H' A a b i
  | st =>
    rw [z] at q
    exact q
theorem q_new (h : ∀ Fb Hb : Hp, DN X ⟨Fb, []⟩ Hb [] W e g) : DQ X B W e (qNew g) := by
  refine pe_imp (pe_some h) fun σ H Q ⟨ρ, M, F, A, r, q⟩ => ⟨F, H, clR ρ, F, r.clean, ?_⟩
  unfold qNew at q
  cases z : g (clR ρ) with
  | ok d =>
    rw [z] at q
    intro p o F' H' x e1 c f n
    obtain ⟨a, b⟩ := ExtQ.pure r.cl x
    have nA : p ∉ A := fun m => by
      obtain ⟨k, hk⟩ := List.mem_iff_getElem?.mp m
      obtain ⟨y, hy⟩ : ∃ p, M[k]? = some p := by
        have : k < M.length := by rw [← r.cl.len]; exact (List.getElem?_eq_some_iff.mp hk).1
        exact ⟨M[k], by simp [this]⟩
      obtain ⟨a', o, e1, e2, _⟩ := r.cl.at_ k y hy
      rw [hk] at e1
      cases e1
      rw [n] at e2
      cases e2
    have c2 := ExtQ.alloc (q := (false, d)) b e1 f nA c
    refine q (.ref p) F' H' (A ++ [p]) ⟨a.ff, ⟨[p], rfl⟩, a.hh, fun u hu fu nu => ?_⟩ c2 ?_
    · obtain ⟨z1, z2⟩ := a.nw u hu fu nu
      exact ⟨z1, fun m => by
        rcases List.mem_append.mp m with m | m
        · exact z2 m
        · simp at m; subst m; exact hu n⟩
    · show Is X.K F' (.ref p) (match (A ++ [p])[M.length]? with | some a => .adr a | none => .loc M.length)
      rw [← r.cl.len, List.getElem?_append_right (Nat.le_refl _), Nat.sub_self]
      exact .adr p
  | ex x =>
    rw [z] at q
    exact fun cls od F' H' y i => let ⟨a, b⟩ := ExtQ.pure r.cl y; q cls od F' H' A a b i
  | st =>
    rw [z] at q
    exact q
theorem qa_pure {t : Rho → R (List D)} (h : ∀ Fb Hb : Hp, DA X ⟨Fb, []⟩ Hb [] W es t) : DQA X B W es (qPA t) := by
  have : PA X es (fun σ H Q => ∃ a b, tSemA X.K ⟨a, []⟩ b [] W t σ H Q) := ⟨fun pos pins s σ H Q I ⟨a, b, q⟩ => (h a b).run pos pins s σ H Q I q⟩
  refine pa_imp this fun σ H Q ⟨ρ, M, F, A, r, q⟩ => ⟨F, H, clR ρ, F, r.clean, ?_⟩
  unfold qPA at q
  cases z : t (clR ρ) with
  | ok d =>
    rw [z] at q
    refine fun v F' H' x i => let ⟨a, b⟩ := ExtQ.pure r.cl x; q v F' H' A a b ?_
    show IsL X.K F' v ((d.map fun d => (false, d)).map (P.at A))
    rw [List.map_map]
    have e : (P.at A ∘ fun d => (false, d)) = (id : D → D) := rfl
    rw [e, List.map_id]
    exact i
  | ex x =>
    rw [z] at q
    exact fun cls od F' H' y i => let ⟨a, b⟩ := ExtQ.pure r.cl y; q cls od F' H' A a b i
  | st =>
    rw [z] at q
    exact q
theorem q_var (i : Nat) {x : Str} (hN : X.N[i]? = some x := by rfl) (hv : Vis X.env.scope x := by first | exact Or.inl rfl | exact Or.inr (Or.inl rfl) | exact Or.inr (Or.inr rfl)) (hd : (x == ("__debug__" : Str)) = false := by decide)
    (hcd : (x == ("__classdict__" : Str)) = false := by decide) : DQ X B W (.Name x pos) (qVar i) := by
  refine pe_imp (pe_var hN hv hd hcd) fun σ H Q ⟨ρ, M, F, A, r, q⟩ => ?_
  unfold qVar at q
  split at q
  · rename_i p e
    obtain ⟨v, e1, e2⟩ := r.val i p e
    exact ⟨v, e1, afterQ.now q r.cl e2⟩
  · exact q.elim
end
end Pd

/-! Pq2: statements over slots and a memory -/
namespace Pd
open PySem PySem.Spec PyProof.Rows L2
inductive SQ where
  | nx (ρ : RhoQ) (M : Mem) | rt (p : P) (M : Mem) | bk (ρ : RhoQ) (M : Mem) | ct (ρ : RhoQ) (M : Mem) | ex (x : Ex) (ρ : RhoQ) (M : Mem) | st
abbrev SQF := RhoQ → Mem → SQ
/-- more is there -/
def Grow (F : Hp) (A : List Addr) (F' : Hp) (A' : List Addr) : Prop := Same F F' ∧ ∃ t, A' = A ++ t
theorem Grow.refl {F : Hp} {A : List Addr} : Grow F A F A := ⟨.refl _, [], by simp⟩
theorem Grow.trans {F F1 F2 : Hp} {A A1 A2 : List Addr} (a : Grow F A F1 A1) (b : Grow F1 A1 F2 A2) : Grow F A F2 A2 := by
  obtain ⟨s, t, e⟩ := a
  obtain ⟨s2, t2, e2⟩ := b
  exact ⟨s.trans s2, t ++ t2, by rw [e2, e, List.append_assoc]⟩
theorem ExtQ.grow {F H F' H' : Hp} {A A' : List Addr} (x : ExtQ F H A F' H' A') : Grow F A F' A' := ⟨x.ff, x.pre⟩
theorem Grow.is {K : PySem.W.Frag} {F F' : Hp} {A A' : List Addr} {v : V} {p : P} (g : Grow F A F' A') (h : Is K F v (p.at A)) : Is K F' v (p.at A') := by
  obtain ⟨s, t, rfl⟩ := g
  exact P.mono h s
def afterQS (K : PySem.W.Frag) (B : QB) (W : WX) (Fb : Hp) (Ab : List Addr) (r : SQ) (E : Ends) : Prop := match r with
  | .nx ρ M => ∀ σ F H A, RepQ K B ρ M σ F H A → Grow Fb Ab F A → E.nx σ H
  | .rt p M => ∀ v F H A, ExtQ B.F B.H B.A F H A → Cells K F H A M → Is K F v (p.at A) → E.rt v H
  | .bk ρ M => ∀ σ F H A, RepQ K B ρ M σ F H A → Grow Fb Ab F A → E.bk σ H
  | .ct ρ M => ∀ σ F H A, RepQ K B ρ M σ F H A → Grow Fb Ab F A → E.ct σ H
  | .ex x ρ M => ∀ cls od σ F H A, RepQ K B ρ M σ F H A → Grow Fb Ab F A → IsX K F x cls od → W cls od σ H
  | .st => False
def tSemQS (K : PySem.W.Frag) (B : QB) (W : WX) (s : SQF) : TS := fun E σ H => ∃ ρ M F A, RepQ K B ρ M σ F H A ∧ afterQS K B W F A (s ρ M) E
theorem afterQS.mono {K : PySem.W.Frag} {B : QB} {W : WX} {F F2 : Hp} {A A2 : List Addr} {r : SQ} {E : Ends} (h : afterQS K B W F A r E) (s : Grow F A F2 A2) : afterQS K B W F2 A2 r E := by
  cases r with
  | nx ρ M => exact fun σ F' H' A' r x => h σ F' H' A' r (s.trans x)
  | bk ρ M => exact fun σ F' H' A' r x => h σ F' H' A' r (s.trans x)
  | ct ρ M => exact fun σ F' H' A' r x => h σ F' H' A' r (s.trans x)
  | ex x ρ M => exact fun cls od σ F' H' A' r x => h cls od σ F' H' A' r (s.trans x)
  | _ => exact h
abbrev DQS (X : Cx) (B : QB) (W : WX) (st : Stmt) (s : SQF) : Prop := PS X st (tSemQS X.K B W s)
abbrev DQSs (X : Cx) (B : QB) (W : WX) (st : List Stmt) (s : SQF) : Prop := PSs X st (tSemQS X.K B W s)
def tSemQT (K : PySem.W.Frag) (B : QB) (W : WX) (g : RhoQ → Mem → RQ Bool) : TT := fun σ H Q => ∃ ρ M F A, RepQ K B ρ M σ F H A ∧ match g ρ M with
  | .ok b M => ∀ F' H' A', ExtQ F H A F' H' A' → Cells K F' H' A' M → Q b H'
  | .ex x M => ExK K W σ F H A x M
  | .st => False
abbrev DQT (X : Cx) (B : QB) (W : WX) (e : Expr) (g : RhoQ → Mem → RQ Bool) : Prop := PT X e (tSemQT X.K B W g)
def qT (g : Rho → R Bool) : RhoQ → Mem → RQ Bool := fun ρ M => (g (clR ρ)).up M id
section
variable {X : Cx} {B : QB} {W : WX} {pos : Pos} {e : Expr} {st : Stmt} {sts : List Stmt} {g : GQ} {s u : SQF}
theorem qt_pure {p : Rho → R Bool} (h : ∀ Fb Hb : Hp, DT X ⟨Fb, []⟩ Hb [] W e p) : DQT X B W e (qT p) := by
  refine pt_imp (pt_some h) fun σ H Q ⟨ρ, M, F, A, r, q⟩ => ⟨F, H, clR ρ, F, r.clean, ?_⟩
  unfold qT at q
  cases z : p (clR ρ) with
  | ok d =>
    rw [z] at q
    exact fun F' H' x => let ⟨a, b⟩ := ExtQ.pure r.cl x; q F' H' A a b
  | ex x =>
    rw [z] at q
    exact fun cls od F' H' y i => let ⟨a, b⟩ := ExtQ.pure r.cl y; q cls od F' H' A a b i
  | st =>
    rw [z] at q
    exact q
/-! ### blocks -/
def sqNil : SQF := fun ρ M => .nx ρ M
def sqSeq (s u : SQF) : SQF := fun ρ M => match s ρ M with
  | .nx ρ1 M1 => u ρ1 M1
  | r => r
theorem qss_nil : DQSs X B W [] sqNil := pss_imp pss_nil fun E σ H ⟨ρ, M, F, A, r, h⟩ => h σ F H A r .refl
theorem qss_one (h : DQS X B W st s) : DQSs X B W [st] s := pss_one h
theorem qss_cons (h1 : DQS X B W st s) (h2 : DQSs X B W sts u) : DQSs X B W (st :: sts) (sqSeq s u) := by
  refine pss_imp (pss_cons h1 h2) fun E σ H ⟨ρ, M, F, A, r, h⟩ => ⟨ρ, M, F, A, r, ?_⟩
  unfold sqSeq at h
  cases z : s ρ M with
  | nx ρ1 M1 =>
    rw [z] at h
    exact fun σ1 F1 H1 A1 r1 x1 => ⟨ρ1, M1, F1, A1, r1, h.mono x1⟩
  | _ => rw [z] at h; exact h
/-- an expression is read, then the rest -/
theorem semQS {K : PySem.W.Frag} {σ : L2.St} {F H : Hp} {A : List Addr} {ρ : RhoQ} {M : Mem} {k : P → Mem → SQ} {E : Ends} {Φ : VK} (r : RepQ K B ρ M σ F H A)
    (h : afterQS K B W F A (match g ρ M with | .ok p M1 => k p M1 | .ex x M1 => .ex x ρ M1 | .st => .st) E)
    (f : ∀ p M1 v F1 H1 A1, Is K F1 v (p.at A1) → RepQ K B ρ M1 σ F1 H1 A1 → Grow F A F1 A1 → afterQS K B W F1 A1 (k p M1) E → Φ v H1) : tSemQ K B W g σ H Φ := by
  refine ⟨ρ, M, F, A, r, ?_⟩
  cases z : g ρ M with
  | ok p M1 =>
    rw [z] at h
    exact fun v F' H' A' x c i => f p M1 v F' H' A' i (r.to x c) x.grow (h.mono x.grow)
  | ex x M1 =>
    rw [z] at h
    exact fun cls od F' H' A' x c i => h cls od σ F' H' A' (r.to x c) x.grow i
  | st =>
    rw [z] at h
    exact h.elim
theorem semQST {K : PySem.W.Frag} {σ : L2.St} {F H : Hp} {A : List Addr} {ρ : RhoQ} {M : Mem} {g : RhoQ → Mem → RQ Bool} {k : Bool → Mem → SQ} {E : Ends} {Φ : Bool → Hp → Prop} (r : RepQ K B ρ M σ F H A)
    (h : afterQS K B W F A (match g ρ M with | .ok p M1 => k p M1 | .ex x M1 => .ex x ρ M1 | .st => .st) E)
    (f : ∀ p M1 F1 H1 A1, RepQ K B ρ M1 σ F1 H1 A1 → Grow F A F1 A1 → afterQS K B W F1 A1 (k p M1) E → Φ p H1) : tSemQT K B W g σ H Φ := by
  refine ⟨ρ, M, F, A, r, ?_⟩
  cases z : g ρ M with
  | ok p M1 =>
    rw [z] at h
    exact fun F' H' A' x c => f p M1 F' H' A' (r.to x c) x.grow (h.mono x.grow)
  | ex x M1 =>
    rw [z] at h
    exact fun cls od F' H' A' x c i => h cls od σ F' H' A' (r.to x c) x.grow i
  | st =>
    rw [z] at h
    exact h.elim
def sqE (g : GQ) (k : RhoQ → P → Mem → SQ) : SQF := fun ρ M => match g ρ M with
  | .ok p M1 => k ρ p M1
  | .ex x M1 => .ex x ρ M1
  | .st => .st
def sqExpr (g : GQ) : SQF := sqE g fun ρ _ M => .nx ρ M
theorem qs_expr (he : DQ X B W e g) (hs : swapsWith e none pos.line X.env = pure false := by rfl) : DQS X B W (.Expr e pos) (sqExpr g) :=
  ps_imp (ps_expr he hs) fun E σ H ⟨ρ, M, F, A, r, h⟩ => semQS (k := fun _ M1 => .nx ρ M1) r h fun p M1 v F1 H1 A1 i1 r1 _ h1 => h1 σ F1 H1 A1 r1 .refl
def sqRet (g : GQ) : SQF := sqE g fun _ p M => .rt p M
theorem qs_ret (he : DQ X B W e g) : DQS X B W (.Return (some e) pos) (sqRet g) :=
  ps_imp (ps_ret he) fun E σ H ⟨ρ, M, F, A, r, h⟩ => semQS (k := fun p M1 => .rt p M1) r h fun p M1 v F1 H1 A1 i1 r1 _ h1 => h1 v F1 H1 A1 r1.ext r1.cl i1
def sqRetNone : SQF := fun _ M => .rt (false, .non) M
theorem qs_retNone : DQS X B W (.Return none pos) sqRetNone :=
  ps_imp ps_retN fun E σ H ⟨ρ, M, F, A, r, h⟩ => h .non F H A r.ext r.cl .non
theorem qs_pass : DQS X B W (.Pass pos) sqNil := ps_imp ps_pass fun E σ H ⟨ρ, M, F, A, r, h⟩ => h σ F H A r .refl
def sqBrk : SQF := fun ρ M => .bk ρ M
def sqCnt : SQF := fun ρ M => .ct ρ M
theorem qs_break : DQS X B W (.Break pos) sqBrk := ps_imp ps_break fun E σ H ⟨ρ, M, F, A, r, h⟩ => h σ F H A r .refl
theorem qs_continue : DQS X B W (.Continue pos) sqCnt := ps_imp ps_continue fun E σ H ⟨ρ, M, F, A, r, h⟩ => h σ F H A r .refl
theorem RepQ.set {K : PySem.W.Frag} {ρ : RhoQ} {M : Mem} {σ : L2.St} {F H : Hp} {A : List Addr} {v : V} {p : P} (r : RepQ K B ρ M σ F H A) (i : Nat) (h : Is K F v (p.at A)) : RepQ K B (ρ.set i (some p)) M (σ.set i (some v)) F H A := by
  refine ⟨by rw [List.length_set, List.length_set, r.len], r.cl, r.ext, fun j q a => ?_⟩
  rcases getElem?_set_cases a with ⟨rfl, z, hl⟩ | ⟨hj, z⟩
  · cases z
    exact ⟨v, by rw [List.getElem?_set_self (by rw [r.len]; exact hl)], h⟩
  · rw [List.getElem?_set_ne (Ne.symm hj)]
    exact r.val j q z
def sqSet (i : Nat) (g : GQ) : SQF := sqE g fun ρ p M => .nx (ρ.set i (some p)) M
theorem qs_set (i : Nat) {x : Str} {p2 : Pos} (hN : X.N.Nodup) (he : DQ X B W e g) (hi : X.N[i]? = some x := by rfl) (hx : Loc X.env.scope x := by exact Or.inl rfl) (hs : swapsWith e (some (.Name x p2)) pos.line X.env = pure false := by rfl) (hf : X.fn x = true ∨ X.env.scope.names.lookup x = some .local := by first | exact .inl rfl | exact .inr rfl | assumption) :
    DQS X B W (.Assign [.Name x p2] e pos) (sqSet i g) :=
  ps_imp (ps_set hN hi hx he hs hf) fun E σ H ⟨ρ, M, F, A, r, h⟩ => semQS (k := fun p M1 => .nx (ρ.set i (some p)) M1) r h fun p M1 v F1 H1 A1 i1 r1 _ h1 => h1 _ F1 H1 A1 (r1.set i i1) .refl
/-! ### targets -/
abbrev TQ := P → RhoQ → Option RhoQ
def tSemGQ (K : PySem.W.Frag) (B : QB) (τ : TQ) : TG := fun v σ H Q => ∃ ρ M F A p, RepQ K B ρ M σ F H A ∧ Is K F v (p.at A) ∧ match τ p ρ with
  | some ρ' => ∀ σ', RepQ K B ρ' M σ' F H A → Q σ' H
  | none => False
abbrev DQG (X : Cx) (B : QB) (tg : Expr) (τ : TQ) : Prop := PG X tg (tSemGQ X.K B τ)
def tqName (i : Nat) : TQ := fun p ρ => some (ρ.set i (some p))
theorem qg_name (i : Nat) {x : Str} (hN : X.N.Nodup) (hi : X.N[i]? = some x := by rfl) (hx : Loc X.env.scope x := by exact Or.inl rfl) (hf : X.fn x = true ∨ X.env.scope.names.lookup x = some .local := by first | exact .inl rfl | exact .inr rfl | assumption) :
    DQG X B (.Name x pos) (tqName i) :=
  pg_imp (pg_name hN hi hx hf) fun v σ H Q ⟨ρ, M, F, A, p, r, h, q⟩ => q _ (r.set i h)
abbrev TQs := List P → RhoQ → Option RhoQ
def tSemGQs (K : PySem.W.Frag) (B : QB) (τ : TQs) : TGs := fun vs σ H Q => ∃ ρ M F A ps, RepQ K B ρ M σ F H A ∧ IsLP K F A vs ps ∧ match τ ps ρ with
  | some ρ' => ∀ σ', RepQ K B ρ' M σ' F H A → Q σ' H
  | none => False
abbrev DQGs (X : Cx) (B : QB) (tg : List Expr) (τ : TQs) : Prop := PGs X tg (tSemGQs X.K B τ)
def tqNil : TQs := fun ps ρ => match ps with
  | [] => some ρ
  | _ => none
def tqCons (τ : TQ) (τs : TQs) : TQs := fun ps ρ => match ps with
  | p :: r => (τ p ρ).bind fun ρ1 => τs r ρ1
  | [] => none
theorem qgs_nil : DQGs X B [] tqNil := by
  refine pgs_imp pgs_nil fun vs σ H Q ⟨ρ, M, F, A, ps, r, l, q⟩ => ?_
  cases ps with
  | nil => exact ⟨l.unnil, q σ r⟩
  | cons d ds => exact q.elim
theorem qgs_cons {es : List Expr} {τ : TQ} {τs : TQs} (h1 : DQG X B e τ) (h2 : DQGs X B es τs)
    (hs : (assignEach (e :: es) X.env).map (·.2) = assign e X.env :: (assignEach es X.env).map (·.2) := by rfl) : DQGs X B (e :: es) (tqCons τ τs) := by
  refine pgs_imp (pgs_cons h1 h2 hs) fun vs σ H Q ⟨ρ, M, F, A, ps, r, l, q⟩ => ?_
  cases ps with
  | nil => exact q.elim
  | cons d ds =>
    obtain ⟨v, vr, rfl, i, t⟩ := (show IsL X.K F vs (d.at A :: ds.map (P.at A)) from l).uncons
    refine ⟨v, vr, rfl, ρ, M, F, A, d, r, i, ?_⟩
    have q' : match (τ d ρ).bind fun ρ1 => τs ds ρ1 with
      | some ρ' => ∀ σ', RepQ X.K B ρ' M σ' F H A → Q σ' H
      | none => False := q
    cases z : τ d ρ with
    | none => rw [z] at q'; exact q'.elim
    | some ρ1 =>
      rw [z] at q'
      exact fun σ1 r1 => ⟨ρ1, M, F, A, ds, r1, t, q'⟩
def tqTup (n : Nat) (τs : TQs) : TQ := fun p ρ => match p with
  | (b, .tup ds) => if ds.length = n then τs (ds.map fun d => (b, d)) ρ else none
  | _ => none
theorem at_tup {K : PySem.W.Frag} {F : Hp} {A : List Addr} {v : V} {b : Bool} {ds : List D} (h : Is K F v (P.at A (b, .tup ds))) : ∃ a xs, v = .ref a ∧ SqT K F a xs ∧ IsLP K F A xs (ds.map fun d => (b, d)) := by
  cases b with
  | false =>
    obtain ⟨a, xs, e, hp, l⟩ := (show Is K F v (.tup ds) from h).tup_inv
    refine ⟨a, xs, e, hp, ?_⟩
    show IsL K F xs ((ds.map fun d => (false, d)).map (P.at A))
    rw [List.map_map, show (P.at A ∘ fun d => (false, d)) = (id : D → D) from rfl, List.map_id]
    exact l
  | true =>
    obtain ⟨a, xs, e, hp, l⟩ := (show Is K F v (.tup (D.subAll A ds)) from h).tup_inv
    refine ⟨a, xs, e, hp, ?_⟩
    show IsL K F xs ((ds.map fun d => (true, d)).map (P.at A))
    rw [List.map_map, show (P.at A ∘ fun d => (true, d)) = D.sub A from rfl, ← subAll_map]
    exact l
theorem qg_tup {es : List Expr} {τs : TQs} {k : Nat} {n : Nat} (hc : X.calm = true) (h : DQGs X B es τs)
    (hn : (assignEach es X.env).length = n := by rfl) (hst : (assignEach es X.env).findIdx? (·.1) = none := by rfl) : DQG X B (.Tuple es k pos) (tqTup n τs) := by
  refine pg_imp (pg_tup hc h hn hst) fun v σ H Q ⟨ρ, M, F, A, p, r, i, q⟩ => ?_
  obtain ⟨b, d⟩ := p
  cases d with
  | tup ds =>
    obtain ⟨a, xs, rfl, hp, l⟩ := at_tup i
    have q' : match (if ds.length = n then τs (ds.map fun d => (b, d)) ρ else none) with
      | some ρ' => ∀ σ', RepQ X.K B ρ' M σ' F H A → Q σ' H
      | none => False := q
    by_cases hd : ds.length = n
    · rw [if_pos hd] at q'
      exact ⟨a, xs, rfl, sameT r.cl.fh hp, by rw [l.1]; simpa using hd, ρ, M, F, A, _, r, l, q'⟩
    · rw [if_neg hd] at q'
      exact q'.elim
  | _ => exact q.elim
def sqAsg (τ : TQ) (g : GQ) : SQF := sqE g fun ρ p M => match τ p ρ with
  | some ρ' => .nx ρ' M
  | none => .st
theorem qs_asg {tg : Expr} {τ : TQ} (he : DQ X B W e g) (hg : DQG X B tg τ) (hs : swapsWithSole [tg] e pos.line X.env = pure false := by rfl) (hw : swappedStores [tg] e X.env = pure none := by rfl)
    (h1 : (assignEach [tg] X.env).map (·.2) = [assign tg X.env] := by rfl) : DQS X B W (.Assign [tg] e pos) (sqAsg τ g) := by
  refine ps_imp (ps_asg he hg hs hw h1) fun E σ H ⟨ρ, M, F, A, r, h⟩ => semQS (k := fun p M1 => match τ p ρ with | some ρ' => .nx ρ' M1 | none => .st) r h fun p M1 v F1 H1 A1 i1 r1 _ h1 => ?_
  refine ⟨ρ, M1, F1, A1, p, r1, i1, ?_⟩
  have h2 : afterQS X.K B W F1 A1 (match τ p ρ with | some ρ' => .nx ρ' M1 | none => .st) E := h1
  cases z : τ p ρ with
  | none => rw [z] at h2; exact h2.elim
  | some ρ' => rw [z] at h2; exact fun σ' r' => h2 σ' F1 H1 A1 r' .refl
/-! ### if, for, while -/
def sqIf (p : RhoQ → Mem → RQ Bool) (s u : SQF) : SQF := fun ρ M => match p ρ M with
  | .ok b M1 => if b = true then s ρ M1 else u ρ M1
  | .ex x M1 => .ex x ρ M1
  | .st => .st
theorem qs_if {c : Expr} {a b : List Stmt} {p : RhoQ → Mem → RQ Bool} (hc : DQT X B W c p) (ha : DQSs X B W a s) (hb : DQSs X B W b u) : DQS X B W (.If c a b pos) (sqIf p s u) := by
  refine ps_imp (ps_if hc ha hb) fun E σ H ⟨ρ, M, F, A, r, h⟩ => semQST (k := fun b M1 => if b = true then s ρ M1 else u ρ M1) r h fun b M1 F1 H1 A1 r1 _ h1 => ?_
  cases b with
  | true => exact iteT ⟨ρ, M1, F1, A1, r1, h1⟩
  | false => exact iteF ⟨ρ, M1, F1, A1, r1, h1⟩
def forLQ (τ : TQ) (b : SQF) : List P → SQF
  | [], ρ, M => .nx ρ M
  | d :: ds, ρ, M => match τ d ρ with
    | some ρ1 => match b ρ1 M with
      | .nx ρ2 M2 => forLQ τ b ds ρ2 M2
      | .ct ρ2 M2 => forLQ τ b ds ρ2 M2
      | .bk ρ2 M2 => .nx ρ2 M2
      | r => r
    | none => .st
/-- over what has no numbers -/
def sqFor (gi : Rho → R (List D)) (τ : TQ) (b : SQF) : SQF := fun ρ M => match gi (clR ρ) with
  | .ok items => forLQ τ b (items.map fun d => (false, d)) ρ M
  | .ex x => .ex x ρ M
  | .st => .st
theorem pi_some {tg e : Expr} {t : Hp → Hp → TI} (h : ∀ a b, PI X tg e (t a b)) : PI X tg e (fun σ H Q => ∃ a b, t a b σ H Q) := ⟨fun pins s σ H Q I ⟨a, b, q⟩ => (h a b).run pins s σ H Q I q⟩
theorem qs_for {tg iter : Expr} {body : List Stmt} {gi : Rho → R (List D)} {τ : TQ} {b : SQF} (hp : PassesOwn (model X.prog X.w) X.A X.env X.xe) (hc : X.calm = true) (hi : ∀ Fb Hb : Hp, DI X ⟨Fb, []⟩ Hb [] W tg iter gi) (hg : DQG X B tg τ) (hb : DQSs X B W body b)
    (hs : ∀ x, foldedSetIterable iter X.env x = pure x := by intro _; rfl) : DQS X B W (.For tg iter body [] pos) (sqFor gi τ b) := by
  refine ps_imp (ps_for hp hc (pi_some hi) hg hb hs) fun E σ H ⟨ρ, M, F, A, r, h⟩ => ⟨F, H, clR ρ, F, r.clean, ?_⟩
  unfold sqFor at h
  cases z : gi (clR ρ) with
  | ex x =>
    rw [z] at h
    exact fun cls od F' H' y i => let ⟨a, c⟩ := ExtQ.pure r.cl y; h cls od σ F' H' A (r.to a c) a.grow i
  | st => rw [z] at h; exact h.elim
  | ok items =>
    rw [z] at h
    intro J F1 H1 x1 y1
    obtain ⟨e1, c1⟩ := ExtQ.pure r.cl x1
    refine ⟨fun i mm σ H => ∃ ρ M F A, RepQ X.K B ρ M σ F H A ∧ Same F1 F ∧ i ≤ items.length ∧ mm = items.length - i ∧ afterQS X.K B W F A (forLQ τ b ((items.drop i).map fun d => (false, d)) ρ M) E, ⟨items.length, ρ, M, F1, A, r.to e1 c1, .refl _, Nat.zero_le _, rfl, h.mono e1.grow⟩, ?_⟩
    rintro i mm σ2 H2 ⟨ρ2, M2, F2, A2, r2, x2, hi, rfl, h2⟩
    have yc := y1 i F2 H2 x2 r2.cl.fh
    by_cases hlt : i < items.length
    · obtain ⟨go, yld⟩ := yc.1 hlt
      refine .inr ⟨go, fun σ3 H3 => ∃ ρ3 M3 F3 A3, RepQ X.K B ρ3 M3 σ3 F3 H3 A3 ∧ Same F1 F3 ∧ afterQS X.K B W F3 A3 (forLQ τ b ((items.drop (i + 1)).map fun d => (false, d)) ρ3 M3) E, fun σ3 H3 ⟨ρ3, M3, F3, A3, q1, q2, q3⟩ => ⟨items.length - (i + 1), by omega, ρ3, M3, F3, A3, q1, q2, hlt, rfl, q3⟩, fun x Hy y => ?_⟩
      obtain ⟨F3, d, hd, xe, ix⟩ := yld x Hy y
      obtain ⟨e3, c3⟩ := ExtQ.pure r2.cl xe
      have ed : items.drop i = d :: items.drop (i + 1) := by
        rw [List.drop_eq_getElem_cons hlt]
        rw [List.getElem?_eq_getElem hlt] at hd
        rw [Option.some.inj hd]
      rw [ed] at h2
      refine ⟨ρ2, M2, F3, A2, (false, d), r2.to e3 c3, ix, ?_⟩
      have h3 : afterQS X.K B W F3 A2 (match τ (false, d) ρ2 with
        | some ρ1 => match b ρ1 M2 with
          | .nx ρ2 M2 => forLQ τ b ((items.drop (i + 1)).map fun d => (false, d)) ρ2 M2
          | .ct ρ2 M2 => forLQ τ b ((items.drop (i + 1)).map fun d => (false, d)) ρ2 M2
          | .bk ρ2 M2 => .nx ρ2 M2
          | r => r
        | none => .st) E := h2.mono e3.grow
      cases z1 : τ (false, d) ρ2 with
      | none => rw [z1] at h3; exact h3.elim
      | some ρ4 =>
        rw [z1] at h3
        intro σ4 r4
        refine ⟨ρ4, M2, F3, A2, r4, ?_⟩
        have h4 : afterQS X.K B W F3 A2 (match b ρ4 M2 with
          | .nx ρ2 M2 => forLQ τ b ((items.drop (i + 1)).map fun d => (false, d)) ρ2 M2
          | .ct ρ2 M2 => forLQ τ b ((items.drop (i + 1)).map fun d => (false, d)) ρ2 M2
          | .bk ρ2 M2 => .nx ρ2 M2
          | r => r) E := h3
        cases z2 : b ρ4 M2 with
        | nx ρ5 M5 =>
          rw [z2] at h4
          exact fun σ5 F5 H5 A5 r5 x5 => ⟨ρ5, M5, F5, A5, r5, (x2.trans xe.ff).trans x5.1, h4.mono x5⟩
        | ct ρ5 M5 =>
          rw [z2] at h4
          exact fun σ5 F5 H5 A5 r5 x5 => ⟨ρ5, M5, F5, A5, r5, (x2.trans xe.ff).trans x5.1, h4.mono x5⟩
        | bk ρ5 M5 => rw [z2] at h4; exact h4
        | rt d => rw [z2] at h4; exact h4
        | ex x ρ5 => rw [z2] at h4; exact h4
        | st => rw [z2] at h4; exact h4
    · have ei : i = items.length := by omega
      subst ei
      rw [List.drop_length] at h2
      exact .inl ⟨yc.2 (Nat.le_refl _), h2 σ2 F2 H2 A2 r2 .refl⟩
/-! ### raise, try -/
def sqRaise (x : Str) : SQF := fun ρ M => .ex ⟨x, []⟩ ρ M
theorem qs_raise {x msg : Str} {i : Nat} {p p2 pos' : Pos} (Fx : ExcF X x) (hc : X.calm = true) (tk : Takes X W) (hg : Gl X x := by rfl) (hdb : (x == ("__debug__" : Str)) = false := by decide) :
    DQS X B W (.Raise (some (.Call (.Name x p) [.Constant (.str msg) i p2] [] pos')) none pos) (sqRaise x) :=
  ps_imp (ps_raise hc tk (pmk_own F.excBase_ValueError Fx.q Fx.gC Fx.kC (raises_own Fx.sb Fx.ty) hg hdb)) fun E σ H ⟨ρ, M, F, A, r, h⟩ =>
    h _ none σ F H A r .refl ⟨rfl, fun z => absurd rfl z, fun _ => rfl⟩
def noXQ : SQ → SQ
  | .ex _ _ _ => .st
  | r => r
def sqTry (tb : List (Str × Bool)) (s u : SQF) : SQF := fun ρ M => match s ρ M with
  | .ex x ρ1 M1 => (match tb.lookup x.cls with
    | some true => noXQ (u ρ1 M1)
    | some false => .ex x ρ1 M1
    | none => .st)
  | r => r
theorem afterQS.noX {K : PySem.W.Frag} {Fb : Hp} {Ab : List Addr} {r : SQ} {E : Ends} (h : afterQS K B W Fb Ab (noXQ r) E) : afterQS K B W0 Fb Ab r E := by
  cases r with
  | ex x ρ => exact h.elim
  | _ => exact h
theorem qs_try_only {x : Str} {body suite : List Stmt} {b₀ : Stmt} {np pos' : Pos} {c : Value} {tb : List (Str × Bool)} {s u : SQF} (hs : X.stack = X.env :: X.outer) (hf : X.env.frame = some X.env.locals) (Ct : CatF X x c tb) (tk : Takes X W)
    (hb : ∀ (W : WX) (pn : List (Addr × Obj)) (xe : Value → Shared → Prop), Takes (X.tr pn xe) W → DQSs (X.tr pn xe) B W body s)
    (hsu : ∀ (a : Addr) (pn : List (Addr × Obj)), DQSs (X.suite a pn) B W0 (b₀ :: suite) u) :
    DQS X B W (.Try body [.ExceptHandler (some (.Name x np)) none (b₀ :: suite) pos'] [] [] pos) (sqTry tb s u) := by
  refine ps_imp (ps_try_only (tb := fun W => tSemQS X.K B W s) (ts := fun _ _ _ => tSemQS X.K B W0 u) hs hf Ct.nm tk (fun W pn xe t _ => hb W pn xe t) fun a oe cls d pn _ _ => hsu a _) fun E σ H ⟨ρ, M, F, A, r, h⟩ => ?_
  refine ⟨ρ, M, F, A, r, ?_⟩
  unfold sqTry at h
  cases z : s ρ M with
  | ex x1 ρ1 M1 =>
    rw [z] at h
    intro cls od σ1 F1 H1 A1 r1 s1 i1
    have h2 : afterQS X.K B W F A (match tb.lookup x1.cls with
      | some true => noXQ (u ρ1 M1)
      | some false => .ex x1 ρ1 M1
      | none => .st) E := h
    cases q : tb.lookup x1.cls with
    | none => rw [q] at h2; exact h2.elim
    | some b =>
      rw [q] at h2
      refine ⟨b, ?_, fun e a na => ?_, fun e => ?_⟩
      · rw [i1.1]
        exact Ct.ex _ (lookup_mem q)
      · subst e
        exact ⟨ρ1, M1, F1, A1, r1, (afterQS.noX h2).mono s1⟩
      · subst e
        exact h2 cls od σ1 F1 H1 A1 r1 s1 i1
  | nx _ _ => rw [z] at h; exact h
  | rt _ _ => rw [z] at h; exact h
  | bk _ _ => rw [z] at h; exact h
  | ct _ _ => rw [z] at h; exact h
  | st => rw [z] at h; exact h.elim
end
end Pd

/-! Pq3: defs over a memory, called; objects made, their fields read and stored; from there to data -/
namespace Pd
open PySem PySem.Spec PyProof.Rows L2
/-! ### data that is represented has no numbers -/
mutual
theorem is_clean {K : PySem.W.Frag} {F : Hp} {A : List Addr} : ∀ (d : D) (v : V), Is K F v d → d.sub A = d
  | .non, _, _ => rfl
  | .bl _, _, _ => rfl
  | .int _, _, _ => rfl
  | .str _, _, _ => rfl
  | .adr _, _, _ => rfl
  | .list xs, v, h => by
    obtain ⟨a, ys, rfl, hs, l⟩ := h.list_inv
    exact congrArg D.list (isL_clean xs ys l)
  | .tup xs, v, h => by
    obtain ⟨a, ys, rfl, hs, l⟩ := h.tup_inv
    exact congrArg D.tup (isL_clean xs ys l)
  | .dict xs, v, h => by
    obtain ⟨a, ys, rfl, hs, l⟩ := h.dict_inv
    exact congrArg D.dict (isK_clean xs ys l)
  | .dictT xs, v, h => by
    cases h with
    | dictT hs l1 l2 l3 => exact congrArg D.dictT (isT_clean xs _ ⟨l1, l2, l3⟩)
  | .obj c xs, v, h => by
    obtain ⟨a, dx, ys, rfl, hs, l⟩ := h.obj_inv
    exact congrArg (D.obj c) (isF_clean xs ys l)
  | .loc k, v, h => by cases h
theorem isL_clean {K : PySem.W.Frag} {F : Hp} {A : List Addr} : ∀ (ds : List D) (vs : List V), IsL K F vs ds → D.subAll A ds = ds
  | [], vs, h => rfl
  | d :: ds, vs, h => by
    obtain ⟨x, xr, rfl, i, l⟩ := h.uncons
    show D.sub A d :: D.subAll A ds = d :: ds
    rw [is_clean d x i, isL_clean ds xr l]
theorem isK_clean {K : PySem.W.Frag} {F : Hp} {A : List Addr} : ∀ (ds : List (Key × D)) (vs : List (Key × V)), IsK K F vs ds → D.subK A ds = ds
  | [], vs, h => rfl
  | (k, d) :: ds, vs, h => by
    obtain ⟨x, xr, rfl, i, l⟩ := h.uncons
    show (k, D.sub A d) :: D.subK A ds = (k, d) :: ds
    rw [is_clean d x i, isK_clean ds xr l]
theorem isT_clean {K : PySem.W.Frag} {F : Hp} {A : List Addr} : ∀ (ds : List (List Key × D)) (vs : List (List Key × V)), IsK K F vs ds → D.subT A ds = ds
  | [], vs, h => rfl
  | (k, d) :: ds, vs, h => by
    obtain ⟨x, xr, rfl, i, l⟩ := h.uncons
    show (k, D.sub A d) :: D.subT A ds = (k, d) :: ds
    rw [is_clean d x i, isT_clean ds xr l]
theorem isF_clean {K : PySem.W.Frag} {F : Hp} {A : List Addr} : ∀ (ds : List (Str × D)) (vs : List (Str × V)), IsK K F vs ds → D.subF A ds = ds
  | [], vs, h => rfl
  | (k, d) :: ds, vs, h => by
    obtain ⟨x, xr, rfl, i, l⟩ := h.uncons
    show (k, D.sub A d) :: D.subF A ds = (k, d) :: ds
    rw [is_clean d x i, isF_clean ds xr l]
end
theorem at_up {K : PySem.W.Frag} {F : Hp} {A : List Addr} {v : V} {p : P} (h : Is K F v (p.at A)) (b : Bool) : Is K F v (P.at A (p.1 || b, p.2)) := by
  obtain ⟨c, d⟩ := p
  cases c with
  | true => exact h
  | false =>
    cases b with
    | false => exact h
    | true =>
      show Is K F v (d.sub A)
      rw [is_clean d v h]
      exact h
/-! ### numbers replaced by what they hold -/
mutual
def D.put (f : Nat → Option D) : D → Option D
  | .non => some .non
  | .bl b => some (.bl b)
  | .int i => some (.int i)
  | .str s => some (.str s)
  | .list xs => (D.putAll f xs).map .list
  | .tup xs => (D.putAll f xs).map .tup
  | .dict xs => (D.putK f xs).map .dict
  | .dictT xs => (D.putT f xs).map .dictT
  | .obj c xs => (D.putFl f xs).map (.obj c)
  | .loc k => f k
  | .adr _ => none
def D.putAll (f : Nat → Option D) : List D → Option (List D)
  | [] => some []
  | d :: ds => (D.put f d).bind fun e => (D.putAll f ds).map (e :: ·)
def D.putK (f : Nat → Option D) : List (Key × D) → Option (List (Key × D))
  | [] => some []
  | (k, d) :: ds => (D.put f d).bind fun e => (D.putK f ds).map ((k, e) :: ·)
def D.putT (f : Nat → Option D) : List (List Key × D) → Option (List (List Key × D))
  | [] => some []
  | (k, d) :: ds => (D.put f d).bind fun e => (D.putT f ds).map ((k, e) :: ·)
def D.putFl (f : Nat → Option D) : List (Str × D) → Option (List (Str × D))
  | [] => some []
  | (k, d) :: ds => (D.put f d).bind fun e => (D.putFl f ds).map ((k, e) :: ·)
end
section
variable {K : PySem.W.Frag} {F F' : Hp} {A : List Addr} {f : Nat → Option D}
mutual
theorem is_put (hf : ∀ k a e, A[k]? = some a → f k = some e → Is K F' (.ref a) e) (s : Same F F') : ∀ (d : D) (v : V) (e : D), Is K F v (d.sub A) → d.put f = some e → Is K F' v e
  | .non, v, e, h, q => by cases q; exact h.mono s
  | .bl _, v, e, h, q => by cases q; exact h.mono s
  | .int _, v, e, h, q => by cases q; exact h.mono s
  | .str _, v, e, h, q => by cases q; exact h.mono s
  | .adr _, v, e, h, q => by cases q
  | .list xs, v, e, h, q => by
    obtain ⟨a, ys, rfl, hs, l⟩ := (show Is K F v (.list (D.subAll A xs)) from h).list_inv
    obtain ⟨es, q1, rfl⟩ := Option.map_eq_some_iff.mp (show (D.putAll f xs).map D.list = some e from q)
    exact is_list (s.seq hs) (isL_put hf s xs ys es l q1)
  | .tup xs, v, e, h, q => by
    obtain ⟨a, ys, rfl, hs, l⟩ := (show Is K F v (.tup (D.subAll A xs)) from h).tup_inv
    obtain ⟨es, q1, rfl⟩ := Option.map_eq_some_iff.mp (show (D.putAll f xs).map D.tup = some e from q)
    exact is_tup (sameT s hs) (isL_put hf s xs ys es l q1)
  | .dict xs, v, e, h, q => by
    obtain ⟨a, ys, rfl, hs, l⟩ := (show Is K F v (.dict (D.subK A xs)) from h).dict_inv
    obtain ⟨es, q1, rfl⟩ := Option.map_eq_some_iff.mp (show (D.putK f xs).map D.dict = some e from q)
    have l2 := isK_put hf s xs ys es l q1
    exact .dict (sameR s hs) l2.1 l2.2.1 l2.2.2
  | .dictT xs, v, e, h, q => by
    cases (show Is K F v (.dictT (D.subT A xs)) from h) with
    | dictT hs l1 l2 l3 =>
      obtain ⟨es, q1, rfl⟩ := Option.map_eq_some_iff.mp (show (D.putT f xs).map D.dictT = some e from q)
      have l2 := isT_put hf s xs _ es ⟨l1, l2, l3⟩ q1
      exact .dictT (s _ _ hs) l2.1 l2.2.1 l2.2.2
  | .obj c xs, v, e, h, q => by
    obtain ⟨a, dx, ys, rfl, hs, l⟩ := (show Is K F v (.obj c (D.subF A xs)) from h).obj_inv
    obtain ⟨es, q1, rfl⟩ := Option.map_eq_some_iff.mp (show (D.putFl f xs).map (D.obj c) = some e from q)
    have l2 := isF_put hf s xs ys es l q1
    exact .obj (s _ _ hs) l2.1 l2.2.1 l2.2.2
  | .loc k, v, e, h, q => by
    have h' : Is K F v (match A[k]? with | some a => .adr a | none => .loc k) := h
    cases z : A[k]? with
    | none => rw [z] at h'; cases h'
    | some a =>
      rw [z] at h'
      cases h'
      exact hf k a e z q
theorem isL_put (hf : ∀ k a e, A[k]? = some a → f k = some e → Is K F' (.ref a) e) (s : Same F F') : ∀ (ds : List D) (vs : List V) (es : List D), IsL K F vs (D.subAll A ds) → D.putAll f ds = some es → IsL K F' vs es
  | [], vs, es, h, q => by cases q; exact h.mono s
  | d :: ds, vs, es, h, q => by
    obtain ⟨x, xr, rfl, i, l⟩ := (show IsL K F vs (D.sub A d :: D.subAll A ds) from h).uncons
    obtain ⟨e, q1, q2⟩ := Option.bind_eq_some_iff.mp (show (D.put f d).bind (fun e => (D.putAll f ds).map (e :: ·)) = some es from q)
    obtain ⟨er, q3, rfl⟩ := Option.map_eq_some_iff.mp q2
    exact .cons (is_put hf s d x e i q1) (isL_put hf s ds xr er l q3)
theorem isK_put (hf : ∀ k a e, A[k]? = some a → f k = some e → Is K F' (.ref a) e) (s : Same F F') : ∀ (ds : List (Key × D)) (vs : List (Key × V)) (es : List (Key × D)), IsK K F vs (D.subK A ds) → D.putK f ds = some es → IsK K F' vs es
  | [], vs, es, h, q => by cases q; exact h.mono s
  | (k, d) :: ds, vs, es, h, q => by
    obtain ⟨x, xr, rfl, i, l⟩ := (show IsK K F vs ((k, D.sub A d) :: D.subK A ds) from h).uncons
    obtain ⟨e, q1, q2⟩ := Option.bind_eq_some_iff.mp (show (D.put f d).bind (fun e => (D.putK f ds).map ((k, e) :: ·)) = some es from q)
    obtain ⟨er, q3, rfl⟩ := Option.map_eq_some_iff.mp q2
    exact .cons (is_put hf s d x e i q1) (isK_put hf s ds xr er l q3)
theorem isT_put (hf : ∀ k a e, A[k]? = some a → f k = some e → Is K F' (.ref a) e) (s : Same F F') : ∀ (ds : List (List Key × D)) (vs : List (List Key × V)) (es : List (List Key × D)), IsK K F vs (D.subT A ds) → D.putT f ds = some es → IsK K F' vs es
  | [], vs, es, h, q => by cases q; exact h.mono s
  | (k, d) :: ds, vs, es, h, q => by
    obtain ⟨x, xr, rfl, i, l⟩ := (show IsK K F vs ((k, D.sub A d) :: D.subT A ds) from h).uncons
    obtain ⟨e, q1, q2⟩ := Option.bind_eq_some_iff.mp (show (D.put f d).bind (fun e => (D.putT f ds).map ((k, e) :: ·)) = some es from q)
    obtain ⟨er, q3, rfl⟩ := Option.map_eq_some_iff.mp q2
    exact .cons (is_put hf s d x e i q1) (isT_put hf s ds xr er l q3)
theorem isF_put (hf : ∀ k a e, A[k]? = some a → f k = some e → Is K F' (.ref a) e) (s : Same F F') : ∀ (ds : List (Str × D)) (vs : List (Str × V)) (es : List (Str × D)), IsK K F vs (D.subF A ds) → D.putFl f ds = some es → IsK K F' vs es
  | [], vs, es, h, q => by cases q; exact h.mono s
  | (k, d) :: ds, vs, es, h, q => by
    obtain ⟨x, xr, rfl, i, l⟩ := (show IsK K F vs ((k, D.sub A d) :: D.subF A ds) from h).uncons
    obtain ⟨e, q1, q2⟩ := Option.bind_eq_some_iff.mp (show (D.put f d).bind (fun e => (D.putFl f ds).map ((k, e) :: ·)) = some es from q)
    obtain ⟨er, q3, rfl⟩ := Option.map_eq_some_iff.mp q2
    exact .cons (is_put hf s d x e i q1) (isF_put hf s ds xr er l q3)
end
theorem isC_put (hf : ∀ k a e, A[k]? = some a → f k = some e → Is K F' (.ref a) e) (s : Same F F') {o : HO} : ∀ (d e : D), IsC K F o (d.sub A) → d.put f = some e → IsC K F' o e
  | .list xs, e, h, q => by
    obtain ⟨es, q1, rfl⟩ := Option.map_eq_some_iff.mp (show (D.putAll f xs).map D.list = some e from q)
    cases o <;> first | exact isL_put hf s xs _ es h q1 | exact h.elim
  | .dict xs, e, h, q => by
    obtain ⟨es, q1, rfl⟩ := Option.map_eq_some_iff.mp (show (D.putK f xs).map D.dict = some e from q)
    cases o <;> first | exact isK_put hf s xs _ es h q1 | exact h.elim
  | .dictT xs, e, h, q => by
    obtain ⟨es, q1, rfl⟩ := Option.map_eq_some_iff.mp (show (D.putT f xs).map D.dictT = some e from q)
    cases o <;> first | exact isT_put hf s xs _ es h q1 | exact h.elim
  | .obj c xs, e, h, q => by
    obtain ⟨es, q1, rfl⟩ := Option.map_eq_some_iff.mp (show (D.putFl f xs).map (D.obj c) = some e from q)
    cases o <;> first | exact ⟨h.1, isF_put hf s xs _ es h.2 q1⟩ | exact h.elim
  | .non, e, h, q => by cases o <;> exact h.elim
  | .bl _, e, h, q => by cases o <;> exact h.elim
  | .int _, e, h, q => by cases o <;> exact h.elim
  | .str _, e, h, q => by cases o <;> exact h.elim
  | .tup _, e, h, q => by cases o <;> exact h.elim
  | .adr _, e, h, q => by cases o <;> exact h.elim
  | .loc k, e, h, q => by
    have h' : IsC K F o (match A[k]? with | some a => .adr a | none => .loc k) := h
    split at h' <;> cases o <;> exact h'.elim
end
/-- what the numbers hold, n deep -/
def memD (M : Mem) : Nat → Nat → Option D
  | 0, _ => none
  | n + 1, k => match M[k]? with
    | some (false, d) => some d
    | some (true, d) => d.put (memD M n)
    | none => none
def P.full (M : Mem) (p : P) : Option D := match p with
  | (false, d) => some d
  | (true, d) => d.put (memD M M.length)
/-- all is shared -/
def frzF (F H : Hp) (A : List Addr) : Hp := open Classical in fun a => if a ∈ A then H a else F a
section
variable {K : PySem.W.Frag} {F H : Hp} {A : List Addr} {M : Mem}
theorem frz_same (c : Cells K F H A M) : Same F (frzF F H A) ∧ Same (frzF F H A) H := by
  refine ⟨fun b u e => ?_, fun b u e => ?_⟩
  · unfold frzF
    rw [if_neg (fun m => by rw [c.dj b m] at e; cases e)]
    exact e
  · unfold frzF at e
    by_cases m : b ∈ A
    · rw [if_pos m] at e; exact e
    · rw [if_neg m] at e; exact c.fh b u e
theorem memD_is (c : Cells K F H A M) : ∀ (n k : Nat) (a : Addr) (e : D), A[k]? = some a → memD M n k = some e → Is K (frzF F H A) (.ref a) e
  | 0, k, a, e, ha, q => by cases q
  | n + 1, k, a, e, ha, q => by
    have q' : (match M[k]? with
      | some (false, d) => some d
      | some (true, d) => d.put (memD M n)
      | none => none) = some e := q
    cases z : M[k]? with
    | none => rw [z] at q'; cases q'
    | some p =>
      obtain ⟨b, d⟩ := p
      rw [z] at q'
      obtain ⟨a', o, e1, e2, e3⟩ := c.at_ k _ z
      rw [ha] at e1
      cases e1
      have hF : frzF F H A a = some o := by
        unfold frzF
        rw [if_pos (List.mem_iff_getElem?.mpr ⟨k, ha⟩)]
        exact e2
      cases b with
      | false =>
        rw [← Option.some.inj q']
        exact is_of_c hF (IsC.mono (show IsC K F o d from e3) (frz_same c).1)
      | true => exact is_of_c hF (isC_put (fun j b e' hb qe => memD_is c n j b e' hb qe) (frz_same c).1 d e e3 q')
theorem full_is (c : Cells K F H A M) {v : V} {p : P} {e : D} (h : Is K F v (p.at A)) (q : p.full M = some e) : Is K (frzF F H A) v e := by
  obtain ⟨b, d⟩ := p
  cases b with
  | false =>
    rw [← Option.some.inj (show some d = some e from q)]
    exact Is.mono (show Is K F v d from h) (frz_same c).1
  | true => exact is_put (fun j b e' hb qe => memD_is c _ j b e' hb qe) (frz_same c).1 d v e h q
end
/-! ### what a def promises -/
abbrev GF := List P → Mem → RQ P
def spQ (K : PySem.W.Frag) (G : GF) : Sp := fun vs H Q E => ∃ ps M F A, IsLP K F A vs ps ∧ Cells K F H A M ∧ match G ps M with
  | .ok p M' => ∀ v F' H' A', ExtQ F H A F' H' A' → Cells K F' H' A' M' → Is K F' v (p.at A') → Q v H'
  | .ex x M' => ∀ cls od F' H' A', ExtQ F H A F' H' A' → Cells K F' H' A' M' → IsX K F' x cls od → E cls od H'
  | .st => False
def RQ.down (r : RQ P) : R D := match r with
  | .ok p M => (match p.full M with
    | some d => .ok d
    | none => .st)
  | .ex x _ => .ex x
  | .st => .st
/-- called with what has no numbers -/
def GF.down (G : GF) : List D → R D := fun ds => (G (ds.map fun d => (false, d)) []).down
theorem islp_clean {K : PySem.W.Frag} {F : Hp} {A : List Addr} {vs : List V} {ds : List D} (l : IsL K F vs ds) : IsLP K F A vs (ds.map fun d => (false, d)) := by
  show IsL K F vs ((ds.map fun d => (false, d)).map (P.at A))
  rw [List.map_map, show (P.at A ∘ fun d => (false, d)) = (id : D → D) from rfl, List.map_id]
  exact l
theorem spQ_of {K : PySem.W.Frag} {G : GF} {vs : List V} {H : Hp} {Q : VK} {E : XK} (h : spD K G.down vs H Q E) : spQ K G vs H Q E := by
  obtain ⟨ds, F, l, s, h⟩ := h
  have c0 : Cells K F H [] [] := ⟨s, rfl, .nil, fun a m => (nomatch m), fun k p hp => by simp at hp⟩
  refine ⟨_, [], F, [], islp_clean l, c0, ?_⟩
  unfold GF.down at h
  cases z : G (ds.map fun d => (false, d)) [] with
  | ok p M =>
    rw [z] at h
    intro v F' H' A' x c i
    have h' : match (match p.full M with | some d => R.ok d | none => R.st) with
      | .ok d => ∀ v F' H', Ext F H F' H' → Is K F' v d → Q v H'
      | .ex x => ∀ cls od F' H', Ext F H F' H' → IsX K F' x cls od → E cls od H'
      | .st => False := h
    cases z2 : p.full M with
    | none => rw [z2] at h'; exact h'.elim
    | some d =>
      rw [z2] at h'
      obtain ⟨s1, s2⟩ := frz_same c
      refine h' v (frzF F' H' A') H' ⟨x.ff.trans s1, fun a o e => x.hh a o e (by simp), s2, fun p hp fp => ?_⟩ (full_is c i z2)
      obtain ⟨y1, y2⟩ := x.nw p hp fp (by simp)
      unfold frzF
      rw [if_neg y2]
      exact y1
  | ex x M =>
    rw [z] at h
    intro cls od F' H' A' x2 c i
    exact h cls od F' H' ⟨x2.ff, fun a o e => x2.hh a o e (by simp), c.fh, fun p hp fp => (x2.nw p hp fp (by simp)).1⟩ i
  | st => rw [z] at h; exact h
theorem FnOk.down {P : Program} {w : World} {K : PySem.W.Frag} {mg : Str → Option Value} {base : Heap} {CX : CXT} {k : Nat} {f : Addr} {fd : FuncData} {ps : List Str} {G : GF} (F : FnOk P w K mg base CX k f fd ps (spQ K G)) : FnOk P w K mg base CX k f fd ps (spD K G.down) :=
  F.imp fun vs H Q E h => spQ_of h
/-! ### a def's body -/
def startQ (n : Nat) (ps : List P) : RhoQ := ps.map some ++ List.replicate (n - ps.length) none
def endQ : SQ → RQ P
  | .rt p M => .ok p M
  | .nx _ M => .ok (false, .non) M
  | .ex x _ M => .ex x M
  | _ => .st
def runQ (n np : Nat) (s : SQF) : GF := fun ps M => if ps.length = np then endQ (s (startQ n ps) M) else .st
theorem repQ_start {K : PySem.W.Frag} {F H : Hp} {A : List Addr} {M : Mem} {N : List Str} {ps : List P} {vs : List V} (l : IsLP K F A vs ps) (c : Cells K F H A M) : RepQ K ⟨F, H, A⟩ (startQ N.length ps) M (L2.start N vs) F H A := by
  have ll : vs.length = ps.length := by rw [l.1, List.length_map]
  refine ⟨?_, c, .refl, fun i p a => ?_⟩
  · unfold startQ L2.start
    rw [List.length_append, List.length_append, List.length_map, List.length_map, List.length_replicate, List.length_replicate, ll]
  · unfold startQ at a
    by_cases hi : i < ps.length
    · rw [List.getElem?_append_left (by simpa using hi), List.getElem?_map] at a
      cases e : ps[i]? with
      | none => rw [e] at a; cases a
      | some p' =>
        rw [e] at a
        cases a
        obtain ⟨v, e2, i2⟩ := IsL.at (K := K) (H := F) l (i := i) (d := p.at A) (by rw [List.getElem?_map, e]; rfl)
        refine ⟨v, ?_, i2⟩
        unfold L2.start
        rw [List.getElem?_append_left (by rw [List.length_map, ll]; exact hi), List.getElem?_map, e2]
        rfl
    · rw [List.getElem?_append_right (by simpa using hi), List.getElem?_replicate] at a
      split at a <;> cases a
section
variable {P' : Program} {w : World} {K : PySem.W.Frag} {mg : Str → Option Value} {base : Heap} {x qual : Str} {params : Arguments} {body : List Stmt} {scope : Scope} {dvs : List V} {kws : List (Str × V)} {f : Addr} {fd : FuncData}
theorem fn_q {N ps : List Str} {k : Nat} {s : SQF} (n : Nat) (Fn : FunD K x qual params body scope dvs kws f fd) (Sc : FnScope N ps scope) (hn : N.length = n)
    (hb : ∀ (cdv : Value) (A : Around) (outer : List Env) (st : Shared) (H : Hp) (E : XK) (B : QB), Room k (A.deeper (envOfC qual scope st.heap.objs.size f cdv)) →
      DQSs (cxOf (L2.CX P' w) P' w K mg base N qual scope f cdv A outer st H E) B (fun cls d _ H => E cls d H) body s) : FnOk P' w K mg base (L2.CX P' w) (k + 1) f fd ps (spQ K (runQ n ps.length s)) := by
  subst hn
  refine Fn.ok Sc (fun vs H Q E h => ?_) fun cdv A outer st H vs Q E hr h => ?_
  · obtain ⟨ds, M, F, A, l, _, h⟩ := h
    unfold runQ at h
    by_cases hd : ds.length = ps.length
    · rw [l.1, List.length_map]; exact hd
    · rw [if_neg hd] at h
      exact h.elim
  · obtain ⟨ds, M, F, A', l, c, h⟩ := h
    refine ⟨_, hb cdv A outer st H E ⟨F, H, A'⟩ hr, startQ N.length ds, M, F, A', repQ_start l c, ?_⟩
    unfold runQ at h
    by_cases hd : ds.length = ps.length
    · rw [if_pos hd] at h
      cases z : s (startQ N.length ds) M with
      | nx ρ M1 => rw [z] at h; exact fun σ' F' H' A2 r' _ => h .non F' H' A2 r'.ext r'.cl .non
      | rt p M1 => rw [z] at h; exact fun v F' H' A2 x c i => h v F' H' A2 x c i
      | bk ρ => rw [z] at h; exact h.elim
      | ct ρ => rw [z] at h; exact h.elim
      | ex x ρ M1 => rw [z] at h; exact fun cls od σ' F' H' A2 r' _ i => h cls od F' H' A2 r'.ext r'.cl i
      | st => rw [z] at h; exact h.elim
    · rw [if_neg hd] at h
      exact h.elim
end
/-! ### calls -/
structure CalQ (P' : Program) (w : World) (K : PySem.W.Frag) (mg : Str → Option Value) (base : Heap) (k : Nat) (x : Str) (G : GF) : Prop where
  ex : ∃ f fd ps ds dvs dv, FnOk P' w K mg base (L2.CX P' w) k f fd ps (spQ K dv) ∧ mg x = some (.ref f) ∧ PySem.W.keepIn K (.ref f) = true ∧ Binds K fd ps ds ∧ Vals dvs ds ∧ ∃ ed : List D, (∀ H, IsL K H dvs ed) ∧ ∀ as M, G as M = dv (as ++ ed.map fun d => (false, d)) M
structure MetQ (P' : Program) (w : World) (K : PySem.W.Frag) (mg : Str → Option Value) (base : Heap) (k : Nat) (c m : Str) (G : GF) : Prop where
  ex : ∃ f fd ps ds dvs dv, FnOk P' w K mg base (L2.CX P' w) k f fd ps (spQ K dv) ∧ Cls K (He.ga K c) ∧ Meth K (He.ga K c) m f ∧ Binds K fd ps ds ∧ Vals dvs ds ∧ ∃ ed : List D, (∀ H, IsL K H dvs ed) ∧ ∀ as M, G as M = dv (as ++ ed.map fun d => (false, d)) M
/-- class x, made by its __init__ -/
structure MkQ (P' : Program) (w : World) (K : PySem.W.Frag) (mg : Str → Option Value) (base : Heap) (k : Nat) (x : Str) (G : GF) : Prop where
  ex : ∃ f fd ps ds dvs dv, FnOk P' w K mg base (L2.CX P' w) k f fd ps (spQ K dv) ∧ mg x = some (.ref (He.ga K x)) ∧ Mk K (He.ga K x) f ∧ Binds K fd ps ds ∧ Vals dvs ds ∧ ∃ ed : List D, (∀ H, IsL K H dvs ed) ∧ ∀ as M, G as M = dv (as ++ ed.map fun d => (false, d)) M
def aqNil : GQA := fun _ M => .ok [] M
def aqCons (g : GQ) (t : GQA) : GQA := fun ρ M => (g ρ M).bind fun p M1 => (t ρ M1).bind fun ps M2 => .ok (p :: ps) M2
def qCall (G : GF) (t : GQA) : GQ := fun ρ M => (t ρ M).bind G
section
variable {X : Cx} {B : QB} {W : WX} {pos : Pos} {e o : Expr} {es : List Expr} {g go : GQ} {t : GQA} {k j : Nat} {x : Str} {p : Pos} {G : GF}
theorem qa_nil : DQA X B W [] aqNil := pa_imp pa_nil fun σ H Q ⟨ρ, M, F, A, r, h⟩ => h [] F H A .refl r.cl .nil
theorem qa_cons (h1 : DQ X B W e g) (h2 : DQA X B W es t) (hs : starEach (e :: es) X.env = (false, eval e X.env) :: starEach es X.env := by rfl) : DQA X B W (e :: es) (aqCons g t) := by
  refine pa_imp (pa_cons h1 h2 hs) fun σ H Q ⟨ρ, M, F, A, r, h⟩ => ⟨ρ, M, F, A, r, ?_⟩
  unfold aqCons at h
  cases z : g ρ M with
  | st => rw [z] at h; exact h.elim
  | ex x M1 => rw [z] at h; exact h
  | ok p M1 =>
    rw [z] at h
    intro v F1 H1 A1 x1 c1 i1
    refine ⟨ρ, M1, F1, A1, r.to x1 c1, ?_⟩
    have h' : match (t ρ M1).bind fun ps M2 => RQ.ok (p :: ps) M2 with
      | .ok ps M => ∀ vs F' H' A', ExtQ F H A F' H' A' → Cells X.K F' H' A' M → IsLP X.K F' A' vs ps → Q vs H'
      | .ex x M => ExK X.K W σ F H A x M
      | .st => False := h
    cases z2 : t ρ M1 with
    | st => rw [z2] at h'; exact h'.elim
    | ex x M2 => rw [z2] at h'; exact ExK.ext (M1 := M1) h' x1 c1
    | ok ps M2 =>
      rw [z2] at h'
      intro vs F2 H2 A2 x2 c2 i2
      refine h' (v :: vs) F2 H2 A2 (x1.trans c1 x2) c2 ?_
      exact IsL.cons (K := X.K) (H := F2) (x2.grow.is i1) i2
theorem islp_app {K : PySem.W.Frag} {F : Hp} {A : List Addr} {vs dvs : List V} {ps : List P} {ed : List D} (l : IsLP K F A vs ps) (he : ∀ H, IsL K H dvs ed) : IsLP K F A (vs ++ dvs) (ps ++ ed.map fun d => (false, d)) := by
  have : IsL K F (vs ++ dvs) (ps.map (P.at A) ++ (ed.map fun d => (false, d)).map (P.at A)) := IsL.append l (islp_clean (he F))
  rw [← List.map_append] at this
  exact this
/-- a def called, defaults filling up, what it lets out told at the slots -/
theorem pe_callW {CX : CXT} {f : Addr} {fd : FuncData} {ps : List Str} {sp : Sp} {dvs : List V} {ds : List Value} {E : L2.St → XK} {tt : TA} (F : FnOk X.prog X.w X.K X.mg X.base CX k f fd ps sp) (hr : Room k X.A) (hg : Gl X x) (hm : X.mg x = some (.ref f)) (hk : PySem.W.keepIn X.K (.ref f) = true) (hb : Binds X.K fd ps ds) (hd : Vals dvs ds) (hx : ∀ σ, PassesAt CX X σ (E σ))
    (ha : PA X (e :: es) tt) (hdb : (x == ("__debug__" : Str)) = false) (he : starEach (e :: es) X.env = (false, eval e X.env) :: starEach es X.env) (hpl : (backTo pos (starEach es X.env)).any (·.1) = false) :
    PE X (.Call (.Name x p) (e :: es) [] pos) (fun σ H Q => tt σ H fun vs H1 => sp (vs ++ dvs) H1 Q (E σ)) := by
  refine ⟨fun pins s σ H Q I h => ?_⟩
  refine wpAny_Call_Name_kw (ld_glob I hg hm ?_ hdb)
  refine PySem.W.callWith_K (h₀ := X.base) I.ok.mod.kin hk (thn (ha.run pos pins s σ H _ I h) fun us s1 ⟨vs, H1, I1, r, q⟩ => ⟨I1.kIn, ?_⟩) he hpl
  exact run_fnW F hr hb hd (hx σ) I1 r q
theorem q_c (C : CalQ X.prog X.w X.K X.mg X.base k x G) (hr : Room j X.A) (hj : k ≤ j) (tk : Takes X W) (ha : DQA X B W (e :: es) t) (hg : Gl X x := by rfl)
    (hdb : (x == ("__debug__" : Str)) = false := by decide) (he : starEach (e :: es) X.env = (false, eval e X.env) :: starEach es X.env := by rfl) (hpl : (backTo pos (starEach es X.env)).any (·.1) = false := by rfl) : DQ X B W (.Call (.Name x p) (e :: es) [] pos) (qCall G t) := by
  obtain ⟨f, fd, ps, ds, dvs, dv, Fn, hm, hk, hb, hd, ed, hE, hG⟩ := C.ex
  refine pe_imp (pe_callW Fn (hr.mono hj) hg hm hk hb hd (fun σ => passAt tk σ) ha hdb he hpl) fun σ H Q ⟨ρ, M, F, A, r, h⟩ => ?_
  refine semQA_bind (k := G) r h fun ps M1 vs F1 H1 A1 _ i1 r1 h1 => ⟨_, M1, F1, A1, islp_app i1 hE, r1.cl, ?_⟩
  rw [hG] at h1
  cases z : dv (ps ++ ed.map fun d => (false, d)) M1 with
  | ok p M2 => rw [z] at h1; exact h1
  | ex x M2 => rw [z] at h1; exact h1
  | st => rw [z] at h1; exact h1
/-! ### an object, as a number or as data -/
def objP (M : Mem) : P → Option (Bool × Str × List (Str × D))
  | (b, .obj c fs) => some (b, c, fs)
  | (true, .loc k) => match M[k]? with
    | some (b, .obj c fs) => some (b, c, fs)
    | _ => none
  | _ => none
theorem isF_at {K : PySem.W.Frag} {F : Hp} {A : List Addr} {b : Bool} {fs : List (Str × D)} {xs : List (Str × V)} {c : Str} {a : Addr} {o : HO} (h : IsC K F o (P.at A (b, .obj c fs))) : ∃ dx xs, o = .ins (He.ga K c) dx xs ∧ IsK K F xs (fs.map fun q => (q.1, P.at A (b, q.2))) := by
  cases b with
  | false =>
    cases o <;> first | exact (show False from h).elim | skip
    rename_i C dx xs
    obtain ⟨e, l⟩ := (show C = He.ga K c ∧ IsK K F xs fs from h)
    subst e
    refine ⟨dx, xs, rfl, ?_⟩
    have : (fs.map fun q => (q.1, P.at A (false, q.2))) = fs := by
      have : (fun q : Str × D => (q.1, P.at A (false, q.2))) = id := rfl
      rw [this, List.map_id]
    rw [this]
    exact l
  | true =>
    cases o <;> first | exact (show False from h).elim | skip
    rename_i C dx xs
    obtain ⟨e, l⟩ := (show C = He.ga K c ∧ IsK K F xs (D.subF A fs) from h)
    subst e
    refine ⟨dx, xs, rfl, ?_⟩
    rw [subF_map] at l
    exact l
theorem objP_is {K : PySem.W.Frag} {F H : Hp} {A : List Addr} {M : Mem} {v : V} {p : P} {b : Bool} {c : Str} {fs : List (Str × D)} (cl : Cells K F H A M) (i : Is K F v (p.at A)) (h : objP M p = some (b, c, fs)) :
    ∃ a dx xs, v = .ref a ∧ H a = some (.ins (He.ga K c) dx xs) ∧ IsK K F xs (fs.map fun q => (q.1, P.at A (b, q.2))) := by
  unfold objP at h
  split at h
  · rename_i b' c' fs'
    cases h
    cases b with
    | false =>
      obtain ⟨a, dx, xs, e, ha, l⟩ := (show Is K F v (.obj c fs) from i).obj_inv
      refine ⟨a, dx, xs, e, cl.fh _ _ ha, ?_⟩
      have : (fs.map fun q => (q.1, P.at A (false, q.2))) = fs := by
        have : (fun q : Str × D => (q.1, P.at A (false, q.2))) = id := rfl
        rw [this, List.map_id]
      rw [this]
      exact l
    | true =>
      obtain ⟨a, dx, xs, e, ha, l⟩ := (show Is K F v (.obj c (D.subF A fs)) from i).obj_inv
      refine ⟨a, dx, xs, e, cl.fh _ _ ha, ?_⟩
      rw [subF_map] at l
      exact l
  · rename_i k
    split at h
    · rename_i b' c' fs' e
      cases h
      have i' : Is K F v (match A[k]? with | some a => .adr a | none => .loc k) := i
      obtain ⟨a, o, e1, e2, e3⟩ := cl.at_ k _ e
      rw [e1] at i'
      cases i'
      obtain ⟨dx, xs, rfl, l⟩ := isF_at (xs := []) (a := a) e3
      exact ⟨a, dx, xs, rfl, e2, l⟩
    · cases h
  · cases h
theorem lookup_map {f : Str} {gg : D → D} : ∀ {fs : List (Str × D)}, (fs.map fun q => (q.1, gg q.2)).lookup f = (fs.lookup f).map gg
  | [] => rfl
  | (a, d) :: r => by
    by_cases hf : f = a
    · subst hf
      rw [List.map_cons, List.lookup_cons_self, List.lookup_cons_self]
      rfl
    · have hb : (f == a) = false := beq_eq_false_iff_ne.mpr hf
      rw [List.map_cons]
      simp only [List.lookup, hb]
      exact lookup_map
def qFld (cs : List Str) (f : Str) (g : GQ) : GQ := fun ρ M => (g ρ M).bind fun p M1 => match objP M1 p with
  | some (b, c, fs) => if cs.contains c = true then (match fs.lookup f with
    | some d => .ok (b, d) M1
    | none => .st) else .st
  | none => .st
theorem q_fld {f : Str} (cs : List Str) (hc : ∀ c ∈ cs, Cls X.K (He.ga X.K c) ∧ NoAttr X.K (He.ga X.K c) f) (he : DQ X B W e g) (hb : attributeBase e f X.env (eval e X.env) = eval e X.env := by rfl) : DQ X B W (.Attribute e f pos) (qFld cs f g) := by
  refine pe_imp (pe_fld he hb) fun σ H Q ⟨ρ, M, F, A, r, h⟩ => ?_
  refine semQ_bind (k := fun p M1 => match objP M1 p with
    | some (b, c, fs) => if cs.contains c = true then (match fs.lookup f with
      | some d => .ok (b, d) M1
      | none => .st) else .st
    | none => .st) r h fun p M1 v F1 H1 A1 _ i1 r1 h1 => ?_
  cases z : objP M1 p with
  | none => rw [z] at h1; exact h1.elim
  | some q =>
    obtain ⟨b, c, fs⟩ := q
    rw [z] at h1
    have h2 : afterQ X.K W σ F1 H1 A1 (if cs.contains c = true then (match fs.lookup f with
      | some d => .ok (b, d) M1
      | none => .st) else .st) Q := h1
    by_cases hz : cs.contains c = true
    · rw [if_pos hz] at h2
      obtain ⟨a, dx, xs, rfl, ha, ik⟩ := objP_is r1.cl i1 z
      obtain ⟨cl, na⟩ := hc c (by simpa using hz)
      cases q : fs.lookup f with
      | none => rw [q] at h2; exact h2.elim
      | some d =>
        rw [q] at h2
        obtain ⟨v, e1, e2⟩ := (isK_lookup ik).1 (P.at A1 (b, d)) (by rw [lookup_map (gg := fun d => P.at A1 (b, d)), q]; rfl)
        exact ⟨a, _, dx, xs, v, rfl, ha, cl, na, e1, afterQ.now h2 r1.cl e2⟩
    · rw [if_neg hz] at h2
      exact h2.elim
end
end Pd

/-! Pq4: methods, objects made, fields and lists changed; a look at all (snapshot) -/
namespace Pd
open PySem PySem.Spec PyProof.Rows L2
/-! ### methods -/
def metQ (tb : List (Str × GF)) (mn : Str) (p : P) (M : Mem) (k : GF → RQ P) : RQ P := match objP M p with
  | some (_, c, fs) => (match fs.lookup mn with
    | some _ => .st
    | none => match tb.lookup c with
      | some G => k G
      | none => .st)
  | none => .st
def qMeth (tb : List (Str × GF)) (mn : Str) (go : GQ) (t : GQA) : GQ := fun ρ M => (go ρ M).bind fun p M1 => metQ tb mn p M1 fun G => (t ρ M1).bind fun ps M2 => G (p :: ps) M2
section
variable {X : Cx} {B : QB} {W : WX} {pos apos : Pos} {e o : Expr} {es : List Expr} {g go : GQ} {t : GQA} {k j : Nat} {x mn c : Str} {p : Pos} {G : GF} {pl : Sem Bool}
theorem qMeth_row {tb : List (Str × GF)} {ρ : RhoQ} {M : Mem} (hne : tb ≠ []) (hs : qMeth tb mn go t ρ M ≠ .st) : ∃ q ∈ tb, qMeth [q] mn go t ρ M = qMeth tb mn go t ρ M := by
  unfold qMeth at hs ⊢
  cases z : go ρ M with
  | st => rw [z] at hs; exact absurd rfl hs
  | ex x M1 =>
    obtain ⟨q, hq⟩ := List.exists_mem_of_ne_nil _ hne
    exact ⟨q, hq, rfl⟩
  | ok p M1 =>
    rw [z] at hs
    have hs2 : metQ tb mn p M1 (fun G => (t ρ M1).bind fun ps M2 => G (p :: ps) M2) ≠ .st := hs
    unfold metQ at hs2
    show ∃ q ∈ tb, metQ [q] mn p M1 (fun G => (t ρ M1).bind fun ps M2 => G (p :: ps) M2) = metQ tb mn p M1 (fun G => (t ρ M1).bind fun ps M2 => G (p :: ps) M2)
    unfold metQ
    cases z1 : objP M1 p with
    | none => rw [z1] at hs2; exact absurd rfl hs2
    | some q =>
      obtain ⟨b, c, fs⟩ := q
      rw [z1] at hs2
      have hs3 : (match fs.lookup mn with
        | some _ => RQ.st
        | none => match tb.lookup c with
          | some G => (t ρ M1).bind fun ps M2 => G (p :: ps) M2
          | none => RQ.st) ≠ .st := hs2
      cases z2 : fs.lookup mn with
      | some _ => rw [z2] at hs3; exact absurd rfl hs3
      | none =>
        rw [z2] at hs3
        cases z3 : tb.lookup c with
        | none => rw [z3] at hs3; exact absurd rfl hs3
        | some G =>
          refine ⟨(c, G), lookup_mem z3, ?_⟩
          show (match fs.lookup mn with
            | some _ => RQ.st
            | none => match List.lookup c [(c, G)] with
              | some G => (t ρ M1).bind fun ps M2 => G (p :: ps) M2
              | none => RQ.st) = (match fs.lookup mn with
            | some _ => RQ.st
            | none => match tb.lookup c with
              | some G => (t ρ M1).bind fun ps M2 => G (p :: ps) M2
              | none => RQ.st)
          rw [z2, z3, List.lookup_cons_self]
theorem q_meth {tb : List (Str × GF)} (h : ∀ q ∈ tb, DQ X B W e (qMeth [q] mn go t)) (hne : tb ≠ [] := by simp) : DQ X B W e (qMeth tb mn go t) :=
  pe_imp (pe_mem h) fun σ H Q ⟨ρ, M, F, A, r, q⟩ => by
    by_cases hs : qMeth tb mn go t ρ M = .st
    · rw [hs] at q
      exact q.elim
    · obtain ⟨z, hz, ez⟩ := qMeth_row hne hs
      exact ⟨z, hz, ρ, M, F, A, r, by rw [ez]; exact q⟩
theorem methQ_sem {dv : GF} {dvs : List V} {ed : List D} (he : ∀ H, IsL X.K H dvs ed) (hG : ∀ as M, G as M = dv (as ++ ed.map fun d => (false, d)) M) (σ : L2.St) (H : Hp) (Q : VK) (h : tSemQ X.K B W (qMeth [(c, G)] mn go t) σ H Q) :
    tMethW (He.ga X.K c) mn (spQ X.K dv) dvs (WE W) (tSemQ X.K B W go) (tSemQA X.K B W t) σ H Q := by
  obtain ⟨ρ, M, F, A, r, h⟩ := h
  refine semQ_bind (k := fun p M1 => metQ [(c, G)] mn p M1 fun G => (t ρ M1).bind fun ps M2 => G (p :: ps) M2) r h fun p M1 v F1 H1 A1 _ i1 r1 h1 => ?_
  unfold metQ at h1
  cases z1 : objP M1 p with
  | none => rw [z1] at h1; exact h1.elim
  | some q =>
    obtain ⟨b, c', fs⟩ := q
    rw [z1] at h1
    have h2 : afterQ X.K W σ F1 H1 A1 (match fs.lookup mn with
      | some _ => .st
      | none => match List.lookup c' [(c, G)] with
        | some G => (t ρ M1).bind fun ps M2 => G (p :: ps) M2
        | none => .st) Q := h1
    obtain ⟨a, dx, xs, rfl, ha, ik⟩ := objP_is r1.cl i1 z1
    cases z : fs.lookup mn with
    | some _ => rw [z] at h2; exact h2.elim
    | none =>
      rw [z] at h2
      by_cases hc : c' = c
      · subst hc
        rw [List.lookup_cons_self] at h2
        refine ⟨a, dx, xs, rfl, ha, (isK_lookup ik).2 (by rw [lookup_map (gg := fun d => P.at A1 (b, d)), z]; rfl), ?_⟩
        refine semQA_bind (k := fun ps M2 => G (p :: ps) M2) r1 h2 fun ps M2 vs F2 H2 A2 x2 i2 r2 h3 => ?_
        refine ⟨_, M2, F2, A2, islp_app (ps := p :: ps) (IsL.cons (K := X.K) (H := F2) (x2.grow.is i1) i2) he, r2.cl, ?_⟩
        have h4 : afterQ X.K W σ F2 H2 A2 (G (p :: ps) M2) Q := h3
        rw [hG] at h4
        cases z4 : dv ((p :: ps) ++ ed.map fun d => (false, d)) M2 with
        | ok d M3 => rw [z4] at h4; exact h4
        | ex x M3 => rw [z4] at h4; exact h4
        | st => rw [z4] at h4; exact h4
      · have hb : (c' == c) = false := beq_eq_false_iff_ne.mpr hc
        simp only [List.lookup, hb] at h2
        exact h2.elim
theorem q_meth1 (C : MetQ X.prog X.w X.K X.mg X.base k c mn G) (hr : Room j X.A) (hj : k ≤ j) (tk : Takes X W) (ho : DQ X B W o go) (ha : DQA X B W (e :: es) t)
    (hst : starEach (e :: es) X.env = (false, eval e X.env) :: starEach es X.env) (hpl : (backTo pos (starEach es X.env)).any (·.1) = false)
    (ht : eval (.Call (.Attribute o mn apos) (e :: es) [] pos) X.env = (do
      let ov ← eval o X.env
      standAt apos.atName
      let (f, first) ← holding [ov] (getMethod ov mn pl)
      callWith pos f first (backTo pos (starEach (e :: es) X.env)) (backToKw pos (keywordEach [] X.env)))) : DQ X B W (.Call (.Attribute o mn apos) (e :: es) [] pos) (qMeth [(c, G)] mn go t) := by
  obtain ⟨f, fd, ps, ds, dvs, dv, F, cl, hm, hb, hd, ed, he, hG⟩ := C.ex
  exact pe_imp (pe_methW ho cl hm F (hr.mono hj) hb hd (fun σ => passAt tk σ) ha hst hpl ht) fun σ H Q h => methQ_sem he hG σ H Q h
theorem tSemQ_mono (σ : L2.St) (H : Hp) (Q Q' : VK) (h : ∀ v H', Q v H' → Q' v H') : tSemQ X.K B W go σ H Q → tSemQ X.K B W go σ H Q' := fun ⟨ρ, M, F, A, r, q⟩ => by
  refine ⟨ρ, M, F, A, r, ?_⟩
  cases z : go ρ M with
  | ok d M1 => rw [z] at q; exact fun v F' H' A' x c i => h _ _ (q v F' H' A' x c i)
  | ex x M1 => rw [z] at q; exact q
  | st => rw [z] at q; exact q
theorem q_meth0 (C : MetQ X.prog X.w X.K X.mg X.base k c mn G) (hr : Room j X.A) (hj : k ≤ j) (tk : Takes X W) (ho : DQ X B W o go)
    (ht : eval (.Call (.Attribute o mn apos) [] [] pos) X.env = (do
      let ov ← eval o X.env
      standAt apos.atName
      let (f, first) ← holding [ov] (getMethod ov mn pl)
      callWith pos f first (backTo pos (starEach [] X.env)) (backToKw pos (keywordEach [] X.env)))) : DQ X B W (.Call (.Attribute o mn apos) [] [] pos) (qMeth [(c, G)] mn go aqNil) := by
  obtain ⟨f, fd, ps, ds, dvs, dv, F, cl, hm, hb, hd, ed, he, hG⟩ := C.ex
  exact pe_imp (pe_methW0 ho cl hm F (hr.mono hj) hb hd (fun σ => passAt tk σ) ht) fun σ H Q h => tMethW_imp (fun σ H Q (h : tSemQA X.K B W aqNil σ H Q) => by
    obtain ⟨ρ, M, F, A, r, h⟩ := h
    exact h [] F H A .refl r.cl .nil) (fun σ H Q Q' => tSemQ_mono σ H Q Q') σ H Q (methQ_sem he hG σ H Q h)
end
/-! ### C(..) -/
section
variable {X : Cx} {CX : CXT} {W : WX} {C f : Addr} {fd : FuncData} {ps : List Str} {sp : Sp} {dvs : List V} {ds : List Value} {E : L2.St → XK} {k : Nat} {x : Str} {p pos : Pos} {e : Expr} {es : List Expr} {tt : TA}
theorem run_makeW {pins : List (Addr × Obj)} {σ : L2.St} {H : Hp} {s : Shared} {Q : VK} {us : List Value} {vs : List V} (M : Mk X.K C f) (F : FnOk X.prog X.w X.K X.mg X.base CX k f fd ps sp) (hr : Room (k + 1) X.A) (hb : Binds X.K fd ps ds) (hd : Vals dvs ds)
    (hx : PassesAt CX X σ (E σ)) (I : Inv X pins σ H s) (r : Vals vs us)
    (h : ∀ x dx, H x = none → H dx = none → dx ≠ x → sp (.ref x :: (vs ++ dvs)) (upd (upd H dx (.own x)) x (.ins C dx [])) (fun v H2 => v = .non ∧ Q (.ref x) H2) (E σ)) :
    wpAny (model X.prog X.w) X.A (call (.ref C) us) (EP X pins σ Q) X.xe s := by
  have hq := h (s.heap.objs.size + 1) s.heap.objs.size (I.hok.fresh (Nat.le_succ _)) (I.hok.fresh (Nat.le_refl _)) (Nat.ne_of_lt (Nat.lt_succ_self _))
  have I2 := Inv.made (C := C) I
  have r2 : Vals (V.ref (s.heap.objs.size + 1) :: (vs ++ dvs)) (Value.ref (s.heap.objs.size + 1) :: (us ++ ds)) := .cons rfl (r.append hd)
  have hl : (Value.ref (s.heap.objs.size + 1) :: us ++ ds).length = ps.length := by
    have e := r2.length
    rw [F.len _ _ _ _ hq] at e
    exact e.symm
  refine wpAny_call (make_map (f := f) I.kIn M.makes M.init (beq_iff_eq.mp M.fn) (codeAny_mono (F.run _ X.stack _ _ ⟨Value.ref (s.heap.objs.size + 1) :: us, []⟩ (Value.ref (s.heap.objs.size + 1) :: (us ++ ds)) _ _ (E σ) (hr.make C us [])
    (I2.env0.make C us []) (hb _ (Value.ref (s.heap.objs.size + 1) :: us) I2.kIn hl) r2 hq) fun r s' hq' => ?_))
  cases r with
  | error e => exact hx pins _ _ e s' I2 hq'
  | ok fl =>
    cases fl with
    | ret u =>
      obtain ⟨v, H', I3, rv, ev, q3⟩ := I2.after hq'
      subst ev
      exact ⟨rv, ⟨V.ref (s.heap.objs.size + 1), H', I3, rfl, q3⟩⟩
    | next => exact False.elim hq'
    | brk => exact False.elim hq'
    | cont => exact False.elim hq'
def tMakeW (C : Addr) (sp : Sp) (dvs : List V) (E : L2.St → XK) (t : TA) : TE := fun σ H Q => t σ H fun vs H1 => ∀ x dx, H1 x = none → H1 dx = none → dx ≠ x →
  sp (.ref x :: (vs ++ dvs)) (upd (upd H1 dx (.own x)) x (.ins C dx [])) (fun v H2 => v = .non ∧ Q (.ref x) H2) (E σ)
theorem pe_makeW (M : Mk X.K C f) (F : FnOk X.prog X.w X.K X.mg X.base CX k f fd ps sp) (hr : Room (k + 1) X.A) (hg : Gl X x) (hm : X.mg x = some (.ref C)) (hb : Binds X.K fd ps ds) (hd : Vals dvs ds) (hx : ∀ σ, PassesAt CX X σ (E σ))
    (ha : PA X (e :: es) tt) (hdb : (x == ("__debug__" : Str)) = false) (he : starEach (e :: es) X.env = (false, eval e X.env) :: starEach es X.env) (hpl : (backTo pos (starEach es X.env)).any (·.1) = false) :
    PE X (.Call (.Name x p) (e :: es) [] pos) (tMakeW C sp dvs E tt) := by
  refine ⟨fun pins s σ H Q I h => ?_⟩
  refine wpAny_Call_Name_kw (ld_glob I hg hm ?_ hdb)
  refine PySem.W.callWith_K (h₀ := X.base) I.ok.mod.kin M.kp (thn (ha.run pos pins s σ H _ I h) fun us s1 ⟨vs, H1, I1, r, q⟩ => ⟨I1.kIn, ?_⟩) he hpl
  exact run_makeW M F hr hb hd (hx σ) I1 r q
theorem pe_makeW0 (M : Mk X.K C f) (F : FnOk X.prog X.w X.K X.mg X.base CX k f fd ps sp) (hr : Room (k + 1) X.A) (hg : Gl X x) (hm : X.mg x = some (.ref C)) (hb : Binds X.K fd ps ds) (hd : Vals dvs ds) (hx : ∀ σ, PassesAt CX X σ (E σ))
    (hdb : (x == ("__debug__" : Str)) = false) :
    PE X (.Call (.Name x p) [] [] pos) (tMakeW C sp dvs E tNil) := by
  refine ⟨fun pins s σ H Q I h => ?_⟩
  refine wpAny_Call_Name_kw (ld_glob I hg hm ?_ hdb)
  exact PySem.W.callWith_K0 I.kIn M.kp (run_makeW (us := []) M F hr hb hd (hx σ) I .nil h)
end
/-- a new object of class c, then its __init__ -/
def mkQ (c : Str) (G : GF) : GF := fun ps M => match G ((true, .loc M.length) :: ps) (M ++ [(false, .obj c [])]) with
  | .ok (_, .non) M1 => .ok (true, .loc M.length) M1
  | .ok _ _ => .st
  | .ex x M1 => .ex x M1
  | .st => .st
section
variable {K : PySem.W.Frag} {F H : Hp} {A : List Addr} {M : Mem} {c : Str}
theorem Cells.fresh (cl : Cells K F H A M) {a : Addr} (n : H a = none) : a ∉ A := fun m => by
  obtain ⟨k, hk⟩ := List.mem_iff_getElem?.mp m
  obtain ⟨p, hp⟩ : ∃ p, M[k]? = some p := by
    have : k < M.length := by rw [← cl.len]; exact (List.getElem?_eq_some_iff.mp hk).1
    exact ⟨M[k], by simp [this]⟩
  obtain ⟨a', o, e1, e2, _⟩ := cl.at_ k p hp
  rw [hk] at e1
  cases e1
  rw [n] at e2
  cases e2
theorem made_cells {y dx : Addr} (cl : Cells K F H A M) (hy : H y = none) (hd : H dx = none) (ne : dx ≠ y) :
    ExtQ F H A F (upd (upd H dx (.own y)) y (.ins (He.ga K c) dx [])) (A ++ [y]) ∧ Cells K F (upd (upd H dx (.own y)) y (.ins (He.ga K c) dx [])) (A ++ [y]) (M ++ [(false, .obj c [])]) := by
  have hy1 : upd H dx (.own y) y = none := by rw [upd_ne (Ne.symm ne)]; exact hy
  have x : Ext F H F (upd (upd H dx (.own y)) y (.ins (He.ga K c) dx [])) := (Ext.laid' cl.fh hd).trans (Ext.laid' (cl.fh.trans (same_upd hd)) hy1)
  obtain ⟨e1, c1⟩ := ExtQ.pure cl x
  have c2 := ExtQ.alloc (p := y) (o := .ins (He.ga K c) dx []) (q := (false, .obj c [])) c1 upd_same (cl.fh.free hy) (cl.fresh hy) ⟨rfl, .nil⟩
  refine ⟨⟨e1.ff, ⟨[y], rfl⟩, e1.hh, fun u hu fu nu => ?_⟩, c2⟩
  obtain ⟨z1, z2⟩ := e1.nw u hu fu nu
  refine ⟨z1, fun m => ?_⟩
  rcases List.mem_append.mp m with m | m
  · exact z2 m
  · simp at m
    subst m
    exact hu hy
theorem loc_at {n : Nat} {y : Addr} {v : V} (h : A[n]? = some y) : (P.at A (true, .loc n)) = .adr y := by
  show (match A[n]? with | some a => D.adr a | none => .loc n) = .adr y
  rw [h]
/-- the promise of an __init__, as the maker's -/
theorem mk_sem {dv G : GF} {dvs vs : List V} {ed : List D} {ps : List P} {W : WX} {σ : L2.St} {Q : VK} {y dx : Addr} (he : ∀ H, IsL K H dvs ed) (hG : ∀ as M, G as M = dv (as ++ ed.map fun d => (false, d)) M)
    (cl : Cells K F H A M) (l : IsLP K F A vs ps) (h : afterQ K W σ F H A (mkQ c G ps M) Q) (hy : H y = none) (hd : H dx = none) (ne : dx ≠ y) :
    spQ K dv (.ref y :: (vs ++ dvs)) (upd (upd H dx (.own y)) y (.ins (He.ga K c) dx [])) (fun v H2 => v = .non ∧ Q (.ref y) H2) (WE W σ) := by
  obtain ⟨x, c2⟩ := made_cells (c := c) cl hy hd ne
  have hAy : (A ++ [y])[M.length]? = some y := by
    rw [← cl.len, List.getElem?_append_right (Nat.le_refl _), Nat.sub_self]
    rfl
  have l2 : IsLP K F (A ++ [y]) (.ref y :: vs) ((true, .loc M.length) :: ps) := by
    refine IsL.cons (K := K) (H := F) ?_ ?_
    · show Is K F (.ref y) (P.at (A ++ [y]) (true, .loc M.length))
      rw [loc_at (v := .non) hAy]
      exact .adr y
    · refine ⟨by rw [l.1]; simp, fun i v d e1 e2 => ?_⟩
      rw [List.getElem?_map] at e2
      cases z : ps[i]? with
      | none => rw [z] at e2; cases e2
      | some p =>
        rw [z] at e2
        cases e2
        exact P.mono (l.2 i v (p.at A) e1 (by rw [List.getElem?_map, z]; rfl)) (.refl F)
  refine ⟨_, M ++ [(false, .obj c [])], F, A ++ [y], islp_app l2 he, c2, ?_⟩
  unfold mkQ at h
  rw [hG] at h
  cases z : dv (((true, .loc M.length) :: ps) ++ ed.map fun d => (false, d)) (M ++ [(false, .obj c [])]) with
  | st => rw [z] at h; exact h
  | ex x1 M1 =>
    rw [z] at h
    exact fun cls od F' H' A' x3 c3 i => h cls od F' H' A' (x.trans c2 x3) c3 i
  | ok q M1 =>
    rw [z] at h
    obtain ⟨b, d⟩ := q
    cases d with
    | non =>
      intro v F' H' A' x3 c3 i
      have hv : v = .non := by
        cases b with
        | false => cases (show Is K F' v .non from i); rfl
        | true => cases (show Is K F' v .non from i); rfl
      refine ⟨hv, h (.ref y) F' H' A' (x.trans c2 x3) c3 ?_⟩
      obtain ⟨t, et⟩ := x3.pre
      have : A'[M.length]? = some y := by
        rw [et, List.getElem?_append_left (by simp [cl.len])]
        exact hAy
      rw [loc_at (v := .non) this]
      exact .adr y
    | _ => exact h.elim
end
section
variable {X : Cx} {B : QB} {W : WX} {pos : Pos} {e : Expr} {es : List Expr} {t : GQA} {k j : Nat} {x : Str} {p : Pos} {G : GF}
theorem q_make (C : MkQ X.prog X.w X.K X.mg X.base k x G) (hr : Room j X.A) (hj : k + 1 ≤ j) (tk : Takes X W) (ha : DQA X B W (e :: es) t) (hg : Gl X x := by rfl)
    (hdb : (x == ("__debug__" : Str)) = false := by decide) (he : starEach (e :: es) X.env = (false, eval e X.env) :: starEach es X.env := by rfl) (hpl : (backTo pos (starEach es X.env)).any (·.1) = false := by rfl) : DQ X B W (.Call (.Name x p) (e :: es) [] pos) (qCall (mkQ x G) t) := by
  obtain ⟨f, fd, ps, ds, dvs, dv, Fn, hm, hk, hb, hd, ed, hE, hG⟩ := C.ex
  refine pe_imp (pe_makeW hk Fn (hr.mono hj) hg hm hb hd (fun σ => passAt tk σ) ha hdb he hpl) fun σ H Q ⟨ρ, M, F, A, r, h⟩ => ?_
  refine semQA_bind (k := mkQ x G) r h fun ps M1 vs F1 H1 A1 _ i1 r1 h1 => fun y dx hy hdx ne => mk_sem hE hG r1.cl i1 h1 hy hdx ne
theorem q_make0 (C : MkQ X.prog X.w X.K X.mg X.base k x G) (hr : Room j X.A) (hj : k + 1 ≤ j) (tk : Takes X W) (hg : Gl X x := by rfl)
    (hdb : (x == ("__debug__" : Str)) = false := by decide) : DQ X B W (.Call (.Name x p) [] [] pos) (qCall (mkQ x G) aqNil) := by
  obtain ⟨f, fd, ps, ds, dvs, dv, Fn, hm, hk, hb, hd, ed, hE, hG⟩ := C.ex
  exact pe_imp (pe_makeW0 hk Fn (hr.mono hj) hg hm hb hd (fun σ => passAt tk σ) hdb) fun σ H Q ⟨ρ, M, F, A, r, h⟩ => fun y dx hy hdx ne => mk_sem (vs := []) (ps := []) hE hG r.cl IsL.nil h hy hdx ne
/-- .. with what has no numbers, in plain reading -/
def mkD (x : Str) (G : GF) : List D → R D := (mkQ x G).down
theorem d_make {F0 : Bs} {H0 : Hp} {m : List Bool} {t : Rho → R (List D)} (C : MkQ X.prog X.w X.K X.mg X.base k x G) (hr : Room j X.A) (hj : k + 1 ≤ j) (tk : Takes X W) (ha : DA X F0 H0 m W (e :: es) t) (hg : Gl X x := by rfl)
    (hdb : (x == ("__debug__" : Str)) = false := by decide) (he : starEach (e :: es) X.env = (false, eval e X.env) :: starEach es X.env := by rfl) (hpl : (backTo pos (starEach es X.env)).any (·.1) = false := by rfl) : DE X F0 H0 m W (.Call (.Name x p) (e :: es) [] pos) (gA (mkD x G) t) := by
  obtain ⟨f, fd, ps, ds, dvs, dv, Fn, hm, hk, hb, hd, ed, hE, hG⟩ := C.ex
  refine pe_imp (pe_makeW hk Fn (hr.mono hj) hg hm hb hd (fun σ => passAt tk σ) ha hdb he hpl) fun σ H Q ⟨ρ, F, r, h⟩ => ?_
  refine semA_bind (k := mkD x G) r h fun ds vs F1 H1 _ i1 r1 h1 => fun y dx hy hdx ne => ?_
  have c0 : Cells X.K F1 H1 [] [] := ⟨r1.fh, rfl, .nil, fun a m => (nomatch m), fun k p hp => by simp at hp⟩
  refine mk_sem hE hG c0 (islp_clean i1) ?_ hy hdx ne
  have h2 : after X.K W σ F1 H1 ((mkQ x G (ds.map fun d => (false, d)) []).down) Q := h1
  cases z : mkQ x G (ds.map fun d => (false, d)) [] with
  | st => rw [z] at h2; exact h2
  | ex x1 M1 =>
    rw [z] at h2
    intro cls od F' H' A' x2 c i
    exact h2 cls od F' H' ⟨x2.ff, fun a o e => x2.hh a o e (by simp), c.fh, fun p hp fp => (x2.nw p hp fp (by simp)).1⟩ i
  | ok q M1 =>
    rw [z] at h2
    intro v F' H' A' x c i
    have h' : after X.K W σ F1 H1 (match q.full M1 with | some d => R.ok d | none => R.st) Q := h2
    cases z2 : q.full M1 with
    | none => rw [z2] at h'; exact h'.elim
    | some d =>
      rw [z2] at h'
      obtain ⟨s1, s2⟩ := frz_same c
      refine h' v (frzF F' H' A') H' ⟨x.ff.trans s1, fun a o e => x.hh a o e (by simp), s2, fun p hp fp => ?_⟩ (full_is c i z2)
      obtain ⟨y1, y2⟩ := x.nw p hp fp (by simp)
      unfold frzF
      rw [if_neg y2]
      exact y1
end
/-! ### o.f = e -/
def putD (f : Str) (d : D) : List (Str × D) → List (Str × D)
  | [] => [(f, d)]
  | (g, x) :: r => if g = f then (g, d) :: r else (g, x) :: putD f d r
theorem isK_putF {K : PySem.W.Frag} {F : Hp} {f : Str} {v : V} {d : D} (i : Is K F v d) : ∀ {xs : List (Str × V)} {ds : List (Str × D)}, IsK K F xs ds → IsK K F (putF f v xs) (putD f d ds)
  | [], [], _ => .cons i .nil
  | [], _ :: _, h => by have := h.1; simp at this
  | _ :: _, [], h => by have := h.1; simp at this
  | (a, x) :: xs, (b, y) :: ds, h => by
    obtain ⟨x', xr, e, ix, t⟩ := h.uncons
    cases e
    show IsK K F (if a = f then (a, v) :: xs else (a, x) :: putF f v xs) (if a = f then (a, d) :: ds else (a, y) :: putD f d ds)
    by_cases hf : a = f
    · rw [if_pos hf, if_pos hf]
      exact .cons i t
    · rw [if_neg hf, if_neg hf]
      exact .cons ix (isK_putF i t)
theorem putD_map {f : Str} {d : D} {gg : D → D} : ∀ {fs : List (Str × D)}, (putD f d fs).map (fun q => (q.1, gg q.2)) = putD f (gg d) (fs.map fun q => (q.1, gg q.2))
  | [] => rfl
  | (a, x) :: r => by
    show List.map (fun q => (q.1, gg q.2)) (if a = f then (a, d) :: r else (a, x) :: putD f d r) = (if a = f then (a, gg d) :: (r.map fun q => (q.1, gg q.2)) else (a, gg x) :: putD f (gg d) (r.map fun q => (q.1, gg q.2)))
    by_cases hf : a = f
    · rw [if_pos hf, if_pos hf]
      rfl
    · rw [if_neg hf, if_neg hf, List.map_cons, putD_map]
theorem lvl_up {K : PySem.W.Frag} {F : Hp} {A : List Addr} {b : Bool} {c : Bool} : ∀ {xs : List (Str × V)} {fs : List (Str × D)}, IsK K F xs (fs.map fun q => (q.1, P.at A (b, q.2))) → IsK K F xs (fs.map fun q => (q.1, P.at A (b || c, q.2)))
  | xs, [], h => h
  | xs, (k, d) :: fs, h => by
    obtain ⟨x, xr, rfl, ix, t⟩ := (show IsK K F xs ((k, P.at A (b, d)) :: fs.map fun q => (q.1, P.at A (b, q.2))) from h).uncons
    exact .cons (at_up (p := (b, d)) ix c) (lvl_up t)
theorem isC_obj {K : PySem.W.Frag} {F : Hp} {A : List Addr} {b : Bool} {c : Str} {dx : Addr} {xs : List (Str × V)} {fs : List (Str × D)} (h : IsK K F xs (fs.map fun q => (q.1, P.at A (b, q.2)))) : IsC K F (.ins (He.ga K c) dx xs) (P.at A (b, .obj c fs)) := by
  cases b with
  | false =>
    have e : (fs.map fun q => (q.1, P.at A (false, q.2))) = fs := by
      have : (fun q : Str × D => (q.1, P.at A (false, q.2))) = id := rfl
      rw [this, List.map_id]
    rw [e] at h
    exact ⟨rfl, h⟩
  | true =>
    refine ⟨rfl, ?_⟩
    rw [subF_map]
    exact h
/-- the number's object gets a field -/
def sqFld (cs : List Str) (f : Str) (go g : GQ) : SQF := sqE g fun ρ p M => sqE go (fun ρ q M1 => match q with
  | (true, .loc k) => (match M1[k]? with
    | some (b, .obj c fs) => if (cs.contains c && decide (fs.length < 1000)) = true then .nx ρ (M1.set k (b || p.1, .obj c (putD f p.2 fs))) else .st
    | _ => .st)
  | _ => .st) ρ M
section
variable {X : Cx} {B : QB} {W : WX} {pos : Pos} {e o value : Expr} {es : List Expr} {g go : GQ} {t : GQA} {k j : Nat} {x : Str} {p : Pos} {G : GF}
theorem qs_fld {f : Str} {pos' : Pos} (cs : List Str) (hc : ∀ c ∈ cs, Cls X.K (He.ga X.K c) ∧ NoAttr X.K (He.ga X.K c) f) (ho : DQ X B W o go) (hv : DQ X B W value g) (hs : swapsWith value (some (.Attribute o f pos')) pos.line X.env = pure false := by rfl) :
    DQS X B W (.Assign [.Attribute o f pos'] value pos) (sqFld cs f go g) := by
  refine ps_imp (ps_fld ho hv hs) fun E σ H ⟨ρ, M, F, A, r, h⟩ => ?_
  refine semQS (k := fun p M1 => sqE go (fun ρ q M1 => match q with
    | (true, .loc k) => (match M1[k]? with
      | some (b, .obj c fs) => if (cs.contains c && decide (fs.length < 1000)) = true then .nx ρ (M1.set k (b || p.1, .obj c (putD f p.2 fs))) else .st
      | _ => .st)
    | _ => .st) ρ M1) r h fun p M1 v F1 H1 A1 i1 r1 _ h1 => ?_
  refine semQS (k := fun q M1 => match q with
    | (true, .loc k) => (match M1[k]? with
      | some (b, .obj c fs) => if (cs.contains c && decide (fs.length < 1000)) = true then .nx ρ (M1.set k (b || p.1, .obj c (putD f p.2 fs))) else .st
      | _ => .st)
    | _ => .st) r1 h1 fun q M2 v2 F2 H2 A2 i2 r2 gr h2 => ?_
  split at h2
  · rename_i k
    split at h2
    · rename_i b c fs e2
      by_cases hz : (cs.contains c && decide (fs.length < 1000)) = true
      · rw [if_pos hz] at h2
        rw [Bool.and_eq_true, decide_eq_true_eq] at hz
        obtain ⟨a, o', y1, y2, y3⟩ := r2.cl.at_ k _ e2
        rw [loc_at (v := .non) y1] at i2
        cases i2
        obtain ⟨dx, xs, rfl, ik⟩ := isF_at (xs := []) (a := a) y3
        obtain ⟨cl, na⟩ := hc c (by simpa using hz.1)
        have hl : xs.length < 1000 := by
          have := ik.1
          rw [List.length_map] at this
          omega
        have iv := gr.is i1
        have pu : IsK X.K F2 (putF f v xs) (((putD f p.2 fs)).map fun q => (q.1, P.at A2 (b || p.1, q.2))) := by
          rw [putD_map (gg := fun d => P.at A2 (b || p.1, d))]
          refine isK_putF ?_ (lvl_up ik)
          have := at_up iv b
          rw [Bool.or_comm] at this
          exact this
        obtain ⟨e3, c3⟩ := ExtQ.put (q := (b || p.1, .obj c (putD f p.2 fs))) r2.cl y1 (isC_obj (dx := dx) pu)
        exact ⟨a, _, dx, xs, rfl, y2, cl, na, hl, h2 σ F2 _ A2 (r2.to e3 c3) .refl⟩
      · rw [if_neg hz] at h2
        exact h2.elim
    · exact h2.elim
  · exact h2.elim
/-! ### o.append(e), o a number -/
def isL_at {K : PySem.W.Frag} {F : Hp} {A : List Addr} {b : Bool} {ds : List D} {o : HO} (h : IsC K F o (P.at A (b, .list ds))) : ∃ xs, o = .lst xs ∧ IsLP K F A xs (ds.map fun d => (b, d)) := by
  cases b with
  | false =>
    cases o <;> first | exact (show False from h).elim | skip
    rename_i xs
    exact ⟨xs, rfl, islp_clean (show IsL K F xs ds from h)⟩
  | true =>
    cases o <;> first | exact (show False from h).elim | skip
    rename_i xs
    refine ⟨xs, rfl, ?_⟩
    show IsL K F xs ((ds.map fun d => (true, d)).map (P.at A))
    rw [List.map_map, show (P.at A ∘ fun d => (true, d)) = D.sub A from rfl, ← subAll_map]
    exact h
theorem isC_list {K : PySem.W.Frag} {F : Hp} {A : List Addr} {b : Bool} {ds : List D} {xs : List V} (h : IsLP K F A xs (ds.map fun d => (b, d))) : IsC K F (.lst xs) (P.at A (b, .list ds)) := by
  have h' : IsL K F xs ((ds.map fun d => (b, d)).map (P.at A)) := h
  rw [List.map_map] at h'
  cases b with
  | false =>
    rw [show (P.at A ∘ fun d => (false, d)) = (id : D → D) from rfl, List.map_id] at h'
    exact h'
  | true =>
    rw [show (P.at A ∘ fun d => (true, d)) = D.sub A from rfl, ← subAll_map] at h'
    exact h'
theorem islp_up {K : PySem.W.Frag} {F : Hp} {A : List Addr} {b c : Bool} : ∀ {ds : List D} {xs : List V}, IsLP K F A xs (ds.map fun d => (b, d)) → IsLP K F A xs (ds.map fun d => (b || c, d))
  | [], xs, h => h
  | d :: ds, xs, h => by
    obtain ⟨x, xr, rfl, ix, t⟩ := (show IsL K F xs (P.at A (b, d) :: (ds.map fun d => (b, d)).map (P.at A)) from h).uncons
    exact IsL.cons (K := K) (H := F) (at_up (p := (b, d)) ix c) (islp_up (ds := ds) t)
def sqAppend (go g : GQ) : SQF := sqE go fun ρ q M => match q with
  | (true, .loc k) => (match M[k]? with
    | some (_, .list _) => sqE g (fun ρ p M1 => match M1[k]? with
      | some (b, .list ds) => if ds.length < sizeLine then .nx ρ (M1.set k (b || p.1, .list (ds ++ [p.2]))) else .st
      | _ => .st) ρ M
    | _ => .st)
  | _ => .st
end
end Pd

/-! Pq5: lists that change; a look at all -/
namespace Pd
open PySem PySem.Spec PyProof.Rows L2
section
variable {X : Cx} {B : QB} {W : WX} {pos apos cpos : Pos} {e o value : Expr} {es : List Expr} {g go : GQ} {t : GQA} {k j : Nat} {x : Str} {p : Pos} {G : GF}
theorem qs_append (ho : DQ X B W o go) (he : DQ X B W e g) (hsw : swapsWith (.Call (.Attribute o "append" apos) [e] [] cpos) none pos.line X.env = pure false := by rfl)
    (hbase : attributeBase o "append" X.env (eval o X.env) = eval o X.env := by rfl)
    (hfew : ((backTo cpos (starEach [e] X.env)).all (fun x => !x.1) && (backToKw cpos (keywordEach [] X.env)).all (fun x => x.1.isSome)
      && decide ([e].length + ([] : List Keyword).length + (if ([] : List Keyword).isEmpty then 0 else 1) < 30)) = true := by rfl)
    (hline : (apos.endLine == cpos.line) = true := by rfl) (hs : starEach [e] X.env = (false, eval e X.env) :: starEach [] X.env := by rfl) (hplain : (backTo cpos (starEach [] X.env)).any (·.1) = false := by rfl) :
    DQS X B W (.Expr (.Call (.Attribute o "append" apos) [e] [] cpos) pos) (sqAppend go g) := by
  refine ps_imp (ps_expr (pe_bm PySem.F.plainAttrs_list PySem.F.slot_list_append PySem.F.type_list_append mt_append ho (pa_cons he pa_nil hs) hbase hfew hline hs hplain) hsw) fun E σ H ⟨ρ, M, F, A, r, h⟩ => ?_
  refine semQS (k := fun q M => match q with
    | (true, .loc k) => (match M[k]? with
      | some (_, .list _) => sqE g (fun ρ p M1 => match M1[k]? with
        | some (b, .list ds) => if ds.length < sizeLine then .nx ρ (M1.set k (b || p.1, .list (ds ++ [p.2]))) else .st
        | _ => .st) ρ M
      | _ => .st)
    | _ => .st) r h fun q M1 v F1 H1 A1 i1 r1 _ h1 => ?_
  split at h1
  · rename_i k
    have isLoc : ∀ {v : V} {F : Hp} {A : List Addr}, Is X.K F v (P.at A (true, .loc k)) → ∃ a, v = .ref a ∧ A[k]? = some a := fun {v F A} i => by
      have i' : Is X.K F v (match A[k]? with | some a => .adr a | none => .loc k) := i
      cases z : A[k]? with
      | none => rw [z] at i'; cases i'
      | some a =>
        rw [z] at i'
        cases i'
        exact ⟨a, rfl, rfl⟩
    obtain ⟨a, rfl, ha⟩ := isLoc i1
    split at h1
    · rename_i b ds hk
      obtain ⟨a', o1, y1, y2, y3⟩ := r1.cl.at_ k _ hk
      rw [ha] at y1
      cases y1
      obtain ⟨xs, rfl, _⟩ := isL_at y3
      refine ⟨.inl ⟨rfl, xs, .of y2⟩, ?_⟩
      refine semQS (k := fun p M1 => match M1[k]? with
        | some (b, .list ds) => if ds.length < sizeLine then .nx ρ (M1.set k (b || p.1, .list (ds ++ [p.2]))) else .st
        | _ => .st) r1 h1 fun p M2 v2 F2 H2 A2 i2 r2 gr h2 => ?_
      split at h2
      · rename_i b2 ds2 e2
        by_cases hz : ds2.length < sizeLine
        · rw [if_pos hz] at h2
          obtain ⟨a', o1, w1, w2, w3⟩ := r2.cl.at_ k _ e2
          have ha2 : A2[k]? = some a := by
            obtain ⟨_, t, rfl⟩ := gr
            rw [List.getElem?_append_left (List.getElem?_eq_some_iff.mp ha).1]
            exact ha
          rw [ha2] at w1
          cases w1
          obtain ⟨xs2, rfl, l2⟩ := isL_at w3
          have pu : IsLP X.K F2 A2 (xs2 ++ [v2]) ((ds2 ++ [p.2]).map fun d => (b2 || p.1, d)) := by
            rw [List.map_append]
            show IsL X.K F2 (xs2 ++ [v2]) ((ds2.map (fun d => (b2 || p.1, d)) ++ [(b2 || p.1, p.2)]).map (P.at A2))
            rw [List.map_append]
            refine IsL.append (islp_up l2) (IsL.cons ?_ .nil)
            have := at_up i2 b2
            rw [Bool.or_comm] at this
            exact this
          obtain ⟨e3, c3⟩ := ExtQ.put (q := (b2 || p.1, .list (ds2 ++ [p.2]))) r2.cl ha2 (isC_list pu)
          exact ⟨a, xs2, v2, rfl, rfl, w2, by rw [l2.1]; simpa using hz, h2 σ F2 _ A2 (r2.to e3 c3) .refl⟩
        · rw [if_neg hz] at h2
          exact h2.elim
      · exact h2.elim
    · exact h1.elim
  · exact h1.elim
end
/-! ### a look at all, as if it were shared -/
/-- which kinds of objects have numbers -/
structure Tg where
  l : Bool
  k : Bool
  t : Bool
  o : Bool
def isLst : D → Bool
  | .list _ => true
  | _ => false
def isDct : D → Bool
  | .dict _ => true
  | _ => false
def isDcT : D → Bool
  | .dictT _ => true
  | _ => false
def isObj : D → Bool
  | .obj _ _ => true
  | _ => false
def tagsM (M : Mem) : Tg := ⟨M.any fun p => isLst p.2, M.any fun p => isDct p.2, M.any fun p => isDcT p.2, M.any fun p => isObj p.2⟩
mutual
/-- nothing of these kinds is in it -/
def D.off (g : Tg) : D → Bool
  | .non => true
  | .bl _ => true
  | .int _ => true
  | .str _ => true
  | .list xs => !g.l && D.offAll g xs
  | .tup xs => D.offAll g xs
  | .dict xs => !g.k && D.offK g xs
  | .dictT xs => !g.t && D.offT g xs
  | .obj _ xs => !g.o && D.offF g xs
  | .loc _ => false
  | .adr _ => false
def D.offAll (g : Tg) : List D → Bool
  | [] => true
  | d :: ds => D.off g d && D.offAll g ds
def D.offK (g : Tg) : List (Key × D) → Bool
  | [] => true
  | (_, d) :: ds => D.off g d && D.offK g ds
def D.offT (g : Tg) : List (List Key × D) → Bool
  | [] => true
  | (_, d) :: ds => D.off g d && D.offT g ds
def D.offF (g : Tg) : List (Str × D) → Bool
  | [] => true
  | (_, d) :: ds => D.off g d && D.offF g ds
end
def unA (F : Hp) (A : List Addr) : Hp := open Classical in fun a => if a ∈ A then none else F a
theorem unA_at {F : Hp} {A : List Addr} {a : Addr} {o : HO} (h : F a = some o) (n : a ∉ A) : unA F A a = some o := by
  unfold unA
  rw [if_neg n]
  exact h
/-- what stands at the numbers is of these kinds -/
def OffA (g : Tg) (A : List Addr) (H : Hp) : Prop := ∀ a ∈ A, ∃ o, H a = some o ∧ ((∃ xs, o = .lst xs ∧ g.l = true) ∨ (∃ xs, o = .dK xs ∧ g.k = true) ∨ (∃ xs, o = .dT xs ∧ g.t = true) ∨ ∃ C dx xs, o = .ins C dx xs ∧ g.o = true)
section
variable {K : PySem.W.Frag} {F H : Hp} {A : List Addr} {g : Tg}
theorem OffA.not (h : OffA g A H) (s : Same F H) {a : Addr} {o : HO} (e : F a = some o) (l : ∀ xs, o = .lst xs → g.l = false) (k : ∀ xs, o = .dK xs → g.k = false) (t : ∀ xs, o = .dT xs → g.t = false) (i : ∀ C dx xs, o = .ins C dx xs → g.o = false) : a ∉ A := fun m => by
  obtain ⟨o', e', q⟩ := h a m
  rw [s a o e] at e'
  cases e'
  rcases q with ⟨xs, z, w⟩ | ⟨xs, z, w⟩ | ⟨xs, z, w⟩ | ⟨C, dx, xs, z, w⟩
  · rw [l xs z] at w; cases w
  · rw [k xs z] at w; cases w
  · rw [t xs z] at w; cases w
  · rw [i C dx xs z] at w; cases w
mutual
theorem is_off (h : OffA g A H) (s : Same F H) : ∀ (d : D) (v : V), Is K F v d → d.off g = true → Is K (unA F A) v d
  | .non, v, i, q => by cases i; exact .non
  | .bl _, v, i, q => by cases i; exact .bl _
  | .int _, v, i, q => by cases i; exact .int _
  | .str _, v, i, q => by cases i; exact .str _
  | .adr _, v, i, q => by cases q
  | .loc _, v, i, q => by cases q
  | .list xs, v, i, q => by
    obtain ⟨a, ys, rfl, hs, l⟩ := i.list_inv
    have q' : (!g.l && D.offAll g xs) = true := q
    rw [Bool.and_eq_true, Bool.not_eq_true'] at q'
    refine is_list ?_ (isL_off h s xs ys l q'.2)
    rcases hs with (e | ⟨o, e⟩) | e
    · exact .inl (.inl (unA_at e (h.not s e (fun _ _ => q'.1) (fun _ z => by cases z) (fun _ z => by cases z) (fun _ _ _ z => by cases z))))
    · exact .inl (.inr ⟨o, unA_at e (h.not s e (fun _ z => by cases z) (fun _ z => by cases z) (fun _ z => by cases z) (fun _ _ _ z => by cases z))⟩)
    · exact .inr e
  | .tup xs, v, i, q => by
    obtain ⟨a, ys, rfl, hs, l⟩ := i.tup_inv
    refine is_tup ?_ (isL_off h s xs ys l q)
    rcases hs with (e | ⟨o, e⟩) | e
    · exact .inl (.inl (unA_at e (h.not s e (fun _ z => by cases z) (fun _ z => by cases z) (fun _ z => by cases z) (fun _ _ _ z => by cases z))))
    · exact .inl (.inr ⟨o, unA_at e (h.not s e (fun _ z => by cases z) (fun _ z => by cases z) (fun _ z => by cases z) (fun _ _ _ z => by cases z))⟩)
    · exact .inr e
  | .dict xs, v, i, q => by
    obtain ⟨a, ys, rfl, hs, l⟩ := i.dict_inv
    have q' : (!g.k && D.offK g xs) = true := q
    rw [Bool.and_eq_true, Bool.not_eq_true'] at q'
    have l2 := isK_off h s xs ys l q'.2
    refine .dict ?_ l2.1 l2.2.1 l2.2.2
    rcases hs with e | ⟨o, e⟩
    · exact .inl (unA_at e (h.not s e (fun _ z => by cases z) (fun _ _ => q'.1) (fun _ z => by cases z) (fun _ _ _ z => by cases z)))
    · exact .inr ⟨o, unA_at e (h.not s e (fun _ z => by cases z) (fun _ z => by cases z) (fun _ z => by cases z) (fun _ _ _ z => by cases z))⟩
  | .dictT xs, v, i, q => by
    have q' : (!g.t && D.offT g xs) = true := q
    rw [Bool.and_eq_true, Bool.not_eq_true'] at q'
    cases i with
    | dictT hs l1 l2 l3 =>
      have l2 := isT_off h s xs _ ⟨l1, l2, l3⟩ q'.2
      exact .dictT (unA_at hs (h.not s hs (fun _ z => by cases z) (fun _ z => by cases z) (fun _ _ => q'.1) (fun _ _ _ z => by cases z))) l2.1 l2.2.1 l2.2.2
  | .obj c xs, v, i, q => by
    obtain ⟨a, dx, ys, rfl, hs, l⟩ := i.obj_inv
    have q' : (!g.o && D.offF g xs) = true := q
    rw [Bool.and_eq_true, Bool.not_eq_true'] at q'
    have l2 := isF_off h s xs ys l q'.2
    exact .obj (unA_at hs (h.not s hs (fun _ z => by cases z) (fun _ z => by cases z) (fun _ z => by cases z) (fun _ _ _ _ => q'.1))) l2.1 l2.2.1 l2.2.2
theorem isL_off (h : OffA g A H) (s : Same F H) : ∀ (ds : List D) (vs : List V), IsL K F vs ds → D.offAll g ds = true → IsL K (unA F A) vs ds
  | [], vs, l, q => by rw [l.unnil]; exact .nil
  | d :: ds, vs, l, q => by
    obtain ⟨x, xr, rfl, i, t⟩ := l.uncons
    have q' : (D.off g d && D.offAll g ds) = true := q
    rw [Bool.and_eq_true] at q'
    exact .cons (is_off h s d x i q'.1) (isL_off h s ds xr t q'.2)
theorem isK_off (h : OffA g A H) (s : Same F H) : ∀ (ds : List (Key × D)) (vs : List (Key × V)), IsK K F vs ds → D.offK g ds = true → IsK K (unA F A) vs ds
  | [], vs, l, q => by rw [l.unnil]; exact .nil
  | (k, d) :: ds, vs, l, q => by
    obtain ⟨x, xr, rfl, i, t⟩ := l.uncons
    have q' : (D.off g d && D.offK g ds) = true := q
    rw [Bool.and_eq_true] at q'
    exact .cons (is_off h s d x i q'.1) (isK_off h s ds xr t q'.2)
theorem isT_off (h : OffA g A H) (s : Same F H) : ∀ (ds : List (List Key × D)) (vs : List (List Key × V)), IsK K F vs ds → D.offT g ds = true → IsK K (unA F A) vs ds
  | [], vs, l, q => by rw [l.unnil]; exact .nil
  | (k, d) :: ds, vs, l, q => by
    obtain ⟨x, xr, rfl, i, t⟩ := l.uncons
    have q' : (D.off g d && D.offT g ds) = true := q
    rw [Bool.and_eq_true] at q'
    exact .cons (is_off h s d x i q'.1) (isT_off h s ds xr t q'.2)
theorem isF_off (h : OffA g A H) (s : Same F H) : ∀ (ds : List (Str × D)) (vs : List (Str × V)), IsK K F vs ds → D.offF g ds = true → IsK K (unA F A) vs ds
  | [], vs, l, q => by rw [l.unnil]; exact .nil
  | (k, d) :: ds, vs, l, q => by
    obtain ⟨x, xr, rfl, i, t⟩ := l.uncons
    have q' : (D.off g d && D.offF g ds) = true := q
    rw [Bool.and_eq_true] at q'
    exact .cons (is_off h s d x i q'.1) (isF_off h s ds xr t q'.2)
end
theorem offA_of {M : Mem} (c : Cells K F H A M) : OffA (tagsM M) A H := fun a m => by
  obtain ⟨k, hk⟩ := List.mem_iff_getElem?.mp m
  obtain ⟨p, hp⟩ : ∃ p, M[k]? = some p := by
    have : k < M.length := by rw [← c.len]; exact (List.getElem?_eq_some_iff.mp hk).1
    exact ⟨M[k], by simp [this]⟩
  obtain ⟨a', o, e1, e2, e3⟩ := c.at_ k p hp
  rw [hk] at e1
  cases e1
  refine ⟨o, e2, ?_⟩
  have mp := List.mem_of_getElem? hp
  obtain ⟨b, d⟩ := p
  have shape : ∀ d' : D, IsC K F o d' → (isLst d' = true → isLst d = true) → (isDct d' = true → isDct d = true) → (isDcT d' = true → isDcT d = true) → (isObj d' = true → isObj d = true) →
      ((∃ xs, o = .lst xs ∧ (tagsM M).l = true) ∨ (∃ xs, o = .dK xs ∧ (tagsM M).k = true) ∨ (∃ xs, o = .dT xs ∧ (tagsM M).t = true) ∨ ∃ C dx xs, o = .ins C dx xs ∧ (tagsM M).o = true) := fun d' i s1 s2 s3 s4 => by
    cases o <;> cases d' <;> first
      | exact i.elim
      | exact .inl ⟨_, rfl, List.any_eq_true.mpr ⟨_, mp, s1 rfl⟩⟩
      | exact .inr (.inl ⟨_, rfl, List.any_eq_true.mpr ⟨_, mp, s2 rfl⟩⟩)
      | exact .inr (.inr (.inl ⟨_, rfl, List.any_eq_true.mpr ⟨_, mp, s3 rfl⟩⟩))
      | exact .inr (.inr (.inr ⟨_, _, _, rfl, List.any_eq_true.mpr ⟨_, mp, s4 rfl⟩⟩))
  cases b with
  | false => exact shape d e3 id id id id
  | true =>
    cases d with
    | list xs => exact shape _ (show IsC K F o (.list (D.subAll A xs)) from e3) id id id id
    | dict xs => exact shape _ (show IsC K F o (.dict (D.subK A xs)) from e3) id id id id
    | dictT xs => exact shape _ (show IsC K F o (.dictT (D.subT A xs)) from e3) id id id id
    | obj c xs => exact shape _ (show IsC K F o (.obj c (D.subF A xs)) from e3) id id id id
    | loc k2 =>
      have e4 : IsC K F o (match A[k2]? with | some a => .adr a | none => .loc k2) := e3
      split at e4 <;> cases o <;> exact e4.elim
    | _ => cases o <;> exact (show False from e3).elim
/-- back from a look -/
theorem snap_back {M : Mem} {F' H' : Hp} (c : Cells K F H A M) (x : Ext (frzF F H A) H F' H') : ExtQ F H A (unA F' A) H' A ∧ Cells K (unA F' A) H' A M ∧
    (∀ v d, Is K F' v d → d.off (tagsM M) = true → Is K (unA F' A) v d) ∧ ∀ {x : Ex} {cls : Value} {od : Option Addr}, IsX K F' x cls od → D.offF (tagsM M) x.fs = true → IsX K (unA F' A) x cls od := by
  obtain ⟨s1, s2⟩ := frz_same c
  have nA : ∀ {b u}, F b = some u → b ∉ A := fun {b u} e m => by rw [c.dj b m] at e; cases e
  have sF : Same F (unA F' A) := fun b u e => unA_at (x.ff b u (s1 b u e)) (nA e)
  have sH : Same (unA F' A) H' := fun b u e => by
    unfold unA at e
    by_cases m : b ∈ A
    · rw [if_pos m] at e; cases e
    · rw [if_neg m] at e; exact x.fh b u e
  have oA : OffA (tagsM M) A H' := fun a m => by
    obtain ⟨o, e, q⟩ := offA_of c a m
    exact ⟨o, x.hh a o e, q⟩
  refine ⟨⟨sF, ⟨[], by simp⟩, fun a o h _ => x.hh a o h, fun p hp fp np => ⟨?_, np⟩⟩, ⟨sH, c.len, c.nd, fun a m => by unfold unA; rw [if_pos m], fun k p hp => ?_⟩, fun v d i q => is_off oA x.fh d v i q, fun {x1 cls od} i q => ⟨i.1, fun n => ?_, i.2.2⟩⟩
  · unfold unA
    rw [if_neg np]
    refine x.nw p hp ?_
    unfold frzF
    rw [if_neg np]
    exact fp
  · obtain ⟨a, o, e1, e2, e3⟩ := c.at_ k p hp
    refine ⟨a, o, e1, x.hh a o e2, ?_⟩
    have := P.monoC (t := []) e3 sF
    rwa [List.append_nil] at this
  · obtain ⟨d, vs, e, h1, h2⟩ := i.2.1 n
    exact ⟨d, vs, e, unA_at h1 (oA.not x.fh h1 (fun _ z => by cases z) (fun _ z => by cases z) (fun _ z => by cases z) (fun _ _ _ z => by cases z)), isF_off oA x.fh _ _ h2 q⟩
end
def snR (M : Mem) (ρ : RhoQ) : Rho := ρ.map fun
  | some p => p.full M
  | none => none
theorem RepQ.snap {K : PySem.W.Frag} {B : QB} {ρ : RhoQ} {M : Mem} {σ : L2.St} {F H : Hp} {A : List Addr} (r : RepQ K B ρ M σ F H A) : Rep K ⟨frzF F H A, []⟩ H [] (snR M ρ) σ (frzF F H A) H := by
  refine ⟨by unfold snR; rw [List.length_map]; exact r.len, (frz_same r.cl).2, .refl _, .refl _, fun p h f => f, fun i d a _ => ?_, fun i d _ b => by simp at b, fun i j p d e _ a => by simp at a, fun b hb => (nomatch hb)⟩
  unfold snR at a
  rw [List.getElem?_map] at a
  cases e : ρ[i]? with
  | none => rw [e] at a; cases a
  | some q =>
    rw [e] at a
    cases q with
    | none => cases a
    | some p =>
      obtain ⟨v, e1, i1⟩ := r.val i p e
      exact ⟨v, e1, full_is r.cl i1 (Option.some.inj a)⟩
def upS (M : Mem) (r : R D) : RQ P := match r with
  | .ok d => if d.off (tagsM M) = true then .ok (false, d) M else .st
  | .ex x => if D.offF (tagsM M) x.fs = true then .ex x M else .st
  | .st => .st
def qSn (g : Rho → R D) : GQ := fun ρ M => upS M (g (snR M ρ))
section
variable {X : Cx} {B : QB} {W : WX} {pos : Pos} {e : Expr} {g : Rho → R D}
theorem q_snap (h : ∀ Fb Hb : Hp, DE X ⟨Fb, []⟩ Hb [] W e g) : DQ X B W e (qSn g) := by
  refine pe_imp (pe_some h) fun σ H Q ⟨ρ, M, F, A, r, q⟩ => ⟨frzF F H A, H, snR M ρ, frzF F H A, r.snap, ?_⟩
  unfold qSn upS at q
  cases z : g (snR M ρ) with
  | ok d =>
    rw [z] at q
    have q' : afterQ X.K W σ F H A (if d.off (tagsM M) = true then .ok (false, d) M else .st) Q := q
    by_cases hz : d.off (tagsM M) = true
    · rw [if_pos hz] at q'
      intro v F' H' x i
      obtain ⟨a, b, c, _⟩ := snap_back r.cl x
      exact q' v _ H' A a b (c v d i hz)
    · rw [if_neg hz] at q'
      exact q'.elim
  | ex x =>
    rw [z] at q
    have q' : afterQ X.K W σ F H A (if D.offF (tagsM M) x.fs = true then .ex x M else .st) Q := q
    by_cases hz : D.offF (tagsM M) x.fs = true
    · rw [if_pos hz] at q'
      intro cls od F' H' y i
      obtain ⟨a, b, _, c⟩ := snap_back r.cl y
      exact q' cls od _ H' A a b (c i hz)
    · rw [if_neg hz] at q'
      exact q'.elim
  | st =>
    rw [z] at q
    exact q
def qSnT (g : Rho → R Bool) : RhoQ → Mem → RQ Bool := fun ρ M => match g (snR M ρ) with
  | .ok b => .ok b M
  | .ex x => if D.offF (tagsM M) x.fs = true then .ex x M else .st
  | .st => .st
theorem qt_snap {p : Rho → R Bool} (h : ∀ Fb Hb : Hp, DT X ⟨Fb, []⟩ Hb [] W e p) : DQT X B W e (qSnT p) := by
  refine pt_imp (pt_some h) fun σ H Q ⟨ρ, M, F, A, r, q⟩ => ⟨frzF F H A, H, snR M ρ, frzF F H A, r.snap, ?_⟩
  unfold qSnT at q
  cases z : p (snR M ρ) with
  | ok d =>
    rw [z] at q
    intro F' H' x
    obtain ⟨a, b, _, _⟩ := snap_back r.cl x
    exact q _ H' A a b
  | ex x =>
    rw [z] at q
    by_cases hz : D.offF (tagsM M) x.fs = true
    · simp only [hz, if_true] at q
      intro cls od F' H' y i
      obtain ⟨a, b, _, c⟩ := snap_back r.cl y
      exact q cls od _ H' A a b (c i hz)
    · simp only [hz] at q
      exact q.elim
  | st =>
    rw [z] at q
    exact q
end
/-! ### a def that only looks -/
def fullL (M : Mem) : List P → Option (List D)
  | [] => some []
  | p :: ps => (p.full M).bind fun d => (fullL M ps).map (d :: ·)
def snG (G : List D → R D) : GF := fun ps M => match fullL M ps with
  | some ds => upS M (G ds)
  | none => .st
theorem fullL_is {K : PySem.W.Frag} {F H : Hp} {A : List Addr} {M : Mem} (c : Cells K F H A M) : ∀ {ps : List P} {vs : List V} {ds : List D}, IsLP K F A vs ps → fullL M ps = some ds → IsL K (frzF F H A) vs ds
  | [], vs, ds, l, q => by
    cases q
    rw [IsL.unnil (K := K) (H := F) l]
    exact .nil
  | p :: ps, vs, ds, l, q => by
    obtain ⟨x, xr, rfl, i, t⟩ := (show IsL K F vs (p.at A :: ps.map (P.at A)) from l).uncons
    obtain ⟨e, q1, q2⟩ := Option.bind_eq_some_iff.mp (show (p.full M).bind (fun d => (fullL M ps).map (d :: ·)) = some ds from q)
    obtain ⟨er, q3, rfl⟩ := Option.map_eq_some_iff.mp q2
    exact .cons (full_is c i q1) (fullL_is c t q3)
theorem spD_snap {K : PySem.W.Frag} {G : List D → R D} {vs : List V} {H : Hp} {Q : VK} {E : XK} (h : spQ K (snG G) vs H Q E) : spD K G vs H Q E := by
  obtain ⟨ps, M, F, A, l, c, h⟩ := h
  unfold snG at h
  cases z : fullL M ps with
  | none => rw [z] at h; exact h.elim
  | some ds =>
    rw [z] at h
    refine ⟨ds, frzF F H A, fullL_is c l z, (frz_same c).2, ?_⟩
    have h' : match upS M (G ds) with
      | .ok p M' => ∀ v F' H' A', ExtQ F H A F' H' A' → Cells K F' H' A' M' → Is K F' v (p.at A') → Q v H'
      | .ex x M' => ∀ cls od F' H' A', ExtQ F H A F' H' A' → Cells K F' H' A' M' → IsX K F' x cls od → E cls od H'
      | .st => False := h
    unfold upS at h'
    cases z2 : G ds with
    | ok d =>
      rw [z2] at h'
      by_cases hz : d.off (tagsM M) = true
      · simp only [hz, if_true] at h'
        intro v F' H' x i
        obtain ⟨a, b, c, _⟩ := snap_back c x
        exact h' v _ H' A a b (c v d i hz)
      · simp only [hz] at h'
        exact h'.elim
    | ex x =>
      rw [z2] at h'
      by_cases hz : D.offF (tagsM M) x.fs = true
      · simp only [hz, if_true] at h'
        intro cls od F' H' y i
        obtain ⟨a, b, _, c⟩ := snap_back c y
        exact h' cls od _ H' A a b (c i hz)
      · simp only [hz] at h'
        exact h'.elim
    | st =>
      rw [z2] at h'
      exact h'
theorem FnOk.snap {P' : Program} {w : World} {K : PySem.W.Frag} {mg : Str → Option Value} {base : Heap} {CX : CXT} {k : Nat} {f : Addr} {fd : FuncData} {ps : List Str} {G : List D → R D} (F : FnOk P' w K mg base CX k f fd ps (spD K G)) : FnOk P' w K mg base CX k f fd ps (spQ K (snG G)) :=
  F.imp fun vs H Q E h => spD_snap h
end Pd

/-! Pq6: defs and methods as the generator names them; C.m(self, ..); is of truths -/
namespace Pd
open PySem PySem.Spec PyProof.Rows L2
structure UnF (P' : Program) (w : World) (K : PySem.W.Frag) (mg : Str → Option Value) (base : Heap) (k : Nat) (f : Addr) (ps : List Str) (G : List D → R D) : Prop where
  ex : ∃ fd, FnOk P' w K mg base (L2.CX P' w) k f fd ps (spD K G) ∧ Binds K fd ps [] ∧ PySem.W.keepIn K (.ref f) = true
structure UnN (P' : Program) (w : World) (K : PySem.W.Frag) (mg : Str → Option Value) (base : Heap) (k : Nat) (f : Addr) (ps : List Str) (G : List D → R D) : Prop where
  ex : ∃ fd, FnOk P' w K mg base (L2.CX P' w) k f fd ps (spN K G) ∧ Binds K fd ps [] ∧ PySem.W.keepIn K (.ref f) = true
structure UnQ (P' : Program) (w : World) (K : PySem.W.Frag) (mg : Str → Option Value) (base : Heap) (k : Nat) (f : Addr) (ps : List Str) (G : GF) : Prop where
  ex : ∃ fd, FnOk P' w K mg base (L2.CX P' w) k f fd ps (spQ K G) ∧ Binds K fd ps [] ∧ PySem.W.keepIn K (.ref f) = true
/-- a def as the top left it -/
structure DefU (K : PySem.W.Frag) (x qual : Str) (st : Stmt) (f : Addr) (ps : List Str) : Prop where
  ex : ∃ fd, FunD K x qual (defArgs st) (defBody st) (defScope st) [] [] f fd ∧ Binds K fd ps []
section
variable {P' : Program} {w : World} {K : PySem.W.Frag} {mg : Str → Option Value} {base : Heap} {k j : Nat} {x qual c m : Str} {ps : List Str} {G : List D → R D} {GQ' : GF} {st : Stmt} {f : Addr}
theorem UnN.un (h : UnN P' w K mg base k f ps G) : UnF P' w K mg base k f ps G := by
  obtain ⟨fd, a, b⟩ := h.ex
  exact ⟨fd, FnOk.ofN a, b⟩
theorem UnQ.down (h : UnQ P' w K mg base k f ps GQ') : UnF P' w K mg base k f ps GQ'.down := by
  obtain ⟨fd, a, b⟩ := h.ex
  exact ⟨fd, FnOk.down a, b⟩
theorem UnF.snap (h : UnF P' w K mg base k f ps G) : UnQ P' w K mg base k f ps (snG G) := by
  obtain ⟨fd, a, b⟩ := h.ex
  exact ⟨fd, FnOk.snap a, b⟩
theorem un_d {N : List Str} {mm m' : List Bool} {s : Rho → S} (n : Nat) (Df : DefU K x qual st f ps) (Sc : FnScope N ps (defScope st)) (hn : N.length = n) (hm : mm.all (!·) = true)
    (hb : ∀ (cdv : Value) (A : Around) (outer : List Env) (sh : Shared) (H : Hp) (E : XK) (Fb : Hp), Room k (A.deeper (envOfC qual (defScope st) sh.heap.objs.size f cdv)) →
      DSs (cxOf (L2.CX P' w) P' w K mg base N qual (defScope st) f cdv A outer sh H E) ⟨Fb, []⟩ H mm m' [] (fun cls d _ H => E cls d H) (defBody st) s) : UnF P' w K mg base (k + 1) f ps (runS n ps.length s) := by
  obtain ⟨fd, F, b⟩ := Df.ex
  exact ⟨fd, fn_d n F Sc hn hm hb, b, F.kp⟩
theorem un_n {N : List Str} {mm m' : List Bool} {s : Rho → S} (n : Nat) (Df : DefU K x qual st f ps) (Sc : FnScope N ps (defScope st)) (hn : N.length = n) (hm : mm.all (!·) = true)
    (hb : ∀ (cdv : Value) (A : Around) (outer : List Env) (sh : Shared) (H : Hp) (E : XK) (Fb : Hp), Room k (A.deeper (envOfC qual (defScope st) sh.heap.objs.size f cdv)) →
      DSs (cxOf (L2.CX P' w) P' w K mg base N qual (defScope st) f cdv A outer sh H E) ⟨Fb, []⟩ H mm m' [] (fun cls d _ H => E cls d H) (defBody st) s) : UnN P' w K mg base (k + 1) f ps (runN n ps.length s) := by
  obtain ⟨fd, F, b⟩ := Df.ex
  exact ⟨fd, fn_n n F Sc hn hm hb, b, F.kp⟩
theorem un_q {N : List Str} {s : SQF} (n : Nat) (Df : DefU K x qual st f ps) (Sc : FnScope N ps (defScope st)) (hn : N.length = n)
    (hb : ∀ (cdv : Value) (A : Around) (outer : List Env) (sh : Shared) (H : Hp) (E : XK) (B : QB), Room k (A.deeper (envOfC qual (defScope st) sh.heap.objs.size f cdv)) →
      DQSs (cxOf (L2.CX P' w) P' w K mg base N qual (defScope st) f cdv A outer sh H E) B (fun cls d _ H => E cls d H) (defBody st) s) : UnQ P' w K mg base (k + 1) f ps (runQ n ps.length s) := by
  obtain ⟨fd, F, b⟩ := Df.ex
  exact ⟨fd, fn_q n F Sc hn hb, b, F.kp⟩
/-- as callers name it -/
theorem calF_of (U : UnF P' w K mg base k f ps G) (hm : mg x = some (.ref f)) : CalF P' w K mg base k x ps G := by
  obtain ⟨fd, a, b, c⟩ := U.ex
  exact ⟨f, fd, a, hm, c, b⟩
theorem calN_of (U : UnN P' w K mg base k f ps G) (hm : mg x = some (.ref f)) : CalN P' w K mg base k x ps G := by
  obtain ⟨fd, a, b, c⟩ := U.ex
  exact ⟨f, fd, a, hm, c, b⟩
theorem nomore (as : List D) : as = as ++ [] := (List.append_nil as).symm
theorem calM_of (U : UnF P' w K mg base k f ps G) (cl : Cls K (He.ga K c)) (hm : Meth K (He.ga K c) m f) : CalM P' w K mg base k c m G := by
  obtain ⟨fd, a, b, _⟩ := U.ex
  exact ⟨f, fd, ps, [], [], G, a, cl, hm, b, .nil, [], fun _ => .nil, fun as => congrArg G (nomore as)⟩
theorem calMN_of (U : UnN P' w K mg base k f ps G) (cl : Cls K (He.ga K c)) (hm : Meth K (He.ga K c) m f) : CalMN P' w K mg base k c m G := by
  obtain ⟨fd, a, b, _⟩ := U.ex
  exact ⟨f, fd, ps, [], [], G, a, cl, hm, b, .nil, [], fun _ => .nil, fun as => congrArg G (nomore as)⟩
theorem nomoreQ (as : List P) : as = as ++ ([] : List D).map (fun d => ((false, d) : P)) := (List.append_nil as).symm
theorem calQ_of (U : UnQ P' w K mg base k f ps GQ') (hm : mg x = some (.ref f)) : CalQ P' w K mg base k x GQ' := by
  obtain ⟨fd, a, b, c⟩ := U.ex
  exact ⟨f, fd, ps, [], [], GQ', a, hm, c, b, .nil, [], fun _ => .nil, fun as M => congrArg (GQ' · M) (nomoreQ as)⟩
theorem metQ_of (U : UnQ P' w K mg base k f ps GQ') (cl : Cls K (He.ga K c)) (hm : Meth K (He.ga K c) m f) : MetQ P' w K mg base k c m GQ' := by
  obtain ⟨fd, a, b, _⟩ := U.ex
  exact ⟨f, fd, ps, [], [], GQ', a, cl, hm, b, .nil, [], fun _ => .nil, fun as M => congrArg (GQ' · M) (nomoreQ as)⟩
theorem mkQ_of (U : UnQ P' w K mg base k f ps GQ') (hm : mg x = some (.ref (He.ga K x)) ∧ Mk K (He.ga K x) f) : MkQ P' w K mg base k x GQ' := by
  obtain ⟨fd, a, b, _⟩ := U.ex
  exact ⟨f, fd, ps, [], [], GQ', a, hm.1, hm.2, b, .nil, [], fun _ => .nil, fun as M => congrArg (GQ' · M) (nomoreQ as)⟩
end
/-! ### C.m(self, ..) -/
structure CFn (K : PySem.W.Frag) (mg : Str → Option Value) (x m : Str) (f : Addr) : Prop where
  gC : mg x = some (.ref (He.ga K x))
  sp : PySem.W.specialIn K (.ref (He.ga K x)) "__getattribute__" = some (some (.builtin "type.__getattribute__"))
  rd : PySem.W.readsIn K (He.ga K x) (.type "type") = true
  at_ : PySem.W.findCls K (.ref (He.ga K x)) (.type "type") m = some (.val (.ref f))
section
variable {X : Cx} {B : QB} {W : WX} {pos apos p : Pos} {e : Expr} {es : List Expr} {t : GQA} {k j : Nat} {x m : Str} {f : Addr} {ps : List Str} {GQ' : GF} {pl : Sem Bool}
theorem pe_cfn {CX : CXT} {fd : FuncData} {sp : Sp} {E : L2.St → XK} {tt : TA} (r : CFn X.K X.mg x m f) (F : FnOk X.prog X.w X.K X.mg X.base CX k f fd ps sp) (hr : Room k X.A) (hb : Binds X.K fd ps []) (hk : PySem.W.keepIn X.K (.ref f) = true) (hx : ∀ σ, PassesAt CX X σ (E σ)) (ha : PA X (e :: es) tt) (hg : Gl X x)
    (hdb : (x == ("__debug__" : Str)) = false) (hst : starEach (e :: es) X.env = (false, eval e X.env) :: starEach es X.env) (hpl : (backTo pos (starEach es X.env)).any (·.1) = false)
    (ht : eval (.Call (.Attribute (.Name x p) m apos) (e :: es) [] pos) X.env = (do
      let ov ← eval (.Name x p) X.env
      standAt apos.atName
      let (f, first) ← holding [ov] (getMethod ov m pl)
      callWith pos f first (backTo pos (starEach (e :: es) X.env)) (backToKw pos (keywordEach [] X.env)))) :
    PE X (.Call (.Attribute (.Name x p) m apos) (e :: es) [] pos) (fun σ H Q => tt σ H fun vs H1 => sp vs H1 Q (E σ)) := by
  refine ⟨fun pins s σ H Q I h => ?_⟩
  refine PySem.W.methodCall_KW (pl := pl) (ld_glob I hg r.gC ?_ hdb) ht
  refine PySem.W.method_cls I.kIn r.sp (PySem.W.cls_value I.kIn r.rd r.at_ rfl ?_)
  refine PySem.W.callWith_K (first := []) (h₀ := X.base) I.ok.mod.kin hk (thn (ha.run pos pins _ σ H _ (I.tok _) h) fun us s1 ⟨vs, H1, I1, r1, q⟩ => ⟨I1.kIn, ?_⟩) hst hpl
  exact run_fnW (dvs := []) F hr hb .nil (hx σ) I1 r1 (by rw [List.append_nil]; exact q)
theorem q_cfn (r : CFn X.K X.mg x m f) (U : UnQ X.prog X.w X.K X.mg X.base k f ps GQ') (hr : Room j X.A) (hj : k ≤ j) (tk : Takes X W) (ha : DQA X B W (e :: es) t) (hg : Gl X x)
    (hdb : (x == ("__debug__" : Str)) = false) (hst : starEach (e :: es) X.env = (false, eval e X.env) :: starEach es X.env) (hpl : (backTo pos (starEach es X.env)).any (·.1) = false)
    (ht : eval (.Call (.Attribute (.Name x p) m apos) (e :: es) [] pos) X.env = (do
      let ov ← eval (.Name x p) X.env
      standAt apos.atName
      let (f, first) ← holding [ov] (getMethod ov m pl)
      callWith pos f first (backTo pos (starEach (e :: es) X.env)) (backToKw pos (keywordEach [] X.env)))) : DQ X B W (.Call (.Attribute (.Name x p) m apos) (e :: es) [] pos) (qCall GQ' t) := by
  obtain ⟨fd, F, hb, hk⟩ := U.ex
  refine pe_imp (pe_cfn r F (hr.mono hj) hb hk (fun σ => passAt tk σ) ha hg hdb hst hpl ht) fun σ H Q ⟨ρ, M, F, A, r, h⟩ => ?_
  refine semQA_bind (k := GQ') r h fun ps M1 vs F1 H1 A1 _ i1 r1 h1 => ⟨ps, M1, F1, A1, i1, r1.cl, ?_⟩
  cases z : GQ' ps M1 with
  | ok p M2 => rw [z] at h1; exact h1
  | ex x M2 => rw [z] at h1; exact h1
  | st => rw [z] at h1; exact h1
end
/-! ### facts of one's own over K -/
theorem ex_at {bs : List Bool} (h : bs.all id = true) (i : Nat) {b : Bool} (e : bs[i]? = some b := by rfl) : b = true := List.all_eq_true.mp h b (List.mem_of_getElem? e)
theorem newB_ok {K : PySem.W.Frag} {mg : Str → Option Value} {x : Str} (h : newB K x = true) (g : mg x = some (.ref (He.ga K x))) : NewK K mg x := by
  obtain ⟨a, h⟩ := He.ba h
  obtain ⟨b, c⟩ := He.ba h
  exact ⟨a, He.eqO_ok b, c, g⟩
theorem inh_ok {K : PySem.W.Frag} {c d m : Str} (h : inhB K c d m = true) (i : Meth K (He.ga K c) m (He.ma K (He.ga K c) m)) : Meth K (He.ga K c) m (He.fAd K (d, some m)) := by
  have e : He.ma K (He.ga K c) m = He.ma K (He.ga K d) m := of_decide_eq_true h
  show Meth K (He.ga K c) m (He.ma K (He.ga K d) m)
  rw [← e]
  exact i
theorem inh_mk {K : PySem.W.Frag} {c d : Str} (h : inhB K c d "__init__" = true) (i : Mk K (He.ga K c) (He.ma K (He.ga K c) "__init__")) : Mk K (He.ga K c) (He.fAd K (d, some "__init__")) := by
  have e : He.ma K (He.ga K c) "__init__" = He.ma K (He.ga K d) "__init__" := of_decide_eq_true h
  show Mk K (He.ga K c) (He.ma K (He.ga K d) "__init__")
  rw [← e]
  exact i
theorem cfnB_ok {K : PySem.W.Frag} {mg : Str → Option Value} {x m y : Str} (h : cfnB K x m y = true) (g : mg x = some (.ref (He.ga K x))) : CFn K mg x m (He.fAd K (y, some m)) := by
  obtain ⟨a, h⟩ := He.ba h
  obtain ⟨b, c⟩ := He.ba h
  refine ⟨g, He.eqO_ok a, b, ?_⟩
  split at c
  · rename_i u e
    rw [e, of_decide_eq_true c]
  · cases c
/-! ### is True, is not False -/
def isBD : D → D → R D
  | .bl a, .bl b => .ok (.bl (decide (a = b)))
  | .non, .bl _ => .ok (.bl false)
  | _, _ => .st
end Pd

/-! Pd13: list.count of data, is True, defs of which nothing is known yet (the ground of a recursion) -/
namespace Pd
open PySem PySem.Spec PyProof.Rows L2
section
variable {X : Cx}
def rCountD (K : PySem.W.Frag) : V → List V → Hp → VK → Prop := fun x xs H Q => ∃ (a : Addr) (y : V) (d : PyData) (ds : List PyData), x = V.ref a ∧ xs = [y] ∧ Dp K H (V.ref a) (.list ds) ∧ Dp K H y d ∧
  SeqAt.shaped (.list ds) = true ∧ SeqAt.shaped d = true ∧ Q (.int ((ds.countP fun z => PyData.eqv z d : Nat) : Int)) H
theorem mt_countD (hu : X.A.units + 65 < cLine) : MtR X "list.count" (rCountD X.K) := by
  intro pins s σ H x xs v us Q I rx rxs h
  obtain ⟨a, y, d, ds, rfl, rfl, hl, hy, sl, sd, q⟩ := h
  cases rx
  cases rxs with
  | cons ry rt =>
    rename_i uy ut
    cases rt
    obtain ⟨bs, r1⟩ := Dp.reads I d y uy hy ry
    have hxs : PyData.canLayAll0 ds = true := SeqAt.canLay_of_shaped sl
    have hroom : X.A.units + 1 + min (PyData.depthAll ds) d.depth < cLine := room_in_shaped sd hu
    cases hl with
    | lst hs ha =>
      obtain ⟨its, rv, ⟨⟨cls, dd, data, sls⟩, n, ho, hc, hdn, hdt⟩, hlen⟩ := I.list hs
      simp only at hc hdt
      subst hc hdt
      obtain ⟨as, h4⟩ := Dp.readsAll I ds _ its ha rv
      have hmap : its.map (SeqAt.readOf s.heap) = ds := SeqAt.readsAll_map ds its as hxs h4
      refine call_meets PySem.F.slot_list_count ⟨_, ho, rfl⟩ PySem.F.entry_list_count (PySem.F.args_list_count_2 _ _)
        (SeqAt.list_countAt a its.toArray n dd sls uy (fun u => PyData.eqv (SeqAt.readOf s.heap u) d)) ⟨ho, SeqAt.items_eqAt (vs := its.toArray) (show ReadsAll s.heap its.toArray.toList ds as from h4) r1 hxs (SeqAt.canLay_of_shaped sd) hroom, ?_⟩
      refine ⟨.int ((ds.countP fun z => PyData.eqv z d : Nat) : Int), H, I.tok _, ⟨s.toks, ?_⟩, q⟩
      have e : its.toArray.toList.countP (fun u => PyData.eqv (SeqAt.readOf s.heap u) d) = ds.countP fun z => PyData.eqv z d := by
        rw [← hmap, List.countP_map]
        rfl
      show Value.int ((its.toArray.toList.countP (fun u => PyData.eqv (SeqAt.readOf s.heap u) d) : Nat) : Int) s.toks = Value.int ((ds.countP fun z => PyData.eqv z d : Nat) : Int) s.toks
      rw [e]
end
def countD : D → List D → R D
  | .list ds, [d] => if (D.sh d && D.sh (.list ds)) = true then .ok (.int ((ds.countP fun z => eqvD z d : Nat) : Int)) else .st
  | _, _ => .st
theorem cnt_py : ∀ (ds : List D) (d : D), (D.pyAll ds).countP (fun z => PyData.eqv z d.py) = ds.countP fun z => eqvD z d
  | [], _ => rfl
  | e :: ds, d => by
    have ih := cnt_py ds d
    show (e.py :: D.pyAll ds).countP (fun z => PyData.eqv z d.py) = _
    rw [List.countP_cons, List.countP_cons, ih]
    rfl
theorem o_count {K : PySem.W.Frag} : MetD K countD (rCountD K) := by
  intro W σ F H d v ds vs Q s i l q
  match d, ds, l, q with
  | .list es, [e], l, q =>
    obtain ⟨u, rfl, j⟩ := one_of l
    obtain ⟨p, xs, rfl, hp, t⟩ := i.list_inv
    have q' : after K W σ F H (if (D.sh e && D.sh (.list es)) = true then .ok (.int ((es.countP fun z => eqvD z e : Nat) : Int)) else .st) Q := q
    by_cases h2 : (D.sh e && D.sh (.list es)) = true
    · rw [if_pos h2] at q'
      rw [Bool.and_eq_true] at h2
      obtain ⟨a1, a2⟩ := dp_mono s j h2.1
      obtain ⟨b1, b2⟩ := dp_mono s (is_list hp t) h2.2
      refine ⟨p, u, e.py, D.pyAll es, rfl, rfl, b1, a1, b2, a2, ?_⟩
      rw [cnt_py]
      exact after.now q' s (.int _)
    · rw [if_neg h2] at q'
      exact q'.elim
  | .list es, [], l, q => exact q.elim
  | .list es, _ :: _ :: _, l, q => exact q.elim
  | .non, _, _, q => exact q.elim
  | .bl _, _, _, q => exact q.elim
  | .int _, _, _, q => exact q.elim
  | .str _, _, _, q => exact q.elim
  | .tup _, _, _, q => exact q.elim
  | .dict _, _, _, q => exact q.elim
  | .dictT _, _, _, q => exact q.elim
  | .obj _ _, _, _, q => exact q.elim
  | .loc _, _, _, q => exact q.elim
  | .adr _, _, _, q => exact q.elim
/-! ### is True, is not True -/
def isTD : D → D → R D
  | .bl a, .bl b => .ok (.bl (decide (a = b)))
  | _, _ => .st
def notTD : D → D → R D
  | .bl a, .bl b => .ok (.bl (!decide (a = b)))
  | _, _ => .st
theorem o_isT {K : PySem.W.Frag} : OpD K isTD rIsB := by
  intro W σ F H d e v u Q s i j q
  cases i <;> cases j <;> first
    | exact ⟨_, _, rfl, rfl, after.now q s (.bl _)⟩
    | exact q.elim
theorem o_notT {K : PySem.W.Frag} : OpD K notTD rNotB := by
  intro W σ F H d e v u Q s i j q
  cases i <;> cases j <;> first
    | exact ⟨_, _, rfl, rfl, after.now q s (.bl _)⟩
    | exact q.elim
/-! ### nothing known -/
def sSt : Rho → S := fun _ => .st
theorem dss_st {X : Cx} {F0 : Bs} {H0 : Hp} {m m' mL : List Bool} {W : WX} {st : List Stmt} : DSs X F0 H0 m m' mL W st sSt := ⟨fun pins s σ H E I ⟨ρ, F, r, h⟩ => h.elim⟩
def sqSt : SQF := fun _ _ => .st
theorem qss_st {X : Cx} {B : QB} {W : WX} {st : List Stmt} : DQSs X B W st sqSt := ⟨fun pins s σ H E I ⟨ρ, M, F, A, r, h⟩ => h.elim⟩
end Pd

/-! Pq7: over a memory: tuples, what stands in them -/
namespace Pd
open PySem PySem.Spec PyProof.Rows L2
section
variable {K : PySem.W.Frag} {F H : Hp} {A : List Addr} {M : Mem}
theorem islp_any {b : Bool} : ∀ {ps : List P} {vs : List V}, IsLP K F A vs ps → (∀ p ∈ ps, p.1 = true → b = true) → IsLP K F A vs ((ps.map (·.2)).map fun d => (b, d))
  | [], vs, h, _ => h
  | p :: ps, vs, h, hb => by
    obtain ⟨x, xr, rfl, ix, t⟩ := (show IsL K F vs (P.at A p :: ps.map (P.at A)) from h).uncons
    have e : (p.1 || b) = b := by
      cases q : p.1 with
      | false => rfl
      | true => rw [hb p List.mem_cons_self q]; rfl
    have ix' := at_up ix b
    rw [e] at ix'
    exact IsL.cons (K := K) (H := F) ix' (islp_any (ps := ps) t fun q hq => hb q (List.mem_cons_of_mem _ hq))
theorem is_tupP {a : Addr} {vs : List V} {b : Bool} {ds : List D} (hp : SqT K F a vs) (h : IsLP K F A vs (ds.map fun d => (b, d))) : Is K F (.ref a) (P.at A (b, .tup ds)) := by
  have h' : IsL K F vs ((ds.map fun d => (b, d)).map (P.at A)) := h
  rw [List.map_map] at h'
  cases b with
  | false =>
    rw [show (P.at A ∘ fun d => (false, d)) = (id : D → D) from rfl, List.map_id] at h'
    exact is_tup hp h'
  | true =>
    rw [show (P.at A ∘ fun d => (true, d)) = D.sub A from rfl, ← subAll_map] at h'
    exact is_tup hp h'
/-- a row of things: a tuple, a shared list, a list at a number -/
def seqP (M : Mem) : P → Option (Bool × List D)
  | (b, .tup ds) => some (b, ds)
  | (b, .list ds) => some (b, ds)
  | (true, .loc k) => match M[k]? with
    | some (b, .list ds) => some (b, ds)
    | _ => none
  | _ => none
theorem at_list {v : V} {b : Bool} {ds : List D} (h : Is K F v (P.at A (b, .list ds))) : ∃ a xs, v = .ref a ∧ SqL K F a xs ∧ IsLP K F A xs (ds.map fun d => (b, d)) := by
  cases b with
  | false =>
    obtain ⟨a, xs, e, hp, l⟩ := (show Is K F v (.list ds) from h).list_inv
    exact ⟨a, xs, e, hp, islp_clean l⟩
  | true =>
    obtain ⟨a, xs, e, hp, l⟩ := (show Is K F v (.list (D.subAll A ds)) from h).list_inv
    refine ⟨a, xs, e, hp, ?_⟩
    show IsL K F xs ((ds.map fun d => (true, d)).map (P.at A))
    rw [List.map_map, show (P.at A ∘ fun d => (true, d)) = D.sub A from rfl, ← subAll_map]
    exact l
theorem seqP_is {v : V} {p : P} {b : Bool} {ds : List D} (cl : Cells K F H A M) (i : Is K F v (p.at A)) (h : seqP M p = some (b, ds)) :
    ∃ a xs, v = .ref a ∧ (SqT K H a xs ∨ SqL K H a xs) ∧ IsLP K F A xs (ds.map fun d => (b, d)) := by
  unfold seqP at h
  split at h
  · cases h
    obtain ⟨a, xs, e, hp, l⟩ := at_tup i
    exact ⟨a, xs, e, .inl (sameT cl.fh hp), l⟩
  · cases h
    obtain ⟨a, xs, e, hp, l⟩ := at_list i
    exact ⟨a, xs, e, .inr (cl.fh.seq hp), l⟩
  · rename_i k
    split at h
    · rename_i b' ds' e
      cases h
      have i' : Is K F v (match A[k]? with | some a => .adr a | none => .loc k) := i
      obtain ⟨a, o, e1, e2, e3⟩ := cl.at_ k _ e
      rw [e1] at i'
      cases i'
      obtain ⟨xs, rfl, l⟩ := isL_at e3
      exact ⟨a, xs, rfl, .inr (.of e2), l⟩
    · cases h
  · cases h
end
section
variable {X : Cx} {B : QB} {W : WX} {pos : Pos} {e a b : Expr} {es : List Expr} {g go gk : GQ} {t : GQA}
def tupP (ps : List P) (M : Mem) : RQ P := if ps.length ≤ sizeLine then .ok (ps.any fun p => p.1, .tup (ps.map fun p => p.2)) M else .st
def qTup (t : GQA) : GQ := fun ρ M => (t ρ M).bind tupP
theorem q_tup {k} (ha : DQA X B W es t) : DQ X B W (.Tuple es k pos) (qTup t) := by
  refine pe_imp (pe_tup ha) fun σ H Q ⟨ρ, M, F, A, r, h⟩ => semQA_bind (k := tupP) r h fun ps M1 vs F1 H1 A1 x1 i1 r1 h1 => ?_
  unfold tupP at h1
  by_cases hl : ps.length ≤ sizeLine
  · rw [if_pos hl] at h1
    have il : IsL X.K F1 vs (ps.map (P.at A1)) := i1
    refine ⟨by rw [il.1, List.length_map]; exact hl, fun p hp => ?_⟩
    obtain ⟨e, c⟩ := ExtQ.pure r1.cl (Ext.laid (o := .tup vs) r1.cl.fh hp)
    refine h1 (.ref p) _ _ _ e c (is_tupP (.of upd_same) ?_)
    refine islp_any (b := ps.any (·.1)) (show IsL X.K _ vs (ps.map (P.at A1)) from il.mono e.ff) fun q hq hb => ?_
    exact List.any_eq_true.mpr ⟨q, hq, hb⟩
  · rw [if_neg hl] at h1
    exact h1.elim
/-- p[i] -/
def ixP (M : Mem) (p q : P) : RQ P := match q with
  | (_, .int i) => (match seqP M p with
    | some (b, ds) => match atI ds i with
      | some d => .ok (b, d) M
      | none => .st
    | none => .st)
  | _ => .st
def qIx (go gk : GQ) : GQ := fun ρ M => (go ρ M).bind fun p M1 => (gk ρ M1).bind fun q M2 => ixP M2 p q
theorem atP {K : PySem.W.Frag} {F : Hp} {A : List Addr} {xs : List V} {b : Bool} {ds : List D} (l : IsLP K F A xs (ds.map fun d => (b, d))) {i : Int} {d : D} (h : atI ds i = some d) : ∃ v, atI xs i = some v ∧ Is K F v (P.at A (b, d)) := by
  have l' : IsL K F xs ((ds.map fun d => (b, d)).map (P.at A)) := l
  rw [List.map_map] at l'
  refine atI_is l' ?_
  unfold atI at h ⊢
  rw [List.length_map]
  cases z : ixN ds.length i with
  | none => rw [z] at h; cases h
  | some j =>
    rw [z] at h
    have h2 : ds[j]? = some d := h
    show (ds.map (P.at A ∘ fun d => (b, d)))[j]? = some _
    rw [List.getElem?_map, h2]
    rfl
theorem q_ix (ha : DQ X B W a go) (hb : DQ X B W b gk) (hs : PlainIx b := by exact fun _ _ => rfl) : DQ X B W (.Subscript a b pos) (qIx go gk) := by
  refine pe_imp (pe_ix ix_seq ha hb hs) fun σ H Q ⟨ρ, M, F, A, r, h⟩ => ?_
  refine semQ_bind (k := fun p M1 => (gk ρ M1).bind fun q M2 => ixP M2 p q) r h fun p M1 v F1 H1 A1 x1 i1 r1 h1 => ?_
  refine semQ_bind (k := fun q M2 => ixP M2 p q) r1 h1 fun q M2 u F2 H2 A2 x2 i2 r2 h2 => ?_
  have i1' := x2.grow.is i1
  obtain ⟨c, d⟩ := q
  cases d with
  | int i =>
    have iu : Is X.K F2 u (.int i) := by cases c <;> exact i2
    cases iu
    have h3 : afterQ X.K W σ F2 H2 A2 (match seqP M2 p with
      | some (b, ds) => match atI ds i with
        | some d => .ok (b, d) M2
        | none => .st
      | none => .st) Q := h2
    cases z : seqP M2 p with
    | none => rw [z] at h3; exact h3.elim
    | some z2 =>
      obtain ⟨b, ds⟩ := z2
      rw [z] at h3
      obtain ⟨a, xs, rfl, hp, l⟩ := seqP_is r2.cl i1' z
      have h4 : afterQ X.K W σ F2 H2 A2 (match atI ds i with
        | some d => .ok (b, d) M2
        | none => .st) Q := h3
      cases y : atI ds i with
      | none => rw [y] at h4; exact h4.elim
      | some d =>
        rw [y] at h4
        obtain ⟨w, e1, e2⟩ := atP l y
        rcases hp with hp | hp
        · exact .inr (.inl ⟨a, xs, i, w, rfl, rfl, hp, e1, afterQ.now h4 r2.cl e2⟩)
        · exact .inl ⟨a, xs, i, w, rfl, rfl, hp, e1, afterQ.now h4 r2.cl e2⟩
  | _ => exact h2.elim
end
end Pd

/-! Pq8: over a memory: operations between what is read, new lists of such, x[i] = e, while, range of such; isinstance of one's own classes -/
namespace Pd
open PySem PySem.Spec PyProof.Rows L2
/-- what has no numbers -/
def P.cln : P → Option D
  | (false, d) => some d
  | (true, .non) => some .non
  | (true, .bl b) => some (.bl b)
  | (true, .int i) => some (.int i)
  | (true, .str s) => some (.str s)
  | (true, _) => none
theorem cln_is {K : PySem.W.Frag} {F : Hp} {A : List Addr} {v : V} {p : P} {d : D} (i : Is K F v (p.at A)) (h : p.cln = some d) : Is K F v d := by
  obtain ⟨b, e⟩ := p
  cases b with
  | false => cases h; exact i
  | true =>
    cases e with
    | non => cases h; exact i
    | bl b => cases h; exact i
    | int j => cases h; exact i
    | str s => cases h; exact i
    | _ => cases h
section
variable {X : Cx} {B : QB} {W : WX} {pos : Pos} {e o ix a b value : Expr} {es : List Expr} {g go gi ga gb : GQ} {t : GQA}
theorem after_up {K : PySem.W.Frag} {σ : L2.St} {F H : Hp} {A : List Addr} {M : Mem} {Q : VK} {r : R D} (h : afterQ K W σ F H A (r.up M fun d => (false, d)) Q) (c : Cells K F H A M) : after K W σ F H r Q := by
  cases r with
  | ok d => exact fun v F' H' x i => let ⟨a, b⟩ := ExtQ.pure c x; h v F' H' A a b i
  | ex x => exact fun cls od F' H' y i => let ⟨a, b⟩ := ExtQ.pure c y; h cls od F' H' A a b i
  | st => exact h
def op2P (f : D → D → R D) (M : Mem) (p q : P) : RQ P := match p.cln, q.cln with
  | some d, some e => (f d e).up M fun d => (false, d)
  | _, _ => .st
def q2 (f : D → D → R D) (ga gb : GQ) : GQ := fun ρ M => (ga ρ M).bind fun p M1 => (gb ρ M1).bind fun q M2 => op2P f M2 p q
theorem sem2Q {f : D → D → R D} {r : R2} (o : OpD X.K f r) (σ : L2.St) (H : Hp) (Q : VK) (h : tSemQ X.K B W (q2 f ga gb) σ H Q) : tOp r (tSemQ X.K B W ga) (tSemQ X.K B W gb) σ H Q := by
  obtain ⟨ρ, M, F, A, r0, h⟩ := h
  refine semQ_bind (k := fun p M1 => (gb ρ M1).bind fun q M2 => op2P f M2 p q) r0 h fun p M1 v F1 H1 A1 x1 i1 r1 h1 => ?_
  refine semQ_bind (k := fun q M2 => op2P f M2 p q) r1 h1 fun q M2 u F2 H2 A2 x2 i2 r2 h2 => ?_
  unfold op2P at h2
  cases z : p.cln with
  | none => rw [z] at h2; exact h2.elim
  | some d =>
    rw [z] at h2
    cases z2 : q.cln with
    | none => rw [z2] at h2; exact h2.elim
    | some e =>
      rw [z2] at h2
      exact o W σ F2 H2 d e v u Q r2.cl.fh (cln_is (x2.grow.is i1) z) (cln_is i2 z2) (after_up h2 r2.cl)
theorem q_op {op : Operator} {f : D → D → R D} {r : R2} (ho : OpR X (binaryOp op) r) (o : OpD X.K f r) (ha : DQ X B W a ga) (hb : DQ X B W b gb) : DQ X B W (.BinOp a op b pos) (q2 f ga gb) := pe_imp (pe_op ho ha hb) (sem2Q o)
theorem q_ix2 (ha : DQ X B W a ga) (hb : DQ X B W b gb) (hs : PlainIx b := by exact fun _ _ => rfl) : DQ X B W (.Subscript a b pos) (q2 ixD ga gb) := pe_imp (pe_ix ix_seq ha hb hs) (sem2Q o_ix)
/-! ### a new list of what is read -/
def lstP (ps : List P) (M : Mem) : RQ P := if ps.length ≤ sizeLine then .ok (true, .loc M.length) (M ++ [(ps.any fun p => p.1, .list (ps.map fun p => p.2))]) else .st
def qLst (t : GQA) : GQ := fun ρ M => (t ρ M).bind lstP
theorem q_lst (ha : DQA X B W es t) : DQ X B W (.List es pos) (qLst t) := by
  refine pe_imp (pe_lst ha) fun σ H Q ⟨ρ, M, F, A, r, h⟩ => semQA_bind (k := lstP) r h fun ps M1 vs F1 H1 A1 x1 i1 r1 h1 => ?_
  unfold lstP at h1
  by_cases hl : ps.length ≤ sizeLine
  · rw [if_pos hl] at h1
    have il : IsL X.K F1 vs (ps.map (P.at A1)) := i1
    refine ⟨by rw [il.1, List.length_map]; exact hl, fun p hp => ?_⟩
    have nA : p ∉ A1 := r1.cl.fresh hp
    obtain ⟨e, c⟩ := ExtQ.pure r1.cl (Ext.laid' (o := .lst vs) r1.cl.fh hp)
    have fp : F1 p = none := by
      cases z : F1 p with
      | none => rfl
      | some u =>
        have := r1.cl.fh p u z
        rw [hp] at this
        cases this
    have c2 := ExtQ.alloc (q := (ps.any (fun p => p.1), .list (ps.map fun p => p.2))) c upd_same fp nA (isC_list (islp_any (b := ps.any fun p => p.1) (show IsL X.K _ vs (ps.map (P.at A1)) from il.mono e.ff) fun q hq hb => List.any_eq_true.mpr ⟨q, hq, hb⟩))
    refine h1 (.ref p) F1 _ (A1 ++ [p]) ⟨e.ff, ⟨[p], rfl⟩, e.hh, fun u hu fu nu => ?_⟩ c2 ?_
    · obtain ⟨z1, z2⟩ := e.nw u hu fu nu
      exact ⟨z1, fun m => by
        rcases List.mem_append.mp m with m | m
        · exact z2 m
        · simp at m; subst m; exact hu hp⟩
    · show Is X.K F1 (.ref p) (match (A1 ++ [p])[M1.length]? with | some a => .adr a | none => .loc M1.length)
      rw [← r1.cl.len, List.getElem?_append_right (Nat.le_refl _), Nat.sub_self]
      exact .adr p
  · rw [if_neg hl] at h1
    exact h1.elim
/-! ### x[i] = e of a list at a number -/
def setP (ρ : RhoQ) (p q k : P) (M : Mem) : SQ := match q, k with
  | (true, .loc n), (_, .int i) => (match M[n]? with
    | some (b, .list ds) => (match ixN ds.length i with
      | some j => .nx ρ (M.set n (b || p.1, .list (ds.set j p.2)))
      | none => .st)
    | _ => .st)
  | _, _ => .st
def sqSetIx (go gi g : GQ) : SQF := sqE g fun ρ p M => sqE go (fun ρ q M1 => sqE gi (fun ρ k M2 => setP ρ p q k M2) ρ M1) ρ M
theorem qs_setIx {pos' : Pos} (hv : DQ X B W value g) (ho : DQ X B W o go) (hx : DQ X B W ix gi)
    (hs : swapsWithSole [.Subscript o ix pos'] value pos.line X.env = pure false := by rfl) (hw : swappedStores [.Subscript o ix pos'] value X.env = pure none := by rfl)
    (h1 : (assignEach [.Subscript o ix pos'] X.env).map (·.2) = [assign (.Subscript o ix pos') X.env] := by rfl)
    (ha : ∀ v, assign (.Subscript o ix pos') X.env v = (do
      let ov ← holding [v] (eval o X.env)
      let iv ← holding [v, ov] (eval ix X.env)
      standAt pos'
      holding [v, ov, iv] (setItem ov iv v)
      release [v, ov, iv] []) := by intro _; rfl) : DQS X B W (.Assign [.Subscript o ix pos'] value pos) (sqSetIx go gi g) := by
  refine ps_imp (ps_asg hv (pg_sub ho hx set_list ha) hs hw h1) fun E σ H ⟨ρ, M, F, A, r, h⟩ => ?_
  refine semQS (k := fun p M => sqE go (fun ρ q M1 => sqE gi (fun ρ k M2 => setP ρ p q k M2) ρ M1) ρ M) r h fun p M1 v F1 H1 A1 i1 r1 _ h1 => ?_
  refine semQS (k := fun q M1 => sqE gi (fun ρ k M2 => setP ρ p q k M2) ρ M1) r1 h1 fun q M2 w F2 H2 A2 i2 r2 g2 h2 => ?_
  refine semQS (k := fun k M2 => setP ρ p q k M2) r2 h2 fun k M3 u F3 H3 A3 i3 r3 g3 h3 => ?_
  have i2' := g3.is i2
  have i1' := (g2.trans g3).is i1
  unfold setP at h3
  split at h3
  · rename_i n c i
    have iu : Is X.K F3 u (.int i) := by cases c <;> exact i3
    cases iu
    have i' : Is X.K F3 w (match A3[n]? with | some a => .adr a | none => .loc n) := i2'
    cases z : A3[n]? with
    | none => rw [z] at i'; cases i'
    | some a =>
      rw [z] at i'
      cases i'
      split at h3
      · rename_i bb ds e2
        split at h3
        · rename_i j ej
          obtain ⟨a', o1, w1, w2, w3⟩ := r3.cl.at_ n _ e2
          rw [z] at w1
          cases w1
          obtain ⟨xs, rfl, l⟩ := isL_at w3
          have pu : IsLP X.K F3 A3 (xs.set j v) ((ds.set j p.2).map fun d => (bb || p.1, d)) := by
            have l2 : IsL X.K F3 xs ((ds.map fun d => (bb || p.1, d)).map (P.at A3)) := islp_up (c := p.1) l
            have iv := at_up i1' bb
            rw [Bool.or_comm] at iv
            have l3 := l2.set iv j
            show IsL X.K F3 (xs.set j v) (((ds.set j p.2).map fun d => (bb || p.1, d)).map (P.at A3))
            rw [List.map_set, List.map_set]
            exact l3
          obtain ⟨e3, c3⟩ := ExtQ.put (q := (bb || p.1, .list (ds.set j p.2))) r3.cl z (isC_list pu)
          have ll : xs.length = ds.length := by
            have := (show IsL X.K F3 xs ((ds.map fun d => (bb, d)).map (P.at A3)) from l).1
            rw [List.length_map, List.length_map] at this
            exact this
          exact ⟨a, xs, i, j, rfl, rfl, w2, by rw [ll]; exact ej, h3 σ F3 _ A3 (r3.to e3 c3) .refl⟩
        · exact h3.elim
      · exact h3.elim
  · exact h3.elim
/-! ### while -/
def whileLQ (p : RhoQ → Mem → RQ Bool) (b : SQF) : Nat → RhoQ → Mem → SQ
  | 0, _, _ => .st
  | n + 1, ρ, M => match p ρ M with
    | .ok k M1 => if k = true then (match b ρ M1 with
      | .nx ρ2 M2 => whileLQ p b n ρ2 M2
      | .ct ρ2 M2 => whileLQ p b n ρ2 M2
      | .bk ρ2 M2 => .nx ρ2 M2
      | r => r) else .nx ρ M1
    | .ex x M1 => .ex x ρ M1
    | .st => .st
def sqWhile (fuel : RhoQ → Mem → Nat) (p : RhoQ → Mem → RQ Bool) (b : SQF) : SQF := fun ρ M => whileLQ p b (fuel ρ M) ρ M
theorem qs_while {c : Expr} {body : List Stmt} {p : RhoQ → Mem → RQ Bool} {b : SQF} (fuel : RhoQ → Mem → Nat) (hp : PassesOwn (model X.prog X.w) X.A X.env X.xe) (hc : DQT X B W c p) (hb : DQSs X B W body b) : DQS X B W (.While c body [] pos) (sqWhile fuel p b) := by
  refine ps_imp (ps_while hp hc hb) fun E σ H ⟨ρ, M, F, A, r, h⟩ => ?_
  refine ⟨fun n σ H => ∃ ρ M F A, RepQ X.K B ρ M σ F H A ∧ afterQS X.K B W F A (whileLQ p b n ρ M) E, ⟨fuel ρ M, ρ, M, F, A, r, h⟩, ?_⟩
  rintro n σ1 H1 ⟨ρ1, M1, F1, A1, r1, h1⟩
  cases n with
  | zero => exact h1.elim
  | succ n =>
    refine semQST (k := fun k M1 => if k = true then (match b ρ1 M1 with
      | .nx ρ2 M2 => whileLQ p b n ρ2 M2
      | .ct ρ2 M2 => whileLQ p b n ρ2 M2
      | .bk ρ2 M2 => .nx ρ2 M2
      | r => r) else .nx ρ1 M1) r1 h1 fun k M2 F2 H2 A2 r2 _ h2 => ?_
    cases k with
    | false => exact iteF (h2 σ1 F2 H2 A2 r2 .refl)
    | true =>
      refine iteT ⟨fun σ3 H3 => ∃ ρ M F A, RepQ X.K B ρ M σ3 F H3 A ∧ afterQS X.K B W F A (whileLQ p b n ρ M) E, fun σ3 H3 q => ⟨n, Nat.lt_succ_self _, q⟩, ρ1, M2, F2, A2, r2, ?_⟩
      have h4 : afterQS X.K B W F2 A2 (match b ρ1 M2 with
        | .nx ρ2 M2 => whileLQ p b n ρ2 M2
        | .ct ρ2 M2 => whileLQ p b n ρ2 M2
        | .bk ρ2 M2 => .nx ρ2 M2
        | r => r) E := h2
      cases z2 : b ρ1 M2 with
      | nx ρ5 M5 =>
        rw [z2] at h4
        exact fun σ5 F5 H5 A5 r5 x5 => ⟨ρ5, M5, F5, A5, r5, h4.mono x5⟩
      | ct ρ5 M5 =>
        rw [z2] at h4
        exact fun σ5 F5 H5 A5 r5 x5 => ⟨ρ5, M5, F5, A5, r5, h4.mono x5⟩
      | bk ρ5 M5 => rw [z2] at h4; exact h4
      | rt d M5 => rw [z2] at h4; exact h4
      | ex x ρ5 M5 => rw [z2] at h4; exact h4
      | st => rw [z2] at h4; exact h4
/-! ### for, over what is read in the memory -/
def tSemQI (K : PySem.W.Frag) (B : QB) (W : WX) (g : RhoQ → Mem → RQ (List D)) : TI := fun σ H Q => ∃ ρ M F A, RepQ K B ρ M σ F H A ∧ match g ρ M with
  | .ok items M1 => ∀ J F' H' A', ExtQ F H A F' H' A' → Cells K F' H' A' M1 → Yl K J items F' → Q J H'
  | .ex x M1 => ExK K W σ F H A x M1
  | .st => False
abbrev DIQ (X : Cx) (B : QB) (W : WX) (tg e : Expr) (g : RhoQ → Mem → RQ (List D)) : Prop := PI X tg e (tSemQI X.K B W g)
def sqForI (gi : RhoQ → Mem → RQ (List D)) (τ : TQ) (b : SQF) : SQF := fun ρ M => match gi ρ M with
  | .ok items M1 => forLQ τ b (items.map fun d => (false, d)) ρ M1
  | .ex x M1 => .ex x ρ M1
  | .st => .st
theorem qs_forI {tg iter : Expr} {body : List Stmt} {gi : RhoQ → Mem → RQ (List D)} {τ : TQ} {b : SQF} (hp : PassesOwn (model X.prog X.w) X.A X.env X.xe) (hc : X.calm = true) (hi : DIQ X B W tg iter gi) (hg : DQG X B tg τ) (hb : DQSs X B W body b)
    (hs : ∀ x, foldedSetIterable iter X.env x = pure x := by intro _; rfl) : DQS X B W (.For tg iter body [] pos) (sqForI gi τ b) := by
  refine ps_imp (ps_for hp hc hi hg hb hs) fun E σ H ⟨ρ, M, F, A, r, h⟩ => ⟨ρ, M, F, A, r, ?_⟩
  unfold sqForI at h
  cases z : gi ρ M with
  | ex x M1 =>
    rw [z] at h
    exact fun cls od F' H' A' y cy i => h cls od σ F' H' A' (r.to y cy) y.grow i
  | st => rw [z] at h; exact h.elim
  | ok items M0 =>
    rw [z] at h
    intro J F1 H1 A1 e1 c1 y1
    refine ⟨fun i mm σ H => ∃ ρ M F A, RepQ X.K B ρ M σ F H A ∧ Same F1 F ∧ i ≤ items.length ∧ mm = items.length - i ∧ afterQS X.K B W F A (forLQ τ b ((items.drop i).map fun d => (false, d)) ρ M) E, ⟨items.length, ρ, M0, F1, A1, r.to e1 c1, .refl _, Nat.zero_le _, rfl, h.mono e1.grow⟩, ?_⟩
    rintro i mm σ2 H2 ⟨ρ2, M2, F2, A2, r2, x2, hi, rfl, h2⟩
    have yc := y1 i F2 H2 x2 r2.cl.fh
    by_cases hlt : i < items.length
    · obtain ⟨go, yld⟩ := yc.1 hlt
      refine .inr ⟨go, fun σ3 H3 => ∃ ρ3 M3 F3 A3, RepQ X.K B ρ3 M3 σ3 F3 H3 A3 ∧ Same F1 F3 ∧ afterQS X.K B W F3 A3 (forLQ τ b ((items.drop (i + 1)).map fun d => (false, d)) ρ3 M3) E, fun σ3 H3 ⟨ρ3, M3, F3, A3, q1, q2, q3⟩ => ⟨items.length - (i + 1), by omega, ρ3, M3, F3, A3, q1, q2, hlt, rfl, q3⟩, fun x Hy y => ?_⟩
      obtain ⟨F3, d, hd, xe, ix⟩ := yld x Hy y
      obtain ⟨e3, c3⟩ := ExtQ.pure r2.cl xe
      have ed : items.drop i = d :: items.drop (i + 1) := by
        rw [List.drop_eq_getElem_cons hlt]
        rw [List.getElem?_eq_getElem hlt] at hd
        rw [Option.some.inj hd]
      rw [ed] at h2
      refine ⟨ρ2, M2, F3, A2, (false, d), r2.to e3 c3, ix, ?_⟩
      have h3 : afterQS X.K B W F3 A2 (match τ (false, d) ρ2 with
        | some ρ1 => match b ρ1 M2 with
          | .nx ρ2 M2 => forLQ τ b ((items.drop (i + 1)).map fun d => (false, d)) ρ2 M2
          | .ct ρ2 M2 => forLQ τ b ((items.drop (i + 1)).map fun d => (false, d)) ρ2 M2
          | .bk ρ2 M2 => .nx ρ2 M2
          | r => r
        | none => .st) E := h2.mono e3.grow
      cases z1 : τ (false, d) ρ2 with
      | none => rw [z1] at h3; exact h3.elim
      | some ρ4 =>
        rw [z1] at h3
        intro σ4 r4
        refine ⟨ρ4, M2, F3, A2, r4, ?_⟩
        have h4 : afterQS X.K B W F3 A2 (match b ρ4 M2 with
          | .nx ρ2 M2 => forLQ τ b ((items.drop (i + 1)).map fun d => (false, d)) ρ2 M2
          | .ct ρ2 M2 => forLQ τ b ((items.drop (i + 1)).map fun d => (false, d)) ρ2 M2
          | .bk ρ2 M2 => .nx ρ2 M2
          | r => r) E := h3
        cases z2 : b ρ4 M2 with
        | nx ρ5 M5 =>
          rw [z2] at h4
          exact fun σ5 F5 H5 A5 r5 x5 => ⟨ρ5, M5, F5, A5, r5, (x2.trans xe.ff).trans x5.1, h4.mono x5⟩
        | ct ρ5 M5 =>
          rw [z2] at h4
          exact fun σ5 F5 H5 A5 r5 x5 => ⟨ρ5, M5, F5, A5, r5, (x2.trans xe.ff).trans x5.1, h4.mono x5⟩
        | bk ρ5 M5 => rw [z2] at h4; exact h4
        | rt d => rw [z2] at h4; exact h4
        | ex x ρ5 => rw [z2] at h4; exact h4
        | st => rw [z2] at h4; exact h4
    · have ei : i = items.length := by omega
      subst ei
      rw [List.drop_length] at h2
      exact .inl ⟨yc.2 (Nat.le_refl _), h2 σ2 F2 H2 A2 r2 .refl⟩
def rngP (M : Mem) (ps : List P) : RQ (List D) := match ps with
  | [p] => (match p.cln with
    | some (.int j) => if small62 j = true then .ok (rngL 0 j.toNat) M else .st
    | _ => .st)
  | _ => .st
def iqRange1 (t : GQA) : RhoQ → Mem → RQ (List D) := fun ρ M => (t ρ M).bind fun ps M1 => rngP M1 ps
theorem diq_range1 {tg : Expr} {p : Pos} (hm : X.mg "range" = none) (ha : DQA X B W [a] t) (hg : Gl X "range" := by rfl) (hs : starEach [a] X.env = [(false, eval a X.env)] := by rfl) : DIQ X B W tg (.Call (.Name "range" p) [a] [] pos) (iqRange1 t) := by
  refine pi_imp (pi_range1 hg hm ha hs) fun σ H Q ⟨ρ, M, F, A, r, q⟩ => ⟨ρ, M, F, A, r, ?_⟩
  unfold iqRange1 at q
  cases z : t ρ M with
  | st => rw [z] at q; exact q.elim
  | ex x M1 => rw [z] at q; exact q
  | ok ps M1 =>
    rw [z] at q
    intro vs F1 H1 A1 x1 c1 l
    have q1 : (match rngP M1 ps with
      | .ok items M1 => ∀ J F' H' A', ExtQ F H A F' H' A' → Cells X.K F' H' A' M1 → Yl X.K J items F' → Q J H'
      | .ex x M1 => ExK X.K W σ F H A x M1
      | .st => False) := q
    match ps, l, q1 with
    | [p], l, q1 =>
      obtain ⟨v, vr, rfl, i, l2⟩ := (show IsL X.K F1 vs (P.at A1 p :: []) from l).uncons
      have := l2.unnil
      subst this
      unfold rngP at q1
      dsimp only at q1
      cases zc : p.cln with
      | none => rw [zc] at q1; exact q1.elim
      | some d =>
        rw [zc] at q1
        have iv := cln_is i zc
        cases d with
        | int j =>
          cases iv
          have q2 : (match (if small62 j = true then RQ.ok (rngL 0 j.toNat) M1 else .st) with
            | .ok items M1 => ∀ J F' H' A', ExtQ F H A F' H' A' → Cells X.K F' H' A' M1 → Yl X.K J items F' → Q J H'
            | .ex x M1 => ExK X.K W σ F H A x M1
            | .st => False) := q1
          by_cases hj : small62 j = true
          · rw [if_pos hj] at q2
            simp only [small62, Bool.and_eq_true, decide_eq_true_eq] at hj
            exact ⟨j, rfl, hj.1, hj.2, q2 _ F1 H1 A1 x1 c1 yl_range⟩
          · rw [if_neg hj] at q2
            exact q2.elim
        | _ => exact q1.elim
end
/-! ### isinstance of one's own classes -/
def isKD (tb : List (Str × Bool)) (d : D) : R D := match d with
  | .obj c _ => (match tb.lookup c with
    | some b => .ok (.bl b)
    | none => .st)
  | _ => .st
structure InsC (K : PySem.W.Frag) (C : Addr) : Prop where
  cl : Cls K C
  ha : PySem.W.findIn K (.ref C) "__class__" = some (some (.builtin "object.__class__"))
  hn : PySem.W.specialIn K (.builtin "object.__class__") "__get__" = some (some (.builtin "getset_descriptor.__get__"))
  htk : PySem.W.takesIn K (.builtin "object.__class__") = some true
  hm : PySem.W.mroIn K C (.type "object") = some true
theorem insB_ok {K : PySem.W.Frag} {C : Addr} (cl : Cls K C) (h : insB K C = true) : InsC K C := by
  obtain ⟨a, h⟩ := He.ba h
  obtain ⟨b, h⟩ := He.ba h
  obtain ⟨c, d⟩ := He.ba h
  exact ⟨cl, He.eqO_ok a, He.eqO_ok b, of_decide_eq_true c, of_decide_eq_true d⟩
section
variable {X : Cx} {F0 : Bs} {H0 : Hp} {m : List Bool} {W : WX} {pos : Pos} {e : Expr} {g : Rho → R D}
theorem d_isK {y : Str} {p p2 : Pos} {tb : List (Str × Bool)} (hm : X.mg "isinstance" = none) (hy : X.mg y = some (.ref (He.ga X.K y))) (C : ∀ q ∈ tb, InsC X.K (He.ga X.K q.1) ∧ PySem.W.kitOne X.K (.ref (He.ga X.K q.1)) (.ref (He.ga X.K y)) = some q.2) (ha : DE X F0 H0 m W e g) (hg : Gl X "isinstance" := by rfl) (hg2 : Gl X y := by rfl) (hd : (y == ("__debug__" : Str)) = false := by decide)
    (hs : starEach [e, .Name y p2] X.env = (false, eval e X.env) :: starEach [.Name y p2] X.env := by rfl) (hs2 : starEach [.Name y p2] X.env = (false, eval (.Name y p2) X.env) :: starEach [] X.env := by rfl)
    (hpl : (backTo pos (starEach [.Name y p2] X.env)).any (·.1) = false := by rfl) : DE X F0 H0 m W (.Call (.Name "isinstance" p) [e, .Name y p2] [] pos) (g1 (isKD tb) g) := by
  refine pe_imp (pe_callB call_isi hg hm (by decide +kernel) (pa_cons ha (pa_cons (pe_glob (v := .ref (He.ga X.K y)) hg2 hy rfl hd) pa_nil hs2) hs) (by decide) (by decide) hs hpl) fun σ H Q ⟨ρ, F, r, h⟩ => ?_
  refine sem_bind (k := isKD tb) r h fun d v F1 H1 _ i1 r1 h1 => ?_
  cases d with
  | obj c fs =>
    have h2 : after X.K W σ F1 H1 (match tb.lookup c with
      | some b => .ok (.bl b)
      | none => .st) Q := h1
    cases z : tb.lookup c with
    | none => rw [z] at h2; exact h2.elim
    | some b =>
      rw [z] at h2
      obtain ⟨a, dx, ys, rfl, hq, l⟩ := i1.obj_inv
      obtain ⟨ic, ik⟩ := C (c, b) (lookup_mem z)
      exact ⟨.ref a, .ref (He.ga X.K y), .ref (He.ga X.K c), .ref (He.ga X.K y), b, rfl, .own _, .base (.ins (r1.fh _ _ hq) ic.cl ic.ha ic.hn ic.htk ic.hm), ik, after.now h2 r1.fh (.bl b)⟩
  | _ => exact h1.elim
end
end Pd

namespace Pd
open PySem PySem.Spec PyProof.Rows L2
noncomputable section
def tk_Kind : List (Str × Bool) := [("Chapter", true), ("Para", true), ("Table", true)]
def S_Chapter_word : Rho → S :=
  (sRet (gC (.str "chapter")))
def F_Chapter_word : List D → R D := runS 1 1 S_Chapter_word

def S_Para_word : Rho → S :=
  (sRet (gC (.str "para")))
def F_Para_word : List D → R D := runS 1 1 S_Para_word

def S_Table_word : Rho → S :=
  (sRet (gC (.str "table")))
def F_Table_word : List D → R D := runS 1 1 S_Table_word

def B_kind_of_word_0 : Rho → S :=
  (sIf (gB (g2 eqD (gMeth [("Chapter", F_Chapter_word), ("Para", F_Para_word), ("Table", F_Table_word)] "word" (gVar 1) aNil) (gVar 0)))
  (sRet (gVar 1))
  sNil)
def S_kind_of_word : Rho → S :=
  (sSeq (sFor (iSeq (gA lstD (aCons (gC (.obj "Chapter" [])) (aCons (gC (.obj "Para" [])) (aCons (gC (.obj "Table" [])) aNil))))) (τName 1) B_kind_of_word_0)
  (sRet (gC .non)))
def F_kind_of_word : List D → R D := runS 2 1 S_kind_of_word

def S_Chapter_holds : Rho → S :=
  (sRet (gC (.bl true)))
def F_Chapter_holds : List D → R D := runS 1 1 S_Chapter_holds

def S_Kind_holds : Rho → S :=
  (sRet (gC (.bl false)))
def F_Kind_holds : List D → R D := runS 1 1 S_Kind_holds

def B__law_kinds_good_0 : Rho → S :=
  (sSeq (sIf (bOr (bNot (gB (g1 (isKD tk_Kind) (gVar 2)))) (bOr (gB (g2 neD (gMeth [("Chapter", F_Chapter_word), ("Para", F_Para_word), ("Table", F_Table_word)] "word" (gVar 2) aNil) (gVar 0))) (bNot (gB (g1 (isiD "bool") (gMeth [("Chapter", F_Chapter_holds), ("Para", F_Kind_holds), ("Table", F_Kind_holds)] "holds" (gVar 2) aNil))))))
  (sRet (gC (.bl false)))
  sNil)
  (sIf (gB (g2 neD (gMeth [("Chapter", F_Chapter_holds), ("Para", F_Kind_holds), ("Table", F_Kind_holds)] "holds" (gVar 2) aNil) (g2 eqD (gVar 0) (gC (.str "chapter")))))
  (sRet (gC (.bl false)))
  sNil))
def B__law_kinds_good_1 : Rho → S :=
  (sFor (iSeq (gA lstD (aCons (gVar 1) (aCons (gA F_kind_of_word (aCons (gVar 0) aNil)) aNil)))) (τName 2) B__law_kinds_good_0)
def S__law_kinds_good : Rho → S :=
  (sSeq (sFor (iSeq (gA lstD (aCons (gA tupD (aCons (gC (.str "chapter")) (aCons (gC (.obj "Chapter" [])) aNil))) (aCons (gA tupD (aCons (gC (.str "para")) (aCons (gC (.obj "Para" [])) aNil))) (aCons (gA tupD (aCons (gC (.str "table")) (aCons (gC (.obj "Table" [])) aNil))) aNil))))) (τTup 2 (τCons (τName 0) (τCons (τName 1) τNil))) B__law_kinds_good_1)
  (sRet (gC (.bl true))))
def F__law_kinds_good : List D → R D := runS 3 0 S__law_kinds_good

def B__law_stream_0 : Rho → S :=
  (sSeq (sSet 4 (g2 modD (g2 addD (g2 addD (g2 mulD (gVar 4) (gC (.int 48271))) (g2 mulD (gC (.int 7919)) (gVar 5))) (gC (.int 1))) (gC (.int 2147483647))))
  (sIf (bAnd (gB (g2 eqD (g2 modD (gVar 0) (gC (.int 2))) (gC (.int 1)))) (bAnd (gB (g2 neD (gVar 3) (gC (.int 0)))) (gB (g2 neD (gVar 3) (g1 negD (gC (.int 1)))))))
  (sSeq (sAppend 2 (g2 modD (gVar 3) (gC (.int 268435456))))
  (sSet 3 (g2 fdivD (gVar 3) (gC (.int 268435456)))))
  (sAppend 2 (g2 fdivD (g2 modD (g2 addD (g2 mulD (g2 modD (g2 mulD (gVar 4) (gVar 4)) (gC (.int 2147483629))) (gC (.int 16807))) (gVar 5)) (gC (.int 2147483587))) (gC (.int 8))))))
def S__law_stream : Rho → S :=
  (sSeq (sSet 2 (gA lstD aNil))
  (sSeq (sSet 3 (g2 fdivD (gVar 0) (gC (.int 2))))
  (sSeq (sSet 4 (g2 addD (g2 modD (gVar 0) (gC (.int 2147483629))) (gC (.int 17))))
  (sSeq (sFor (iA rangeD1 (aCons (gVar 1) aNil)) (τName 5) B__law_stream_0)
  (sRetO 2)))))
def F__law_stream : List D → R D := runS 6 2 S__law_stream

def B__law_text_0 : Rho → S :=
  (sIf (gB (g2 eqD (g2 modD (g2 ixD (gVar 2) (gC (.int 2))) (gC (.int 2))) (gC (.int 0))))
  (sSet 4 (g2 addD (gVar 4) (g2 ixD (gC (.str "|/\\a ")) (g2 modD (gVar 5) (gC (.int 5))))))
  (sSet 4 (g2 addD (gVar 4) (g2 ixD (gVar 1) (g2 modD (gVar 5) (gC (.int 94)))))))
def S__law_text : Rho → S :=
  (sSeq (sSet 1 (g2 addD (gC (.str " !#$&'()*+,-./0123456789:;<=>?@ABCDEFGHIJKLMNOPQRSTUVWXYZ[\\]^_`abcdefghijklmnopqrstuvwxyz{|}~")) (gC (.str "\""))))
  (sSeq (sSet 2 (gA F__law_stream (aCons (gVar 0) (aCons (gC (.int 4)) aNil))))
  (sSeq (sSet 3 (g2 ixD (gA lstD (aCons (gC (.int 0)) (aCons (g2 modD (g2 ixD (gVar 2) (gC (.int 1))) (gC (.int 4))) (aCons (g2 modD (g2 ixD (gVar 2) (gC (.int 1))) (gC (.int 12))) (aCons (g2 modD (g2 ixD (gVar 2) (gC (.int 1))) (gC (.int 61))) aNil))))) (g2 modD (g2 ixD (gVar 2) (gC (.int 0))) (gC (.int 4)))))
  (sSeq (sSet 4 (gC (.str "")))
  (sSeq (sFor (iSeq (gA F__law_stream (aCons (g2 addD (gVar 0) (gC (.int 1))) (aCons (gVar 3) aNil)))) (τName 5) B__law_text_0)
  (sRet (gVar 4)))))))
def F__law_text : List D → R D := runS 6 1 S__law_text

def SQ__law_next : SQF :=
  (sqSeq (sqSetIx (qVar 0) (qP (gC (.int 1))) (qSn (g2 modD (g2 addD (g2 mulD (g2 ixD (gVar 0) (gC (.int 1))) (gC (.int 48271))) (gC (.int 1))) (gC (.int 2147483647)))))
  (sqSeq (sqIf (qSnT (bOr (gB (g2 eqD (g2 ixD (gVar 0) (gC (.int 0))) (gC (.int 0)))) (gB (g2 eqD (g2 ixD (gVar 0) (gC (.int 0))) (g1 negD (gC (.int 1)))))))
  (sqRet (qSn (g2 modD (g2 fdivD (g2 modD (g2 mulD (g2 ixD (gVar 0) (gC (.int 1))) (g2 ixD (gVar 0) (gC (.int 1)))) (gC (.int 2147483629))) (gC (.int 8))) (gVar 1))))
  sqNil)
  (sqSeq (sqSet 2 (q2 modD (qIx (qVar 0) (qP (gC (.int 0)))) (qP (gVar 1))))
  (sqSeq (sqSetIx (qVar 0) (qP (gC (.int 0))) (q2 fdivD (qIx (qVar 0) (qP (gC (.int 0)))) (qP (gVar 1))))
  (sqRet (qP (gVar 2)))))))
def FQ__law_next : GF := runQ 3 2 SQ__law_next

def B__law_digits_0 : SQF :=
  (sqSet 6 (q2 addD (qP (gVar 6)) (q2 ixD (qP (gVar 3)) (qCall FQ__law_next (aqCons (qVar 2) (aqCons (qP (gC (.int 94))) aqNil))))))
def B__law_digits_1 : SQF :=
  (sqSeq (sqSet 6 (qP (gC (.str ""))))
  (sqSeq (sqForI (iqRange1 (aqCons (qCall FQ__law_next (aqCons (qVar 2) (aqCons (qP (gC (.int 61))) aqNil))) aqNil)) (tqName 7) B__law_digits_0)
  (sqAppend (qVar 4) (qP (gVar 6)))))
def SQ__law_digits : SQF :=
  (sqSeq (sqSet 2 (qNew (gA lstD (aCons (gVar 0) (aCons (g2 addD (g2 modD (gVar 0) (gC (.int 2147483629))) (gC (.int 17))) aNil)))))
  (sqSeq (sqSet 3 (qP (g2 addD (gC (.str " !#$&'()*+,-./0123456789:;<=>?@ABCDEFGHIJKLMNOPQRSTUVWXYZ[\\]^_`abcdefghijklmnopqrstuvwxyz{|}~")) (gC (.str "\"")))))
  (sqSeq (sqSet 4 (qNew (gA lstD aNil)))
  (sqSeq (sqFor (iA rangeD1 (aCons (gVar 1) aNil)) (tqName 5) B__law_digits_1)
  (sqRet (qVar 4))))))
def FQ__law_digits : GF := runQ 8 2 SQ__law_digits

def B__law_table_0 : Rho → S :=
  (sAppend 4 (gA tupleD (aCons (gLc (iA rangeD1 (aCons (gVar 3) aNil)) [6] (τName 6) bYes (gA F__law_text (aCons (g2 addD (g2 addD (g2 addD (gVar 0) (g2 mulD (gC (.int 101)) (gVar 5))) (g2 mulD (gC (.int 1009)) (gVar 6))) (gC (.int 7))) aNil))) aNil)))
def S__law_table : Rho → S :=
  (sSeq (sSet 1 (gA F__law_stream (aCons (gVar 0) (aCons (gC (.int 3)) aNil))))
  (sSeq (sSet 2 (g2 ixD (gA lstD (aCons (g2 addD (gC (.int 1)) (g2 modD (g2 fdivD (g2 ixD (gVar 1) (gC (.int 0))) (gC (.int 3))) (gC (.int 3)))) (aCons (g2 addD (gC (.int 1)) (g2 modD (g2 fdivD (g2 ixD (gVar 1) (gC (.int 0))) (gC (.int 3))) (gC (.int 6)))) (aCons (gC (.int 6)) aNil)))) (g2 modD (g2 ixD (gVar 1) (gC (.int 0))) (gC (.int 3)))))
  (sSeq (sSet 3 (g2 ixD (gA lstD (aCons (g2 addD (gC (.int 1)) (g2 modD (g2 fdivD (g2 ixD (gVar 1) (gC (.int 1))) (gC (.int 3))) (gC (.int 3)))) (aCons (g2 addD (gC (.int 1)) (g2 modD (g2 fdivD (g2 ixD (gVar 1) (gC (.int 1))) (gC (.int 3))) (gC (.int 6)))) (aCons (gC (.int 6)) aNil)))) (g2 modD (g2 ixD (gVar 1) (gC (.int 1))) (gC (.int 3)))))
  (sSeq (sSet 4 (gA lstD aNil))
  (sSeq (sFor (iA rangeD1 (aCons (gVar 2) aNil)) (τName 5) B__law_table_0)
  (sRet (gA tupleD (aCons (gVar 4) aNil))))))))
def F__law_table : List D → R D := runS 7 1 S__law_table

def S__law_content : Rho → S :=
  (sSeq (sIf (bAnd (gB (g2 eqD (g2 modD (gVar 1) (gC (.int 2))) (gC (.int 1)))) (gB (g2 eqD (gVar 0) (gC (.str "table")))))
  (sSeq (sSet 2 (g2 addD (gC (.int 1)) (g2 modD (g2 fdivD (gVar 1) (gC (.int 2))) (gC (.int 6)))))
  (sSeq (sSet 3 (g2 addD (gC (.int 1)) (g2 modD (g2 fdivD (gVar 1) (gC (.int 12))) (gC (.int 6)))))
  (sSeq (sSet 4 (gA FQ__law_digits.down (aCons (g2 fdivD (gVar 1) (gC (.int 72))) (aCons (g2 mulD (gVar 2) (gVar 3)) aNil))))
  (sRet (gA tupleD (aCons (gLc (iA rangeD1 (aCons (gVar 2) aNil)) [5] (τName 5) bYes (gA tupleD (aCons (gSl (gVar 4) (pSome (g2 mulD (gVar 5) (gVar 3))) (pSome (g2 addD (g2 mulD (gVar 5) (gVar 3)) (gVar 3)))) aNil))) aNil))))))
  sNil)
  (sSeq (sIf (gB (g2 eqD (g2 modD (gVar 1) (gC (.int 2))) (gC (.int 1))))
  (sRet (g2 ixD (gA FQ__law_digits.down (aCons (g2 fdivD (gVar 1) (gC (.int 2))) (aCons (gC (.int 1)) aNil))) (gC (.int 0))))
  sNil)
  (sSeq (sIf (gB (g2 eqD (gVar 0) (gC (.str "table"))))
  (sRet (gA F__law_table (aCons (g2 fdivD (gVar 1) (gC (.int 2))) aNil)))
  sNil)
  (sRet (gA F__law_text (aCons (g2 fdivD (gVar 1) (gC (.int 2))) aNil))))))
def F__law_content : List D → R D := runS 6 2 S__law_content

def S__law_odd : Rho → S :=
  (sSeq (sSet 1 (gA lstD (aCons (gC .non) (aCons (gC (.int 7)) (aCons (gC (.bl true)) (aCons (gA lstD (aCons (gC (.str "a")) aNil)) (aCons (gC (.dict [])) (aCons (gA tupD aNil) (aCons (gA tupD (aCons (gA tupD aNil) aNil)) (aCons (gA tupD (aCons (gA tupD (aCons (gC (.str "a")) aNil)) (aCons (gA tupD (aCons (gC (.str "a")) (aCons (gC (.str "b")) aNil))) aNil))) (aCons (gA tupD (aCons (gA lstD (aCons (gC (.str "a")) aNil)) aNil)) (aCons (gA lstD (aCons (gA tupD (aCons (gC (.str "a")) aNil)) aNil)) (aCons (gA tupD (aCons (gA tupD (aCons (gC (.str "a")) (aCons (gC (.int 7)) aNil))) aNil)) (aCons (gA tupD (aCons (gC (.str "a")) aNil)) aNil))))))))))))))
  (sSeq (sSet 2 (gA lstD (aCons (g2 mulXD (gA tupD (aCons (gA tupD (aCons (gC (.str "")) aNil)) aNil)) (gC (.int 7))) (aCons (gA tupD (aCons (g2 mulXD (gA tupD (aCons (gC (.str "")) aNil)) (gC (.int 7))) aNil)) (aCons (g2 mulXD (gC (.str "a")) (gC (.int 61))) (aCons (gC (.str "a\n")) (aCons (gA tupD (aCons (gA tupD (aCons (gC (.str "a\n")) aNil)) aNil)) (aCons (gA tupD (aCons (gA tupD (aCons (g2 mulXD (gC (.str "a")) (gC (.int 61))) aNil)) aNil)) (aCons (gA tupD (aCons (gA tupD (aCons (gC .non) aNil)) aNil)) (aCons (gA tupD (aCons (gC (.str "")) aNil)) aNil))))))))))
  (sRet (g2 ixD (g2 addD (gVar 1) (gVar 2)) (g2 modD (gVar 0) (gC (.int 20)))))))
def F__law_odd : List D → R D := runS 3 1 S__law_odd

def S_Kind_shown : Rho → S :=
  (sRet (gVar 1))
def F_Kind_shown : List D → R D := runS 2 2 S_Kind_shown

def B_cell_shown_0 : Rho → S :=
  (sSeq (sIf (gB (g2 inDD (gVar 2) (gC (.str "\\|/"))))
  (sAug 1 iaddD (gC (.str "\\")))
  sNil)
  (sAug 1 iaddD (gVar 2)))
def S_cell_shown : Rho → S :=
  (sSeq (sSet 1 (gC (.str "")))
  (sSeq (sFor (iSeq (gVar 0)) (τName 2) B_cell_shown_0)
  (sRet (gVar 1))))
def F_cell_shown : List D → R D := runS 3 1 S_cell_shown

def S_Table_shown : Rho → S :=
  (sRet (gMt "str" joinD (gC (.str "/")) (aCons (gLc (iSeq (gVar 1)) [2] (τName 2) bYes (gMt "str" joinD (gC (.str "|")) (aCons (gLc (iSeq (gVar 2)) [3] (τName 3) bYes (gA F_cell_shown (aCons (gVar 3) aNil))) aNil))) aNil)))
def F_Table_shown : List D → R D := runS 4 2 S_Table_shown

def S__law_cell : Rho → S :=
  (sSeq (sIf (gB (g2 ltD (gVar 1) (gA lenD (aCons (gVar 0) aNil))))
  (sRet (g2 ixD (gVar 0) (gVar 1)))
  sNil)
  (sRet (g2 mulD (g2 addD (gVar 1) (gC (.int 3))) (gC (.int 7919)))))
def F__law_cell : List D → R D := runS 2 2 S__law_cell

def B_is_text_0 : Rho → S :=
  (sIf (bOr (gB (g2 ltD (gVar 1) (gC (.str " ")))) (bOr (gB (g2 gtD (gVar 1) (gC (.str "~")))) (gB (g2 eqD (gA ordD (aCons (gVar 1) aNil)) (gC (.int 37))))))
  (sRet (gC (.bl false)))
  sNil)
def S_is_text : Rho → S :=
  (sSeq (sIf (bOr (bNot (gB (g1 (isiD "str") (gVar 0)))) (gB (g2 gtD (gA lenD (aCons (gVar 0) aNil)) (gC (.int 60)))))
  (sRet (gC (.bl false)))
  sNil)
  (sSeq (sFor (iSeq (gVar 0)) (τName 1) B_is_text_0)
  (sRet (gC (.bl true)))))
def F_is_text : List D → R D := runS 2 1 S_is_text

def S_Kind_fits : Rho → S :=
  (sRet (gA F_is_text (aCons (gVar 1) aNil)))
def F_Kind_fits : List D → R D := runS 2 2 S_Kind_fits

def S_is_row : Rho → S :=
  (sSeq (sIf (bOr (bNot (gB (g1 (isiD "tuple") (gVar 0)))) (gB (g2 neD (gA lenD (aCons (gVar 0) aNil)) (gVar 1))))
  (sRet (gC (.bl false)))
  sNil)
  (sRet (gA allD (aCons (gLc (iSeq (gVar 0)) [2] (τName 2) bYes (gA F_is_text (aCons (gVar 2) aNil))) aNil))))
def F_is_row : List D → R D := runS 3 2 S_is_row

def S_is_cells : Rho → S :=
  (sRet (gAnd (g1 (isiD "tuple") (gVar 0)) (gAnd (g3 leD leD (gC (.int 1)) (gA lenD (aCons (gVar 0) aNil)) (gC (.int 6))) (gA F_is_row (aCons (gVar 0) (aCons (gA lenD (aCons (gVar 0) aNil)) aNil))))))
def F_is_cells : List D → R D := runS 1 1 S_is_cells

def S_Table_fits : Rho → S :=
  (sSeq (sIf (bOr (bNot (gB (g1 (isiD "tuple") (gVar 1)))) (bNot (gB (g3 leD leD (gC (.int 1)) (gA lenD (aCons (gVar 1) aNil)) (gC (.int 6))))))
  (sRet (gC (.bl false)))
  sNil)
  (sSeq (sIf (bNot (gB (gA F_is_cells (aCons (g2 ixD (gVar 1) (gC (.int 0))) aNil))))
  (sRet (gC (.bl false)))
  sNil)
  (sRet (gA allD (aCons (gLc (iSeq (gVar 1)) [2] (τName 2) bYes (gA F_is_row (aCons (gVar 2) (aCons (gA lenD (aCons (g2 ixD (gVar 1) (gC (.int 0))) aNil)) aNil)))) aNil)))))
def F_Table_fits : List D → R D := runS 3 2 S_Table_fits

def S__law_spoilt : Rho → S :=
  (sSeq (sSet 3 (g2 modD (g2 fdivD (gVar 1) (gC (.int 5))) (g2 addD (gA lenD (aCons (gVar 0) aNil)) (gC (.int 1)))))
  (sSeq (sSet 4 (g2 ixD (gC (.str "|/\\a ~!#$")) (g2 modD (gVar 2) (gC (.int 9)))))
  (sSeq (sIf (gB (g2 eqD (g2 modD (gVar 1) (gC (.int 5))) (gC (.int 1))))
  (sRet (g2 addD (g2 addD (gSl (gVar 0) pNone (pSome (gVar 3))) (gVar 4)) (gSl (gVar 0) (pSome (gVar 3)) pNone)))
  sNil)
  (sSeq (sIf (gB (g2 eqD (g2 modD (gVar 1) (gC (.int 5))) (gC (.int 2))))
  (sRet (g2 addD (gSl (gVar 0) pNone (pSome (gVar 3))) (gSl (gVar 0) (pSome (g2 addD (gVar 3) (gC (.int 1)))) pNone)))
  sNil)
  (sSeq (sIf (gB (g2 eqD (g2 modD (gVar 1) (gC (.int 5))) (gC (.int 3))))
  (sRet (g2 addD (g2 addD (gSl (gVar 0) pNone (pSome (gVar 3))) (gVar 4)) (gSl (gVar 0) (pSome (g2 addD (gVar 3) (gC (.int 1)))) pNone)))
  sNil)
  (sSeq (sIf (gB (g2 eqD (g2 modD (gVar 1) (gC (.int 5))) (gC (.int 4))))
  (sRet (g2 ixD (gA lstD (aCons (gC (.str "")) (aCons (gC (.str "|")) (aCons (gC (.str "/")) (aCons (gC (.str "\\")) (aCons (gC (.str "||")) (aCons (gC (.str "a/b|c")) (aCons (g2 mulXD (gC (.str "|")) (gC (.int 6))) (aCons (g2 mulXD (gC (.str "/")) (gC (.int 6))) (aCons (g2 mulXD (gC (.str "a")) (gC (.int 61))) (aCons (g2 mulXD (gC (.str "b")) (gC (.int 60))) aNil))))))))))) (g2 modD (gVar 2) (gC (.int 10)))))
  sNil)
  (sRet (gVar 0))))))))
def F__law_spoilt : List D → R D := runS 5 3 S__law_spoilt

def fuel__law_read_rows_0 : RhoQ → Mem → Nat := fun _ _ => 100000
def B__law_read_rows_0 : SQF :=
  (sqSeq (sqSet 3 (qP (g2 ixD (gVar 0) (gVar 2))))
  (sqSeq (sqIf (qT (gB (g2 eqD (gVar 3) (gC (.str "\\")))))
  (sqSeq (sqSet 2 (qP (g2 addD (gVar 2) (gC (.int 1)))))
  (sqSeq (sqIf (qT (bOr (gB (g2 eqD (gVar 2) (gA lenD (aCons (gVar 0) aNil)))) (gB (g2 notInDD (g2 ixD (gVar 0) (gVar 2)) (gA tupD (aCons (gC (.str "|")) (aCons (gC (.str "/")) (aCons (gC (.str "\\")) aNil))))))))
  (sqRet (qP (gC .non)))
  sqNil)
  (sqSetIx (qIx (qVar 1) (qP (g1 negD (gC (.int 1))))) (qP (g1 negD (gC (.int 1)))) (q2 addD (qIx (qIx (qVar 1) (qP (g1 negD (gC (.int 1))))) (qP (g1 negD (gC (.int 1))))) (qP (g2 ixD (gVar 0) (gVar 2)))))))
  (sqIf (qT (gB (g2 eqD (gVar 3) (gC (.str "|")))))
  (sqAppend (qIx (qVar 1) (qP (g1 negD (gC (.int 1))))) (qP (gC (.str ""))))
  (sqIf (qT (gB (g2 eqD (gVar 3) (gC (.str "/")))))
  (sqAppend (qVar 1) (qNew (gA lstD (aCons (gC (.str "")) aNil))))
  (sqSetIx (qIx (qVar 1) (qP (g1 negD (gC (.int 1))))) (qP (g1 negD (gC (.int 1)))) (q2 addD (qIx (qIx (qVar 1) (qP (g1 negD (gC (.int 1))))) (qP (g1 negD (gC (.int 1))))) (qP (gVar 3)))))))
  (sqSet 2 (qP (g2 addD (gVar 2) (gC (.int 1)))))))
def SQ__law_read_rows : SQF :=
  (sqSeq (sqSet 1 (qLst (aqCons (qNew (gA lstD (aCons (gC (.str "")) aNil))) aqNil)))
  (sqSeq (sqSet 2 (qP (gC (.int 0))))
  (sqSeq (sqWhile fuel__law_read_rows_0 (qT (gB (g2 ltD (gVar 2) (gA lenD (aCons (gVar 0) aNil))))) B__law_read_rows_0)
  (sqRet (qVar 1)))))
def FQ__law_read_rows : GF := runQ 4 1 SQ__law_read_rows

def B__law_texts_fit_0 : Rho → S :=
  (sIf (bOr (bNot (gB (g3 leD leD (gC (.int 32)) (gA ordD (aCons (gVar 1) aNil)) (gC (.int 126))))) (gB (g2 eqD (gA ordD (aCons (gVar 1) aNil)) (gC (.int 37)))))
  (sRet (gC (.bl false)))
  sNil)
def S__law_texts_fit : Rho → S :=
  (sSeq (sIf (gB (g2 gtD (gA lenD (aCons (gVar 0) aNil)) (gC (.int 60))))
  (sRet (gC (.bl false)))
  sNil)
  (sSeq (sFor (iSeq (gVar 0)) (τName 1) B__law_texts_fit_0)
  (sRet (gC (.bl true)))))
def F__law_texts_fit : List D → R D := runS 2 1 S__law_texts_fit

def B__law_read_0 : Rho → S :=
  (sIf (bOr (gB (g2 neD (gA lenD (aCons (gVar 3) aNil)) (gA lenD (aCons (g2 ixD (gVar 2) (gC (.int 0))) aNil)))) (gB (g2 inDD (gC (.bl false)) (gLc (iSeq (gVar 3)) [4] (τName 4) bYes (gA F__law_texts_fit (aCons (gVar 4) aNil))))))
  (sRet (gC .non))
  sNil)
def S__law_read : Rho → S :=
  (sSeq (sIf (gB (g2 neD (gVar 0) (gC (.str "table"))))
  (sRet (g2 ixD (gA lstD (aCons (gC .non) (aCons (gVar 1) aNil))) (gA intD (aCons (gA F__law_texts_fit (aCons (gVar 1) aNil)) aNil))))
  sNil)
  (sSeq (sSet 2 (gA FQ__law_read_rows.down (aCons (gVar 1) aNil)))
  (sSeq (sIf (bOr (gB (g2 isND (gVar 2) (gC .non))) (bOr (gB (g2 gtD (gA lenD (aCons (gVar 2) aNil)) (gC (.int 6)))) (gB (g2 gtD (gA lenD (aCons (g2 ixD (gVar 2) (gC (.int 0))) aNil)) (gC (.int 6))))))
  (sRet (gC .non))
  sNil)
  (sSeq (sFor (iSeq (gVar 2)) (τName 3) B__law_read_0)
  (sRet (gA tupleD (aCons (gLc (iSeq (gVar 2)) [3] (τName 3) bYes (gA tupleD (aCons (gVar 3) aNil))) aNil)))))))
def F__law_read : List D → R D := runS 5 2 S__law_read

def S_Kind_read_shown : Rho → S :=
  (sSeq (sIf (gB (gMeth [("Chapter", F_Kind_fits), ("Para", F_Kind_fits), ("Table", F_Table_fits)] "fits" (gVar 0) (aCons (gVar 1) aNil)))
  (sRet (gVar 1))
  sNil)
  (sRet (gC .non)))
def F_Kind_read_shown : List D → R D := runS 2 2 S_Kind_read_shown

def B_rows_read_0 : Rho → S :=
  (sIf (gTru (gVar 4))
  (sSeq (sIf (gB (g2 notInDD (gVar 5) (gC (.str "\\|/"))))
  (sRet (gC .non))
  sNil)
  (sSeq (sAug 3 iaddD (gVar 5))
  (sSet 4 (gC (.bl false)))))
  (sIf (gB (g2 eqD (gVar 5) (gC (.str "\\"))))
  (sSet 4 (gC (.bl true)))
  (sIf (gB (g2 inDD (gVar 5) (gC (.str "|/"))))
  (sSeq (sAppend 2 (gVar 3))
  (sSeq (sSet 3 (gC (.str "")))
  (sIf (gB (g2 eqD (gVar 5) (gC (.str "/"))))
  (sSeq (sAppend 1 (gA tupleD (aCons (gVar 2) aNil)))
  (sSet 2 (gA lstD aNil)))
  sNil)))
  (sAug 3 iaddD (gVar 5)))))
def S_rows_read : Rho → S :=
  (sSeq (sSet 1 (gA lstD aNil))
  (sSeq (sSet 2 (gA lstD aNil))
  (sSeq (sSet 3 (gC (.str "")))
  (sSeq (sSet 4 (gC (.bl false)))
  (sSeq (sFor (iSeq (gVar 0)) (τName 5) B_rows_read_0)
  (sSeq (sIf (gTru (gVar 4))
  (sRet (gC .non))
  sNil)
  (sSeq (sAppend 2 (gVar 3))
  (sSeq (sAppend 1 (gA tupleD (aCons (gVar 2) aNil)))
  (sRet (gA tupleD (aCons (gVar 1) aNil)))))))))))
def F_rows_read : List D → R D := runS 6 1 S_rows_read

def S_Table_read_shown : Rho → S :=
  (sSeq (sSet 2 (gA F_rows_read (aCons (gVar 1) aNil)))
  (sSeq (sIf (bOr (gB (g2 isND (gVar 2) (gC .non))) (bNot (gB (gMeth [("Chapter", F_Kind_fits), ("Para", F_Kind_fits), ("Table", F_Table_fits)] "fits" (gVar 0) (aCons (gVar 2) aNil)))))
  (sRet (gC .non))
  sNil)
  (sRet (gVar 2))))
def F_Table_read_shown : List D → R D := runS 3 2 S_Table_read_shown

def B__law_cell_shown_0 : Rho → S :=
  (sSeq (sIf (bOr (gB (g2 eqD (gVar 2) (gC (.str "|")))) (bOr (gB (g2 eqD (gVar 2) (gC (.str "/")))) (gB (g2 eqD (gVar 2) (gC (.str "\\"))))))
  (sSet 1 (g2 addD (gVar 1) (gC (.str "\\"))))
  sNil)
  (sSet 1 (g2 addD (gVar 1) (gVar 2))))
def S__law_cell_shown : Rho → S :=
  (sSeq (sSet 1 (gC (.str "")))
  (sSeq (sFor (iSeq (gVar 0)) (τName 2) B__law_cell_shown_0)
  (sRet (gVar 1))))
def F__law_cell_shown : List D → R D := runS 3 1 S__law_cell_shown

def S__law_shown : Rho → S :=
  (sSeq (sIf (gB (g2 eqD (gVar 0) (gC (.str "table"))))
  (sRet (gMt "str" joinD (gC (.str "/")) (aCons (gLc (iSeq (gVar 1)) [2] (τName 2) bYes (gMt "str" joinD (gC (.str "|")) (aCons (gLc (iSeq (gVar 2)) [3] (τName 3) bYes (gA F__law_cell_shown (aCons (gVar 3) aNil))) aNil))) aNil)))
  sNil)
  (sRet (gVar 1)))
def F__law_shown : List D → R D := runS 4 2 S__law_shown

def B_law_0 : Rho → S :=
  (sSeq (sSet 9 (gA F__law_spoilt (aCons (gVar 7) (aCons (gA F__law_cell (aCons (gVar 0) (aCons (gVar 8) aNil))) (aCons (gA F__law_cell (aCons (gVar 0) (aCons (g2 addD (gVar 8) (gC (.int 1))) aNil))) aNil)))))
  (sSeq (sSet 10 (gA F__law_read (aCons (gVar 2) (aCons (gVar 9) aNil))))
  (sSeq (sSet 11 (gMeth [("Chapter", F_Kind_read_shown), ("Para", F_Kind_read_shown), ("Table", F_Table_read_shown)] "read_shown" (gVar 3) (aCons (gVar 9) aNil)))
  (sSeq (sIf (bOr (bAnd (gB (g2 isND (gVar 10) (gC .non))) (gB (g2 notND (gVar 11) (gC .non)))) (bAnd (gB (g2 notND (gVar 10) (gC .non))) (gB (g2 neD (gVar 11) (gVar 10)))))
  (sRet (gC (.bl false)))
  sNil)
  (sIf (bAnd (gB (g2 notND (gVar 11) (gC .non))) (gB (g2 notTD (gMeth [("Chapter", F_Kind_fits), ("Para", F_Kind_fits), ("Table", F_Table_fits)] "fits" (gVar 3) (aCons (gVar 11) aNil)) (gC (.bl true)))))
  (sRet (gC (.bl false)))
  sNil)))))
def B_law_1 : Rho → S :=
  (sSeq (sSet 3 (gA F_kind_of_word (aCons (gVar 2) aNil)))
  (sSeq (sSet 4 (gA F__law_content (aCons (gVar 2) (aCons (gA F__law_cell (aCons (gVar 0) (aCons (gVar 1) aNil))) aNil))))
  (sSeq (sSet 5 (gA F__law_odd (aCons (gA F__law_cell (aCons (gVar 0) (aCons (g2 addD (gC (.int 3)) (gVar 1)) aNil))) aNil)))
  (sSeq (sIf (bOr (gB (g2 notTD (gMeth [("Chapter", F_Kind_fits), ("Para", F_Kind_fits), ("Table", F_Table_fits)] "fits" (gVar 3) (aCons (gVar 4) aNil)) (gC (.bl true)))) (gB (g2 notTD (gMeth [("Chapter", F_Kind_fits), ("Para", F_Kind_fits), ("Table", F_Table_fits)] "fits" (gVar 3) (aCons (gVar 5) aNil)) (gC (.bl false)))))
  (sRet (gC (.bl false)))
  sNil)
  (sSeq (sSet 6 (gA F__law_table (aCons (gA F__law_cell (aCons (gVar 0) (aCons (gC (.int 6)) aNil))) aNil)))
  (sSeq (sIf (gB (g2 eqD (gVar 2) (gC (.str "table"))))
  (sSet 6 (gA F__law_text (aCons (gA F__law_cell (aCons (gVar 0) (aCons (gC (.int 6)) aNil))) aNil)))
  sNil)
  (sSeq (sIf (gB (g2 notTD (gMeth [("Chapter", F_Kind_fits), ("Para", F_Kind_fits), ("Table", F_Table_fits)] "fits" (gVar 3) (aCons (gVar 6) aNil)) (gC (.bl false))))
  (sRet (gC (.bl false)))
  sNil)
  (sSeq (sSet 7 (gMeth [("Chapter", F_Kind_shown), ("Para", F_Kind_shown), ("Table", F_Table_shown)] "shown" (gVar 3) (aCons (gVar 4) aNil)))
  (sSeq (sIf (bOr (bNot (gB (g1 (isiD "str") (gVar 7)))) (bOr (gB (g2 neD (gVar 7) (gA F__law_shown (aCons (gVar 2) (aCons (gVar 4) aNil))))) (gB (g2 neD (gMeth [("Chapter", F_Kind_read_shown), ("Para", F_Kind_read_shown), ("Table", F_Table_read_shown)] "read_shown" (gVar 3) (aCons (gVar 7) aNil)) (gVar 4)))))
  (sRet (gC (.bl false)))
  sNil)
  (sFor (iA rangeD3 (aCons (gC (.int 7)) (aCons (gA maxD (aCons (gC (.int 9)) (aCons (gA minD (aCons (g2 subD (gA lenD (aCons (gVar 0) aNil)) (gC (.int 1))) (aCons (gC (.int 37)) aNil))) aNil))) (aCons (gC (.int 2)) aNil)))) (τName 8) B_law_0))))))))))
def B_law_2 : Rho → S :=
  (sIf (gB (g2 notND (gA F_kind_of_word (aCons (gVar 2) aNil)) (gC .non)))
  (sRet (gC (.bl false)))
  sNil)
def S_law : Rho → S :=
  (sSeq (sIf (bNot (gB (gC0 F__law_kinds_good)))
  (sRet (gC (.bl false)))
  sNil)
  (sSeq (sFor (iA enumD (aCons (gA lstD (aCons (gC (.str "chapter")) (aCons (gC (.str "para")) (aCons (gC (.str "table")) aNil)))) aNil)) (τTup 2 (τCons (τName 1) (τCons (τName 2) τNil))) B_law_1)
  (sSeq (sFor (iSeq (gA lstD (aCons (gC (.str "")) (aCons (gC (.str "chapters")) (aCons (gC (.str "Para")) (aCons (gC (.str "kind")) (aCons (gC (.str " table")) aNil))))))) (τName 2) B_law_2)
  (sRet (gC (.bl true))))))
def F_law : List D → R D := runS 12 1 S_law

end
end Pd

set_option maxHeartbeats 0
namespace Pd
open PySem PySem.Spec PyProof.Rows L2
structure Tx (K : PySem.W.Frag) (mg : Str → Option Value) : Prop where
  g_kind_of_word : mg "kind_of_word" = some (.ref (He.ga K "kind_of_word"))
  g__law_kinds_good : mg "_law_kinds_good" = some (.ref (He.ga K "_law_kinds_good"))
  g__law_stream : mg "_law_stream" = some (.ref (He.ga K "_law_stream"))
  g__law_text : mg "_law_text" = some (.ref (He.ga K "_law_text"))
  g__law_next : mg "_law_next" = some (.ref (He.ga K "_law_next"))
  g__law_digits : mg "_law_digits" = some (.ref (He.ga K "_law_digits"))
  g__law_table : mg "_law_table" = some (.ref (He.ga K "_law_table"))
  g__law_content : mg "_law_content" = some (.ref (He.ga K "_law_content"))
  g__law_odd : mg "_law_odd" = some (.ref (He.ga K "_law_odd"))
  g_cell_shown : mg "cell_shown" = some (.ref (He.ga K "cell_shown"))
  g__law_cell : mg "_law_cell" = some (.ref (He.ga K "_law_cell"))
  g_is_text : mg "is_text" = some (.ref (He.ga K "is_text"))
  g_is_row : mg "is_row" = some (.ref (He.ga K "is_row"))
  g_is_cells : mg "is_cells" = some (.ref (He.ga K "is_cells"))
  g__law_spoilt : mg "_law_spoilt" = some (.ref (He.ga K "_law_spoilt"))
  g__law_read_rows : mg "_law_read_rows" = some (.ref (He.ga K "_law_read_rows"))
  g__law_texts_fit : mg "_law_texts_fit" = some (.ref (He.ga K "_law_texts_fit"))
  g__law_read : mg "_law_read" = some (.ref (He.ga K "_law_read"))
  g_rows_read : mg "rows_read" = some (.ref (He.ga K "rows_read"))
  g__law_cell_shown : mg "_law_cell_shown" = some (.ref (He.ga K "_law_cell_shown"))
  g__law_shown : mg "_law_shown" = some (.ref (He.ga K "_law_shown"))
  g_law : mg "law" = some (.ref (He.ga K "law"))
  f_all : mg "all" = none
  f_bool : mg "bool" = none
  f_enumerate : mg "enumerate" = none
  f_int : mg "int" = none
  f_isinstance : mg "isinstance" = none
  f_len : mg "len" = none
  f_max : mg "max" = none
  f_min : mg "min" = none
  f_ord : mg "ord" = none
  f_range : mg "range" = none
  f_str : mg "str" = none
  f_tuple : mg "tuple" = none
  k_MOST_COLUMNS : ∃ t, mg "MOST_COLUMNS" = some (.int 6 t)
  k_MOST_ROWS : ∃ t, mg "MOST_ROWS" = some (.int 6 t)
  cls_Chapter : Cls K (He.ga K "Chapter")
  cls_Para : Cls K (He.ga K "Para")
  cls_Table : Cls K (He.ga K "Table")
  met_Chapter_fits : Meth K (He.ga K "Chapter") "fits" (He.fAd K ("Kind", some "fits"))
  met_Chapter_holds : Meth K (He.ga K "Chapter") "holds" (He.fAd K ("Chapter", some "holds"))
  met_Chapter_read_shown : Meth K (He.ga K "Chapter") "read_shown" (He.fAd K ("Kind", some "read_shown"))
  met_Chapter_shown : Meth K (He.ga K "Chapter") "shown" (He.fAd K ("Kind", some "shown"))
  met_Chapter_word : Meth K (He.ga K "Chapter") "word" (He.fAd K ("Chapter", some "word"))
  met_Para_fits : Meth K (He.ga K "Para") "fits" (He.fAd K ("Kind", some "fits"))
  met_Para_holds : Meth K (He.ga K "Para") "holds" (He.fAd K ("Kind", some "holds"))
  met_Para_read_shown : Meth K (He.ga K "Para") "read_shown" (He.fAd K ("Kind", some "read_shown"))
  met_Para_shown : Meth K (He.ga K "Para") "shown" (He.fAd K ("Kind", some "shown"))
  met_Para_word : Meth K (He.ga K "Para") "word" (He.fAd K ("Para", some "word"))
  met_Table_fits : Meth K (He.ga K "Table") "fits" (He.fAd K ("Table", some "fits"))
  met_Table_holds : Meth K (He.ga K "Table") "holds" (He.fAd K ("Kind", some "holds"))
  met_Table_read_shown : Meth K (He.ga K "Table") "read_shown" (He.fAd K ("Table", some "read_shown"))
  met_Table_shown : Meth K (He.ga K "Table") "shown" (He.fAd K ("Table", some "shown"))
  met_Table_word : Meth K (He.ga K "Table") "word" (He.fAd K ("Table", some "word"))
  new_Chapter : NewK K mg "Chapter"
  new_Para : NewK K mg "Para"
  new_Table : NewK K mg "Table"
  isk_Kind : mg "Kind" = some (.ref (He.ga K "Kind")) ∧ ∀ q ∈ tk_Kind, InsC K (He.ga K q.1) ∧ PySem.W.kitOne K (.ref (He.ga K q.1)) (.ref (He.ga K "Kind")) = some q.2
section
variable {P' : Program} {w : World} {K : PySem.W.Frag} {mg : Str → Option Value} {base : Heap}
theorem sc_Chapter_word : FnScope ["self"] ["self"] (defScope s_Chapter_word) := ⟨rfl, rfl, rfl, by decide +kernel, rfl, by decide +kernel, by decide +kernel⟩
theorem c_Chapter_word (T : Tx K mg) (Df : DefU K "word" "Chapter.word" s_Chapter_word (He.fAd K ("Chapter", some "word")) ["self"]) : UnF P' w K mg base 1 (He.fAd K ("Chapter", some "word")) ["self"] F_Chapter_word :=
  un_d (mm := []) (m' := []) (s := S_Chapter_word) 1 Df sc_Chapter_word rfl (by decide) fun cdv A outer sh H E F0 hr =>
    (ss_one (s_ret d_str))
theorem sc_Para_word : FnScope ["self"] ["self"] (defScope s_Para_word) := ⟨rfl, rfl, rfl, by decide +kernel, rfl, by decide +kernel, by decide +kernel⟩
theorem c_Para_word (T : Tx K mg) (Df : DefU K "word" "Para.word" s_Para_word (He.fAd K ("Para", some "word")) ["self"]) : UnF P' w K mg base 1 (He.fAd K ("Para", some "word")) ["self"] F_Para_word :=
  un_d (mm := []) (m' := []) (s := S_Para_word) 1 Df sc_Para_word rfl (by decide) fun cdv A outer sh H E F0 hr =>
    (ss_one (s_ret d_str))
theorem sc_Table_word : FnScope ["self"] ["self"] (defScope s_Table_word) := ⟨rfl, rfl, rfl, by decide +kernel, rfl, by decide +kernel, by decide +kernel⟩
theorem c_Table_word (T : Tx K mg) (Df : DefU K "word" "Table.word" s_Table_word (He.fAd K ("Table", some "word")) ["self"]) : UnF P' w K mg base 1 (He.fAd K ("Table", some "word")) ["self"] F_Table_word :=
  un_d (mm := []) (m' := []) (s := S_Table_word) 1 Df sc_Table_word rfl (by decide) fun cdv A outer sh H E F0 hr =>
    (ss_one (s_ret d_str))
theorem sc_kind_of_word : FnScope ["word", "kind"] ["word"] (defScope s_kind_of_word) := ⟨rfl, rfl, rfl, by decide +kernel, rfl, by decide +kernel, by decide +kernel⟩
theorem c_kind_of_word (T : Tx K mg) (h_Table_word : UnF P' w K mg base 1 (He.fAd K ("Table", some "word")) ["self"] F_Table_word) (h_Para_word : UnF P' w K mg base 1 (He.fAd K ("Para", some "word")) ["self"] F_Para_word) (h_Chapter_word : UnF P' w K mg base 1 (He.fAd K ("Chapter", some "word")) ["self"] F_Chapter_word) (Df : DefU K "kind_of_word" "kind_of_word" s_kind_of_word (He.ga K "kind_of_word") ["word"]) : UnF P' w K mg base 2 (He.ga K "kind_of_word") ["word"] F_kind_of_word :=
  un_d (mm := []) (m' := []) (s := S_kind_of_word) 2 Df sc_kind_of_word rfl (by decide) fun cdv A outer sh H E F0 hr =>
    (ss_cons (m2 := []) (s_for (passes_of rfl) rfl (di_seq (d_new (n_list (da_cons (d_new (n_new0 T.new_Chapter)) (da_cons (d_new (n_new0 T.new_Para)) (da_cons (d_new (n_new0 T.new_Table)) da_nil)))))) (dg_name 1 sc_kind_of_word.nd)
    (ss_one (s_if (t_cmp (op_eq2 hr.units) o_eq (d_meth (fm (d_meth0 (calM_of h_Chapter_word T.cls_Chapter T.met_Chapter_word) hr (by decide) (takes_of rfl rfl rfl rfl) (d_var 1) rfl) (fm (d_meth0 (calM_of h_Para_word T.cls_Para T.met_Para_word) hr (by decide) (takes_of rfl rfl rfl rfl) (d_var 1) rfl) (fm (d_meth0 (calM_of h_Table_word T.cls_Table T.met_Table_word) hr (by decide) (takes_of rfl rfl rfl rfl) (d_var 1) rfl) fn0)))) (d_var 0) (nomark _))
    (ss_one (s_ret (d_var 1)))
    ss_nil)))
    (ss_one (s_ret d_non)))
theorem sc_Chapter_holds : FnScope ["self"] ["self"] (defScope s_Chapter_holds) := ⟨rfl, rfl, rfl, by decide +kernel, rfl, by decide +kernel, by decide +kernel⟩
theorem c_Chapter_holds (T : Tx K mg) (Df : DefU K "holds" "Chapter.holds" s_Chapter_holds (He.fAd K ("Chapter", some "holds")) ["self"]) : UnF P' w K mg base 1 (He.fAd K ("Chapter", some "holds")) ["self"] F_Chapter_holds :=
  un_d (mm := []) (m' := []) (s := S_Chapter_holds) 1 Df sc_Chapter_holds rfl (by decide) fun cdv A outer sh H E F0 hr =>
    (ss_one (s_ret d_bl))
theorem sc_Kind_holds : FnScope ["self"] ["self"] (defScope s_Kind_holds) := ⟨rfl, rfl, rfl, by decide +kernel, rfl, by decide +kernel, by decide +kernel⟩
theorem c_Kind_holds (T : Tx K mg) (Df : DefU K "holds" "Kind.holds" s_Kind_holds (He.fAd K ("Kind", some "holds")) ["self"]) : UnF P' w K mg base 1 (He.fAd K ("Kind", some "holds")) ["self"] F_Kind_holds :=
  un_d (mm := []) (m' := []) (s := S_Kind_holds) 1 Df sc_Kind_holds rfl (by decide) fun cdv A outer sh H E F0 hr =>
    (ss_one (s_ret d_bl))
theorem sc__law_kinds_good : FnScope ["_law_word", "_law_kind", "_law_told"] [] (defScope s__law_kinds_good) := ⟨rfl, rfl, rfl, by decide +kernel, rfl, by decide +kernel, by decide +kernel⟩
theorem c__law_kinds_good (T : Tx K mg) (h_kind_of_word : UnF P' w K mg base 2 (He.ga K "kind_of_word") ["word"] F_kind_of_word) (h_Table_word : UnF P' w K mg base 1 (He.fAd K ("Table", some "word")) ["self"] F_Table_word) (h_Para_word : UnF P' w K mg base 1 (He.fAd K ("Para", some "word")) ["self"] F_Para_word) (h_Chapter_word : UnF P' w K mg base 1 (He.fAd K ("Chapter", some "word")) ["self"] F_Chapter_word) (h_Kind_holds : UnF P' w K mg base 1 (He.fAd K ("Kind", some "holds")) ["self"] F_Kind_holds) (h_Chapter_holds : UnF P' w K mg base 1 (He.fAd K ("Chapter", some "holds")) ["self"] F_Chapter_holds) (Df : DefU K "_law_kinds_good" "_law_kinds_good" s__law_kinds_good (He.ga K "_law_kinds_good") []) : UnF P' w K mg base 3 (He.ga K "_law_kinds_good") [] F__law_kinds_good :=
  un_d (mm := []) (m' := []) (s := S__law_kinds_good) 3 Df sc__law_kinds_good rfl (by decide) fun cdv A outer sh H E F0 hr =>
    (ss_cons (m2 := []) (s_for (passes_of rfl) rfl (di_seq (d_new (n_list (da_cons (d_tup (da_cons d_str (da_cons (d_new (n_new0 T.new_Chapter)) da_nil))) (da_cons (d_tup (da_cons d_str (da_cons (d_new (n_new0 T.new_Para)) da_nil))) (da_cons (d_tup (da_cons d_str (da_cons (d_new (n_new0 T.new_Table)) da_nil))) da_nil)))))) (dg_tup rfl (dgs_cons (dg_name 0 sc__law_kinds_good.nd) (dgs_cons (dg_name 1 sc__law_kinds_good.nd) dgs_nil)))
    (ss_one (s_for (passes_of rfl) rfl (di_seq (d_new (n_list (da_cons (d_var 1) (da_cons (d_c (calF_of h_kind_of_word T.g_kind_of_word) hr (by decide) (takes_of rfl rfl rfl rfl) (da_cons (d_var 0) da_nil)) da_nil))))) (dg_name 2 sc__law_kinds_good.nd)
    (ss_cons (m2 := []) (s_if (t_w (w_or (t_not (t_val (d_isK T.f_isinstance T.isk_Kind.1 T.isk_Kind.2 (d_var 2)))) (w_or (t_cmp (op_ne2 hr.units) o_ne (d_meth (fm (d_meth0 (calM_of h_Chapter_word T.cls_Chapter T.met_Chapter_word) hr (by decide) (takes_of rfl rfl rfl rfl) (d_var 2) rfl) (fm (d_meth0 (calM_of h_Para_word T.cls_Para T.met_Para_word) hr (by decide) (takes_of rfl rfl rfl rfl) (d_var 2) rfl) (fm (d_meth0 (calM_of h_Table_word T.cls_Table T.met_Table_word) hr (by decide) (takes_of rfl rfl rfl rfl) (d_var 2) rfl) fn0)))) (d_var 0) (nomark _)) (w_or1 (t_not (t_val (d_isinst T.f_isinstance T.f_bool (d_meth (fm (d_meth0 (calM_of h_Chapter_holds T.cls_Chapter T.met_Chapter_holds) hr (by decide) (takes_of rfl rfl rfl rfl) (d_var 2) rfl) (fm (d_meth0 (calM_of h_Kind_holds T.cls_Para T.met_Para_holds) hr (by decide) (takes_of rfl rfl rfl rfl) (d_var 2) rfl) (fm (d_meth0 (calM_of h_Kind_holds T.cls_Table T.met_Table_holds) hr (by decide) (takes_of rfl rfl rfl rfl) (d_var 2) rfl) fn0)))))))))))
    (ss_one (s_ret d_bl))
    ss_nil)
    (ss_one (s_if (t_cmp (op_ne2 hr.units) o_ne (d_meth (fm (d_meth0 (calM_of h_Chapter_holds T.cls_Chapter T.met_Chapter_holds) hr (by decide) (takes_of rfl rfl rfl rfl) (d_var 2) rfl) (fm (d_meth0 (calM_of h_Kind_holds T.cls_Para T.met_Para_holds) hr (by decide) (takes_of rfl rfl rfl rfl) (d_var 2) rfl) (fm (d_meth0 (calM_of h_Kind_holds T.cls_Table T.met_Table_holds) hr (by decide) (takes_of rfl rfl rfl rfl) (d_var 2) rfl) fn0)))) (d_cmp (op_eq2 hr.units) o_eq (d_var 0) d_str (nomark _)) (nomark _))
    (ss_one (s_ret d_bl))
    ss_nil))))))
    (ss_one (s_ret d_bl)))
theorem sc__law_stream : FnScope ["_law_cell_here", "_law_many", "_law_found", "_law_left", "_law_number", "_law_k"] ["_law_cell_here", "_law_many"] (defScope s__law_stream) := ⟨rfl, rfl, rfl, by decide +kernel, rfl, by decide +kernel, by decide +kernel⟩
theorem c__law_stream (T : Tx K mg) (Df : DefU K "_law_stream" "_law_stream" s__law_stream (He.ga K "_law_stream") ["_law_cell_here", "_law_many"]) : UnF P' w K mg base 1 (He.ga K "_law_stream") ["_law_cell_here", "_law_many"] F__law_stream :=
  un_d (mm := [false, false, false, false, false, false]) (m' := []) (s := S__law_stream) 6 Df sc__law_stream rfl (by decide) fun cdv A outer sh H E F0 hr =>
    (ss_cons (m2 := [false, false, true, false, false, false]) (s_setN 2 sc__law_stream.nd (n_list da_nil) (by decide))
    (ss_cons (m2 := [false, false, true, false, false, false]) (s_set 3 sc__law_stream.nd (d_op op_fdiv o_fdiv (d_var 0) d_int))
    (ss_cons (m2 := [false, false, true, false, false, false]) (s_set 4 sc__law_stream.nd (d_op op_addD o_add (d_op op_mod o_mod (d_var 0) d_int) d_int))
    (ss_cons (m2 := [false, false, true, false, false, false]) (s_for (passes_of rfl) rfl (di_range1 T.f_range (da_cons (d_var 1) da_nil)) (dg_name 5 sc__law_stream.nd)
    (ss_cons (m2 := [false, false, true, false, false, false]) (s_set 4 sc__law_stream.nd (d_op op_mod o_mod (d_op op_addD o_add (d_op op_addD o_add (d_op op_mul o_mul (d_var 4) d_int) (d_op op_mul o_mul d_int (d_var 5))) d_int) d_int))
    (ss_one (s_if (t_w (w_and (t_cmp (op_eq2 hr.units) o_eq (d_op op_mod o_mod (d_var 0) d_int) d_int (nomark _)) (w_and (t_cmp (op_ne2 hr.units) o_ne (d_var 3) d_int (nomark _)) (w_and1 (t_cmp (op_ne2 hr.units) o_ne (d_var 3) (d_un un_neg o_neg d_int) (nomark _))))))
    (ss_cons (m2 := [false, false, true, false, false, false]) (s_append 2 (d_op op_mod o_mod (d_var 3) d_int))
    (ss_one (s_set 3 sc__law_stream.nd (d_op op_fdiv o_fdiv (d_var 3) d_int))))
    (ss_one (s_append 2 (d_op op_fdiv o_fdiv (d_op op_mod o_mod (d_op op_addD o_add (d_op op_mul o_mul (d_op op_mod o_mod (d_op op_mul o_mul (d_var 4) (d_var 4)) d_int) d_int) (d_var 5)) d_int) d_int)))))))
    (ss_one (s_retO 2))))))
theorem sc__law_text : FnScope ["_law_cell_here", "_law_signs", "_law_xs", "_law_size", "_law_text_here", "_law_x"] ["_law_cell_here"] (defScope s__law_text) := ⟨rfl, rfl, rfl, by decide +kernel, rfl, by decide +kernel, by decide +kernel⟩
theorem c__law_text (T : Tx K mg) (h__law_stream : UnF P' w K mg base 1 (He.ga K "_law_stream") ["_law_cell_here", "_law_many"] F__law_stream) (Df : DefU K "_law_text" "_law_text" s__law_text (He.ga K "_law_text") ["_law_cell_here"]) : UnF P' w K mg base 2 (He.ga K "_law_text") ["_law_cell_here"] F__law_text :=
  un_d (mm := []) (m' := []) (s := S__law_text) 6 Df sc__law_text rfl (by decide) fun cdv A outer sh H E F0 hr =>
    (ss_cons (m2 := []) (s_set 1 sc__law_text.nd (d_op op_addD o_add d_str d_str))
    (ss_cons (m2 := []) (s_set 2 sc__law_text.nd (d_c (calF_of h__law_stream T.g__law_stream) hr (by decide) (takes_of rfl rfl rfl rfl) (da_cons (d_var 0) (da_cons d_int da_nil))))
    (ss_cons (m2 := []) (s_set 3 sc__law_text.nd (d_ix (d_new (n_list (da_cons d_int (da_cons (d_op op_mod o_mod (d_ix (d_var 2) d_int) d_int) (da_cons (d_op op_mod o_mod (d_ix (d_var 2) d_int) d_int) (da_cons (d_op op_mod o_mod (d_ix (d_var 2) d_int) d_int) da_nil)))))) (d_op op_mod o_mod (d_ix (d_var 2) d_int) d_int)))
    (ss_cons (m2 := []) (s_set 4 sc__law_text.nd d_str)
    (ss_cons (m2 := []) (s_for (passes_of rfl) rfl (di_seq (d_c (calF_of h__law_stream T.g__law_stream) hr (by decide) (takes_of rfl rfl rfl rfl) (da_cons (d_op op_addD o_add (d_var 0) d_int) (da_cons (d_var 3) da_nil)))) (dg_name 5 sc__law_text.nd)
    (ss_one (s_if (t_cmp (op_eq2 hr.units) o_eq (d_op op_mod o_mod (d_ix (d_var 2) d_int) d_int) d_int (nomark _))
    (ss_one (s_set 4 sc__law_text.nd (d_op op_addD o_add (d_var 4) (d_ix d_str (d_op op_mod o_mod (d_var 5) d_int)))))
    (ss_one (s_set 4 sc__law_text.nd (d_op op_addD o_add (d_var 4) (d_ix (d_var 1) (d_op op_mod o_mod (d_var 5) d_int))))))))
    (ss_one (s_ret (d_var 4))))))))
theorem sc__law_next : FnScope ["_law_state", "_law_by", "_law_digit"] ["_law_state", "_law_by"] (defScope s__law_next) := ⟨rfl, rfl, rfl, by decide +kernel, rfl, by decide +kernel, by decide +kernel⟩
theorem c__law_next (T : Tx K mg) (Df : DefU K "_law_next" "_law_next" s__law_next (He.ga K "_law_next") ["_law_state", "_law_by"]) : UnQ P' w K mg base 1 (He.ga K "_law_next") ["_law_state", "_law_by"] FQ__law_next :=
  un_q (s := SQ__law_next) 3 Df sc__law_next rfl fun cdv A outer sh H E B hr =>
    (qss_cons (qs_setIx (q_snap fun _ _ => (d_op op_mod o_mod (d_op op_addD o_add (d_op op_mul o_mul (d_ix (d_var 0) d_int) d_int) d_int) d_int)) (q_var 0) (q_pure fun _ _ => d_int))
    (qss_cons (qs_if (qt_snap fun _ _ => (t_w (w_or (t_cmp (op_eq2 hr.units) o_eq (d_ix (d_var 0) d_int) d_int (nomark _)) (w_or1 (t_cmp (op_eq2 hr.units) o_eq (d_ix (d_var 0) d_int) (d_un un_neg o_neg d_int) (nomark _))))))
    (qss_one (qs_ret (q_snap fun _ _ => (d_op op_mod o_mod (d_op op_fdiv o_fdiv (d_op op_mod o_mod (d_op op_mul o_mul (d_ix (d_var 0) d_int) (d_ix (d_var 0) d_int)) d_int) d_int) (d_var 1)))))
    qss_nil)
    (qss_cons (qs_set 2 sc__law_next.nd (q_op op_mod o_mod (q_ix (q_var 0) (q_pure fun _ _ => d_int)) (q_pure fun _ _ => (d_var 1))))
    (qss_cons (qs_setIx (q_op op_fdiv o_fdiv (q_ix (q_var 0) (q_pure fun _ _ => d_int)) (q_pure fun _ _ => (d_var 1))) (q_var 0) (q_pure fun _ _ => d_int))
    (qss_one (qs_ret (q_pure fun _ _ => (d_var 2))))))))
theorem sc__law_digits : FnScope ["_law_left", "_law_many", "_law_state", "_law_signs", "_law_texts", "_law_k", "_law_text_here", "_law_j"] ["_law_left", "_law_many"] (defScope s__law_digits) := ⟨rfl, rfl, rfl, by decide +kernel, rfl, by decide +kernel, by decide +kernel⟩
theorem c__law_digits (T : Tx K mg) (h__law_next : UnQ P' w K mg base 1 (He.ga K "_law_next") ["_law_state", "_law_by"] FQ__law_next) (Df : DefU K "_law_digits" "_law_digits" s__law_digits (He.ga K "_law_digits") ["_law_left", "_law_many"]) : UnQ P' w K mg base 2 (He.ga K "_law_digits") ["_law_left", "_law_many"] FQ__law_digits :=
  un_q (s := SQ__law_digits) 8 Df sc__law_digits rfl fun cdv A outer sh H E B hr =>
    (qss_cons (qs_set 2 sc__law_digits.nd (q_new fun _ _ => (n_list (da_cons (d_var 0) (da_cons (d_op op_addD o_add (d_op op_mod o_mod (d_var 0) d_int) d_int) da_nil)))))
    (qss_cons (qs_set 3 sc__law_digits.nd (q_pure fun _ _ => (d_op op_addD o_add d_str d_str)))
    (qss_cons (qs_set 4 sc__law_digits.nd (q_new fun _ _ => (n_list da_nil)))
    (qss_cons (qs_for (passes_of rfl) rfl (fun _ _ => (di_range1 T.f_range (da_cons (d_var 1) da_nil))) (qg_name 5 sc__law_digits.nd)
    (qss_cons (qs_set 6 sc__law_digits.nd (q_pure fun _ _ => d_str))
    (qss_cons (qs_forI (passes_of rfl) rfl (diq_range1 T.f_range (qa_cons (q_c (calQ_of h__law_next T.g__law_next) hr (by decide) (takes_of rfl rfl rfl rfl) (qa_cons (q_var 2) (qa_cons (q_pure fun _ _ => d_int) qa_nil))) qa_nil)) (qg_name 7 sc__law_digits.nd)
    (qss_one (qs_set 6 sc__law_digits.nd (q_op op_addD o_add (q_pure fun _ _ => (d_var 6)) (q_ix2 (q_pure fun _ _ => (d_var 3)) (q_c (calQ_of h__law_next T.g__law_next) hr (by decide) (takes_of rfl rfl rfl rfl) (qa_cons (q_var 2) (qa_cons (q_pure fun _ _ => d_int) qa_nil))))))))
    (qss_one (qs_append (q_var 4) (q_pure fun _ _ => (d_var 6)))))))
    (qss_one (qs_ret (q_var 4)))))))
theorem sc__law_table : FnScope ["_law_cell_here", "_law_xs", "_law_many", "_law_wide", "_law_rows", "_law_j", "_law_k"] ["_law_cell_here"] (defScope s__law_table) := ⟨rfl, rfl, rfl, by decide +kernel, rfl, by decide +kernel, by decide +kernel⟩
theorem c__law_table (T : Tx K mg) (h__law_stream : UnF P' w K mg base 1 (He.ga K "_law_stream") ["_law_cell_here", "_law_many"] F__law_stream) (h__law_text : UnF P' w K mg base 2 (He.ga K "_law_text") ["_law_cell_here"] F__law_text) (Df : DefU K "_law_table" "_law_table" s__law_table (He.ga K "_law_table") ["_law_cell_here"]) : UnF P' w K mg base 3 (He.ga K "_law_table") ["_law_cell_here"] F__law_table :=
  un_d (mm := [false, false, false, false, false, false, false]) (m' := []) (s := S__law_table) 7 Df sc__law_table rfl (by decide) fun cdv A outer sh H E F0 hr =>
    (ss_cons (m2 := [false, false, false, false, false, false, false]) (s_set 1 sc__law_table.nd (d_c (calF_of h__law_stream T.g__law_stream) hr (by decide) (takes_of rfl rfl rfl rfl) (da_cons (d_var 0) (da_cons d_int da_nil))))
    (ss_cons (m2 := [false, false, false, false, false, false, false]) (s_set 2 sc__law_table.nd (d_ix (d_new (n_list (da_cons (d_op op_addD o_add d_int (d_op op_mod o_mod (d_op op_fdiv o_fdiv (d_ix (d_var 1) d_int) d_int) d_int)) (da_cons (d_op op_addD o_add d_int (d_op op_mod o_mod (d_op op_fdiv o_fdiv (d_ix (d_var 1) d_int) d_int) d_int)) (da_cons d_int da_nil))))) (d_op op_mod o_mod (d_ix (d_var 1) d_int) d_int)))
    (ss_cons (m2 := [false, false, false, false, false, false, false]) (s_set 3 sc__law_table.nd (d_ix (d_new (n_list (da_cons (d_op op_addD o_add d_int (d_op op_mod o_mod (d_op op_fdiv o_fdiv (d_ix (d_var 1) d_int) d_int) d_int)) (da_cons (d_op op_addD o_add d_int (d_op op_mod o_mod (d_op op_fdiv o_fdiv (d_ix (d_var 1) d_int) d_int) d_int)) (da_cons d_int da_nil))))) (d_op op_mod o_mod (d_ix (d_var 1) d_int) d_int)))
    (ss_cons (m2 := [false, false, false, false, true, false, false]) (s_setN 4 sc__law_table.nd (n_list da_nil) (by decide))
    (ss_cons (m2 := [false, false, false, false, true, false, false]) (s_for (passes_of rfl) rfl (di_range1 T.f_range (da_cons (d_var 2) da_nil)) (dg_name 5 sc__law_table.nd rfl (Or.inr rfl))
    (ss_one (s_append 4 (d_callTy call_tuple_of c_tuple T.f_tuple (da_cons (d_new (n_lc (own := [("_law_k", 6)]) rfl sc__law_table.nd (di_range1 T.f_range (da_cons (d_var 3) da_nil)) (by show blkC ["_law_cell_here", "_law_xs", "_law_many", "_law_wide", "_law_rows", "_law_j", "_law_k"] (defScope s__law_table) _ _ = true; decide +kernel) (fun _ _ _ _ _ => (dg_name 6 sc__law_table.nd)) (fun _ _ _ _ _ => dts_nil) (fun _ _ _ _ _ => (d_c (calF_of h__law_text T.g__law_text) hr (by decide) takes0 (da_cons (d_op op_addD o_add (d_op op_addD o_add (d_op op_addD o_add (d_var 0) (d_op op_mul o_mul d_int (d_var 5))) (d_op op_mul o_mul d_int (d_var 6))) d_int) da_nil))) (by decide))) da_nil)))))
    (ss_share 4 (Bs.ok_of rfl) (ss_one (s_ret (d_callTy call_tuple_of c_tuple T.f_tuple (da_cons (d_var 4) da_nil))))))))))
theorem sc__law_content : FnScope ["_law_kind", "_law_cell_here", "_law_many", "_law_wide", "_law_texts", "_law_k"] ["_law_kind", "_law_cell_here"] (defScope s__law_content) := ⟨rfl, rfl, rfl, by decide +kernel, rfl, by decide +kernel, by decide +kernel⟩
theorem c__law_content (T : Tx K mg) (h__law_digits : UnQ P' w K mg base 2 (He.ga K "_law_digits") ["_law_left", "_law_many"] FQ__law_digits) (h__law_table : UnF P' w K mg base 3 (He.ga K "_law_table") ["_law_cell_here"] F__law_table) (h__law_text : UnF P' w K mg base 2 (He.ga K "_law_text") ["_law_cell_here"] F__law_text) (Df : DefU K "_law_content" "_law_content" s__law_content (He.ga K "_law_content") ["_law_kind", "_law_cell_here"]) : UnF P' w K mg base 4 (He.ga K "_law_content") ["_law_kind", "_law_cell_here"] F__law_content :=
  un_d (mm := []) (m' := []) (s := S__law_content) 6 Df sc__law_content rfl (by decide) fun cdv A outer sh H E F0 hr =>
    (ss_cons (m2 := []) (s_if (t_w (w_and (t_cmp (op_eq2 hr.units) o_eq (d_op op_mod o_mod (d_var 1) d_int) d_int (nomark _)) (w_and1 (t_cmp (op_eq2 hr.units) o_eq (d_var 0) d_str (nomark _)))))
    (ss_cons (m2 := []) (s_set 2 sc__law_content.nd (d_op op_addD o_add d_int (d_op op_mod o_mod (d_op op_fdiv o_fdiv (d_var 1) d_int) d_int)))
    (ss_cons (m2 := []) (s_set 3 sc__law_content.nd (d_op op_addD o_add d_int (d_op op_mod o_mod (d_op op_fdiv o_fdiv (d_var 1) d_int) d_int)) rfl (Or.inr rfl))
    (ss_cons (m2 := []) (s_set 4 sc__law_content.nd (d_c (calF_of h__law_digits.down T.g__law_digits) hr (by decide) (takes_of rfl rfl rfl rfl) (da_cons (d_op op_fdiv o_fdiv (d_var 1) d_int) (da_cons (d_op op_mul o_mul (d_var 2) (d_var 3)) da_nil))) rfl (Or.inr rfl))
    (ss_one (s_ret (d_callTy call_tuple_of c_tuple T.f_tuple (da_cons (d_new (n_lc (own := [("_law_k", 5)]) rfl sc__law_content.nd (di_range1 T.f_range (da_cons (d_var 2) da_nil)) (by show blkC ["_law_kind", "_law_cell_here", "_law_many", "_law_wide", "_law_texts", "_law_k"] (defScope s__law_content) _ _ = true; decide +kernel) (fun _ _ _ _ _ => (dg_name 5 sc__law_content.nd)) (fun _ _ _ _ _ => dts_nil) (fun _ _ _ _ _ => (d_callTy call_tuple_of c_tuple T.f_tuple (da_cons (d_slice (d_var 4) (do_some (d_op op_mul o_mul (d_var 5) (d_var 3))) (do_some (d_op op_addD o_add (d_op op_mul o_mul (d_var 5) (d_var 3)) (d_var 3)))) da_nil))) (by decide))) da_nil)))))))
    ss_nil)
    (ss_cons (m2 := []) (s_if (t_cmp (op_eq2 hr.units) o_eq (d_op op_mod o_mod (d_var 1) d_int) d_int (nomark _))
    (ss_one (s_ret (d_ix (d_c (calF_of h__law_digits.down T.g__law_digits) hr (by decide) (takes_of rfl rfl rfl rfl) (da_cons (d_op op_fdiv o_fdiv (d_var 1) d_int) (da_cons d_int da_nil))) d_int)))
    ss_nil)
    (ss_cons (m2 := []) (s_if (t_cmp (op_eq2 hr.units) o_eq (d_var 0) d_str (nomark _))
    (ss_one (s_ret (d_c (calF_of h__law_table T.g__law_table) hr (by decide) (takes_of rfl rfl rfl rfl) (da_cons (d_op op_fdiv o_fdiv (d_var 1) d_int) da_nil))))
    ss_nil)
    (ss_one (s_ret (d_c (calF_of h__law_text T.g__law_text) hr (by decide) (takes_of rfl rfl rfl rfl) (da_cons (d_op op_fdiv o_fdiv (d_var 1) d_int) da_nil)))))))
theorem sc__law_odd : FnScope ["_law_cell_here", "_law_some", "_law_great"] ["_law_cell_here"] (defScope s__law_odd) := ⟨rfl, rfl, rfl, by decide +kernel, rfl, by decide +kernel, by decide +kernel⟩
theorem c__law_odd (T : Tx K mg) (Df : DefU K "_law_odd" "_law_odd" s__law_odd (He.ga K "_law_odd") ["_law_cell_here"]) : UnF P' w K mg base 1 (He.ga K "_law_odd") ["_law_cell_here"] F__law_odd :=
  un_d (mm := []) (m' := []) (s := S__law_odd) 3 Df sc__law_odd rfl (by decide) fun cdv A outer sh H E F0 hr =>
    (ss_cons (m2 := []) (s_set 1 sc__law_odd.nd (d_new (n_list (da_cons d_non (da_cons d_int (da_cons d_bl (da_cons (d_new (n_list (da_cons d_str da_nil))) (da_cons (d_new n_dict0) (da_cons (d_tup da_nil) (da_cons (d_tup (da_cons (d_tup da_nil) da_nil)) (da_cons (d_tup (da_cons (d_tup (da_cons d_str da_nil)) (da_cons (d_tup (da_cons d_str (da_cons d_str da_nil))) da_nil))) (da_cons (d_tup (da_cons (d_new (n_list (da_cons d_str da_nil))) da_nil)) (da_cons (d_new (n_list (da_cons (d_tup (da_cons d_str da_nil)) da_nil))) (da_cons (d_tup (da_cons (d_tup (da_cons d_str (da_cons d_int da_nil))) da_nil)) (da_cons (d_tup (da_cons d_str da_nil)) da_nil)))))))))))))))
    (ss_cons (m2 := []) (s_set 2 sc__law_odd.nd (d_new (n_list (da_cons (d_op op_mulXX o_mulX (d_tup (da_cons (d_tup (da_cons d_str da_nil)) da_nil)) d_int) (da_cons (d_tup (da_cons (d_op op_mulXX o_mulX (d_tup (da_cons d_str da_nil)) d_int) da_nil)) (da_cons (d_op op_mulXX o_mulX d_str d_int) (da_cons d_str (da_cons (d_tup (da_cons (d_tup (da_cons d_str da_nil)) da_nil)) (da_cons (d_tup (da_cons (d_tup (da_cons (d_op op_mulXX o_mulX d_str d_int) da_nil)) da_nil)) (da_cons (d_tup (da_cons (d_tup (da_cons d_non da_nil)) da_nil)) (da_cons (d_tup (da_cons d_str da_nil)) da_nil)))))))))))
    (ss_one (s_ret (d_ix (d_op op_addD o_add (d_var 1) (d_var 2)) (d_op op_mod o_mod (d_var 0) d_int))))))
theorem sc_Kind_shown : FnScope ["self", "content"] ["self", "content"] (defScope s_Kind_shown) := ⟨rfl, rfl, rfl, by decide +kernel, rfl, by decide +kernel, by decide +kernel⟩
theorem c_Kind_shown (T : Tx K mg) (Df : DefU K "shown" "Kind.shown" s_Kind_shown (He.fAd K ("Kind", some "shown")) ["self", "content"]) : UnF P' w K mg base 1 (He.fAd K ("Kind", some "shown")) ["self", "content"] F_Kind_shown :=
  un_d (mm := []) (m' := []) (s := S_Kind_shown) 2 Df sc_Kind_shown rfl (by decide) fun cdv A outer sh H E F0 hr =>
    (ss_one (s_ret (d_var 1)))
theorem sc_cell_shown : FnScope ["cell", "found", "sign"] ["cell"] (defScope s_cell_shown) := ⟨rfl, rfl, rfl, by decide +kernel, rfl, by decide +kernel, by decide +kernel⟩
theorem c_cell_shown (T : Tx K mg) (Df : DefU K "cell_shown" "cell_shown" s_cell_shown (He.ga K "cell_shown") ["cell"]) : UnF P' w K mg base 1 (He.ga K "cell_shown") ["cell"] F_cell_shown :=
  un_d (mm := []) (m' := []) (s := S_cell_shown) 3 Df sc_cell_shown rfl (by decide) fun cdv A outer sh H E F0 hr =>
    (ss_cons (m2 := []) (s_set 1 sc_cell_shown.nd d_str)
    (ss_cons (m2 := []) (s_for (passes_of rfl) rfl (di_seq (d_var 0)) (dg_name 2 sc_cell_shown.nd)
    (ss_cons (m2 := []) (s_if (t_cmp (op_in2 (hu65 hr)) o_in (d_var 2) d_str (by rfl))
    (ss_one (s_aug 1 sc_cell_shown.nd iop_addD o_iadd d_str))
    ss_nil)
    (ss_one (s_aug 1 sc_cell_shown.nd iop_addD o_iadd (d_var 2)))))
    (ss_one (s_ret (d_var 1)))))
theorem sc_Table_shown : FnScope ["self", "content", "row", "cell"] ["self", "content"] (defScope s_Table_shown) := ⟨rfl, rfl, rfl, by decide +kernel, rfl, by decide +kernel, by decide +kernel⟩
theorem c_Table_shown (T : Tx K mg) (h_cell_shown : UnF P' w K mg base 1 (He.ga K "cell_shown") ["cell"] F_cell_shown) (Df : DefU K "shown" "Table.shown" s_Table_shown (He.fAd K ("Table", some "shown")) ["self", "content"]) : UnF P' w K mg base 2 (He.fAd K ("Table", some "shown")) ["self", "content"] F_Table_shown :=
  un_d (mm := []) (m' := []) (s := S_Table_shown) 4 Df sc_Table_shown rfl (by decide) fun cdv A outer sh H E F0 hr =>
    (ss_one (s_ret (d_met PySem.F.plainAttrs_str PySem.F.slot_str_join PySem.F.type_str_join mt_join o_join d_str (da_cons (d_new (n_lc (own := [("row", 2)]) rfl sc_Table_shown.nd (di_seq (d_var 1)) (by show blkC ["self", "content", "row", "cell"] (defScope s_Table_shown) _ _ = true; decide +kernel) (fun _ _ _ _ _ => (dg_name 2 sc_Table_shown.nd)) (fun _ _ _ _ _ => dts_nil) (fun _ _ _ _ _ => (d_met PySem.F.plainAttrs_str PySem.F.slot_str_join PySem.F.type_str_join mt_join o_join d_str (da_cons (d_new (n_lc (own := [("cell", 3)]) rfl sc_Table_shown.nd (di_seq (d_var 2)) (by kernel_rfl) (fun _ _ _ _ _ => (dg_name 3 sc_Table_shown.nd)) (fun _ _ _ _ _ => dts_nil) (fun _ _ _ _ _ => (d_c (calF_of h_cell_shown T.g_cell_shown) hr (by decide) takes0 (da_cons (d_var 3) da_nil))) (by decide))) da_nil))) (by decide))) da_nil))))
theorem sc__law_cell : FnScope ["_law_script", "_law_k"] ["_law_script", "_law_k"] (defScope s__law_cell) := ⟨rfl, rfl, rfl, by decide +kernel, rfl, by decide +kernel, by decide +kernel⟩
theorem c__law_cell (T : Tx K mg) (Df : DefU K "_law_cell" "_law_cell" s__law_cell (He.ga K "_law_cell") ["_law_script", "_law_k"]) : UnF P' w K mg base 1 (He.ga K "_law_cell") ["_law_script", "_law_k"] F__law_cell :=
  un_d (mm := []) (m' := []) (s := S__law_cell) 2 Df sc__law_cell rfl (by decide) fun cdv A outer sh H E F0 hr =>
    (ss_cons (m2 := []) (s_if (t_cmp op_lt2 o_lt (d_var 1) (d_callB call_len c_len T.f_len (da_cons (d_var 0) da_nil)) (nomark _))
    (ss_one (s_ret (d_ix (d_var 0) (d_var 1))))
    ss_nil)
    (ss_one (s_ret (d_op op_mul o_mul (d_op op_addD o_add (d_var 1) d_int) d_int))))
theorem sc_is_text : FnScope ["thing", "sign"] ["thing"] (defScope s_is_text) := ⟨rfl, rfl, rfl, by decide +kernel, rfl, by decide +kernel, by decide +kernel⟩
theorem c_is_text (T : Tx K mg) (Df : DefU K "is_text" "is_text" s_is_text (He.ga K "is_text") ["thing"]) : UnF P' w K mg base 1 (He.ga K "is_text") ["thing"] F_is_text :=
  un_d (mm := []) (m' := []) (s := S_is_text) 2 Df sc_is_text rfl (by decide) fun cdv A outer sh H E F0 hr =>
    (ss_cons (m2 := []) (s_if (t_w (w_or (t_not (t_val (d_isinst T.f_isinstance T.f_str (d_var 0)))) (w_or1 (t_cmp op_gt2 o_gt (d_callB call_len c_len T.f_len (da_cons (d_var 0) da_nil)) d_int (nomark _)))))
    (ss_one (s_ret d_bl))
    ss_nil)
    (ss_cons (m2 := []) (s_for (passes_of rfl) rfl (di_seq (d_var 0)) (dg_name 1 sc_is_text.nd)
    (ss_one (s_if (t_w (w_or (t_cmp op_lt2 o_lt (d_var 1) d_str (nomark _)) (w_or (t_cmp op_gt2 o_gt (d_var 1) d_str (nomark _)) (w_or1 (t_cmp (op_eq2 hr.units) o_eq (d_callB call_ord c_ord T.f_ord (da_cons (d_var 1) da_nil)) d_int (nomark _))))))
    (ss_one (s_ret d_bl))
    ss_nil)))
    (ss_one (s_ret d_bl))))
theorem sc_Kind_fits : FnScope ["self", "content"] ["self", "content"] (defScope s_Kind_fits) := ⟨rfl, rfl, rfl, by decide +kernel, rfl, by decide +kernel, by decide +kernel⟩
theorem c_Kind_fits (T : Tx K mg) (h_is_text : UnF P' w K mg base 1 (He.ga K "is_text") ["thing"] F_is_text) (Df : DefU K "fits" "Kind.fits" s_Kind_fits (He.fAd K ("Kind", some "fits")) ["self", "content"]) : UnF P' w K mg base 2 (He.fAd K ("Kind", some "fits")) ["self", "content"] F_Kind_fits :=
  un_d (mm := []) (m' := []) (s := S_Kind_fits) 2 Df sc_Kind_fits rfl (by decide) fun cdv A outer sh H E F0 hr =>
    (ss_one (s_ret (d_c (calF_of h_is_text T.g_is_text) hr (by decide) (takes_of rfl rfl rfl rfl) (da_cons (d_var 1) da_nil))))
theorem sc_is_row : FnScope ["thing", "wide", "cell"] ["thing", "wide"] (defScope s_is_row) := ⟨rfl, rfl, rfl, by decide +kernel, rfl, by decide +kernel, by decide +kernel⟩
theorem c_is_row (T : Tx K mg) (h_is_text : UnF P' w K mg base 1 (He.ga K "is_text") ["thing"] F_is_text) (Df : DefU K "is_row" "is_row" s_is_row (He.ga K "is_row") ["thing", "wide"]) : UnF P' w K mg base 2 (He.ga K "is_row") ["thing", "wide"] F_is_row :=
  un_d (mm := []) (m' := []) (s := S_is_row) 3 Df sc_is_row rfl (by decide) fun cdv A outer sh H E F0 hr =>
    (ss_cons (m2 := []) (s_if (t_w (w_or (t_not (t_val (d_isinst T.f_isinstance T.f_tuple (d_var 0)))) (w_or1 (t_cmp (op_ne2 hr.units) o_ne (d_callB call_len c_len T.f_len (da_cons (d_var 0) da_nil)) (d_var 1) (nomark _)))))
    (ss_one (s_ret d_bl))
    ss_nil)
    (ss_one (s_ret (d_callB (cr_all rfl) c_all T.f_all (da_cons (d_new (n_lc (own := [("cell", 2)]) rfl sc_is_row.nd (di_seq (d_var 0)) (by show blkC ["thing", "wide", "cell"] (defScope s_is_row) _ _ = true; decide +kernel) (fun _ _ _ _ _ => (dg_name 2 sc_is_row.nd)) (fun _ _ _ _ _ => dts_nil) (fun _ _ _ _ _ => (d_c (calF_of h_is_text T.g_is_text) hr (by decide) takes0 (da_cons (d_var 2) da_nil))) (by decide))) da_nil)))))
theorem sc_is_cells : FnScope ["thing"] ["thing"] (defScope s_is_cells) := ⟨rfl, rfl, rfl, by decide +kernel, rfl, by decide +kernel, by decide +kernel⟩
theorem c_is_cells (T : Tx K mg) (h_is_row : UnF P' w K mg base 2 (He.ga K "is_row") ["thing", "wide"] F_is_row) (Df : DefU K "is_cells" "is_cells" s_is_cells (He.ga K "is_cells") ["thing"]) : UnF P' w K mg base 3 (He.ga K "is_cells") ["thing"] F_is_cells :=
  un_d (mm := []) (m' := []) (s := S_is_cells) 1 Df sc_is_cells rfl (by decide) fun cdv A outer sh H E F0 hr =>
    (ss_one (s_ret (d_and (d_isinst T.f_isinstance T.f_tuple (d_var 0)) (d_and (d_chain op_le o_le op_le o_le nx_le d_int (d_callB call_len c_len T.f_len (da_cons (d_var 0) da_nil)) (d_gint (by rfl) T.k_MOST_COLUMNS)) (d_one (d_c (calF_of h_is_row T.g_is_row) hr (by decide) (takes_of rfl rfl rfl rfl) (da_cons (d_var 0) (da_cons (d_callB call_len c_len T.f_len (da_cons (d_var 0) da_nil)) da_nil))))))))
theorem sc_Table_fits : FnScope ["self", "content", "row"] ["self", "content"] (defScope s_Table_fits) := ⟨rfl, rfl, rfl, by decide +kernel, rfl, by decide +kernel, by decide +kernel⟩
theorem c_Table_fits (T : Tx K mg) (h_is_cells : UnF P' w K mg base 3 (He.ga K "is_cells") ["thing"] F_is_cells) (h_is_row : UnF P' w K mg base 2 (He.ga K "is_row") ["thing", "wide"] F_is_row) (Df : DefU K "fits" "Table.fits" s_Table_fits (He.fAd K ("Table", some "fits")) ["self", "content"]) : UnF P' w K mg base 4 (He.fAd K ("Table", some "fits")) ["self", "content"] F_Table_fits :=
  un_d (mm := []) (m' := []) (s := S_Table_fits) 3 Df sc_Table_fits rfl (by decide) fun cdv A outer sh H E F0 hr =>
    (ss_cons (m2 := []) (s_if (t_w (w_or (t_not (t_val (d_isinst T.f_isinstance T.f_tuple (d_var 1)))) (w_or1 (t_not (t_chain op_le o_le op_le o_le nx_le d_int (d_callB call_len c_len T.f_len (da_cons (d_var 1) da_nil)) (d_gint (by rfl) T.k_MOST_ROWS))))))
    (ss_one (s_ret d_bl))
    ss_nil)
    (ss_cons (m2 := []) (s_if (t_not (t_val (d_c (calF_of h_is_cells T.g_is_cells) hr (by decide) (takes_of rfl rfl rfl rfl) (da_cons (d_ix (d_var 1) d_int) da_nil))))
    (ss_one (s_ret d_bl))
    ss_nil)
    (ss_one (s_ret (d_callB (cr_all rfl) c_all T.f_all (da_cons (d_new (n_lc (own := [("row", 2)]) rfl sc_Table_fits.nd (di_seq (d_var 1)) (by show blkC ["self", "content", "row"] (defScope s_Table_fits) _ _ = true; decide +kernel) (fun _ _ _ _ _ => (dg_name 2 sc_Table_fits.nd)) (fun _ _ _ _ _ => dts_nil) (fun _ _ _ _ _ => (d_c (calF_of h_is_row T.g_is_row) hr (by decide) takes0 (da_cons (d_var 2) (da_cons (d_callB call_len c_len T.f_len (da_cons (d_ix (d_var 1) d_int) da_nil)) da_nil)))) (by decide))) da_nil))))))
theorem sc__law_spoilt : FnScope ["_law_text_here", "_law_cell_here", "_law_other", "_law_at", "_law_sign"] ["_law_text_here", "_law_cell_here", "_law_other"] (defScope s__law_spoilt) := ⟨rfl, rfl, rfl, by decide +kernel, rfl, by decide +kernel, by decide +kernel⟩
theorem c__law_spoilt (T : Tx K mg) (Df : DefU K "_law_spoilt" "_law_spoilt" s__law_spoilt (He.ga K "_law_spoilt") ["_law_text_here", "_law_cell_here", "_law_other"]) : UnF P' w K mg base 1 (He.ga K "_law_spoilt") ["_law_text_here", "_law_cell_here", "_law_other"] F__law_spoilt :=
  un_d (mm := []) (m' := []) (s := S__law_spoilt) 5 Df sc__law_spoilt rfl (by decide) fun cdv A outer sh H E F0 hr =>
    (ss_cons (m2 := []) (s_set 3 sc__law_spoilt.nd (d_op op_mod o_mod (d_op op_fdiv o_fdiv (d_var 1) d_int) (d_op op_addD o_add (d_callB call_len c_len T.f_len (da_cons (d_var 0) da_nil)) d_int)))
    (ss_cons (m2 := []) (s_set 4 sc__law_spoilt.nd (d_ix d_str (d_op op_mod o_mod (d_var 2) d_int)))
    (ss_cons (m2 := []) (s_if (t_cmp (op_eq2 hr.units) o_eq (d_op op_mod o_mod (d_var 1) d_int) d_int (nomark _))
    (ss_one (s_ret (d_op op_addD o_add (d_op op_addD o_add (d_slice (d_var 0) do_none (do_some (d_var 3))) (d_var 4)) (d_slice (d_var 0) (do_some (d_var 3)) do_none))))
    ss_nil)
    (ss_cons (m2 := []) (s_if (t_cmp (op_eq2 hr.units) o_eq (d_op op_mod o_mod (d_var 1) d_int) d_int (nomark _))
    (ss_one (s_ret (d_op op_addD o_add (d_slice (d_var 0) do_none (do_some (d_var 3))) (d_slice (d_var 0) (do_some (d_op op_addD o_add (d_var 3) d_int)) do_none))))
    ss_nil)
    (ss_cons (m2 := []) (s_if (t_cmp (op_eq2 hr.units) o_eq (d_op op_mod o_mod (d_var 1) d_int) d_int (nomark _))
    (ss_one (s_ret (d_op op_addD o_add (d_op op_addD o_add (d_slice (d_var 0) do_none (do_some (d_var 3))) (d_var 4)) (d_slice (d_var 0) (do_some (d_op op_addD o_add (d_var 3) d_int)) do_none))))
    ss_nil)
    (ss_cons (m2 := []) (s_if (t_cmp (op_eq2 hr.units) o_eq (d_op op_mod o_mod (d_var 1) d_int) d_int (nomark _))
    (ss_one (s_ret (d_ix (d_new (n_list (da_cons d_str (da_cons d_str (da_cons d_str (da_cons d_str (da_cons d_str (da_cons d_str (da_cons (d_op op_mulXX o_mulX d_str d_int) (da_cons (d_op op_mulXX o_mulX d_str d_int) (da_cons (d_op op_mulXX o_mulX d_str d_int) (da_cons (d_op op_mulXX o_mulX d_str d_int) da_nil)))))))))))) (d_op op_mod o_mod (d_var 2) d_int))))
    ss_nil)
    (ss_one (s_ret (d_var 0)))))))))
theorem sc__law_read_rows : FnScope ["_law_text_here", "_law_rows", "_law_at", "_law_sign"] ["_law_text_here"] (defScope s__law_read_rows) := ⟨rfl, rfl, rfl, by decide +kernel, rfl, by decide +kernel, by decide +kernel⟩
theorem c__law_read_rows (T : Tx K mg) (Df : DefU K "_law_read_rows" "_law_read_rows" s__law_read_rows (He.ga K "_law_read_rows") ["_law_text_here"]) : UnQ P' w K mg base 1 (He.ga K "_law_read_rows") ["_law_text_here"] FQ__law_read_rows :=
  un_q (s := SQ__law_read_rows) 4 Df sc__law_read_rows rfl fun cdv A outer sh H E B hr =>
    (qss_cons (qs_set 1 sc__law_read_rows.nd (q_lst (qa_cons (q_new fun _ _ => (n_list (da_cons d_str da_nil))) qa_nil)))
    (qss_cons (qs_set 2 sc__law_read_rows.nd (q_pure fun _ _ => d_int))
    (qss_cons (qs_while fuel__law_read_rows_0 (passes_of rfl) (qt_pure fun _ _ => (t_cmp op_lt2 o_lt (d_var 2) (d_callB call_len c_len T.f_len (da_cons (d_var 0) da_nil)) (nomark _)))
    (qss_cons (qs_set 3 sc__law_read_rows.nd (q_pure fun _ _ => (d_ix (d_var 0) (d_var 2))))
    (qss_cons (qs_if (qt_pure fun _ _ => (t_cmp (op_eq2 hr.units) o_eq (d_var 3) d_str (nomark _)))
    (qss_cons (qs_set 2 sc__law_read_rows.nd (q_pure fun _ _ => (d_op op_addD o_add (d_var 2) d_int)))
    (qss_cons (qs_if (qt_pure fun _ _ => (t_w (w_or (t_cmp (op_eq2 hr.units) o_eq (d_var 2) (d_callB call_len c_len T.f_len (da_cons (d_var 0) da_nil)) (nomark _)) (w_or1 (t_cmp (op_notIn2 (hu65 hr)) o_notIn (d_ix (d_var 0) (d_var 2)) (d_tup (da_cons d_str (da_cons d_str (da_cons d_str da_nil)))) (by rfl))))))
    (qss_one (qs_ret (q_pure fun _ _ => d_non)))
    qss_nil)
    (qss_one (qs_setIx (q_op op_addD o_add (q_ix (q_ix (q_var 1) (q_pure fun _ _ => (d_un un_neg o_neg d_int))) (q_pure fun _ _ => (d_un un_neg o_neg d_int))) (q_pure fun _ _ => (d_ix (d_var 0) (d_var 2)))) (q_ix (q_var 1) (q_pure fun _ _ => (d_un un_neg o_neg d_int))) (q_pure fun _ _ => (d_un un_neg o_neg d_int))))))
    (qss_one (qs_if (qt_pure fun _ _ => (t_cmp (op_eq2 hr.units) o_eq (d_var 3) d_str (nomark _)))
    (qss_one (qs_append (q_ix (q_var 1) (q_pure fun _ _ => (d_un un_neg o_neg d_int))) (q_pure fun _ _ => d_str)))
    (qss_one (qs_if (qt_pure fun _ _ => (t_cmp (op_eq2 hr.units) o_eq (d_var 3) d_str (nomark _)))
    (qss_one (qs_append (q_var 1) (q_new fun _ _ => (n_list (da_cons d_str da_nil)))))
    (qss_one (qs_setIx (q_op op_addD o_add (q_ix (q_ix (q_var 1) (q_pure fun _ _ => (d_un un_neg o_neg d_int))) (q_pure fun _ _ => (d_un un_neg o_neg d_int))) (q_pure fun _ _ => (d_var 3))) (q_ix (q_var 1) (q_pure fun _ _ => (d_un un_neg o_neg d_int))) (q_pure fun _ _ => (d_un un_neg o_neg d_int)))))))))
    (qss_one (qs_set 2 sc__law_read_rows.nd (q_pure fun _ _ => (d_op op_addD o_add (d_var 2) d_int)))))))
    (qss_one (qs_ret (q_var 1))))))
theorem sc__law_texts_fit : FnScope ["_law_text_here", "_law_sign"] ["_law_text_here"] (defScope s__law_texts_fit) := ⟨rfl, rfl, rfl, by decide +kernel, rfl, by decide +kernel, by decide +kernel⟩
theorem c__law_texts_fit (T : Tx K mg) (Df : DefU K "_law_texts_fit" "_law_texts_fit" s__law_texts_fit (He.ga K "_law_texts_fit") ["_law_text_here"]) : UnF P' w K mg base 1 (He.ga K "_law_texts_fit") ["_law_text_here"] F__law_texts_fit :=
  un_d (mm := []) (m' := []) (s := S__law_texts_fit) 2 Df sc__law_texts_fit rfl (by decide) fun cdv A outer sh H E F0 hr =>
    (ss_cons (m2 := []) (s_if (t_cmp op_gt2 o_gt (d_callB call_len c_len T.f_len (da_cons (d_var 0) da_nil)) d_int (nomark _))
    (ss_one (s_ret d_bl))
    ss_nil)
    (ss_cons (m2 := []) (s_for (passes_of rfl) rfl (di_seq (d_var 0)) (dg_name 1 sc__law_texts_fit.nd)
    (ss_one (s_if (t_w (w_or (t_not (t_chain op_le o_le op_le o_le nx_le d_int (d_callB call_ord c_ord T.f_ord (da_cons (d_var 1) da_nil)) d_int)) (w_or1 (t_cmp (op_eq2 hr.units) o_eq (d_callB call_ord c_ord T.f_ord (da_cons (d_var 1) da_nil)) d_int (nomark _)))))
    (ss_one (s_ret d_bl))
    ss_nil)))
    (ss_one (s_ret d_bl))))
theorem sc__law_read : FnScope ["_law_kind", "_law_text_here", "_law_rows", "_law_row", "_law_cell_here"] ["_law_kind", "_law_text_here"] (defScope s__law_read) := ⟨rfl, rfl, rfl, by decide +kernel, rfl, by decide +kernel, by decide +kernel⟩
theorem c__law_read (T : Tx K mg) (h__law_texts_fit : UnF P' w K mg base 1 (He.ga K "_law_texts_fit") ["_law_text_here"] F__law_texts_fit) (h__law_read_rows : UnQ P' w K mg base 1 (He.ga K "_law_read_rows") ["_law_text_here"] FQ__law_read_rows) (Df : DefU K "_law_read" "_law_read" s__law_read (He.ga K "_law_read") ["_law_kind", "_law_text_here"]) : UnF P' w K mg base 2 (He.ga K "_law_read") ["_law_kind", "_law_text_here"] F__law_read :=
  un_d (mm := []) (m' := []) (s := S__law_read) 5 Df sc__law_read rfl (by decide) fun cdv A outer sh H E F0 hr =>
    (ss_cons (m2 := []) (s_if (t_cmp (op_ne2 hr.units) o_ne (d_var 0) d_str (nomark _))
    (ss_one (s_ret (d_ix (d_new (n_list (da_cons d_non (da_cons (d_var 1) da_nil)))) (d_callTy call_int1 c_int T.f_int (da_cons (d_c (calF_of h__law_texts_fit T.g__law_texts_fit) hr (by decide) (takes_of rfl rfl rfl rfl) (da_cons (d_var 1) da_nil)) da_nil)))))
    ss_nil)
    (ss_cons (m2 := []) (s_set 2 sc__law_read.nd (d_c (calF_of h__law_read_rows.down T.g__law_read_rows) hr (by decide) (takes_of rfl rfl rfl rfl) (da_cons (d_var 1) da_nil)))
    (ss_cons (m2 := []) (s_if (t_w (w_or (t_cmp op_isN o_isN (d_var 2) d_non (nomark _)) (w_or (t_cmp op_gt2 o_gt (d_callB call_len c_len T.f_len (da_cons (d_var 2) da_nil)) d_int (nomark _)) (w_or1 (t_cmp op_gt2 o_gt (d_callB call_len c_len T.f_len (da_cons (d_ix (d_var 2) d_int) da_nil)) d_int (nomark _))))))
    (ss_one (s_ret d_non))
    ss_nil)
    (ss_cons (m2 := []) (s_for (passes_of rfl) rfl (di_seq (d_var 2)) (dg_name 3 sc__law_read.nd)
    (ss_one (s_if (t_w (w_or (t_cmp (op_ne2 hr.units) o_ne (d_callB call_len c_len T.f_len (da_cons (d_var 3) da_nil)) (d_callB call_len c_len T.f_len (da_cons (d_ix (d_var 2) d_int) da_nil)) (nomark _)) (w_or1 (t_cmp (op_in2 (hu65 hr)) o_in d_bl (d_new (n_lc (own := [("_law_cell_here", 4)]) rfl sc__law_read.nd (di_seq (d_var 3)) (by show blkC ["_law_kind", "_law_text_here", "_law_rows", "_law_row", "_law_cell_here"] (defScope s__law_read) _ _ = true; decide +kernel) (fun _ _ _ _ _ => (dg_name 4 sc__law_read.nd)) (fun _ _ _ _ _ => dts_nil) (fun _ _ _ _ _ => (d_c (calF_of h__law_texts_fit T.g__law_texts_fit) hr (by decide) takes0 (da_cons (d_var 4) da_nil))) (by decide))) (by rfl)))))
    (ss_one (s_ret d_non))
    ss_nil)))
    (ss_one (s_ret (d_callTy call_tuple_of c_tuple T.f_tuple (da_cons (d_new (n_lc (own := [("_law_row", 3)]) rfl sc__law_read.nd (di_seq (d_var 2)) (by show blkC ["_law_kind", "_law_text_here", "_law_rows", "_law_row", "_law_cell_here"] (defScope s__law_read) _ _ = true; decide +kernel) (fun _ _ _ _ _ => (dg_name 3 sc__law_read.nd)) (fun _ _ _ _ _ => dts_nil) (fun _ _ _ _ _ => (d_callTy call_tuple_of c_tuple T.f_tuple (da_cons (d_var 3) da_nil))) (by decide))) da_nil))))))))
theorem sc_Kind_read_shown : FnScope ["self", "text"] ["self", "text"] (defScope s_Kind_read_shown) := ⟨rfl, rfl, rfl, by decide +kernel, rfl, by decide +kernel, by decide +kernel⟩
theorem c_Kind_read_shown (T : Tx K mg) (h_Table_fits : UnF P' w K mg base 4 (He.fAd K ("Table", some "fits")) ["self", "content"] F_Table_fits) (h_Kind_fits : UnF P' w K mg base 2 (He.fAd K ("Kind", some "fits")) ["self", "content"] F_Kind_fits) (Df : DefU K "read_shown" "Kind.read_shown" s_Kind_read_shown (He.fAd K ("Kind", some "read_shown")) ["self", "text"]) : UnF P' w K mg base 5 (He.fAd K ("Kind", some "read_shown")) ["self", "text"] F_Kind_read_shown :=
  un_d (mm := []) (m' := []) (s := S_Kind_read_shown) 2 Df sc_Kind_read_shown rfl (by decide) fun cdv A outer sh H E F0 hr =>
    (ss_cons (m2 := []) (s_if (t_val (d_meth (fm (d_meth1 (calM_of h_Kind_fits T.cls_Chapter T.met_Chapter_fits) hr (by decide) (takes_of rfl rfl rfl rfl) (d_var 0) (da_cons (d_var 1) da_nil) rfl rfl rfl) (fm (d_meth1 (calM_of h_Kind_fits T.cls_Para T.met_Para_fits) hr (by decide) (takes_of rfl rfl rfl rfl) (d_var 0) (da_cons (d_var 1) da_nil) rfl rfl rfl) (fm (d_meth1 (calM_of h_Table_fits T.cls_Table T.met_Table_fits) hr (by decide) (takes_of rfl rfl rfl rfl) (d_var 0) (da_cons (d_var 1) da_nil) rfl rfl rfl) fn0)))))
    (ss_one (s_ret (d_var 1)))
    ss_nil)
    (ss_one (s_ret d_non)))
theorem sc_rows_read : FnScope ["text", "rows", "cells", "cell", "apart", "sign"] ["text"] (defScope s_rows_read) := ⟨rfl, rfl, rfl, by decide +kernel, rfl, by decide +kernel, by decide +kernel⟩
theorem c_rows_read (T : Tx K mg) (Df : DefU K "rows_read" "rows_read" s_rows_read (He.ga K "rows_read") ["text"]) : UnF P' w K mg base 1 (He.ga K "rows_read") ["text"] F_rows_read :=
  un_d (mm := [false, false, false, false, false, false]) (m' := []) (s := S_rows_read) 6 Df sc_rows_read rfl (by decide) fun cdv A outer sh H E F0 hr =>
    (ss_cons (m2 := [false, true, false, false, false, false]) (s_setN 1 sc_rows_read.nd (n_list da_nil) (by decide))
    (ss_cons (m2 := [false, true, true, false, false, false]) (s_setN 2 sc_rows_read.nd (n_list da_nil) (by decide))
    (ss_cons (m2 := [false, true, true, false, false, false]) (s_set 3 sc_rows_read.nd d_str)
    (ss_cons (m2 := [false, true, true, false, false, false]) (s_set 4 sc_rows_read.nd d_bl)
    (ss_cons (m2 := [false, true, true, false, false, false]) (s_for (passes_of rfl) rfl (di_seq (d_var 0)) (dg_name 5 sc_rows_read.nd)
    (ss_one (s_if (t_tru (d_var 4))
    (ss_cons (m2 := [false, true, true, false, false, false]) (s_if (t_cmp (op_notIn2 (hu65 hr)) o_notIn (d_var 5) d_str (by rfl))
    (ss_one (s_ret d_non))
    ss_nil)
    (ss_cons (m2 := [false, true, true, false, false, false]) (s_aug 3 sc_rows_read.nd iop_addD o_iadd (d_var 5))
    (ss_one (s_set 4 sc_rows_read.nd d_bl))))
    (ss_one (s_if (t_cmp (op_eq2 hr.units) o_eq (d_var 5) d_str (nomark _))
    (ss_one (s_set 4 sc_rows_read.nd d_bl))
    (ss_one (s_if (t_cmp (op_in2 (hu65 hr)) o_in (d_var 5) d_str (by rfl))
    (ss_cons (m2 := [false, true, true, false, false, false]) (s_append 2 (d_var 3))
    (ss_cons (m2 := [false, true, true, false, false, false]) (s_set 3 sc_rows_read.nd d_str)
    (ss_one (s_if (t_cmp (op_eq2 hr.units) o_eq (d_var 5) d_str (nomark _))
    (ss_share 2 (Bs.ok_of rfl) (ss_cons (m2 := [false, true, false, false, false, false]) (s_append 1 (d_callTy call_tuple_of c_tuple T.f_tuple (da_cons (d_var 2) da_nil)))
    (ss_one (s_setN 2 sc_rows_read.nd (n_list da_nil) (by decide)))))
    ss_nil))))
    (ss_one (s_aug 3 sc_rows_read.nd iop_addD o_iadd (d_var 5))))))))))
    (ss_cons (m2 := [false, true, true, false, false, false]) (s_if (t_tru (d_var 4))
    (ss_one (s_ret d_non))
    ss_nil)
    (ss_cons (m2 := [false, true, true, false, false, false]) (s_append 2 (d_var 3))
    (ss_share 2 (Bs.ok_of rfl) (ss_cons (m2 := [false, true, false, false, false, false]) (s_append 1 (d_callTy call_tuple_of c_tuple T.f_tuple (da_cons (d_var 2) da_nil)))
    (ss_share 1 (Bs.ok_of rfl) (ss_one (s_ret (d_callTy call_tuple_of c_tuple T.f_tuple (da_cons (d_var 1) da_nil))))))))))))))
theorem sc_Table_read_shown : FnScope ["self", "text", "rows"] ["self", "text"] (defScope s_Table_read_shown) := ⟨rfl, rfl, rfl, by decide +kernel, rfl, by decide +kernel, by decide +kernel⟩
theorem c_Table_read_shown (T : Tx K mg) (h_rows_read : UnF P' w K mg base 1 (He.ga K "rows_read") ["text"] F_rows_read) (h_Table_fits : UnF P' w K mg base 4 (He.fAd K ("Table", some "fits")) ["self", "content"] F_Table_fits) (h_Kind_fits : UnF P' w K mg base 2 (He.fAd K ("Kind", some "fits")) ["self", "content"] F_Kind_fits) (Df : DefU K "read_shown" "Table.read_shown" s_Table_read_shown (He.fAd K ("Table", some "read_shown")) ["self", "text"]) : UnF P' w K mg base 5 (He.fAd K ("Table", some "read_shown")) ["self", "text"] F_Table_read_shown :=
  un_d (mm := []) (m' := []) (s := S_Table_read_shown) 3 Df sc_Table_read_shown rfl (by decide) fun cdv A outer sh H E F0 hr =>
    (ss_cons (m2 := []) (s_set 2 sc_Table_read_shown.nd (d_c (calF_of h_rows_read T.g_rows_read) hr (by decide) (takes_of rfl rfl rfl rfl) (da_cons (d_var 1) da_nil)))
    (ss_cons (m2 := []) (s_if (t_w (w_or (t_cmp op_isN o_isN (d_var 2) d_non (nomark _)) (w_or1 (t_not (t_val (d_meth (fm (d_meth1 (calM_of h_Kind_fits T.cls_Chapter T.met_Chapter_fits) hr (by decide) (takes_of rfl rfl rfl rfl) (d_var 0) (da_cons (d_var 2) da_nil) rfl rfl rfl) (fm (d_meth1 (calM_of h_Kind_fits T.cls_Para T.met_Para_fits) hr (by decide) (takes_of rfl rfl rfl rfl) (d_var 0) (da_cons (d_var 2) da_nil) rfl rfl rfl) (fm (d_meth1 (calM_of h_Table_fits T.cls_Table T.met_Table_fits) hr (by decide) (takes_of rfl rfl rfl rfl) (d_var 0) (da_cons (d_var 2) da_nil) rfl rfl rfl) fn0)))))))))
    (ss_one (s_ret d_non))
    ss_nil)
    (ss_one (s_ret (d_var 2)))))
theorem sc__law_cell_shown : FnScope ["_law_text_here", "_law_found", "_law_sign"] ["_law_text_here"] (defScope s__law_cell_shown) := ⟨rfl, rfl, rfl, by decide +kernel, rfl, by decide +kernel, by decide +kernel⟩
theorem c__law_cell_shown (T : Tx K mg) (Df : DefU K "_law_cell_shown" "_law_cell_shown" s__law_cell_shown (He.ga K "_law_cell_shown") ["_law_text_here"]) : UnF P' w K mg base 1 (He.ga K "_law_cell_shown") ["_law_text_here"] F__law_cell_shown :=
  un_d (mm := []) (m' := []) (s := S__law_cell_shown) 3 Df sc__law_cell_shown rfl (by decide) fun cdv A outer sh H E F0 hr =>
    (ss_cons (m2 := []) (s_set 1 sc__law_cell_shown.nd d_str)
    (ss_cons (m2 := []) (s_for (passes_of rfl) rfl (di_seq (d_var 0)) (dg_name 2 sc__law_cell_shown.nd)
    (ss_cons (m2 := []) (s_if (t_w (w_or (t_cmp (op_eq2 hr.units) o_eq (d_var 2) d_str (nomark _)) (w_or (t_cmp (op_eq2 hr.units) o_eq (d_var 2) d_str (nomark _)) (w_or1 (t_cmp (op_eq2 hr.units) o_eq (d_var 2) d_str (nomark _))))))
    (ss_one (s_set 1 sc__law_cell_shown.nd (d_op op_addD o_add (d_var 1) d_str)))
    ss_nil)
    (ss_one (s_set 1 sc__law_cell_shown.nd (d_op op_addD o_add (d_var 1) (d_var 2))))))
    (ss_one (s_ret (d_var 1)))))
theorem sc__law_shown : FnScope ["_law_kind", "_law_content_here", "_law_row", "_law_text_here"] ["_law_kind", "_law_content_here"] (defScope s__law_shown) := ⟨rfl, rfl, rfl, by decide +kernel, rfl, by decide +kernel, by decide +kernel⟩
theorem c__law_shown (T : Tx K mg) (h__law_cell_shown : UnF P' w K mg base 1 (He.ga K "_law_cell_shown") ["_law_text_here"] F__law_cell_shown) (Df : DefU K "_law_shown" "_law_shown" s__law_shown (He.ga K "_law_shown") ["_law_kind", "_law_content_here"]) : UnF P' w K mg base 2 (He.ga K "_law_shown") ["_law_kind", "_law_content_here"] F__law_shown :=
  un_d (mm := []) (m' := []) (s := S__law_shown) 4 Df sc__law_shown rfl (by decide) fun cdv A outer sh H E F0 hr =>
    (ss_cons (m2 := []) (s_if (t_cmp (op_eq2 hr.units) o_eq (d_var 0) d_str (nomark _))
    (ss_one (s_ret (d_met PySem.F.plainAttrs_str PySem.F.slot_str_join PySem.F.type_str_join mt_join o_join d_str (da_cons (d_new (n_lc (own := [("_law_row", 2)]) rfl sc__law_shown.nd (di_seq (d_var 1)) (by show blkC ["_law_kind", "_law_content_here", "_law_row", "_law_text_here"] (defScope s__law_shown) _ _ = true; decide +kernel) (fun _ _ _ _ _ => (dg_name 2 sc__law_shown.nd)) (fun _ _ _ _ _ => dts_nil) (fun _ _ _ _ _ => (d_met PySem.F.plainAttrs_str PySem.F.slot_str_join PySem.F.type_str_join mt_join o_join d_str (da_cons (d_new (n_lc (own := [("_law_text_here", 3)]) rfl sc__law_shown.nd (di_seq (d_var 2)) (by kernel_rfl) (fun _ _ _ _ _ => (dg_name 3 sc__law_shown.nd)) (fun _ _ _ _ _ => dts_nil) (fun _ _ _ _ _ => (d_c (calF_of h__law_cell_shown T.g__law_cell_shown) hr (by decide) takes0 (da_cons (d_var 3) da_nil))) (by decide))) da_nil))) (by decide))) da_nil))))
    ss_nil)
    (ss_one (s_ret (d_var 1))))
theorem sc_law : FnScope ["_law_script", "_law_k", "_law_word", "_law_kind", "_law_content_here", "_law_odd_here", "_law_other", "_law_text_here", "_law_j", "_law_spoilt_here", "_law_due", "_law_found"] ["_law_script"] (defScope s_law) := ⟨rfl, rfl, rfl, by decide +kernel, rfl, by decide +kernel, by decide +kernel⟩
theorem law_ok {fa : Addr} {fd : FuncData} (T : Tx K mg) (h__law_kinds_good : UnF P' w K mg base 3 (He.ga K "_law_kinds_good") [] F__law_kinds_good) (h_kind_of_word : UnF P' w K mg base 2 (He.ga K "kind_of_word") ["word"] F_kind_of_word) (h__law_content : UnF P' w K mg base 4 (He.ga K "_law_content") ["_law_kind", "_law_cell_here"] F__law_content) (h__law_cell : UnF P' w K mg base 1 (He.ga K "_law_cell") ["_law_script", "_law_k"] F__law_cell) (h__law_odd : UnF P' w K mg base 1 (He.ga K "_law_odd") ["_law_cell_here"] F__law_odd) (h_Table_fits : UnF P' w K mg base 4 (He.fAd K ("Table", some "fits")) ["self", "content"] F_Table_fits) (h_Kind_fits : UnF P' w K mg base 2 (He.fAd K ("Kind", some "fits")) ["self", "content"] F_Kind_fits) (h__law_table : UnF P' w K mg base 3 (He.ga K "_law_table") ["_law_cell_here"] F__law_table) (h__law_text : UnF P' w K mg base 2 (He.ga K "_law_text") ["_law_cell_here"] F__law_text) (h_Table_shown : UnF P' w K mg base 2 (He.fAd K ("Table", some "shown")) ["self", "content"] F_Table_shown) (h_Kind_shown : UnF P' w K mg base 1 (He.fAd K ("Kind", some "shown")) ["self", "content"] F_Kind_shown) (h__law_shown : UnF P' w K mg base 2 (He.ga K "_law_shown") ["_law_kind", "_law_content_here"] F__law_shown) (h_Table_read_shown : UnF P' w K mg base 5 (He.fAd K ("Table", some "read_shown")) ["self", "text"] F_Table_read_shown) (h_Kind_read_shown : UnF P' w K mg base 5 (He.fAd K ("Kind", some "read_shown")) ["self", "text"] F_Kind_read_shown) (h__law_spoilt : UnF P' w K mg base 1 (He.ga K "_law_spoilt") ["_law_text_here", "_law_cell_here", "_law_other"] F__law_spoilt) (h__law_read : UnF P' w K mg base 2 (He.ga K "_law_read") ["_law_kind", "_law_text_here"] F__law_read) (Fn : FunD K "law" "law" (defArgs s_law) (defBody s_law) (defScope s_law) [] [] fa fd) : FnOk P' w K mg base (L2.CX P' w) 6 fa fd ["_law_script"] (spD K F_law) :=
  fn_d (m := []) (m' := []) (s := S_law) 12 Fn sc_law rfl (by decide) fun cdv A outer sh H E F0 hr =>
    (ss_cons (m2 := []) (s_if (t_not (t_val (d_c0 (calF_of h__law_kinds_good T.g__law_kinds_good) hr (by decide))))
    (ss_one (s_ret d_bl))
    ss_nil)
    (ss_cons (m2 := []) (s_for (passes_of rfl) rfl (di_enum T.f_enumerate (da_cons (d_new (n_list (da_cons d_str (da_cons d_str (da_cons d_str da_nil))))) da_nil)) (dg_tup rfl (dgs_cons (dg_name 1 sc_law.nd) (dgs_cons (dg_name 2 sc_law.nd) dgs_nil)))
    (ss_cons (m2 := []) (s_set 3 sc_law.nd (d_c (calF_of h_kind_of_word T.g_kind_of_word) hr (by decide) (takes_of rfl rfl rfl rfl) (da_cons (d_var 2) da_nil)))
    (ss_cons (m2 := []) (s_set 4 sc_law.nd (d_c (calF_of h__law_content T.g__law_content) hr (by decide) (takes_of rfl rfl rfl rfl) (da_cons (d_var 2) (da_cons (d_c (calF_of h__law_cell T.g__law_cell) hr (by decide) (takes_of rfl rfl rfl rfl) (da_cons (d_var 0) (da_cons (d_var 1) da_nil))) da_nil))))
    (ss_cons (m2 := []) (s_set 5 sc_law.nd (d_c (calF_of h__law_odd T.g__law_odd) hr (by decide) (takes_of rfl rfl rfl rfl) (da_cons (d_c (calF_of h__law_cell T.g__law_cell) hr (by decide) (takes_of rfl rfl rfl rfl) (da_cons (d_var 0) (da_cons (d_op op_addD o_add d_int (d_var 1)) da_nil))) da_nil)))
    (ss_cons (m2 := []) (s_if (t_w (w_or (t_cmp op_notBl o_notT (d_meth (fm (d_meth1 (calM_of h_Kind_fits T.cls_Chapter T.met_Chapter_fits) hr (by decide) (takes_of rfl rfl rfl rfl) (d_var 3) (da_cons (d_var 4) da_nil) rfl rfl rfl) (fm (d_meth1 (calM_of h_Kind_fits T.cls_Para T.met_Para_fits) hr (by decide) (takes_of rfl rfl rfl rfl) (d_var 3) (da_cons (d_var 4) da_nil) rfl rfl rfl) (fm (d_meth1 (calM_of h_Table_fits T.cls_Table T.met_Table_fits) hr (by decide) (takes_of rfl rfl rfl rfl) (d_var 3) (da_cons (d_var 4) da_nil) rfl rfl rfl) fn0)))) d_bl (nomark _)) (w_or1 (t_cmp op_notBl o_notT (d_meth (fm (d_meth1 (calM_of h_Kind_fits T.cls_Chapter T.met_Chapter_fits) hr (by decide) (takes_of rfl rfl rfl rfl) (d_var 3) (da_cons (d_var 5) da_nil) rfl rfl rfl) (fm (d_meth1 (calM_of h_Kind_fits T.cls_Para T.met_Para_fits) hr (by decide) (takes_of rfl rfl rfl rfl) (d_var 3) (da_cons (d_var 5) da_nil) rfl rfl rfl) (fm (d_meth1 (calM_of h_Table_fits T.cls_Table T.met_Table_fits) hr (by decide) (takes_of rfl rfl rfl rfl) (d_var 3) (da_cons (d_var 5) da_nil) rfl rfl rfl) fn0)))) d_bl (nomark _)))))
    (ss_one (s_ret d_bl))
    ss_nil)
    (ss_cons (m2 := []) (s_set 6 sc_law.nd (d_c (calF_of h__law_table T.g__law_table) hr (by decide) (takes_of rfl rfl rfl rfl) (da_cons (d_c (calF_of h__law_cell T.g__law_cell) hr (by decide) (takes_of rfl rfl rfl rfl) (da_cons (d_var 0) (da_cons d_int da_nil))) da_nil)))
    (ss_cons (m2 := []) (s_if (t_cmp (op_eq2 hr.units) o_eq (d_var 2) d_str (nomark _))
    (ss_one (s_set 6 sc_law.nd (d_c (calF_of h__law_text T.g__law_text) hr (by decide) (takes_of rfl rfl rfl rfl) (da_cons (d_c (calF_of h__law_cell T.g__law_cell) hr (by decide) (takes_of rfl rfl rfl rfl) (da_cons (d_var 0) (da_cons d_int da_nil))) da_nil))))
    ss_nil)
    (ss_cons (m2 := []) (s_if (t_cmp op_notBl o_notT (d_meth (fm (d_meth1 (calM_of h_Kind_fits T.cls_Chapter T.met_Chapter_fits) hr (by decide) (takes_of rfl rfl rfl rfl) (d_var 3) (da_cons (d_var 6) da_nil) rfl rfl rfl) (fm (d_meth1 (calM_of h_Kind_fits T.cls_Para T.met_Para_fits) hr (by decide) (takes_of rfl rfl rfl rfl) (d_var 3) (da_cons (d_var 6) da_nil) rfl rfl rfl) (fm (d_meth1 (calM_of h_Table_fits T.cls_Table T.met_Table_fits) hr (by decide) (takes_of rfl rfl rfl rfl) (d_var 3) (da_cons (d_var 6) da_nil) rfl rfl rfl) fn0)))) d_bl (nomark _))
    (ss_one (s_ret d_bl))
    ss_nil)
    (ss_cons (m2 := []) (s_set 7 sc_law.nd (d_meth (fm (d_meth1 (calM_of h_Kind_shown T.cls_Chapter T.met_Chapter_shown) hr (by decide) (takes_of rfl rfl rfl rfl) (d_var 3) (da_cons (d_var 4) da_nil) rfl rfl rfl) (fm (d_meth1 (calM_of h_Kind_shown T.cls_Para T.met_Para_shown) hr (by decide) (takes_of rfl rfl rfl rfl) (d_var 3) (da_cons (d_var 4) da_nil) rfl rfl rfl) (fm (d_meth1 (calM_of h_Table_shown T.cls_Table T.met_Table_shown) hr (by decide) (takes_of rfl rfl rfl rfl) (d_var 3) (da_cons (d_var 4) da_nil) rfl rfl rfl) fn0)))))
    (ss_cons (m2 := []) (s_if (t_w (w_or (t_not (t_val (d_isinst T.f_isinstance T.f_str (d_var 7)))) (w_or (t_cmp (op_ne2 hr.units) o_ne (d_var 7) (d_c (calF_of h__law_shown T.g__law_shown) hr (by decide) (takes_of rfl rfl rfl rfl) (da_cons (d_var 2) (da_cons (d_var 4) da_nil))) (nomark _)) (w_or1 (t_cmp (op_ne2 hr.units) o_ne (d_meth (fm (d_meth1 (calM_of h_Kind_read_shown T.cls_Chapter T.met_Chapter_read_shown) hr (by decide) (takes_of rfl rfl rfl rfl) (d_var 3) (da_cons (d_var 7) da_nil) rfl rfl rfl) (fm (d_meth1 (calM_of h_Kind_read_shown T.cls_Para T.met_Para_read_shown) hr (by decide) (takes_of rfl rfl rfl rfl) (d_var 3) (da_cons (d_var 7) da_nil) rfl rfl rfl) (fm (d_meth1 (calM_of h_Table_read_shown T.cls_Table T.met_Table_read_shown) hr (by decide) (takes_of rfl rfl rfl rfl) (d_var 3) (da_cons (d_var 7) da_nil) rfl rfl rfl) fn0)))) (d_var 4) (nomark _))))))
    (ss_one (s_ret d_bl))
    ss_nil)
    (ss_one (s_for (passes_of rfl) rfl (di_range3 T.f_range (da_cons d_int (da_cons (d_callB (call_max2 rfl) c_max T.f_max (da_cons d_int (da_cons (d_callB (call_min2 rfl) c_min T.f_min (da_cons (d_op op_sub o_sub (d_callB call_len c_len T.f_len (da_cons (d_var 0) da_nil)) d_int) (da_cons d_int da_nil))) da_nil))) (da_cons d_int da_nil)))) (dg_name 8 sc_law.nd)
    (ss_cons (m2 := []) (s_set 9 sc_law.nd (d_c (calF_of h__law_spoilt T.g__law_spoilt) hr (by decide) (takes_of rfl rfl rfl rfl) (da_cons (d_var 7) (da_cons (d_c (calF_of h__law_cell T.g__law_cell) hr (by decide) (takes_of rfl rfl rfl rfl) (da_cons (d_var 0) (da_cons (d_var 8) da_nil))) (da_cons (d_c (calF_of h__law_cell T.g__law_cell) hr (by decide) (takes_of rfl rfl rfl rfl) (da_cons (d_var 0) (da_cons (d_op op_addD o_add (d_var 8) d_int) da_nil))) da_nil)))))
    (ss_cons (m2 := []) (s_set 10 sc_law.nd (d_c (calF_of h__law_read T.g__law_read) hr (by decide) (takes_of rfl rfl rfl rfl) (da_cons (d_var 2) (da_cons (d_var 9) da_nil))))
    (ss_cons (m2 := []) (s_set 11 sc_law.nd (d_meth (fm (d_meth1 (calM_of h_Kind_read_shown T.cls_Chapter T.met_Chapter_read_shown) hr (by decide) (takes_of rfl rfl rfl rfl) (d_var 3) (da_cons (d_var 9) da_nil) rfl rfl rfl) (fm (d_meth1 (calM_of h_Kind_read_shown T.cls_Para T.met_Para_read_shown) hr (by decide) (takes_of rfl rfl rfl rfl) (d_var 3) (da_cons (d_var 9) da_nil) rfl rfl rfl) (fm (d_meth1 (calM_of h_Table_read_shown T.cls_Table T.met_Table_read_shown) hr (by decide) (takes_of rfl rfl rfl rfl) (d_var 3) (da_cons (d_var 9) da_nil) rfl rfl rfl) fn0)))))
    (ss_cons (m2 := []) (s_if (t_w (w_or (t_w (w_and (t_cmp op_isN o_isN (d_var 10) d_non (nomark _)) (w_and1 (t_cmp op_notN o_notN (d_var 11) d_non (nomark _))))) (w_or1 (t_w (w_and (t_cmp op_notN o_notN (d_var 10) d_non (nomark _)) (w_and1 (t_cmp (op_ne2 hr.units) o_ne (d_var 11) (d_var 10) (nomark _))))))))
    (ss_one (s_ret d_bl))
    ss_nil)
    (ss_one (s_if (t_w (w_and (t_cmp op_notN o_notN (d_var 11) d_non (nomark _)) (w_and1 (t_cmp op_notBl o_notT (d_meth (fm (d_meth1 (calM_of h_Kind_fits T.cls_Chapter T.met_Chapter_fits) hr (by decide) (takes_of rfl rfl rfl rfl) (d_var 3) (da_cons (d_var 11) da_nil) rfl rfl rfl) (fm (d_meth1 (calM_of h_Kind_fits T.cls_Para T.met_Para_fits) hr (by decide) (takes_of rfl rfl rfl rfl) (d_var 3) (da_cons (d_var 11) da_nil) rfl rfl rfl) (fm (d_meth1 (calM_of h_Table_fits T.cls_Table T.met_Table_fits) hr (by decide) (takes_of rfl rfl rfl rfl) (d_var 3) (da_cons (d_var 11) da_nil) rfl rfl rfl) fn0)))) d_bl (nomark _)))))
    (ss_one (s_ret d_bl))
    ss_nil))))))))))))))))))
    (ss_cons (m2 := []) (s_for (passes_of rfl) rfl (di_seq (d_new (n_list (da_cons d_str (da_cons d_str (da_cons d_str (da_cons d_str (da_cons d_str da_nil)))))))) (dg_name 2 sc_law.nd)
    (ss_one (s_if (t_cmp op_notN o_notN (d_c (calF_of h_kind_of_word T.g_kind_of_word) hr (by decide) (takes_of rfl rfl rfl rfl) (da_cons (d_var 2) da_nil)) d_non (nomark _))
    (ss_one (s_ret d_bl))
    ss_nil)))
    (ss_one (s_ret d_bl)))))
end
theorem facts {P' : Program} {w : World} {K : PySem.W.Frag} {h : Heap} {mg : Str → Option Value} {f : Addr} (X : K.In h) (G : h.Ns mainGlobals mg) (hfa : mg ("law" : Str) = some (.ref f)) (c : SaysM fa fn exb K) :
    ∃ fd : FuncData, (∀ (s : Shared) (v : Value), BindsTo s fd ⟨[v], []⟩ [("_law_script", v)]) ∧ ∀ base : Heap, K.In base → base.Ns mainGlobals mg → FnOk P' w K mg base (L2.CX P' w) 6 f fd ["_law_script"] (spD K F_law) := by
  obtain ⟨fd_Chapter_word, D_Chapter_word⟩ := c.d.def_ 0 (d := d_Chapter_word) rfl
  obtain ⟨fd_Para_word, D_Para_word⟩ := c.d.def_ 1 (d := d_Para_word) rfl
  obtain ⟨fd_Table_word, D_Table_word⟩ := c.d.def_ 2 (d := d_Table_word) rfl
  obtain ⟨fd_kind_of_word, D_kind_of_word⟩ := c.d.def_ 3 (d := d_kind_of_word) rfl
  obtain ⟨fd_Chapter_holds, D_Chapter_holds⟩ := c.d.def_ 4 (d := d_Chapter_holds) rfl
  obtain ⟨fd_Kind_holds, D_Kind_holds⟩ := c.d.def_ 5 (d := d_Kind_holds) rfl
  obtain ⟨fd__law_kinds_good, D__law_kinds_good⟩ := c.d.def_ 6 (d := d__law_kinds_good) rfl
  obtain ⟨fd__law_stream, D__law_stream⟩ := c.d.def_ 7 (d := d__law_stream) rfl
  obtain ⟨fd__law_text, D__law_text⟩ := c.d.def_ 8 (d := d__law_text) rfl
  obtain ⟨fd__law_next, D__law_next⟩ := c.d.def_ 9 (d := d__law_next) rfl
  obtain ⟨fd__law_digits, D__law_digits⟩ := c.d.def_ 10 (d := d__law_digits) rfl
  obtain ⟨fd__law_table, D__law_table⟩ := c.d.def_ 11 (d := d__law_table) rfl
  obtain ⟨fd__law_content, D__law_content⟩ := c.d.def_ 12 (d := d__law_content) rfl
  obtain ⟨fd__law_odd, D__law_odd⟩ := c.d.def_ 13 (d := d__law_odd) rfl
  obtain ⟨fd_Kind_shown, D_Kind_shown⟩ := c.d.def_ 14 (d := d_Kind_shown) rfl
  obtain ⟨fd_cell_shown, D_cell_shown⟩ := c.d.def_ 15 (d := d_cell_shown) rfl
  obtain ⟨fd_Table_shown, D_Table_shown⟩ := c.d.def_ 16 (d := d_Table_shown) rfl
  obtain ⟨fd__law_cell, D__law_cell⟩ := c.d.def_ 17 (d := d__law_cell) rfl
  obtain ⟨fd_is_text, D_is_text⟩ := c.d.def_ 18 (d := d_is_text) rfl
  obtain ⟨fd_Kind_fits, D_Kind_fits⟩ := c.d.def_ 19 (d := d_Kind_fits) rfl
  obtain ⟨fd_is_row, D_is_row⟩ := c.d.def_ 20 (d := d_is_row) rfl
  obtain ⟨fd_is_cells, D_is_cells⟩ := c.d.def_ 21 (d := d_is_cells) rfl
  obtain ⟨fd_Table_fits, D_Table_fits⟩ := c.d.def_ 22 (d := d_Table_fits) rfl
  obtain ⟨fd__law_spoilt, D__law_spoilt⟩ := c.d.def_ 23 (d := d__law_spoilt) rfl
  obtain ⟨fd__law_read_rows, D__law_read_rows⟩ := c.d.def_ 24 (d := d__law_read_rows) rfl
  obtain ⟨fd__law_texts_fit, D__law_texts_fit⟩ := c.d.def_ 25 (d := d__law_texts_fit) rfl
  obtain ⟨fd__law_read, D__law_read⟩ := c.d.def_ 26 (d := d__law_read) rfl
  obtain ⟨fd_Kind_read_shown, D_Kind_read_shown⟩ := c.d.def_ 27 (d := d_Kind_read_shown) rfl
  obtain ⟨fd_rows_read, D_rows_read⟩ := c.d.def_ 28 (d := d_rows_read) rfl
  obtain ⟨fd_Table_read_shown, D_Table_read_shown⟩ := c.d.def_ 29 (d := d_Table_read_shown) rfl
  obtain ⟨fd__law_cell_shown, D__law_cell_shown⟩ := c.d.def_ 30 (d := d__law_cell_shown) rfl
  obtain ⟨fd__law_shown, D__law_shown⟩ := c.d.def_ 31 (d := d__law_shown) rfl
  obtain ⟨fd_law, D_law⟩ := c.d.def_ 32 (d := d_law) rfl
  have t_g_kind_of_word : mg "kind_of_word" = some (.ref (He.ga K "kind_of_word")) := (He.glo_ok X G (c.d.fact 0 (f := .glo "kind_of_word") rfl))
  have t_g__law_kinds_good : mg "_law_kinds_good" = some (.ref (He.ga K "_law_kinds_good")) := (He.glo_ok X G (c.d.fact 1 (f := .glo "_law_kinds_good") rfl))
  have t_g__law_stream : mg "_law_stream" = some (.ref (He.ga K "_law_stream")) := (He.glo_ok X G (c.d.fact 2 (f := .glo "_law_stream") rfl))
  have t_g__law_text : mg "_law_text" = some (.ref (He.ga K "_law_text")) := (He.glo_ok X G (c.d.fact 3 (f := .glo "_law_text") rfl))
  have t_g__law_next : mg "_law_next" = some (.ref (He.ga K "_law_next")) := (He.glo_ok X G (c.d.fact 4 (f := .glo "_law_next") rfl))
  have t_g__law_digits : mg "_law_digits" = some (.ref (He.ga K "_law_digits")) := (He.glo_ok X G (c.d.fact 5 (f := .glo "_law_digits") rfl))
  have t_g__law_table : mg "_law_table" = some (.ref (He.ga K "_law_table")) := (He.glo_ok X G (c.d.fact 6 (f := .glo "_law_table") rfl))
  have t_g__law_content : mg "_law_content" = some (.ref (He.ga K "_law_content")) := (He.glo_ok X G (c.d.fact 7 (f := .glo "_law_content") rfl))
  have t_g__law_odd : mg "_law_odd" = some (.ref (He.ga K "_law_odd")) := (He.glo_ok X G (c.d.fact 8 (f := .glo "_law_odd") rfl))
  have t_g_cell_shown : mg "cell_shown" = some (.ref (He.ga K "cell_shown")) := (He.glo_ok X G (c.d.fact 9 (f := .glo "cell_shown") rfl))
  have t_g__law_cell : mg "_law_cell" = some (.ref (He.ga K "_law_cell")) := (He.glo_ok X G (c.d.fact 10 (f := .glo "_law_cell") rfl))
  have t_g_is_text : mg "is_text" = some (.ref (He.ga K "is_text")) := (He.glo_ok X G (c.d.fact 11 (f := .glo "is_text") rfl))
  have t_g_is_row : mg "is_row" = some (.ref (He.ga K "is_row")) := (He.glo_ok X G (c.d.fact 12 (f := .glo "is_row") rfl))
  have t_g_is_cells : mg "is_cells" = some (.ref (He.ga K "is_cells")) := (He.glo_ok X G (c.d.fact 13 (f := .glo "is_cells") rfl))
  have t_g__law_spoilt : mg "_law_spoilt" = some (.ref (He.ga K "_law_spoilt")) := (He.glo_ok X G (c.d.fact 14 (f := .glo "_law_spoilt") rfl))
  have t_g__law_read_rows : mg "_law_read_rows" = some (.ref (He.ga K "_law_read_rows")) := (He.glo_ok X G (c.d.fact 15 (f := .glo "_law_read_rows") rfl))
  have t_g__law_texts_fit : mg "_law_texts_fit" = some (.ref (He.ga K "_law_texts_fit")) := (He.glo_ok X G (c.d.fact 16 (f := .glo "_law_texts_fit") rfl))
  have t_g__law_read : mg "_law_read" = some (.ref (He.ga K "_law_read")) := (He.glo_ok X G (c.d.fact 17 (f := .glo "_law_read") rfl))
  have t_g_rows_read : mg "rows_read" = some (.ref (He.ga K "rows_read")) := (He.glo_ok X G (c.d.fact 18 (f := .glo "rows_read") rfl))
  have t_g__law_cell_shown : mg "_law_cell_shown" = some (.ref (He.ga K "_law_cell_shown")) := (He.glo_ok X G (c.d.fact 19 (f := .glo "_law_cell_shown") rfl))
  have t_g__law_shown : mg "_law_shown" = some (.ref (He.ga K "_law_shown")) := (He.glo_ok X G (c.d.fact 20 (f := .glo "_law_shown") rfl))
  have t_g_law : mg "law" = some (.ref (He.ga K "law")) := (He.glo_ok X G (c.d.fact 21 (f := .glo "law") rfl))
  have t_f_all : mg "all" = none := He.free_ok X G (c.d.fact 22 (f := .free "all") rfl)
  have t_f_bool : mg "bool" = none := He.free_ok X G (c.d.fact 23 (f := .free "bool") rfl)
  have t_f_enumerate : mg "enumerate" = none := He.free_ok X G (c.d.fact 24 (f := .free "enumerate") rfl)
  have t_f_int : mg "int" = none := He.free_ok X G (c.d.fact 25 (f := .free "int") rfl)
  have t_f_isinstance : mg "isinstance" = none := He.free_ok X G (c.d.fact 26 (f := .free "isinstance") rfl)
  have t_f_len : mg "len" = none := He.free_ok X G (c.d.fact 27 (f := .free "len") rfl)
  have t_f_max : mg "max" = none := He.free_ok X G (c.d.fact 28 (f := .free "max") rfl)
  have t_f_min : mg "min" = none := He.free_ok X G (c.d.fact 29 (f := .free "min") rfl)
  have t_f_ord : mg "ord" = none := He.free_ok X G (c.d.fact 30 (f := .free "ord") rfl)
  have t_f_range : mg "range" = none := He.free_ok X G (c.d.fact 31 (f := .free "range") rfl)
  have t_f_str : mg "str" = none := He.free_ok X G (c.d.fact 32 (f := .free "str") rfl)
  have t_f_tuple : mg "tuple" = none := He.free_ok X G (c.d.fact 33 (f := .free "tuple") rfl)
  have t_k_MOST_COLUMNS : ∃ t, mg "MOST_COLUMNS" = some (.int 6 t) := He.int_ok X G (c.d.fact 34 (f := .int "MOST_COLUMNS" 6) rfl)
  have t_k_MOST_ROWS : ∃ t, mg "MOST_ROWS" = some (.int 6 t) := He.int_ok X G (c.d.fact 35 (f := .int "MOST_ROWS" 6) rfl)
  have t_cls_Chapter : Cls K (He.ga K "Chapter") := He.cls_ok (c.d.fact 36 (f := .cls "Chapter") rfl)
  have t_cls_Para : Cls K (He.ga K "Para") := He.cls_ok (c.d.fact 37 (f := .cls "Para") rfl)
  have t_cls_Table : Cls K (He.ga K "Table") := He.cls_ok (c.d.fact 38 (f := .cls "Table") rfl)
  have t_met_Chapter_fits : Meth K (He.ga K "Chapter") "fits" (He.fAd K ("Kind", some "fits")) := inh_ok (ex_at c.more 0) (He.meth_ok (c.d.fact 39 (f := .meth "Chapter" "fits") rfl))
  have t_met_Chapter_holds : Meth K (He.ga K "Chapter") "holds" (He.fAd K ("Chapter", some "holds")) := He.meth_ok (c.d.fact 40 (f := .meth "Chapter" "holds") rfl)
  have t_met_Chapter_read_shown : Meth K (He.ga K "Chapter") "read_shown" (He.fAd K ("Kind", some "read_shown")) := inh_ok (ex_at c.more 1) (He.meth_ok (c.d.fact 41 (f := .meth "Chapter" "read_shown") rfl))
  have t_met_Chapter_shown : Meth K (He.ga K "Chapter") "shown" (He.fAd K ("Kind", some "shown")) := inh_ok (ex_at c.more 2) (He.meth_ok (c.d.fact 42 (f := .meth "Chapter" "shown") rfl))
  have t_met_Chapter_word : Meth K (He.ga K "Chapter") "word" (He.fAd K ("Chapter", some "word")) := He.meth_ok (c.d.fact 43 (f := .meth "Chapter" "word") rfl)
  have t_met_Para_fits : Meth K (He.ga K "Para") "fits" (He.fAd K ("Kind", some "fits")) := inh_ok (ex_at c.more 3) (He.meth_ok (c.d.fact 44 (f := .meth "Para" "fits") rfl))
  have t_met_Para_holds : Meth K (He.ga K "Para") "holds" (He.fAd K ("Kind", some "holds")) := inh_ok (ex_at c.more 4) (He.meth_ok (c.d.fact 45 (f := .meth "Para" "holds") rfl))
  have t_met_Para_read_shown : Meth K (He.ga K "Para") "read_shown" (He.fAd K ("Kind", some "read_shown")) := inh_ok (ex_at c.more 5) (He.meth_ok (c.d.fact 46 (f := .meth "Para" "read_shown") rfl))
  have t_met_Para_shown : Meth K (He.ga K "Para") "shown" (He.fAd K ("Kind", some "shown")) := inh_ok (ex_at c.more 6) (He.meth_ok (c.d.fact 47 (f := .meth "Para" "shown") rfl))
  have t_met_Para_word : Meth K (He.ga K "Para") "word" (He.fAd K ("Para", some "word")) := He.meth_ok (c.d.fact 48 (f := .meth "Para" "word") rfl)
  have t_met_Table_fits : Meth K (He.ga K "Table") "fits" (He.fAd K ("Table", some "fits")) := He.meth_ok (c.d.fact 49 (f := .meth "Table" "fits") rfl)
  have t_met_Table_holds : Meth K (He.ga K "Table") "holds" (He.fAd K ("Kind", some "holds")) := inh_ok (ex_at c.more 7) (He.meth_ok (c.d.fact 50 (f := .meth "Table" "holds") rfl))
  have t_met_Table_read_shown : Meth K (He.ga K "Table") "read_shown" (He.fAd K ("Table", some "read_shown")) := He.meth_ok (c.d.fact 51 (f := .meth "Table" "read_shown") rfl)
  have t_met_Table_shown : Meth K (He.ga K "Table") "shown" (He.fAd K ("Table", some "shown")) := He.meth_ok (c.d.fact 52 (f := .meth "Table" "shown") rfl)
  have t_met_Table_word : Meth K (He.ga K "Table") "word" (He.fAd K ("Table", some "word")) := He.meth_ok (c.d.fact 53 (f := .meth "Table" "word") rfl)
  have t_new_Chapter : NewK K mg "Chapter" := newB_ok (ex_at c.more 8) (He.glo_ok X G (c.d.fact 54 (f := .glo "Chapter") rfl))
  have t_new_Para : NewK K mg "Para" := newB_ok (ex_at c.more 9) (He.glo_ok X G (c.d.fact 55 (f := .glo "Para") rfl))
  have t_new_Table : NewK K mg "Table" := newB_ok (ex_at c.more 10) (He.glo_ok X G (c.d.fact 56 (f := .glo "Table") rfl))
  have t_isk_Kind : mg "Kind" = some (.ref (He.ga K "Kind")) ∧ ∀ q ∈ tk_Kind, InsC K (He.ga K q.1) ∧ PySem.W.kitOne K (.ref (He.ga K q.1)) (.ref (He.ga K "Kind")) = some q.2 := ⟨(He.glo_ok X G (c.d.fact 57 (f := .glo "Kind") rfl)), (fm ⟨insB_ok (He.cls_ok (c.d.fact 36 (f := .cls "Chapter") rfl)) (ex_at c.more 15), of_decide_eq_true (ex_at c.more 16)⟩ (fm ⟨insB_ok (He.cls_ok (c.d.fact 37 (f := .cls "Para") rfl)) (ex_at c.more 13), of_decide_eq_true (ex_at c.more 14)⟩ (fm ⟨insB_ok (He.cls_ok (c.d.fact 38 (f := .cls "Table") rfl)) (ex_at c.more 11), of_decide_eq_true (ex_at c.more 12)⟩ fn0)))⟩
  have T : Tx K mg := ⟨t_g_kind_of_word, t_g__law_kinds_good, t_g__law_stream, t_g__law_text, t_g__law_next, t_g__law_digits, t_g__law_table, t_g__law_content, t_g__law_odd, t_g_cell_shown, t_g__law_cell, t_g_is_text, t_g_is_row, t_g_is_cells, t_g__law_spoilt, t_g__law_read_rows, t_g__law_texts_fit, t_g__law_read, t_g_rows_read, t_g__law_cell_shown, t_g__law_shown, t_g_law, t_f_all, t_f_bool, t_f_enumerate, t_f_int, t_f_isinstance, t_f_len, t_f_max, t_f_min, t_f_ord, t_f_range, t_f_str, t_f_tuple, t_k_MOST_COLUMNS, t_k_MOST_ROWS, t_cls_Chapter, t_cls_Para, t_cls_Table, t_met_Chapter_fits, t_met_Chapter_holds, t_met_Chapter_read_shown, t_met_Chapter_shown, t_met_Chapter_word, t_met_Para_fits, t_met_Para_holds, t_met_Para_read_shown, t_met_Para_shown, t_met_Para_word, t_met_Table_fits, t_met_Table_holds, t_met_Table_read_shown, t_met_Table_shown, t_met_Table_word, t_new_Chapter, t_new_Para, t_new_Table, t_isk_Kind⟩
  have u_Chapter_word : DefU K "word" "Chapter.word" s_Chapter_word (He.fAd K ("Chapter", some "word")) ["self"] := ⟨fd_Chapter_word, D_Chapter_word, FunD.bindsN D_Chapter_word fun _ _ _ _ _ _ us hl => match us, hl with | [_], _ => rfl⟩
  have u_Para_word : DefU K "word" "Para.word" s_Para_word (He.fAd K ("Para", some "word")) ["self"] := ⟨fd_Para_word, D_Para_word, FunD.bindsN D_Para_word fun _ _ _ _ _ _ us hl => match us, hl with | [_], _ => rfl⟩
  have u_Table_word : DefU K "word" "Table.word" s_Table_word (He.fAd K ("Table", some "word")) ["self"] := ⟨fd_Table_word, D_Table_word, FunD.bindsN D_Table_word fun _ _ _ _ _ _ us hl => match us, hl with | [_], _ => rfl⟩
  have u_kind_of_word : DefU K "kind_of_word" "kind_of_word" s_kind_of_word (He.ga K "kind_of_word") ["word"] := ⟨fd_kind_of_word, D_kind_of_word, FunD.bindsN D_kind_of_word fun _ _ _ _ _ _ us hl => match us, hl with | [_], _ => rfl⟩
  have u_Chapter_holds : DefU K "holds" "Chapter.holds" s_Chapter_holds (He.fAd K ("Chapter", some "holds")) ["self"] := ⟨fd_Chapter_holds, D_Chapter_holds, FunD.bindsN D_Chapter_holds fun _ _ _ _ _ _ us hl => match us, hl with | [_], _ => rfl⟩
  have u_Kind_holds : DefU K "holds" "Kind.holds" s_Kind_holds (He.fAd K ("Kind", some "holds")) ["self"] := ⟨fd_Kind_holds, D_Kind_holds, FunD.bindsN D_Kind_holds fun _ _ _ _ _ _ us hl => match us, hl with | [_], _ => rfl⟩
  have u__law_kinds_good : DefU K "_law_kinds_good" "_law_kinds_good" s__law_kinds_good (He.ga K "_law_kinds_good") [] := ⟨fd__law_kinds_good, D__law_kinds_good, FunD.bindsN D__law_kinds_good fun _ _ _ _ _ _ us hl => match us, hl with | [], _ => rfl⟩
  have u__law_stream : DefU K "_law_stream" "_law_stream" s__law_stream (He.ga K "_law_stream") ["_law_cell_here", "_law_many"] := ⟨fd__law_stream, D__law_stream, FunD.bindsN D__law_stream fun _ _ _ _ _ _ us hl => match us, hl with | [_, _], _ => rfl⟩
  have u__law_text : DefU K "_law_text" "_law_text" s__law_text (He.ga K "_law_text") ["_law_cell_here"] := ⟨fd__law_text, D__law_text, FunD.bindsN D__law_text fun _ _ _ _ _ _ us hl => match us, hl with | [_], _ => rfl⟩
  have u__law_next : DefU K "_law_next" "_law_next" s__law_next (He.ga K "_law_next") ["_law_state", "_law_by"] := ⟨fd__law_next, D__law_next, FunD.bindsN D__law_next fun _ _ _ _ _ _ us hl => match us, hl with | [_, _], _ => rfl⟩
  have u__law_digits : DefU K "_law_digits" "_law_digits" s__law_digits (He.ga K "_law_digits") ["_law_left", "_law_many"] := ⟨fd__law_digits, D__law_digits, FunD.bindsN D__law_digits fun _ _ _ _ _ _ us hl => match us, hl with | [_, _], _ => rfl⟩
  have u__law_table : DefU K "_law_table" "_law_table" s__law_table (He.ga K "_law_table") ["_law_cell_here"] := ⟨fd__law_table, D__law_table, FunD.bindsN D__law_table fun _ _ _ _ _ _ us hl => match us, hl with | [_], _ => rfl⟩
  have u__law_content : DefU K "_law_content" "_law_content" s__law_content (He.ga K "_law_content") ["_law_kind", "_law_cell_here"] := ⟨fd__law_content, D__law_content, FunD.bindsN D__law_content fun _ _ _ _ _ _ us hl => match us, hl with | [_, _], _ => rfl⟩
  have u__law_odd : DefU K "_law_odd" "_law_odd" s__law_odd (He.ga K "_law_odd") ["_law_cell_here"] := ⟨fd__law_odd, D__law_odd, FunD.bindsN D__law_odd fun _ _ _ _ _ _ us hl => match us, hl with | [_], _ => rfl⟩
  have u_Kind_shown : DefU K "shown" "Kind.shown" s_Kind_shown (He.fAd K ("Kind", some "shown")) ["self", "content"] := ⟨fd_Kind_shown, D_Kind_shown, FunD.bindsN D_Kind_shown fun _ _ _ _ _ _ us hl => match us, hl with | [_, _], _ => rfl⟩
  have u_cell_shown : DefU K "cell_shown" "cell_shown" s_cell_shown (He.ga K "cell_shown") ["cell"] := ⟨fd_cell_shown, D_cell_shown, FunD.bindsN D_cell_shown fun _ _ _ _ _ _ us hl => match us, hl with | [_], _ => rfl⟩
  have u_Table_shown : DefU K "shown" "Table.shown" s_Table_shown (He.fAd K ("Table", some "shown")) ["self", "content"] := ⟨fd_Table_shown, D_Table_shown, FunD.bindsN D_Table_shown fun _ _ _ _ _ _ us hl => match us, hl with | [_, _], _ => rfl⟩
  have u__law_cell : DefU K "_law_cell" "_law_cell" s__law_cell (He.ga K "_law_cell") ["_law_script", "_law_k"] := ⟨fd__law_cell, D__law_cell, FunD.bindsN D__law_cell fun _ _ _ _ _ _ us hl => match us, hl with | [_, _], _ => rfl⟩
  have u_is_text : DefU K "is_text" "is_text" s_is_text (He.ga K "is_text") ["thing"] := ⟨fd_is_text, D_is_text, FunD.bindsN D_is_text fun _ _ _ _ _ _ us hl => match us, hl with | [_], _ => rfl⟩
  have u_Kind_fits : DefU K "fits" "Kind.fits" s_Kind_fits (He.fAd K ("Kind", some "fits")) ["self", "content"] := ⟨fd_Kind_fits, D_Kind_fits, FunD.bindsN D_Kind_fits fun _ _ _ _ _ _ us hl => match us, hl with | [_, _], _ => rfl⟩
  have u_is_row : DefU K "is_row" "is_row" s_is_row (He.ga K "is_row") ["thing", "wide"] := ⟨fd_is_row, D_is_row, FunD.bindsN D_is_row fun _ _ _ _ _ _ us hl => match us, hl with | [_, _], _ => rfl⟩
  have u_is_cells : DefU K "is_cells" "is_cells" s_is_cells (He.ga K "is_cells") ["thing"] := ⟨fd_is_cells, D_is_cells, FunD.bindsN D_is_cells fun _ _ _ _ _ _ us hl => match us, hl with | [_], _ => rfl⟩
  have u_Table_fits : DefU K "fits" "Table.fits" s_Table_fits (He.fAd K ("Table", some "fits")) ["self", "content"] := ⟨fd_Table_fits, D_Table_fits, FunD.bindsN D_Table_fits fun _ _ _ _ _ _ us hl => match us, hl with | [_, _], _ => rfl⟩
  have u__law_spoilt : DefU K "_law_spoilt" "_law_spoilt" s__law_spoilt (He.ga K "_law_spoilt") ["_law_text_here", "_law_cell_here", "_law_other"] := ⟨fd__law_spoilt, D__law_spoilt, FunD.bindsN D__law_spoilt fun _ _ _ _ _ _ us hl => match us, hl with | [_, _, _], _ => rfl⟩
  have u__law_read_rows : DefU K "_law_read_rows" "_law_read_rows" s__law_read_rows (He.ga K "_law_read_rows") ["_law_text_here"] := ⟨fd__law_read_rows, D__law_read_rows, FunD.bindsN D__law_read_rows fun _ _ _ _ _ _ us hl => match us, hl with | [_], _ => rfl⟩
  have u__law_texts_fit : DefU K "_law_texts_fit" "_law_texts_fit" s__law_texts_fit (He.ga K "_law_texts_fit") ["_law_text_here"] := ⟨fd__law_texts_fit, D__law_texts_fit, FunD.bindsN D__law_texts_fit fun _ _ _ _ _ _ us hl => match us, hl with | [_], _ => rfl⟩
  have u__law_read : DefU K "_law_read" "_law_read" s__law_read (He.ga K "_law_read") ["_law_kind", "_law_text_here"] := ⟨fd__law_read, D__law_read, FunD.bindsN D__law_read fun _ _ _ _ _ _ us hl => match us, hl with | [_, _], _ => rfl⟩
  have u_Kind_read_shown : DefU K "read_shown" "Kind.read_shown" s_Kind_read_shown (He.fAd K ("Kind", some "read_shown")) ["self", "text"] := ⟨fd_Kind_read_shown, D_Kind_read_shown, FunD.bindsN D_Kind_read_shown fun _ _ _ _ _ _ us hl => match us, hl with | [_, _], _ => rfl⟩
  have u_rows_read : DefU K "rows_read" "rows_read" s_rows_read (He.ga K "rows_read") ["text"] := ⟨fd_rows_read, D_rows_read, FunD.bindsN D_rows_read fun _ _ _ _ _ _ us hl => match us, hl with | [_], _ => rfl⟩
  have u_Table_read_shown : DefU K "read_shown" "Table.read_shown" s_Table_read_shown (He.fAd K ("Table", some "read_shown")) ["self", "text"] := ⟨fd_Table_read_shown, D_Table_read_shown, FunD.bindsN D_Table_read_shown fun _ _ _ _ _ _ us hl => match us, hl with | [_, _], _ => rfl⟩
  have u__law_cell_shown : DefU K "_law_cell_shown" "_law_cell_shown" s__law_cell_shown (He.ga K "_law_cell_shown") ["_law_text_here"] := ⟨fd__law_cell_shown, D__law_cell_shown, FunD.bindsN D__law_cell_shown fun _ _ _ _ _ _ us hl => match us, hl with | [_], _ => rfl⟩
  have u__law_shown : DefU K "_law_shown" "_law_shown" s__law_shown (He.ga K "_law_shown") ["_law_kind", "_law_content_here"] := ⟨fd__law_shown, D__law_shown, FunD.bindsN D__law_shown fun _ _ _ _ _ _ us hl => match us, hl with | [_, _], _ => rfl⟩
  have e := hfa.symm.trans (He.glo_ok X G (c.d.fact 21 (f := .glo "law") rfl))
  cases e
  have b := FunD.bindsA (ps := ["_law_script"]) D_law fun _ _ _ _ _ _ us hl => match us, hl with | [_], _ => rfl
  refine ⟨fd_law, fun s v => b s [v] rfl, fun base _ _ => ?_⟩
  have h_Chapter_word := c_Chapter_word (P' := P') (w := w) (base := base) T u_Chapter_word
  have h_Para_word := c_Para_word (P' := P') (w := w) (base := base) T u_Para_word
  have h_Table_word := c_Table_word (P' := P') (w := w) (base := base) T u_Table_word
  have h_kind_of_word := c_kind_of_word (P' := P') (w := w) (base := base) T h_Table_word h_Para_word h_Chapter_word u_kind_of_word
  have h_Chapter_holds := c_Chapter_holds (P' := P') (w := w) (base := base) T u_Chapter_holds
  have h_Kind_holds := c_Kind_holds (P' := P') (w := w) (base := base) T u_Kind_holds
  have h__law_kinds_good := c__law_kinds_good (P' := P') (w := w) (base := base) T h_kind_of_word h_Table_word h_Para_word h_Chapter_word h_Kind_holds h_Chapter_holds u__law_kinds_good
  have h__law_stream := c__law_stream (P' := P') (w := w) (base := base) T u__law_stream
  have h__law_text := c__law_text (P' := P') (w := w) (base := base) T h__law_stream u__law_text
  have h__law_next := c__law_next (P' := P') (w := w) (base := base) T u__law_next
  have h__law_digits := c__law_digits (P' := P') (w := w) (base := base) T h__law_next u__law_digits
  have h__law_table := c__law_table (P' := P') (w := w) (base := base) T h__law_stream h__law_text u__law_table
  have h__law_content := c__law_content (P' := P') (w := w) (base := base) T h__law_digits h__law_table h__law_text u__law_content
  have h__law_odd := c__law_odd (P' := P') (w := w) (base := base) T u__law_odd
  have h_Kind_shown := c_Kind_shown (P' := P') (w := w) (base := base) T u_Kind_shown
  have h_cell_shown := c_cell_shown (P' := P') (w := w) (base := base) T u_cell_shown
  have h_Table_shown := c_Table_shown (P' := P') (w := w) (base := base) T h_cell_shown u_Table_shown
  have h__law_cell := c__law_cell (P' := P') (w := w) (base := base) T u__law_cell
  have h_is_text := c_is_text (P' := P') (w := w) (base := base) T u_is_text
  have h_Kind_fits := c_Kind_fits (P' := P') (w := w) (base := base) T h_is_text u_Kind_fits
  have h_is_row := c_is_row (P' := P') (w := w) (base := base) T h_is_text u_is_row
  have h_is_cells := c_is_cells (P' := P') (w := w) (base := base) T h_is_row u_is_cells
  have h_Table_fits := c_Table_fits (P' := P') (w := w) (base := base) T h_is_cells h_is_row u_Table_fits
  have h__law_spoilt := c__law_spoilt (P' := P') (w := w) (base := base) T u__law_spoilt
  have h__law_read_rows := c__law_read_rows (P' := P') (w := w) (base := base) T u__law_read_rows
  have h__law_texts_fit := c__law_texts_fit (P' := P') (w := w) (base := base) T u__law_texts_fit
  have h__law_read := c__law_read (P' := P') (w := w) (base := base) T h__law_texts_fit h__law_read_rows u__law_read
  have h_Kind_read_shown := c_Kind_read_shown (P' := P') (w := w) (base := base) T h_Table_fits h_Kind_fits u_Kind_read_shown
  have h_rows_read := c_rows_read (P' := P') (w := w) (base := base) T u_rows_read
  have h_Table_read_shown := c_Table_read_shown (P' := P') (w := w) (base := base) T h_rows_read h_Table_fits h_Kind_fits u_Table_read_shown
  have h__law_cell_shown := c__law_cell_shown (P' := P') (w := w) (base := base) T u__law_cell_shown
  have h__law_shown := c__law_shown (P' := P') (w := w) (base := base) T h__law_cell_shown u__law_shown
  exact law_ok T h__law_kinds_good h_kind_of_word h__law_content h__law_cell h__law_odd h_Table_fits h_Kind_fits h__law_table h__law_text h_Table_shown h_Kind_shown h__law_shown h_Table_read_shown h_Kind_read_shown h__law_spoilt h__law_read D_law
end Pd

open PySem PySem.W PySem.Calls PyProof.Rows
theorem Pd.holds_of (hl : ∀ ns : List Int, ns.length ≤ 63 → Pd.F_law [.list (ns.map Pd.D.int)] = .ok (.bl true)) : PySem.Challenge.rw_manyleaf_k21_contents_shown_and_read.Holds := by
  w_on; o_law
  refine HandSHeadRun.head_any (r := OpenLaw.row PySem.Challenge.rw_manyleaf_k21_contents_shown_and_read) (q := view (OpenLaw.row PySem.Challenge.rw_manyleaf_k21_contents_shown_and_read).prog [31]) (H := Pd.hk) (ob := Pd.ob) (M := 12000) (loose := Pd.loose) (d := HandSHeadRun.topDef (OpenLaw.row PySem.Challenge.rw_manyleaf_k21_contents_shown_and_read).prog 31) (kwd := []) Pd.ob_eq
    (by kernel_rfl) (fun s => by kernel_rfl) Pd.run (by kernel_rfl) (by kernel_rfl) (by kernel_rfl) (by rfl) (by first | assumption | decide +kernel) (by decide +kernel) ⟨rfl, rfl, rfl, rfl, rfl, by decide +kernel⟩ ?hw ?hc
  case hw => w_witness2
  case hc =>
    refine Pd.walk_d (l := PySem.Challenge.rw_manyleaf_k21_contents_shown_and_read) (n := 63) (k := 6) (x := "_law_script") rfl (by decide) (by kernel_rfl) ⟨rfl, by decide, by decide⟩ hl ?F
    intro w mg fa h Y G hmg0
    obtain ⟨K, KX, c⟩ := Y
    have hmg : mg ("law" : PySem.Str) = some (.ref fa) := by
      have e : (HandSHeadRun.topDef (OpenLaw.row PySem.Challenge.rw_manyleaf_k21_contents_shown_and_read).prog 31).name = ("law" : PySem.Str) := by kernel_rfl
      rw [← e]
      exact hmg0
    obtain ⟨fd, hb, hF⟩ := Pd.facts (P' := (PySem.Challenge.rw_manyleaf_k21_contents_shown_and_read).prog) (w := w) KX G hmg c
    exact ⟨K, fd, KX, hb, hF⟩

/-! Pe1: functions of data evaluated: rows for simp, loops by rules -/
namespace Pd
open PySem PySem.Spec PyProof.Rows L2
/-- r, then u -/
def S.then (r : S) (u : Rho → S) : S := match r with
  | .nx ρ => u ρ
  | r => r
def S.pick (p : R Bool) (ρ : Rho) (a b : S) : S := match p with
  | .ok k => if k = true then a else b
  | .ex x => .ex x ρ
  | .st => .st
def S.ofR (r : R D) (ρ : Rho) (k : D → S) : S := match r with
  | .ok d => k d
  | .ex x => .ex x ρ
  | .st => .st
def S.ofI (r : R (List D)) (ρ : Rho) (k : List D → S) : S := match r with
  | .ok d => k d
  | .ex x => .ex x ρ
  | .st => .st
section
variable {s u : Rho → S} {ρ : Rho} {p : Rho → R Bool} {g : Rho → R D} {gi : Rho → R (List D)} {τ : D → Rho → R Rho} {b : Rho → S} {k : Rho → D → S} {i : Nat}
theorem e_seq : sSeq s u ρ = (s ρ).then u := rfl
theorem e_thn (ρ1 : Rho) : (S.nx ρ1).then u = u ρ1 := rfl
theorem e_trt (d : D) : (S.rt d).then u = .rt d := rfl
theorem e_trn (d : D) : (S.rn d).then u = .rn d := rfl
theorem e_tex (x : Ex) (ρ1 : Rho) : (S.ex x ρ1).then u = .ex x ρ1 := rfl
theorem e_tbk (ρ1 : Rho) : (S.bk ρ1).then u = .bk ρ1 := rfl
theorem e_tct (ρ1 : Rho) : (S.ct ρ1).then u = .ct ρ1 := rfl
theorem e_if : sIf p s u ρ = S.pick (p ρ) ρ (s ρ) (u ρ) := rfl
theorem e_pick (k : Bool) (a b : S) : S.pick (.ok k) ρ a b = if k = true then a else b := rfl
theorem e_pickx (x : Ex) (a b : S) : S.pick (.ex x) ρ a b = .ex x ρ := rfl
theorem e_E : sE g k ρ = S.ofR (g ρ) ρ (k ρ) := rfl
theorem e_ofR (d : D) (k : D → S) : S.ofR (.ok d) ρ k = k d := rfl
theorem e_ofRx (x : Ex) (k : D → S) : S.ofR (.ex x) ρ k = .ex x ρ := rfl
theorem e_ret : sRet g ρ = S.ofR (g ρ) ρ fun d => .rt d := rfl
theorem e_retN : sRetN g ρ = S.ofR (g ρ) ρ fun d => .rn d := rfl
theorem e_set : sSet i g ρ = S.ofR (g ρ) ρ fun d => .nx (ρ.set i (some d)) := rfl
theorem e_drop : sDrop g ρ = S.ofR (g ρ) ρ fun _ => .nx ρ := rfl
theorem e_for : sFor gi τ b ρ = S.ofI (gi ρ) ρ fun items => forL τ b items ρ := rfl
theorem e_ofI (d : List D) (k : List D → S) : S.ofI (.ok d) ρ k = k d := rfl
theorem e_ofIx (x : Ex) (k : List D → S) : S.ofI (.ex x) ρ k = .ex x ρ := rfl
theorem e_nil : sNil ρ = .nx ρ := rfl
theorem e_asg : sAsg g τ ρ = S.ofR (g ρ) ρ fun d => match τ d ρ with | .ok ρ' => .nx ρ' | _ => .st := rfl
theorem e_append (ds : List D) (h : ρ[i]? = some (some (.list ds))) : sAppend i g ρ = S.ofR (g ρ) ρ fun d => if ds.length < sizeLine then .nx (ρ.set i (some (.list (ds ++ [d])))) else .st := by
  unfold sAppend
  rw [h]
  rfl
theorem e_retO (d : D) (h : ρ[i]? = some (some d)) : sRetO i ρ = .rn d := by
  unfold sRetO
  rw [h]
theorem e_var (d : D) (h : ρ[i]? = some (some d)) : gVar i ρ = .ok d := by
  unfold gVar
  rw [h]
end
theorem endS_rt (d : D) : endS (.rt d) = .ok d := rfl
theorem endS_rn (d : D) : endS (.rn d) = .ok d := rfl
theorem endS_nx (ρ : Rho) : endS (.nx ρ) = .ok .non := rfl
theorem endS_ex (x : Ex) (ρ : Rho) : endS (.ex x ρ) = .ex x := rfl
theorem endN_rn (d : D) : endN (.rn d) = .ok d := rfl
theorem endN_ex (x : Ex) (ρ : Rho) : endN (.ex x ρ) = .ex x := rfl
/-- a for whose turns are judged by what they come to -/
theorem forL_rule {τ : D → Rho → R Rho} {b : Rho → S} (Post : S → Prop) (Inv : Nat → Rho → Prop) : ∀ (items : List D) (k : Nat) (ρ : Rho), Inv k ρ →
    (∀ j d ρ, items[j]? = some d → Inv (k + j) ρ → ∃ ρ1, τ d ρ = .ok ρ1 ∧ match b ρ1 with
      | .nx ρ2 => Inv (k + j + 1) ρ2
      | .ct ρ2 => Inv (k + j + 1) ρ2
      | .bk ρ2 => Post (.nx ρ2)
      | r => Post r) → (∀ ρ, Inv (k + items.length) ρ → Post (.nx ρ)) → Post (forL τ b items ρ)
  | [], k, ρ, h0, _, hd => hd ρ h0
  | d :: ds, k, ρ, h0, hs, hd => by
    have ih := forL_rule (τ := τ) (b := b) Post Inv ds (k + 1)
    obtain ⟨ρ1, e1, h1⟩ := hs 0 d ρ rfl h0
    have go : ∀ ρ2, Inv (k + 1) ρ2 → Post (forL τ b ds ρ2) := fun ρ2 h2 => by
      refine ih ρ2 h2 (fun j d' ρ' e h => ?_) fun ρ' h => hd ρ' ?_
      · have := hs (j + 1) d' ρ' (by simpa using e) (by rw [show k + (j + 1) = k + 1 + j by omega]; exact h)
        rw [show k + (j + 1) + 1 = k + 1 + j + 1 by omega] at this
        exact this
      · rw [List.length_cons, show k + (ds.length + 1) = k + 1 + ds.length by omega]; exact h
    unfold forL
    rw [e1]
    dsimp only
    cases e2 : b ρ1 with
    | nx ρ2 => rw [e2] at h1; exact go ρ2 h1
    | ct ρ2 => rw [e2] at h1; exact go ρ2 h1
    | bk ρ2 => rw [e2] at h1; exact h1
    | rt d => rw [e2] at h1; exact h1
    | rn d => rw [e2] at h1; exact h1
    | rm d ρ2 => rw [e2] at h1; exact h1
    | ex x ρ2 => rw [e2] at h1; exact h1
    | st => rw [e2] at h1; exact h1
theorem set_set {α : Type} (l : List α) (i : Nat) (a b : α) : (l.set i a).set i b = l.set i b := by
  apply List.ext_getElem?
  intro j
  by_cases h : j = i
  · subst h
    by_cases hl : j < l.length
    · rw [List.getElem?_set_self (by simpa using hl), List.getElem?_set_self hl]
    · rw [List.getElem?_eq_none (by simpa using hl), List.getElem?_eq_none (by simpa using hl)]
  · rw [List.getElem?_set_ne (Ne.symm h), List.getElem?_set_ne (Ne.symm h), List.getElem?_set_ne (Ne.symm h)]
/-- a search: each turn goes on, or hands back v -/
theorem forL_all {i : Nat} {b : Rho → S} (P : D → Bool) (v : S) (hv : (∃ d, v = .rt d) ∨ ∃ d, v = .rn d) (ρ : Rho) : ∀ (items : List D) (ρ0 : Rho), (ρ0 = ρ ∨ ∃ d, ρ0 = ρ.set i (some d)) →
    (∀ d ∈ items, b (ρ.set i (some d)) = if P d = true then .nx (ρ.set i (some d)) else v) → ∃ ρ', (ρ' = ρ ∨ ∃ d, ρ' = ρ.set i (some d)) ∧ forL (τName i) b items ρ0 = if items.all P = true then .nx ρ' else v
  | [], ρ0, h0, _ => ⟨ρ0, h0, rfl⟩
  | d :: ds, ρ0, h0, h => by
    have e : ρ0.set i (some d) = ρ.set i (some d) := by
      rcases h0 with rfl | ⟨d', rfl⟩
      · rfl
      · exact set_set _ _ _ _
    have h1 := h d List.mem_cons_self
    unfold forL τName
    dsimp only
    rw [e, h1, List.all_cons]
    by_cases hp : P d = true
    · rw [if_pos hp, hp, Bool.true_and]
      obtain ⟨ρ', a, c⟩ := forL_all P v hv ρ ds (ρ.set i (some d)) (.inr ⟨d, rfl⟩) fun d' hd => h d' (List.mem_cons_of_mem _ hd)
      exact ⟨ρ', a, c⟩
    · rw [if_neg hp]
      refine ⟨ρ, .inl rfl, ?_⟩
      rw [show P d = false by simpa using hp, Bool.false_and, if_neg Bool.false_ne_true]
      rcases hv with ⟨d', rfl⟩ | ⟨d', rfl⟩ <;> rfl
/-- one list made of another -/
theorem lcR_map {i : Nat} {ge : Rho → R D} {ρ : Rho} (f : D → D) : ∀ (items : List D), (∀ d ∈ items, ge (ρ.set i (some d)) = .ok (f d)) → lcR (τName i) bYes ge ρ items = .ok (items.map f)
  | [], _ => rfl
  | d :: ds, h => by
    unfold lcR τName
    rw [ok_bind]
    show (bYes _).bind _ = _
    unfold bYes
    rw [ok_bind, if_pos rfl, h d List.mem_cons_self, ok_bind]
    have ih := lcR_map (i := i) (ge := ge) (ρ := ρ) f ds fun d' hd => h d' (List.mem_cons_of_mem _ hd)
    unfold τName bYes at ih
    rw [ih]
    rfl
theorem lcR_filter {i : Nat} {p : Rho → R Bool} {ge : Rho → R D} {ρ : Rho} (P : D → Bool) (f : D → D) : ∀ (items : List D), (∀ d ∈ items, p (ρ.set i (some d)) = .ok (P d)) → (∀ d ∈ items, P d = true → ge (ρ.set i (some d)) = .ok (f d)) →
    lcR (τName i) p ge ρ items = .ok ((items.filter P).map f)
  | [], _, _ => rfl
  | d :: ds, h, h2 => by
    unfold lcR τName
    rw [ok_bind]
    show (p (ρ.set i (some d))).bind _ = _
    rw [h d List.mem_cons_self, ok_bind]
    have ih := lcR_filter (i := i) (p := p) (ge := ge) (ρ := ρ) P f ds (fun d' hd => h d' (List.mem_cons_of_mem _ hd)) fun d' hd => h2 d' (List.mem_cons_of_mem _ hd)
    unfold τName at ih
    by_cases hp : P d = true
    · rw [if_pos hp, h2 d List.mem_cons_self hp, ok_bind, ih, List.filter_cons_of_pos hp]
      rfl
    · rw [if_neg hp, ih, List.filter_cons_of_neg hp]
/-- where the first targets are drawn from pairs: the turn is told as a whole -/
theorem lcR_gen {τ : D → Rho → R Rho} {p : Rho → R Bool} {ge : Rho → R D} {ρ : Rho} (f : D → Option D) : ∀ (items : List D),
    (∀ d ∈ items, ∃ ρ1, τ d ρ = .ok ρ1 ∧ ((∃ y, p ρ1 = .ok true ∧ ge ρ1 = .ok y ∧ f d = some y) ∨ (p ρ1 = .ok false ∧ f d = none))) → lcR τ p ge ρ items = .ok (items.filterMap f)
  | [], _ => rfl
  | d :: ds, h => by
    obtain ⟨ρ1, e1, h1⟩ := h d List.mem_cons_self
    have ih := lcR_gen (τ := τ) (p := p) (ge := ge) (ρ := ρ) f ds fun d' hd => h d' (List.mem_cons_of_mem _ hd)
    unfold lcR
    rw [e1, ok_bind]
    rcases h1 with ⟨y, e2, e3, e4⟩ | ⟨e2, e4⟩
    · rw [e2, ok_bind, if_pos rfl, e3, ok_bind, ih, List.filterMap_cons, e4]
      rfl
    · rw [e2, ok_bind, if_neg Bool.false_ne_true, ih, List.filterMap_cons, e4]
theorem small_ok {i : Int} (h : -(2 ^ 62) ≤ i) (h' : i < 2 ^ 62) : small62 i = true := by
  unfold small62
  rw [decide_eq_true h, decide_eq_true h']
  rfl
theorem atI_of {α : Type} {xs : List α} {i : Int} (h0 : 0 ≤ i) (h1 : i < xs.length) : ∃ d, atI xs i = some d ∧ xs[i.toNat]? = some d ∧ d ∈ xs := by
  have hl : i.toNat < xs.length := by omega
  refine ⟨xs[i.toNat], ?_, List.getElem?_eq_getElem hl, List.getElem_mem hl⟩
  have e : i = ((i.toNat : Nat) : Int) := by omega
  have := atI_nat (xs := xs) (j := i.toNat) (v := xs[i.toNat]) (List.getElem?_eq_getElem hl)
  rw [← e] at this
  exact this
theorem e_isi_int_non  : isiD "int" (.non) = .ok (.bl false) := rfl
theorem e_isi_int_bl (b : Bool) : isiD "int" (.bl b) = .ok (.bl true) := rfl
theorem e_isi_int_int (i : Int) : isiD "int" (.int i) = .ok (.bl true) := rfl
theorem e_isi_int_str (z : Str) : isiD "int" (.str z) = .ok (.bl false) := rfl
theorem e_isi_int_list (ds : List D) : isiD "int" (.list ds) = .ok (.bl false) := rfl
theorem e_isi_int_tup (ds : List D) : isiD "int" (.tup ds) = .ok (.bl false) := rfl
theorem e_isi_int_dict (ds : List (Key × D)) : isiD "int" (.dict ds) = .ok (.bl false) := rfl
theorem e_isi_int_dictT (ds : List (List Key × D)) : isiD "int" (.dictT ds) = .ok (.bl false) := rfl
theorem e_isi_bool_non  : isiD "bool" (.non) = .ok (.bl false) := rfl
theorem e_isi_bool_bl (b : Bool) : isiD "bool" (.bl b) = .ok (.bl true) := rfl
theorem e_isi_bool_int (i : Int) : isiD "bool" (.int i) = .ok (.bl false) := rfl
theorem e_isi_bool_str (z : Str) : isiD "bool" (.str z) = .ok (.bl false) := rfl
theorem e_isi_bool_list (ds : List D) : isiD "bool" (.list ds) = .ok (.bl false) := rfl
theorem e_isi_bool_tup (ds : List D) : isiD "bool" (.tup ds) = .ok (.bl false) := rfl
theorem e_isi_bool_dict (ds : List (Key × D)) : isiD "bool" (.dict ds) = .ok (.bl false) := rfl
theorem e_isi_bool_dictT (ds : List (List Key × D)) : isiD "bool" (.dictT ds) = .ok (.bl false) := rfl
theorem e_isi_str_non  : isiD "str" (.non) = .ok (.bl false) := rfl
theorem e_isi_str_bl (b : Bool) : isiD "str" (.bl b) = .ok (.bl false) := rfl
theorem e_isi_str_int (i : Int) : isiD "str" (.int i) = .ok (.bl false) := rfl
theorem e_isi_str_str (z : Str) : isiD "str" (.str z) = .ok (.bl true) := rfl
theorem e_isi_str_list (ds : List D) : isiD "str" (.list ds) = .ok (.bl false) := rfl
theorem e_isi_str_tup (ds : List D) : isiD "str" (.tup ds) = .ok (.bl false) := rfl
theorem e_isi_str_dict (ds : List (Key × D)) : isiD "str" (.dict ds) = .ok (.bl false) := rfl
theorem e_isi_str_dictT (ds : List (List Key × D)) : isiD "str" (.dictT ds) = .ok (.bl false) := rfl
theorem e_isi_list_non  : isiD "list" (.non) = .ok (.bl false) := rfl
theorem e_isi_list_bl (b : Bool) : isiD "list" (.bl b) = .ok (.bl false) := rfl
theorem e_isi_list_int (i : Int) : isiD "list" (.int i) = .ok (.bl false) := rfl
theorem e_isi_list_str (z : Str) : isiD "list" (.str z) = .ok (.bl false) := rfl
theorem e_isi_list_list (ds : List D) : isiD "list" (.list ds) = .ok (.bl true) := rfl
theorem e_isi_list_tup (ds : List D) : isiD "list" (.tup ds) = .ok (.bl false) := rfl
theorem e_isi_list_dict (ds : List (Key × D)) : isiD "list" (.dict ds) = .ok (.bl false) := rfl
theorem e_isi_list_dictT (ds : List (List Key × D)) : isiD "list" (.dictT ds) = .ok (.bl false) := rfl
theorem e_isi_tuple_non  : isiD "tuple" (.non) = .ok (.bl false) := rfl
theorem e_isi_tuple_bl (b : Bool) : isiD "tuple" (.bl b) = .ok (.bl false) := rfl
theorem e_isi_tuple_int (i : Int) : isiD "tuple" (.int i) = .ok (.bl false) := rfl
theorem e_isi_tuple_str (z : Str) : isiD "tuple" (.str z) = .ok (.bl false) := rfl
theorem e_isi_tuple_list (ds : List D) : isiD "tuple" (.list ds) = .ok (.bl false) := rfl
theorem e_isi_tuple_tup (ds : List D) : isiD "tuple" (.tup ds) = .ok (.bl true) := rfl
theorem e_isi_tuple_dict (ds : List (Key × D)) : isiD "tuple" (.dict ds) = .ok (.bl false) := rfl
theorem e_isi_tuple_dictT (ds : List (List Key × D)) : isiD "tuple" (.dictT ds) = .ok (.bl false) := rfl
theorem e_isi_dict_non  : isiD "dict" (.non) = .ok (.bl false) := rfl
theorem e_isi_dict_bl (b : Bool) : isiD "dict" (.bl b) = .ok (.bl false) := rfl
theorem e_isi_dict_int (i : Int) : isiD "dict" (.int i) = .ok (.bl false) := rfl
theorem e_isi_dict_str (z : Str) : isiD "dict" (.str z) = .ok (.bl false) := rfl
theorem e_isi_dict_list (ds : List D) : isiD "dict" (.list ds) = .ok (.bl false) := rfl
theorem e_isi_dict_tup (ds : List D) : isiD "dict" (.tup ds) = .ok (.bl false) := rfl
theorem e_isi_dict_dict (ds : List (Key × D)) : isiD "dict" (.dict ds) = .ok (.bl true) := rfl
theorem e_isi_dict_dictT (ds : List (List Key × D)) : isiD "dict" (.dictT ds) = .ok (.bl true) := rfl
theorem e_asB (b : Bool) : asB (.bl b) = .ok b := rfl
theorem e_lt (i j : Int) : ltD (.int i) (.int j) = .ok (.bl (decide (i < j))) := rfl
theorem e_gt (i j : Int) : gtD (.int i) (.int j) = .ok (.bl (decide (j < i))) := rfl
theorem e_le (i j : Int) : leD (.int i) (.int j) = .ok (.bl (decide (i ≤ j))) := rfl
theorem e_ge (i j : Int) : geD (.int i) (.int j) = .ok (.bl (decide (j ≤ i))) := rfl
theorem e_ltS (i j : Str) : ltD (.str i) (.str j) = .ok (.bl (ltS i j)) := rfl
theorem e_gtS (i j : Str) : gtD (.str i) (.str j) = .ok (.bl (ltS j i)) := rfl
theorem e_eqI (i j : Int) : eqD (.int i) (.int j) = .ok (.bl (i == j)) := rfl
theorem e_eqS (i j : Str) : eqD (.str i) (.str j) = .ok (.bl (i == j)) := rfl
theorem e_eqB (i j : Bool) : eqD (.bl i) (.bl j) = .ok (.bl (i == j)) := rfl
theorem e_neI (i j : Int) : neD (.int i) (.int j) = .ok (.bl (!(i == j))) := rfl
theorem e_neS (i j : Str) : neD (.str i) (.str j) = .ok (.bl (!(i == j))) := rfl
theorem e_neB (i j : Bool) : neD (.bl i) (.bl j) = .ok (.bl (!(i == j))) := rfl
theorem e_addI (i j : Int) : addD (.int i) (.int j) = .ok (.int (i + j)) := rfl
theorem e_iaddI (i j : Int) : iaddD (.int i) (.int j) = .ok (.int (i + j)) := rfl
theorem e_subI (i j : Int) : subD (.int i) (.int j) = .ok (.int (i - j)) := rfl
theorem e_negI (i : Int) : negD (.int i) = .ok (.int (-i)) := rfl
theorem e_andI (i j : Int) : andD (.int i) (.int j) = .ok (.int (Builtin.bitAnd i j)) := rfl
theorem e_orI (i j : Int) : orD (.int i) (.int j) = .ok (.int (Builtin.bitOr i j)) := rfl
theorem e_xorI (i j : Int) : xorD (.int i) (.int j) = .ok (.int (Builtin.bitXor i j)) := rfl
theorem e_modI (i j : Int) (h : 0 < j) : modD (.int i) (.int j) = .ok (.int (i % j)) := by
  show (if decide (0 < j) = true then R.ok (D.int (i % j)) else .st) = _
  rw [if_pos (decide_eq_true h)]
theorem e_fdivI (i j : Int) (h : 0 < j) (h' : j < 1073741824) : fdivD (.int i) (.int j) = .ok (.int (i / j)) := by
  show (if (decide (0 < j) && decide (j < 1073741824)) = true then R.ok (D.int (i / j)) else .st) = _
  rw [decide_eq_true h, decide_eq_true h']
  rfl
theorem e_mulI (i j : Int) (h : small64b i = true ∨ small64b j = true) : mulD (.int i) (.int j) = .ok (.int (i * j)) := by
  show (if (small64b i || small64b j) = true then R.ok (D.int (i * j)) else .st) = _
  rw [if_pos (by rw [Bool.or_eq_true]; exact h)]
theorem s64 {i : Int} (h : -(2 ^ 64) < i) (h' : i < 2 ^ 64) : small64b i = true := by
  unfold small64b
  rw [decide_eq_true h, decide_eq_true h']
  rfl
theorem e_shrI (i j : Int) (h : 0 ≤ j) : shrD (.int i) (.int j) = .ok (.int (i / 2 ^ j.toNat)) := by
  show (if decide (0 ≤ j) = true then R.ok (D.int (i / 2 ^ j.toNat)) else .st) = _
  rw [if_pos (decide_eq_true h)]
theorem e_shlI (i j : Int) (h : CPow i j) : shlD (.int i) (.int j) = .ok (.int (i * 2 ^ j.toNat)) := by
  show (if powOk i j = true then R.ok (D.int (i * 2 ^ j.toNat)) else .st) = _
  rw [if_pos (by unfold powOk; rw [decide_eq_true h.1, decide_eq_true h.2.1, decide_eq_true h.2.2]; rfl)]
theorem e_powI (i j : Int) (h : CPow i j) : powD (.int i) (.int j) = .ok (.int (i ^ j.toNat)) := by
  show (if powOk i j = true then R.ok (D.int (i ^ j.toNat)) else .st) = _
  rw [if_pos (by unfold powOk; rw [decide_eq_true h.1, decide_eq_true h.2.1, decide_eq_true h.2.2]; rfl)]
theorem line_small {n : Nat} (h : n ≤ 16777216) : n ≤ sizeLine := by rw [sizeLine_eq]; exact h
theorem e_addS (i j : Str) (h : i.length + j.length ≤ 16777216) : addD (.str i) (.str j) = .ok (.str (i ++ j)) := if_pos (line_small h)
theorem e_iaddS (i j : Str) (h : i.length + j.length ≤ 16777216) : iaddD (.str i) (.str j) = .ok (.str (i ++ j)) := if_pos (line_small h)
theorem e_addL (i j : List D) (h : i.length + j.length ≤ 16777216) : addD (.list i) (.list j) = .ok (.list (i ++ j)) := if_pos (line_small h)
theorem e_addT (i j : List D) (h : i.length + j.length ≤ 16777216) : addD (.tup i) (.tup j) = .ok (.tup (i ++ j)) := if_pos (line_small h)
theorem e_lenL (ds : List D) : lenD [.list ds] = .ok (.int ds.length) := rfl
theorem e_lenT (ds : List D) : lenD [.tup ds] = .ok (.int ds.length) := rfl
theorem e_lenS (z : Str) (h : z.length ≤ 16777216) : lenD [.str z] = .ok (.int z.length) := if_pos (line_small h)
theorem e_ord (c : Nat) : ordD [.str ⟨#[c]⟩] = .ok (.int c) := rfl
theorem e_intB (b : Bool) : intD [.bl b] = .ok (.int (if b then 1 else 0)) := rfl
theorem e_intI (i : Int) : intD [.int i] = .ok (.int i) := rfl
theorem e_lst (ds : List D) (h : ds.length ≤ 16777216) : lstD ds = .ok (.list ds) := if_pos (line_small h)
theorem e_tup (ds : List D) (h : ds.length ≤ 16777216) : tupD ds = .ok (.tup ds) := if_pos (line_small h)
theorem e_ixL (ds : List D) (i : Int) (d : D) (h : atI ds i = some d) : ixD (.list ds) (.int i) = .ok d := by
  show (match atI ds i with | some d => R.ok d | none => .st) = _
  rw [h]
theorem e_ixT (ds : List D) (i : Int) (d : D) (h : atI ds i = some d) : ixD (.tup ds) (.int i) = .ok d := by
  show (match atI ds i with | some d => R.ok d | none => .st) = _
  rw [h]
theorem e_ixS (z : Str) (i : Int) (c : Nat) (hz : z.length ≤ 16777216) (h : atI z.cps.toList i = some c) : ixD (.str z) (.int i) = .ok (.str ⟨#[c]⟩) := by
  show (if z.length ≤ sizeLine then (match atI z.cps.toList i with | some c => R.ok (D.str ⟨#[c]⟩) | none => .st) else .st) = _
  rw [if_pos (line_small hz), h]
theorem e_inS (i j : Str) : inDD (.str i) (.str j) = .ok (.bl (hasSub j i)) := rfl
theorem e_ninS (i j : Str) : notInDD (.str i) (.str j) = .ok (.bl (!hasSub j i)) := rfl
theorem e_inL (d : D) (ds : List D) (h : (flD d && ds.all flD) = true) : inDD d (.list ds) = .ok (.bl (ds.any fun z => eqvD z d)) := by
  have e : inD d (.list ds) = .ok (ds.any fun z => eqvD z d) := by
    have e1 : inD d (.list ds) = (if (flD d && ds.all flD) = true then R.ok (ds.any fun z => eqvD z d) else if (D.sh d && D.sh (.list ds)) = true then .ok (ds.any fun z => eqvD z d) else .st) := by
      cases d <;> rfl
    rw [e1, if_pos h]
  unfold inDD
  rw [e]
  rfl
theorem e_ninL (d : D) (ds : List D) (h : (flD d && ds.all flD) = true) : notInDD d (.list ds) = .ok (.bl (!ds.any fun z => eqvD z d)) := by
  have e : inD d (.list ds) = .ok (ds.any fun z => eqvD z d) := by
    have e1 : inD d (.list ds) = (if (flD d && ds.all flD) = true then R.ok (ds.any fun z => eqvD z d) else if (D.sh d && D.sh (.list ds)) = true then .ok (ds.any fun z => eqvD z d) else .st) := by
      cases d <;> rfl
    rw [e1, if_pos h]
  unfold notInDD
  rw [e]
  rfl
theorem e_inT (d : D) (ds : List D) (h : (flD d && ds.all flD) = true) : inDD d (.tup ds) = .ok (.bl (ds.any fun z => eqvD z d)) := by
  have e : inD d (.tup ds) = .ok (ds.any fun z => eqvD z d) := by
    have e1 : inD d (.tup ds) = (if (flD d && ds.all flD) = true then R.ok (ds.any fun z => eqvD z d) else .st) := by
      cases d <;> rfl
    rw [e1, if_pos h]
  unfold inDD
  rw [e]
  rfl
theorem e_ninT (d : D) (ds : List D) (h : (flD d && ds.all flD) = true) : notInDD d (.tup ds) = .ok (.bl (!ds.any fun z => eqvD z d)) := by
  have e : inD d (.tup ds) = .ok (ds.any fun z => eqvD z d) := by
    have e1 : inD d (.tup ds) = (if (flD d && ds.all flD) = true then R.ok (ds.any fun z => eqvD z d) else .st) := by
      cases d <;> rfl
    rw [e1, if_pos h]
  unfold notInDD
  rw [e]
  rfl
theorem e_seqL (g : Rho → R D) (ρ : Rho) (ds : List D) (h : g ρ = .ok (.list ds)) : iSeq g ρ = .ok ds := by unfold iSeq; rw [h]; rfl
theorem e_itL (ds : List D) : itemsD (.list ds) = .ok ds := rfl
theorem e_itT (ds : List D) : itemsD (.tup ds) = .ok ds := rfl
theorem e_itS (z : Str) : itemsD (.str z) = .ok (signs z) := rfl
theorem e_rng1 (j : Int) (h : small62 j = true) : rangeD1 [.int j] = .ok (rngL 0 j.toNat) := if_pos h
theorem e_rng2 (i j : Int) (h : (small62 i && small62 j) = true) : rangeD2 [.int i, .int j] = .ok (rngL i (j - i).toNat) := if_pos h
theorem e_zip (a b : List D) : zipD [.list a, .list b] = .ok (zipL a b) := rfl
theorem e_enum (a : List D) : enumD [.list a] = .ok (enumL 0 a) := rfl
theorem e_slL (ds : List D) (lo hi : Option Int) : slD (.list ds) lo hi = .ok (.list (cutD ds lo hi)) := rfl
theorem e_slT (ds : List D) (lo hi : Option Int) : slD (.tup ds) lo hi = .ok (.tup (cutD ds lo hi)) := rfl
theorem e_slS (z : Str) (lo hi : Option Int) (h : z.length ≤ 16777216) : slD (.str z) lo hi = .ok (.str (cutS z lo hi)) := if_pos (line_small h)
theorem e_asI (i : Int) : asI (.int i) = .ok (some i) := rfl
theorem e_isN1 : isND .non .non = .ok (.bl true) := rfl
theorem e_isN2 (i : Int) : isND (.int i) .non = .ok (.bl false) := rfl
theorem e_notN1 : notND .non .non = .ok (.bl false) := rfl
theorem e_notN2 (i : Int) : notND (.int i) .non = .ok (.bl true) := rfl
theorem e_truB (b : Bool) : truD (.bl b) = .ok b := rfl
theorem e_truI (i : Int) : truD (.int i) = .ok (i != 0) := rfl
theorem e_truL (ds : List D) : truD (.list ds) = .ok (!ds.isEmpty) := rfl
theorem e_lc (items ys : List D) (gi : Rho → R (List D)) (vs : List Nat) (τ : D → Rho → R Rho) (p : Rho → R Bool) (ge : Rho → R D) (ρ : Rho) (h : gi ρ = .ok items) (hz : items.length ≤ 16777216) (e : lcR τ p ge (wipeR ρ vs) items = .ok ys) : gLc gi vs τ p ge ρ = .ok (.list ys) := by
  unfold gLc
  rw [h, ok_bind, if_pos (line_small hz), e]
  rfl
theorem e_mtS (f : D → List D → R D) (go : Rho → R D) (t : Rho → R (List D)) (ρ : Rho) (z : Str) (h : go ρ = .ok (.str z)) : gMt "str" f go t ρ = (t ρ).bind fun ds => f (.str z) ds := by
  unfold gMt
  rw [h]
  rfl
theorem strs_map (ys : List Str) : strsOf (ys.map D.str) = some ys := by
  induction ys with
  | nil => rfl
  | cons y ys ih =>
    show (strsOf (ys.map D.str)).map (y :: ·) = _
    rw [ih]
    rfl
theorem e_join (a : Str) (ys : List Str) (h : joinOk a ys = true) : joinD (.str a) [.list (ys.map D.str)] = .ok (.str (Txt.join a ys)) := by
  show joinSeq a (ys.map D.str) = _
  unfold joinSeq
  rw [strs_map]
  dsimp only
  rw [if_pos h]
/-! ### ifs -/
theorem e_iteAnd (k x : Bool) : (if k = true then R.ok x else R.ok false) = R.ok (k && x) := by cases k <;> rfl
theorem e_iteOr (k x : Bool) : (if k = true then R.ok true else R.ok x) = R.ok (k || x) := by cases k <;> rfl
theorem e_iteAndD (k x : Bool) : (if k = true then R.ok (D.bl x) else R.ok (D.bl false)) = R.ok (D.bl (k && x)) := by cases k <;> rfl
theorem e_iteOrD (k x : Bool) : (if k = true then R.ok (D.bl true) else R.ok (D.bl x)) = R.ok (D.bl (k || x)) := by cases k <;> rfl
section
variable {c : Prop} [Decidable c]
theorem e_then_ite (a b : S) (u : Rho → S) : (if c then a else b).then u = if c then a.then u else b.then u := by split <;> rfl
theorem e_endS_ite (a b : S) : endS (if c then a else b) = if c then endS a else endS b := by split <;> rfl
theorem e_endN_ite (a b : S) : endN (if c then a else b) = if c then endN a else endN b := by split <;> rfl
theorem e_ofR_ite (a b : R D) (ρ : Rho) (k : D → S) : S.ofR (if c then a else b) ρ k = if c then S.ofR a ρ k else S.ofR b ρ k := by split <;> rfl
theorem e_pick_ite (a b : R Bool) (ρ : Rho) (s u : S) : S.pick (if c then a else b) ρ s u = if c then S.pick a ρ s u else S.pick b ρ s u := by split <;> rfl
theorem e_bind_ite {α β : Type} (a b : R α) (f : α → R β) : (if c then a else b).bind f = if c then a.bind f else b.bind f := by split <;> rfl
end
theorem e_powN (i : Int) (j : Int) (h : powOk i j = true) : powD (.int i) (.int j) = .ok (.int (i ^ j.toNat)) := if_pos h
/-- with what a function of data comes to -/
theorem endS_of (r : R D) (ρ : Rho) : endS (S.ofR r ρ fun d => S.rt d) = r := by cases r <;> rfl
theorem e_mul1 (i j : Int) (h : (-18446744073709551616 < i ∧ i < 18446744073709551616) ∨ (-18446744073709551616 < j ∧ j < 18446744073709551616)) : mulD (.int i) (.int j) = .ok (.int (i * j)) :=
  e_mulI i j (h.imp (fun q => s64 (by have := q.1; omega) (by have := q.2; omega)) fun q => s64 (by have := q.1; omega) (by have := q.2; omega))
theorem e_pow10 (j : Int) (h0 : 0 ≤ j) (h1 : j ≤ 1000000) : powD (.int 10) (.int j) = .ok (.int (10 ^ j.toNat)) := e_powI 10 j ⟨h0, h1, by decide⟩
theorem e_pow2 (j : Int) (h0 : 0 ≤ j) (h1 : j ≤ 1000000) : powD (.int 2) (.int j) = .ok (.int (2 ^ j.toNat)) := e_powI 2 j ⟨h0, h1, by decide⟩
theorem e_shl1 (j : Int) (h0 : 0 ≤ j) (h1 : j ≤ 1000000) : shlD (.int 1) (.int j) = .ok (.int (2 ^ j.toNat)) := by
  rw [e_shlI 1 j ⟨h0, h1, by decide⟩, Int.one_mul]
theorem lcR_ex {i : Nat} {ge : Rho → R D} {ρ : Rho} (P : D → Prop) : ∀ (items : List D), (∀ d ∈ items, ∃ y, ge (ρ.set i (some d)) = .ok y ∧ P y) → ∃ ys, lcR (τName i) bYes ge ρ items = .ok ys ∧ ys.length = items.length ∧ ∀ y ∈ ys, P y
  | [], _ => ⟨[], rfl, rfl, fun _ h => nomatch h⟩
  | d :: ds, h => by
    obtain ⟨y, e, p⟩ := h d List.mem_cons_self
    obtain ⟨ys, e2, l, ps⟩ := lcR_ex (i := i) (ge := ge) (ρ := ρ) P ds fun d' hd => h d' (List.mem_cons_of_mem _ hd)
    refine ⟨y :: ys, ?_, by rw [List.length_cons, List.length_cons, l], fun z hz => ?_⟩
    · unfold lcR τName bYes
      unfold τName bYes at e2
      rw [ok_bind, ok_bind, if_pos rfl, e, ok_bind, e2, ok_bind]
    · rcases List.mem_cons.mp hz with rfl | hz
      · exact p
      · exact ps z hz
theorem strs_ex (Q : Str → Prop) : ∀ (ys : List D), (∀ y ∈ ys, ∃ s, y = .str s ∧ Q s) → ∃ zs : List Str, ys = zs.map D.str ∧ ∀ z ∈ zs, Q z
  | [], _ => ⟨[], rfl, fun _ h => nomatch h⟩
  | y :: ys, h => by
    obtain ⟨s, rfl, q⟩ := h y List.mem_cons_self
    obtain ⟨zs, rfl, qs⟩ := strs_ex Q ys fun y' hy => h y' (List.mem_cons_of_mem _ hy)
    refine ⟨s :: zs, rfl, fun z hz => ?_⟩
    rcases List.mem_cons.mp hz with rfl | hz
    · exact q
    · exact qs z hz
theorem mem_rng {lo : Int} {n : Nat} {d : D} (h : d ∈ rngL lo n) : ∃ k : Nat, k < n ∧ d = .int (lo + k) := by
  unfold rngL at h
  obtain ⟨k, hk, rfl⟩ := List.mem_map.mp h
  exact ⟨k, List.mem_range.mp hk, rfl⟩
theorem rng_len (lo : Int) (n : Nat) : (rngL lo n).length = n := by unfold rngL; simp
theorem len_app (a b : Str) : (a ++ b).length = a.length + b.length := by
  rw [TL.len_tl, TL.len_tl, TL.len_tl, TL.tl_append, List.length_append]
theorem joinL_nil : ∀ l : List (List Nat), TL.joinL [] l = l.flatten
  | [] => rfl
  | [p] => by simp [TL.joinL]
  | p :: q :: r => by
    show p ++ ([] ++ TL.joinL [] (q :: r)) = _
    rw [joinL_nil (q :: r)]
    simp
theorem tl_joinE (zs : List Str) : TL.tl (Txt.join "" zs) = (zs.map TL.tl).flatten := by
  rw [TL.join_eq, TL.tl_join]
  exact joinL_nil _
theorem joinE_len (zs : List Str) : (Txt.join "" zs).length = (zs.map (·.length)).sum := by
  rw [TL.len_tl, tl_joinE, List.length_flatten, List.map_map]
  congr 1
theorem sum_one : ∀ (zs : List Str), (∀ z ∈ zs, z.length = 1) → (zs.map (·.length)).sum = zs.length
  | [], _ => rfl
  | z :: zs, h => by
    rw [List.map_cons, List.sum_cons, h z List.mem_cons_self, sum_one zs fun z' hz => h z' (List.mem_cons_of_mem _ hz), List.length_cons]
    omega
/-- a while, turn by turn -/
theorem whileL_rule {p : Rho → R Bool} {b : Rho → S} (Post : S → Prop) (Inv : Rho → Prop) (μ : Rho → Nat) (hs : ∀ ρ, Inv ρ → (p ρ = .ok false ∧ Post (.nx ρ)) ∨ (p ρ = .ok true ∧ match b ρ with
      | .nx ρ2 => Inv ρ2 ∧ μ ρ2 < μ ρ
      | .ct ρ2 => Inv ρ2 ∧ μ ρ2 < μ ρ
      | .bk ρ2 => Post (.nx ρ2)
      | r => Post r)) : ∀ (n : Nat) (ρ : Rho), μ ρ < n → Inv ρ → Post (whileL p b n ρ)
  | 0, ρ, h, _ => absurd h (Nat.not_lt_zero _)
  | n + 1, ρ, h, i => by
    have ih := whileL_rule Post Inv μ hs n
    unfold whileL
    rcases hs ρ i with ⟨e, q⟩ | ⟨e, q⟩
    · rw [e]
      exact q
    · rw [e]
      dsimp only
      rw [if_pos rfl]
      cases e2 : b ρ with
      | nx ρ2 => rw [e2] at q; exact ih ρ2 (by have := q.2; omega) q.1
      | ct ρ2 => rw [e2] at q; exact ih ρ2 (by have := q.2; omega) q.1
      | bk ρ2 => rw [e2] at q; exact q
      | rt d => rw [e2] at q; exact q
      | rn d => rw [e2] at q; exact q
      | rm d ρ2 => rw [e2] at q; exact q
      | ex x ρ2 => rw [e2] at q; exact q
      | st => rw [e2] at q; exact q
/-- scalars that == may be asked of at any depth -/
def okS : D → Bool
  | .non => true | .bl _ => true | .int _ => true
  | .str s => PyData.strOk s
  | _ => false
theorem okS_sh {d : D} (h : okS d = true) : D.flat d = true ∧ d.py.canLay0 = true ∧ d.py.depth = 0 := by
  cases d with
  | non => exact ⟨rfl, rfl, rfl⟩
  | bl b => exact ⟨rfl, rfl, rfl⟩
  | int b => exact ⟨rfl, rfl, rfl⟩
  | str b => exact ⟨rfl, h, rfl⟩
  | _ => cases h
/-- data of scalars, lists and tuples, so deep at most -/
def shN : Nat → D → Bool
  | _, .non => true | _, .bl _ => true | _, .int _ => true
  | _, .str s => PyData.strOk s
  | n + 1, .list ds => ds.all (shN n)
  | n + 1, .tup ds => ds.all (shN n)
  | _, _ => false
theorem shN_all {n : Nat} (ih : ∀ d, shN n d = true → D.flat d = true ∧ d.py.canLay0 = true ∧ d.py.depth ≤ n) : ∀ ds : List D, ds.all (shN n) = true → D.flatAll ds = true ∧ PyData.canLayAll0 (D.pyAll ds) = true ∧ PyData.depthAll (D.pyAll ds) ≤ n
  | [], _ => ⟨rfl, rfl, Nat.zero_le _⟩
  | d :: ds, h => by
    rw [List.all_cons, Bool.and_eq_true] at h
    obtain ⟨a, b, c⟩ := ih d h.1
    obtain ⟨a2, b2, c2⟩ := shN_all ih ds h.2
    refine ⟨?_, ?_, ?_⟩
    · show (D.flat d && D.flatAll ds) = true
      rw [a, a2]; rfl
    · show (d.py.canLay0 && PyData.canLayAll0 (D.pyAll ds)) = true
      rw [b, b2]; rfl
    · show max d.py.depth (PyData.depthAll (D.pyAll ds)) ≤ n
      omega
theorem shN_ok : ∀ (n : Nat) (d : D), shN n d = true → D.flat d = true ∧ d.py.canLay0 = true ∧ d.py.depth ≤ n
  | n, .non, _ => ⟨rfl, rfl, Nat.zero_le _⟩
  | n, .bl _, _ => ⟨rfl, rfl, Nat.zero_le _⟩
  | n, .int _, _ => ⟨rfl, rfl, Nat.zero_le _⟩
  | n, .str s, h => ⟨rfl, by cases n <;> exact h, Nat.zero_le _⟩
  | 0, .list _, h => by cases h
  | 0, .tup _, h => by cases h
  | n + 1, .list ds, h => by
    obtain ⟨a, b, c⟩ := shN_all (shN_ok n) ds h
    exact ⟨a, b, Nat.succ_le_succ c⟩
  | n + 1, .tup ds, h => by
    obtain ⟨a, b, c⟩ := shN_all (shN_ok n) ds h
    exact ⟨a, b, Nat.succ_le_succ c⟩
  | n, .dict _, h => by cases n <;> cases h
  | n, .dictT _, h => by cases n <;> cases h
  | n, .obj _ _, h => by cases n <;> cases h
  | n, .loc _, h => by cases n <;> cases h
  | n, .adr _, h => by cases n <;> cases h
theorem sh_of (n : Nat) {d : D} (h : shN n d = true) (hn : n ≤ 64 := by decide) : D.sh d = true := by
  obtain ⟨a, b, c⟩ := shN_ok n d h
  unfold D.sh SeqAt.shaped
  rw [a, b, decide_eq_true (by omega)]
  rfl
theorem e_eqSh (d e : D) (h : D.sh d = true) (h' : D.sh e = true) : eqD d e = .ok (.bl (eqvD d e)) := by
  unfold eqD
  by_cases hs : scD d e = true
  · rw [if_pos hs]
  · rw [if_neg hs, h, h']
    rfl
theorem e_neSh (d e : D) (h : D.sh d = true) (h' : D.sh e = true) : neD d e = .ok (.bl (!eqvD d e)) := by
  unfold neD
  by_cases hs : scD d e = true
  · rw [if_pos hs]
  · rw [if_neg hs, h, h']
    rfl
theorem and_bd (x : Int) (y : Nat) : 0 ≤ Builtin.bitAnd x (y : Int) ∧ Builtin.bitAnd x (y : Int) ≤ (y : Int) := by
  unfold Builtin.bitAnd
  have hy : decide (0 ≤ (y : Int)) = true := decide_eq_true (by omega)
  rw [hy]
  by_cases hx : 0 ≤ x
  · rw [decide_eq_true hx]
    have h : x.toNat &&& ((y : Int).toNat) ≤ (y : Int).toNat := Nat.and_le_right
    show 0 ≤ ((x.toNat &&& (y : Int).toNat : Nat) : Int) ∧ ((x.toNat &&& (y : Int).toNat : Nat) : Int) ≤ (y : Int)
    omega
  · rw [decide_eq_false hx]
    have h : (y : Int).toNat &&& (Builtin.bitNot x).toNat ≤ (y : Int).toNat := Nat.and_le_left
    show 0 ≤ (y : Int) - (((y : Int).toNat &&& (Builtin.bitNot x).toNat : Nat) : Int) ∧ (y : Int) - (((y : Int).toNat &&& (Builtin.bitNot x).toNat : Nat) : Int) ≤ (y : Int)
    omega
/-- a for whose every turn goes on -/
theorem forL_nx {τ : D → Rho → R Rho} {b : Rho → S} (Inv : Nat → Rho → Prop) : ∀ (items : List D) (k : Nat) (ρ : Rho), Inv k ρ →
    (∀ j d ρ, items[j]? = some d → Inv (k + j) ρ → ∃ ρ1 ρ2, τ d ρ = .ok ρ1 ∧ b ρ1 = .nx ρ2 ∧ Inv (k + j + 1) ρ2) → ∃ ρ', forL τ b items ρ = .nx ρ' ∧ Inv (k + items.length) ρ'
  | [], k, ρ, h, _ => ⟨ρ, rfl, h⟩
  | d :: ds, k, ρ, h, hs => by
    obtain ⟨ρ1, ρ2, e1, e2, h2⟩ := hs 0 d ρ rfl h
    obtain ⟨ρ', e3, h3⟩ := forL_nx Inv ds (k + 1) ρ2 h2 fun j d' ρ' e i => by
      have := hs (j + 1) d' ρ' (by simpa using e) (by rw [show k + (j + 1) = k + 1 + j by omega]; exact i)
      rw [show k + (j + 1) + 1 = k + 1 + j + 1 by omega] at this
      exact this
    refine ⟨ρ', ?_, ?_⟩
    · unfold forL
      rw [e1]
      dsimp only
      rw [e2]
      exact e3
    · rw [List.length_cons, show k + (ds.length + 1) = k + 1 + ds.length by omega]
      exact h3
end Pd

/-! Pe2: texts by their signs, places of short lists, loops and comprehensions taken out of a goal -/
namespace Pd
open PySem PySem.Spec PyProof.Rows L2
/-! ### texts -/
abbrev cps (s : Str) : List Nat := s.cps.toList
theorem cps_len (s : Str) : s.length = (cps s).length := TL.len_tl s
theorem cps_app (a b : Str) : cps (a ++ b) = cps a ++ cps b := TL.tl_append a b
theorem cps_cut (z : Str) (lo hi : Option Int) : cps (cutS z lo hi) = cutD (cps z) lo hi := by
  unfold cutS cutD cps
  rw [TL.len_tl z]
theorem cutD_pre {α : Type} (xs : List α) (k : Nat) : cutD xs none (some (k : Int)) = xs.take k := by
  unfold cutD
  rw [HT.sIx_none, HT.sIx_nat, List.drop_zero, Nat.sub_zero]
  by_cases h : k ≤ xs.length
  · rw [Nat.min_eq_left h]
  · rw [Nat.min_eq_right (by omega), List.take_length, List.take_of_length_le (by omega)]
theorem cutD_suf {α : Type} (xs : List α) (k : Nat) : cutD xs (some (k : Int)) none = xs.drop k := by
  unfold cutD
  rw [HT.sIx_none, HT.sIx_nat]
  by_cases h : k ≤ xs.length
  · rw [Nat.min_eq_left h, List.take_of_length_le (by rw [List.length_drop]; omega)]
  · rw [Nat.min_eq_right (by omega), List.drop_length, List.drop_of_length_le (by omega), List.take_nil]
theorem cps_join (zs : List Str) : cps (Txt.join "" zs) = (zs.map cps).flatten := tl_joinE zs
/-- all signs of s are signs of g -/
def Sub (g s : Str) : Prop := ∀ c ∈ cps s, c ∈ cps g
theorem Sub.app {g a b : Str} (h : Sub g a) (h' : Sub g b) : Sub g (a ++ b) := fun c hc => by
  rw [cps_app] at hc
  rcases List.mem_append.mp hc with h1 | h1
  · exact h c h1
  · exact h' c h1
theorem Sub.cut {g a : Str} (h : Sub g a) (lo hi : Option Int) : Sub g (cutS a lo hi) := fun c hc => by
  rw [cps_cut] at hc
  exact h c (List.mem_of_mem_drop (List.mem_of_mem_take hc))
theorem Sub.trans {f g a : Str} (h : Sub f g) (h' : Sub g a) : Sub f a := fun c hc => h c (h' c hc)
theorem Sub.join {g : Str} {zs : List Str} (h : ∀ z ∈ zs, Sub g z) : Sub g (Txt.join "" zs) := fun c hc => by
  rw [cps_join] at hc
  obtain ⟨l, hl, hc⟩ := List.mem_flatten.mp hc
  obtain ⟨z, hz, rfl⟩ := List.mem_map.mp hl
  exact h z hz c hc
theorem Sub.refl (g : Str) : Sub g g := fun _ h => h
theorem Sub.emp (g : Str) : Sub g "" := fun c hc => by
  have e : cps "" = [] := by decide +kernel
  rw [e] at hc
  cases hc
theorem ix_sub (z : Str) (i : Int) (hz : z.length ≤ 16777216) (h0 : 0 ≤ i) (h1 : i < (z.length : Int)) : ∃ q : Str, ixD (.str z) (.int i) = .ok (.str q) ∧ q.length = 1 ∧ Sub z q := by
  obtain ⟨c, e, _, m⟩ := atI_of (xs := z.cps.toList) h0 (by rw [← TL.len_tl]; exact h1)
  refine ⟨⟨#[c]⟩, e_ixS z i c hz e, rfl, fun x hx => ?_⟩
  have : x = c := by simpa using hx
  rw [this]
  exact m
theorem len_cut_pre (z : Str) (k : Nat) : (cutS z none (some (k : Int))).length = min k z.length := by
  rw [cps_len, cps_cut, cutD_pre, List.length_take, cps_len]
theorem len_cut_suf (z : Str) (k : Nat) : (cutS z (some (k : Int)) none).length = z.length - k := by
  rw [cps_len, cps_cut, cutD_suf, List.length_drop, cps_len]
theorem strOk_of {s : Str} (h : ∀ c ∈ cps s, c < 1114112) : PyData.strOk s = true := by
  unfold PyData.strOk
  rw [Array.all_eq_true']
  intro c hc
  exact decide_eq_true (h c (Array.mem_toList_iff.mpr hc))
theorem joinE_ok {zs : List Str} (h : (zs.map (·.length)).sum ≤ 16777216) : joinOk "" zs = true := by
  unfold joinOk
  have : (("" : Str).length) = 0 := by decide +kernel
  rw [this, Nat.mul_zero, Nat.add_zero]
  exact decide_eq_true h
/-! ### places of short lists -/
section
variable (a b c d e f g h i : D) (r : List D)
theorem e_ixL0 : ixD (.list (a :: r)) (.int 0) = .ok a := e_ixL _ _ _ (atI_nat (j := 0) rfl)
theorem e_ixL1 : ixD (.list (a :: b :: r)) (.int 1) = .ok b := e_ixL _ _ _ (atI_nat (j := 1) rfl)
theorem e_ixL2 : ixD (.list (a :: b :: c :: r)) (.int 2) = .ok c := e_ixL _ _ _ (atI_nat (j := 2) rfl)
theorem e_ixL3 : ixD (.list (a :: b :: c :: d :: r)) (.int 3) = .ok d := e_ixL _ _ _ (atI_nat (j := 3) rfl)
theorem e_ixL4 : ixD (.list (a :: b :: c :: d :: e :: r)) (.int 4) = .ok e := e_ixL _ _ _ (atI_nat (j := 4) rfl)
theorem e_ixL5 : ixD (.list (a :: b :: c :: d :: e :: f :: r)) (.int 5) = .ok f := e_ixL _ _ _ (atI_nat (j := 5) rfl)
theorem e_ixL6 : ixD (.list (a :: b :: c :: d :: e :: f :: g :: r)) (.int 6) = .ok g := e_ixL _ _ _ (atI_nat (j := 6) rfl)
theorem e_ixL7 : ixD (.list (a :: b :: c :: d :: e :: f :: g :: h :: r)) (.int 7) = .ok h := e_ixL _ _ _ (atI_nat (j := 7) rfl)
theorem e_ixL8 : ixD (.list (a :: b :: c :: d :: e :: f :: g :: h :: i :: r)) (.int 8) = .ok i := e_ixL _ _ _ (atI_nat (j := 8) rfl)
theorem e_ixT0 : ixD (.tup (a :: r)) (.int 0) = .ok a := e_ixT _ _ _ (atI_nat (j := 0) rfl)
theorem e_ixT1 : ixD (.tup (a :: b :: r)) (.int 1) = .ok b := e_ixT _ _ _ (atI_nat (j := 1) rfl)
theorem e_ixT2 : ixD (.tup (a :: b :: c :: r)) (.int 2) = .ok c := e_ixT _ _ _ (atI_nat (j := 2) rfl)
theorem e_ixT3 : ixD (.tup (a :: b :: c :: d :: r)) (.int 3) = .ok d := e_ixT _ _ _ (atI_nat (j := 3) rfl)
theorem e_ixT4 : ixD (.tup (a :: b :: c :: d :: e :: r)) (.int 4) = .ok e := e_ixT _ _ _ (atI_nat (j := 4) rfl)
theorem e_ixT5 : ixD (.tup (a :: b :: c :: d :: e :: f :: r)) (.int 5) = .ok f := e_ixT _ _ _ (atI_nat (j := 5) rfl)
end
theorem e_tupleL (ds : List D) : tupleD [.list ds] = .ok (.tup ds) := rfl
theorem e_listT (ds : List D) : listD [.tup ds] = .ok (.list ds) := rfl
theorem e_tupleT (ds : List D) : tupleD [.tup ds] = .ok (.tup ds) := rfl
theorem e_catL (a b : List D) (h : a.length + b.length ≤ 16777216) : catD (.list a) (.list b) = .ok (.list (a ++ b)) := if_pos (line_small h)
/-- a place of a list that is drawn -/
theorem ix_any {ds : List D} {i : Int} (h0 : 0 ≤ i) (h1 : i < ds.length) : ∃ d, ixD (.list ds) (.int i) = .ok d ∧ d ∈ ds := by
  obtain ⟨d, e, _, m⟩ := atI_of h0 h1
  exact ⟨d, e_ixL _ _ _ e, m⟩
/-! ### loops and comprehensions -/
section
variable {i : Nat} {τ : D → Rho → R Rho} {b : Rho → S} {ρ : Rho} {gi : Rho → R (List D)} {ge : Rho → R D} {p : Rho → R Bool} {vs : List Nat} {items : List D}
theorem forL_out {r : S} (hr : forL τ b items ρ = r) (Inv : Nat → Rho → Prop) (i0 : Inv 0 ρ) (hs : ∀ j d ρ, items[j]? = some d → Inv j ρ → ∃ ρ1, τ d ρ = .ok ρ1 ∧ ∃ ρ2, b ρ1 = .nx ρ2 ∧ Inv (j + 1) ρ2) : ∃ ρ', r = .nx ρ' ∧ Inv items.length ρ' := by
  obtain ⟨ρ', e, h⟩ := forL_nx Inv items 0 ρ i0 fun j d ρ e h => by
    rw [Nat.zero_add] at h ⊢
    obtain ⟨ρ1, a, ρ2, b, c⟩ := hs j d ρ e h
    exact ⟨ρ1, ρ2, a, b, c⟩
  rw [Nat.zero_add] at h
  exact ⟨ρ', hr.symm.trans e, h⟩
theorem gLc_out {r : R D} (hr : gLc gi vs (τName i) bYes ge ρ = r) (P : D → Prop) (hi : gi ρ = .ok items) (hz : items.length ≤ 16777216) (hs : ∀ d ∈ items, ∃ y, ge ((wipeR ρ vs).set i (some d)) = .ok y ∧ P y) :
    ∃ ys, r = .ok (.list ys) ∧ ys.length = items.length ∧ ∀ y ∈ ys, P y := by
  obtain ⟨ys, e, l, h⟩ := lcR_ex (i := i) (ge := ge) (ρ := wipeR ρ vs) P items hs
  exact ⟨ys, hr.symm.trans (e_lc items ys gi vs (τName i) bYes ge ρ hi hz e), l, h⟩
theorem gLc_map {r : R D} (hr : gLc gi vs (τName i) bYes ge ρ = r) (f : D → D) (hi : gi ρ = .ok items) (hz : items.length ≤ 16777216) (hs : ∀ d ∈ items, ge ((wipeR ρ vs).set i (some d)) = .ok (f d)) : r = .ok (.list (items.map f)) := by
  rw [← hr]
  exact e_lc items _ gi vs (τName i) bYes ge ρ hi hz (lcR_map f items hs)
theorem gLc_filter {r : R D} (hr : gLc gi vs (τName i) p ge ρ = r) (P : D → Bool) (f : D → D) (hi : gi ρ = .ok items) (hz : items.length ≤ 16777216) (hp : ∀ d ∈ items, p ((wipeR ρ vs).set i (some d)) = .ok (P d)) (hs : ∀ d ∈ items, P d = true → ge ((wipeR ρ vs).set i (some d)) = .ok (f d)) :
    r = .ok (.list ((items.filter P).map f)) := by
  rw [← hr]
  exact e_lc items _ gi vs (τName i) p ge ρ hi hz (lcR_filter P f items hp hs)
end
theorem len_filter_not {α : Type} (P : α → Bool) : ∀ l : List α, (((l.filter fun x => !P x).length : Int) == 0) = l.all P
  | [] => rfl
  | x :: l => by
    have ih := len_filter_not P l
    rw [List.all_cons]
    cases h : P x with
    | true => rw [List.filter_cons_of_neg (by rw [h]; decide), ih]; rfl
    | false =>
      rw [List.filter_cons_of_pos (by rw [h]; rfl), List.length_cons, Bool.false_and]
      refine beq_eq_false_iff_ne.mpr ?_
      omega
theorem signs_len (s : Str) : (signs s).length = s.length := by
  unfold signs
  rw [List.length_map, cps_len]
theorem bools_map {α : Type} (f : α → Bool) : ∀ l : List α, bools (l.map fun x => D.bl (f x)) = some (l.map f)
  | [] => rfl
  | x :: l => by
    show (bools (l.map fun x => D.bl (f x))).map (f x :: ·) = _
    rw [bools_map f l]
    rfl
theorem e_all {α : Type} (f : α → Bool) (l : List α) : allD [.list (l.map fun x => D.bl (f x))] = .ok (.bl (l.all f)) := by
  show (match bools (l.map fun x => D.bl (f x)) with | some bs => R.ok (D.bl (bs.all id)) | none => .st) = _
  rw [bools_map]
  show R.ok (D.bl ((l.map f).all id)) = _
  rw [List.all_map]
  rfl
/-! ### == with a text -/
/-- data of scalars, lists and tuples, so deep at most, the texts not long -/
def shL : Nat → D → Bool
  | _, .non => true | _, .bl _ => true | _, .int _ => true
  | _, .str s => PyData.strOk s && decide (s.length ≤ 1000)
  | n + 1, .list ds => ds.all (shL n)
  | n + 1, .tup ds => ds.all (shL n)
  | _, _ => false
theorem shL_sh : ∀ {n : Nat} {d : D}, shL n d = true → shN n d = true
  | n, .non, _ => by cases n <;> rfl
  | n, .bl _, _ => by cases n <;> rfl
  | n, .int _, _ => by cases n <;> rfl
  | n, .str s, h => by
    have h' : (PyData.strOk s && decide (s.length ≤ 1000)) = true := by cases n <;> exact h
    rw [Bool.and_eq_true] at h'
    cases n <;> exact h'.1
  | 0, .list _, h => by cases h
  | 0, .tup _, h => by cases h
  | n + 1, .list ds, h => List.all_eq_true.mpr fun d hd => shL_sh (n := n) (List.all_eq_true.mp (show ds.all (shL n) = true from h) d hd)
  | n + 1, .tup ds, h => List.all_eq_true.mpr fun d hd => shL_sh (n := n) (List.all_eq_true.mp (show ds.all (shL n) = true from h) d hd)
  | n, .dict _, h => by cases n <;> cases h
  | n, .dictT _, h => by cases n <;> cases h
  | n, .obj _ _, h => by cases n <;> cases h
  | n, .loc _, h => by cases n <;> cases h
  | n, .adr _, h => by cases n <;> cases h
theorem shL_len {n : Nat} {s : Str} (h : shL n (.str s) = true) : s.length ≤ 1000 := by
  have h' : (PyData.strOk s && decide (s.length ≤ 1000)) = true := by cases n <;> exact h
  rw [Bool.and_eq_true] at h'
  exact of_decide_eq_true h'.2
theorem shL_tup {n : Nat} {ds : List D} (h : shL (n + 1) (.tup ds) = true) : ∀ d ∈ ds, shL n d = true := List.all_eq_true.mp (show ds.all (shL n) = true from h)
/-- scalars, lists, tuples of these; or {} -/
def Th (n : Nat) (d : D) : Prop := shL n d = true ∨ d = .dict []
def isW (d : D) (w : Str) : Bool := match d with
  | .str s => s == w
  | _ => false
theorem eqv_str {d : D} (w : Str) (h : D.flat d = true) : eqvD d (.str w) = isW d w := by
  cases d <;> first | rfl | cases h
theorem eqX_str {n : Nat} {d : D} {w : Str} (h : Th n d) (hw : PyData.strOk w = true) (hn : n ≤ 64) : eqXD d (.str w) = .ok (.bl (isW d w)) := by
  rcases h with h | rfl
  · have h := shL_sh h
    obtain ⟨f, _, _⟩ := shN_ok n d h
    have e1 : isT0 d (.str w) = none := by cases d <;> rfl
    have e2 : isDS d (.str w) = false := by cases d <;> first | rfl | cases f
    unfold eqXD
    rw [e1]
    dsimp only
    rw [e2, if_neg Bool.false_ne_true, e_eqSh d (.str w) (sh_of n h hn) (sh_of 0 (d := .str w) hw), eqv_str w f]
  · rfl
theorem neX_str {n : Nat} {d : D} {w : Str} (h : Th n d) (hw : PyData.strOk w = true) (hn : n ≤ 64) : neXD d (.str w) = .ok (.bl (!isW d w)) := by
  rcases h with h | rfl
  · have h := shL_sh h
    obtain ⟨f, _, _⟩ := shN_ok n d h
    have e1 : isT0 d (.str w) = none := by cases d <;> rfl
    have e2 : isDS' d (.str w) = false := by cases d <;> first | rfl | cases f
    unfold neXD
    rw [e1]
    dsimp only
    rw [e2, if_neg Bool.false_ne_true, e_neSh d (.str w) (sh_of n h hn) (sh_of 0 (d := .str w) hw), eqv_str w f]
  · rfl
theorem eqX_int (i j : Int) : eqXD (.int i) (.int j) = .ok (.bl (i == j)) := rfl
theorem neX_int (i j : Int) : neXD (.int i) (.int j) = .ok (.bl (!(i == j))) := rfl
theorem eqX_t0 (ds : List D) : eqXD (.tup ds) (.tup []) = .ok (.bl ds.isEmpty) := rfl
theorem neX_t0 (ds : List D) : neXD (.tup ds) (.tup []) = .ok (.bl (!ds.isEmpty)) := rfl
theorem eqX_S (s w : Str) : eqXD (.str s) (.str w) = .ok (.bl (s == w)) := rfl
theorem neX_S (s w : Str) : neXD (.str s) (.str w) = .ok (.bl (!(s == w))) := rfl
theorem eqv_same {n : Nat} {d : D} (h : shN n d = true) : eqvD d d = true := by
  obtain ⟨_, c, _⟩ := shN_ok n d h
  exact PySem.SeqAt.eqv_refl d.py c
theorem neX_same {n : Nat} {d : D} (h : shN n d = true) (hn : n ≤ 64) (h0 : isT0 d d = none ∨ d = .tup []) : neXD d d = .ok (.bl false) := by
  rcases h0 with h0 | rfl
  · obtain ⟨f, _, _⟩ := shN_ok n d h
    have e2 : isDS' d d = false := by cases d <;> first | rfl | cases f
    unfold neXD
    rw [h0]
    dsimp only
    rw [e2, if_neg Bool.false_ne_true, e_neSh d d (sh_of n h hn) (sh_of n h hn), eqv_same h]
    rfl
  · rfl
theorem e_setIx {i : Nat} {gi g : Rho → R D} {ρ : Rho} {ds : List D} {d : D} {k : Nat} (h : ρ[i]? = some (some (.list ds))) (hg : g ρ = .ok d) (hk : gi ρ = .ok (.int (k : Int))) (hl : k < ds.length) : sSetIx i gi g ρ = .nx (ρ.set i (some (.list (ds.set k d)))) := by
  unfold sSetIx
  rw [e_E, hg, e_ofR, h]
  show sE gi _ ρ = _
  rw [e_E, hk, e_ofR, h]
  show (match ixN ds.length (k : Int) with | some j => S.nx (ρ.set i (some (.list (ds.set j d)))) | none => .st) = _
  have hx : ixN ds.length (k : Int) = some k := by
    unfold ixN
    rw [if_pos (by omega), if_pos (by omega), Int.toNat_natCast]
  rw [hx]
theorem ixT_nat {ds : List D} {k : Nat} (h : k < ds.length) : ixD (.tup ds) (.int (k : Int)) = .ok ds[k] := e_ixT _ _ _ (atI_nat (List.getElem?_eq_getElem h))
theorem e_mulS (s : Str) (k : Int) (h : (repOk k && (decide (1 ≤ s.length) && (decide (s.length ≤ 1000) && decide ((repS s k).cps.size ≤ sizeLine)))) = true) : mulXD (.str s) (.int k) = .ok (.str (repS s k)) := if_pos h
theorem e_mulT (ds : List D) (k : Int) (h : (repOk k && (!ds.isEmpty && decide (ds.length ≤ 1000))) = true) : mulXD (.tup ds) (.int k) = .ok (.tup (List.replicate k.toNat ds).flatten) := if_pos h
theorem Th.of {n : Nat} {d : D} (h : shL n d = true) : Th n d := .inl h
theorem str_eqv {d : D} (w : Str) (h : D.flat d = true) : eqvD (.str w) d = isW d w := by
  cases d with
  | str s =>
    show (w == s) = (s == w)
    by_cases e : s = w
    · subst e
      rfl
    · rw [beq_eq_false_iff_ne.mpr e, beq_eq_false_iff_ne.mpr (Ne.symm e)]
  | _ => first | rfl | cases h
theorem str_eqX {n : Nat} {d : D} {w : Str} (h : Th n d) (hw : PyData.strOk w = true) (hn : n ≤ 64) : eqXD (.str w) d = .ok (.bl (isW d w)) := by
  rcases h with h | rfl
  · have h := shL_sh h
    obtain ⟨f, _, _⟩ := shN_ok n d h
    have e1 : isT0 (.str w) d = none := by cases d <;> rfl
    have e2 : isDS (.str w) d = false := by cases d <;> first | rfl | cases f
    unfold eqXD
    rw [e1]
    dsimp only
    rw [e2, if_neg Bool.false_ne_true, e_eqSh (.str w) d (sh_of 0 (d := .str w) hw) (sh_of n h hn), str_eqv w f]
  · rfl
theorem ofString_inj {a b : String} (h : Str.ofString a = Str.ofString b) : a = b := by
  have h1 : TL.tl (Str.ofString a) = TL.tl (Str.ofString b) := by rw [h]
  rw [TL.tl_ofString, TL.tl_ofString] at h1
  have h2 : a.toList = b.toList := by
    have inj : ∀ (x y : List Char), x.map Char.toNat = y.map Char.toNat → x = y := by
      intro x
      induction x with
      | nil => intro y e; cases y with
        | nil => rfl
        | cons _ _ => cases e
      | cons c x ih =>
        intro y e
        cases y with
        | nil => cases e
        | cons d y =>
          rw [List.map_cons, List.map_cons] at e
          injection e with e1 e2
          rw [ih y e2, Char.toNat_inj.mp e1]
    exact inj _ _ h1
  exact String.toList_inj.mp h2
theorem e_strLit (a b : String) : (Str.ofString a == Str.ofString b) = (a == b) := by
  by_cases h : a = b
  · subst h
    simp
  · rw [beq_eq_false_iff_ne.mpr h, beq_eq_false_iff_ne.mpr fun e => h (ofString_inj e)]
/-! ### loops over lists that stand there -/
def S.next (r : S) (k : Rho → S) : S := match r with
  | .nx ρ => k ρ
  | .ct ρ => k ρ
  | .bk ρ => .nx ρ
  | r => r
section
variable {i : Nat} {b : Rho → S} {ρ : Rho} {k : Rho → S}
theorem e_forN (d : D) (ds : List D) : forL (τName i) b (d :: ds) ρ = (b (ρ.set i (some d))).next (forL (τName i) b ds) := rfl
theorem e_for0 {τ : D → Rho → R Rho} : forL τ b [] ρ = .nx ρ := rfl
theorem e_nxn (ρ1 : Rho) : (S.nx ρ1).next k = k ρ1 := rfl
theorem e_nct (ρ1 : Rho) : (S.ct ρ1).next k = k ρ1 := rfl
theorem e_nbk (ρ1 : Rho) : (S.bk ρ1).next k = .nx ρ1 := rfl
theorem e_nrt (d : D) : (S.rt d).next k = .rt d := rfl
theorem e_nrn (d : D) : (S.rn d).next k = .rn d := rfl
theorem e_nex (x : Ex) (ρ1 : Rho) : (S.ex x ρ1).next k = .ex x ρ1 := rfl
theorem e_next_ite {c : Prop} [Decidable c] (a b : S) : (if c then a else b).next k = if c then a.next k else b.next k := by split <;> rfl
end
/-! ### the Q layer, where what is asked has no numbers -/
section
variable {s u : SQF} {ρ : RhoQ} {M : Mem}
def SQ.then (r : SQ) (u : SQF) : SQ := match r with
  | .nx ρ M => u ρ M
  | r => r
theorem q_seq : sqSeq s u ρ M = (s ρ M).then u := rfl
theorem q_tnx (ρ1 : RhoQ) (M1 : Mem) : (SQ.nx ρ1 M1).then u = u ρ1 M1 := rfl
theorem q_tex (x : Ex) (ρ1 : RhoQ) (M1 : Mem) : (SQ.ex x ρ1 M1).then u = .ex x ρ1 M1 := rfl
theorem q_trt (p : P) (M1 : Mem) : (SQ.rt p M1).then u = .rt p M1 := rfl
theorem q_then_ite {c : Prop} [Decidable c] (a b : SQ) : (if c then a else b).then u = if c then a.then u else b.then u := by split <;> rfl
def SQ.pick (r : R Bool) (ρ : RhoQ) (M : Mem) (a b : SQ) : SQ := match r with
  | .ok k => if k = true then a else b
  | .ex x => .ex x ρ M
  | .st => .st
theorem q_if (g : Rho → R Bool) : sqIf (qT g) s u ρ M = SQ.pick (g (clR ρ)) ρ M (s ρ M) (u ρ M) := by
  unfold sqIf qT
  cases g (clR ρ) <;> rfl
theorem q_pick (k : Bool) (a b : SQ) : SQ.pick (.ok k) ρ M a b = if k = true then a else b := rfl
theorem q_pickx (x : Ex) (a b : SQ) : SQ.pick (.ex x) ρ M a b = .ex x ρ M := rfl
theorem q_pick_ite {c : Prop} [Decidable c] (p q : R Bool) (a b : SQ) : SQ.pick (if c then p else q) ρ M a b = if c then SQ.pick p ρ M a b else SQ.pick q ρ M a b := by split <;> rfl
theorem q_nil : sqNil ρ M = .nx ρ M := rfl
theorem q_raise (x : Str) : sqRaise x ρ M = .ex ⟨x, []⟩ ρ M := rfl
theorem cl_nil : clR [] = [] := rfl
theorem cl_f (d : D) (ρ : RhoQ) : clR (some (false, d) :: ρ) = some d :: clR ρ := rfl
theorem cl_t (d : D) (ρ : RhoQ) : clR (some (true, d) :: ρ) = none :: clR ρ := rfl
theorem cl_n (ρ : RhoQ) : clR (none :: ρ) = none :: clR ρ := rfl
theorem q_fldOk {cs : List Str} {f : Str} {i k : Nat} {g : Rho → R D} {d : D} {b : Bool} {c : Str} {fs : List (Str × D)} (hi : ρ[i]? = some (some (true, .loc k))) (hg : g (clR ρ) = .ok d) (hM : M[k]? = some (b, .obj c fs)) (hc : cs.contains c = true) (hf : fs.length < 1000) :
    sqFld cs f (qVar i) (qP g) ρ M = .nx ρ (M.set k (b, .obj c (putD f d fs))) := by
  unfold sqFld sqE qP qVar
  rw [hg]
  show (match (match ρ[i]? with | some (some p) => RQ.ok p M | _ => .st) with | .ok p M1 => _ | .ex x M1 => _ | .st => _) = _
  rw [hi]
  show (match M[k]? with | some (b, .obj c fs) => if (cs.contains c && decide (fs.length < 1000)) = true then SQ.nx ρ (M.set k (b || false, .obj c (putD f d fs))) else .st | _ => .st) = _
  rw [hM]
  show (if (cs.contains c && decide (fs.length < 1000)) = true then SQ.nx ρ (M.set k (b || false, .obj c (putD f d fs))) else .st) = _
  rw [hc, decide_eq_true hf, Bool.or_false]
  rfl
end
end Pd

/-! Pe3: data that == tells apart just as they are; the Q layer evaluated -/
namespace Pd
open PySem PySem.Spec PyProof.Rows L2
/-! ### plain data: None, whole numbers, texts, tuples (and lists, where l) of such -/
def cvD (l : Bool) : Nat → D → Bool
  | _, .non => true
  | _, .int _ => true
  | _, .str s => PyData.strOk s && decide (s.length ≤ 1000)
  | n + 1, .list ds => l && ds.all (cvD l n)
  | n + 1, .tup ds => ds.all (cvD l n)
  | _, _ => false
theorem cv_sh {l : Bool} : ∀ {n : Nat} {d : D}, cvD l n d = true → shL n d = true
  | n, .non, _ => by cases n <;> rfl
  | n, .int _, _ => by cases n <;> rfl
  | n, .str s, h => by cases n <;> exact h
  | 0, .list _, h => by cases h
  | n + 1, .list ds, h => List.all_eq_true.mpr fun d hd => cv_sh (List.all_eq_true.mp (Bool.and_eq_true_iff.mp (show (l && ds.all (cvD l n)) = true from h)).2 d hd)
  | 0, .tup _, h => by cases h
  | n + 1, .tup ds, h => List.all_eq_true.mpr fun d hd => cv_sh (List.all_eq_true.mp (show ds.all (cvD l n) = true from h) d hd)
  | 0, .bl _, h => by cases h
  | _ + 1, .bl _, h => by cases h
  | 0, .dict _, h => by cases h
  | _ + 1, .dict _, h => by cases h
  | 0, .dictT _, h => by cases h
  | _ + 1, .dictT _, h => by cases h
  | 0, .obj _ _, h => by cases h
  | _ + 1, .obj _ _, h => by cases h
  | 0, .loc _, h => by cases h
  | _ + 1, .loc _, h => by cases h
  | 0, .adr _, h => by cases h
  | _ + 1, .adr _, h => by cases h
theorem cv_list {l : Bool} {n : Nat} {ds : List D} (h : cvD l (n + 1) (.list ds) = true) : ∀ d ∈ ds, cvD l n d = true := List.all_eq_true.mp (Bool.and_eq_true_iff.mp (show (l && ds.all (cvD l n)) = true from h)).2
theorem cv_tup {l : Bool} {n : Nat} {ds : List D} (h : cvD l (n + 1) (.tup ds) = true) : ∀ d ∈ ds, cvD l n d = true := List.all_eq_true.mp (show ds.all (cvD l n) = true from h)
theorem cv_list0 {l : Bool} {ds : List D} (h : cvD l 0 (.list ds) = true) : False := by cases h
theorem cv_tup0 {l : Bool} {ds : List D} (h : cvD l 0 (.tup ds) = true) : False := by cases h
mutual
theorem eqv_cv {l : Bool} : ∀ (n : Nat) (d e : D), cvD l n d = true → cvD l n e = true → eqvD d e = true → d = e
  | n, .non, e, _, he, q => by
    cases e with
    | non => rfl
    | bl _ => cases n <;> cases he
    | dictT _ => cases n <;> cases he
    | obj _ _ => cases n <;> cases he
    | loc _ => cases n <;> cases he
    | adr _ => cases n <;> cases he
    | int _ => exact absurd (show false = true from q) (by decide)
    | str _ => exact absurd (show false = true from q) (by decide)
    | list _ => exact absurd (show false = true from q) (by decide)
    | tup _ => exact absurd (show false = true from q) (by decide)
    | dict _ => cases n <;> cases he
  | n, .int i, e, _, he, q => by
    cases e with
    | int j => exact congrArg D.int (eq_of_beq (show (i == j) = true from q))
    | bl _ => cases n <;> cases he
    | dictT _ => cases n <;> cases he
    | obj _ _ => cases n <;> cases he
    | loc _ => cases n <;> cases he
    | adr _ => cases n <;> cases he
    | _ => cases q
  | n, .str s, e, _, he, q => by
    cases e with
    | str t => exact congrArg D.str (eq_of_beq (show (s == t) = true from q))
    | bl _ => cases n <;> cases he
    | dictT _ => cases n <;> cases he
    | obj _ _ => cases n <;> cases he
    | loc _ => cases n <;> cases he
    | adr _ => cases n <;> cases he
    | _ => cases q
  | 0, .list ds, _, h, _, _ => (cv_list0 h).elim
  | n + 1, .list ds, e, h, he, q => by
    cases e with
    | list es => exact congrArg D.list (eqvs_cv n ds es (cv_list h) (cv_list he) q)
    | bl _ => cases he
    | dictT _ => cases he
    | obj _ _ => cases he
    | loc _ => cases he
    | adr _ => cases he
    | _ => cases q
  | 0, .tup ds, _, h, _, _ => (cv_tup0 h).elim
  | n + 1, .tup ds, e, h, he, q => by
    cases e with
    | tup es => exact congrArg D.tup (eqvs_cv n ds es (cv_tup h) (cv_tup he) q)
    | bl _ => cases he
    | dictT _ => cases he
    | obj _ _ => cases he
    | loc _ => cases he
    | adr _ => cases he
    | _ => cases q
  | n, .bl _, _, h, _, _ => by cases n <;> cases h
  | n, .dict _, _, h, _, _ => by cases n <;> cases h
  | n, .dictT _, _, h, _, _ => by cases n <;> cases h
  | n, .obj _ _, _, h, _, _ => by cases n <;> cases h
  | n, .loc _, _, h, _, _ => by cases n <;> cases h
  | n, .adr _, _, h, _, _ => by cases n <;> cases h
theorem eqvs_cv {l : Bool} : ∀ (n : Nat) (ds es : List D), (∀ d ∈ ds, cvD l n d = true) → (∀ e ∈ es, cvD l n e = true) → PyData.eqvAll (D.pyAll ds) (D.pyAll es) = true → ds = es
  | n, [], [], _, _, _ => rfl
  | n, [], e :: es, _, _, q => by cases q
  | n, d :: ds, [], _, _, q => by cases q
  | n, d :: ds, e :: es, h, he, q => by
    have q' : (eqvD d e && PyData.eqvAll (D.pyAll ds) (D.pyAll es)) = true := q
    rw [Bool.and_eq_true] at q'
    rw [eqv_cv n d e (h d List.mem_cons_self) (he e List.mem_cons_self) q'.1, eqvs_cv n ds es (fun x hx => h x (List.mem_cons_of_mem _ hx)) (fun x hx => he x (List.mem_cons_of_mem _ hx)) q'.2]
end
open Classical in
noncomputable def eqB (d e : D) : Bool := decide (d = e)
theorem eqB_same (d : D) : eqB d d = true := by unfold eqB; exact @decide_eq_true _ (_) rfl
theorem eqB_iff {d e : D} : eqB d e = true ↔ d = e := by unfold eqB; exact @decide_eq_true_iff _ (_)
theorem eqB_ne {d e : D} (h : d ≠ e) : eqB d e = false := by unfold eqB; exact @decide_eq_false _ (_) h
theorem eqv_B {l : Bool} {n : Nat} {d e : D} (h : cvD l n d = true) (h' : cvD l n e = true) : eqvD d e = eqB d e := by
  by_cases q : d = e
  · subst q
    rw [eqB_same, eqv_same (shL_sh (cv_sh h))]
  · rw [eqB_ne q]
    cases z : eqvD d e with
    | false => rfl
    | true => exact absurd (eqv_cv n d e h h' z) q
theorem cv_eq {l : Bool} {n : Nat} {d e : D} (h : cvD l n d = true) (h' : cvD l n e = true) (hn : n ≤ 64 := by decide) : eqD d e = .ok (.bl (eqB d e)) := by
  rw [e_eqSh d e (sh_of n (shL_sh (cv_sh h)) hn) (sh_of n (shL_sh (cv_sh h')) hn), eqv_B h h']
theorem cv_ne {l : Bool} {n : Nat} {d e : D} (h : cvD l n d = true) (h' : cvD l n e = true) (hn : n ≤ 64 := by decide) : neD d e = .ok (.bl (!eqB d e)) := by
  rw [e_neSh d e (sh_of n (shL_sh (cv_sh h)) hn) (sh_of n (shL_sh (cv_sh h')) hn), eqv_B h h']
/-! ### no numbers in them, no lists -/
mutual
theorem put_cv {l : Bool} {f : Nat → Option D} : ∀ (n : Nat) (d : D), cvD l n d = true → d.put f = some d
  | n, .non, _ => rfl
  | n, .int _, _ => rfl
  | n, .str _, _ => rfl
  | 0, .list _, h => (cv_list0 h).elim
  | n + 1, .list ds, h => by
    show (D.putAll f ds).map D.list = _
    rw [puts_cv n ds (cv_list h)]
    rfl
  | 0, .tup _, h => (cv_tup0 h).elim
  | n + 1, .tup ds, h => by
    show (D.putAll f ds).map D.tup = _
    rw [puts_cv n ds (cv_tup h)]
    rfl
  | n, .bl _, h => by cases n <;> cases h
  | n, .dict _, h => by cases n <;> cases h
  | n, .dictT _, h => by cases n <;> cases h
  | n, .obj _ _, h => by cases n <;> cases h
  | n, .loc _, h => by cases n <;> cases h
  | n, .adr _, h => by cases n <;> cases h
theorem puts_cv {l : Bool} {f : Nat → Option D} : ∀ (n : Nat) (ds : List D), (∀ d ∈ ds, cvD l n d = true) → D.putAll f ds = some ds
  | n, [], _ => rfl
  | n, d :: ds, h => by
    show (D.put f d).bind (fun e => (D.putAll f ds).map (e :: ·)) = _
    rw [put_cv n d (h d List.mem_cons_self), puts_cv n ds fun x hx => h x (List.mem_cons_of_mem _ hx)]
    rfl
end
mutual
theorem off_cv {g : Tg} : ∀ (n : Nat) (d : D), cvD false n d = true → d.off g = true
  | n, .non, _ => rfl
  | n, .int _, _ => rfl
  | n, .str _, _ => rfl
  | n, .list _, h => by cases n <;> cases h
  | 0, .tup _, h => (cv_tup0 h).elim
  | n + 1, .tup ds, h => offs_cv n ds (cv_tup h)
  | n, .bl _, h => by cases n <;> cases h
  | n, .dict _, h => by cases n <;> cases h
  | n, .dictT _, h => by cases n <;> cases h
  | n, .obj _ _, h => by cases n <;> cases h
  | n, .loc _, h => by cases n <;> cases h
  | n, .adr _, h => by cases n <;> cases h
theorem offs_cv {g : Tg} : ∀ (n : Nat) (ds : List D), (∀ d ∈ ds, cvD false n d = true) → D.offAll g ds = true
  | n, [], _ => rfl
  | n, d :: ds, h => by
    show (d.off g && D.offAll g ds) = true
    rw [off_cv n d (h d List.mem_cons_self), offs_cv n ds fun x hx => h x (List.mem_cons_of_mem _ hx)]
    rfl
end
/-! ### the Q layer evaluated -/
section
variable {g go gk : GQ} {t : GQA} {ρ : RhoQ} {M M1 M2 : Mem} {s u : SQF} {gp : Rho → R D}
def SQ.of (r : RQ P) (ρ : RhoQ) (k : P → Mem → SQ) : SQ := match r with
  | .ok p M => k p M
  | .ex x M => .ex x ρ M
  | .st => .st
theorem s_ok (p : P) (k : P → Mem → SQ) : SQ.of (.ok p M) ρ k = k p M := rfl
theorem s_ex (x : Ex) (k : P → Mem → SQ) : SQ.of (.ex x M) ρ k = .ex x ρ M := rfl
theorem e_sqRet : sqRet g ρ M = SQ.of (g ρ M) ρ fun p M => .rt p M := rfl
theorem e_sqSet (i : Nat) : sqSet i g ρ M = SQ.of (g ρ M) ρ fun p M => .nx (ρ.set i (some p)) M := rfl
theorem e_sqExpr : sqExpr g ρ M = SQ.of (g ρ M) ρ fun _ M => .nx ρ M := rfl
def SQ.asg (o : Option RhoQ) (M : Mem) : SQ := match o with
  | some ρ' => .nx ρ' M
  | none => .st
theorem e_sqAsg (τ : TQ) : sqAsg τ g ρ M = SQ.of (g ρ M) ρ fun p M => SQ.asg (τ p ρ) M := rfl
theorem asg_some (ρ' : RhoQ) : SQ.asg (some ρ') M = .nx ρ' M := rfl
theorem e_tqName (i : Nat) (p : P) : tqName i p ρ = some (ρ.set i (some p)) := rfl
theorem e_tqTup2 (i j : Nat) (b : Bool) (d e : D) : tqTup 2 (tqCons (tqName i) (tqCons (tqName j) tqNil)) (b, .tup [d, e]) ρ = some ((ρ.set i (some (b, d))).set j (some (b, e))) := rfl
theorem e_qP : qP gp ρ M = (gp (clR ρ)).up M fun d => (false, d) := rfl
theorem e_upok {α β : Type} (a : α) (f : α → β) : (R.ok a).up M f = .ok (f a) M := rfl
theorem e_upex {α β : Type} (x : Ex) (f : α → β) : (R.ex x : R α).up M f = .ex x M := rfl
def RQ.var (o : Option (Option P)) (M : Mem) : RQ P := match o with
  | some (some p) => .ok p M
  | _ => .st
theorem e_qVar (i : Nat) : qVar i ρ M = RQ.var ρ[i]? M := rfl
theorem e_varok (p : P) : RQ.var (some (some p)) M = .ok p M := rfl
def R.new (r : R D) (M : Mem) : RQ P := match r with
  | .ok d => .ok (true, .loc M.length) (M ++ [(false, d)])
  | .ex x => .ex x M
  | .st => .st
theorem e_qNew : qNew gp ρ M = (gp (clR ρ)).new M := rfl
theorem e_newok (d : D) : (R.ok d).new M = .ok (true, .loc M.length) (M ++ [(false, d)]) := rfl
theorem rq_ok {α β : Type} (a : α) (f : α → Mem → RQ β) : (RQ.ok a M).bind f = f a M := rfl
theorem rq_ex {α β : Type} (x : Ex) (f : α → Mem → RQ β) : (RQ.ex x M : RQ α).bind f = .ex x M := rfl
theorem e_aqN : aqNil ρ M = .ok [] M := rfl
theorem e_aqC : aqCons g t ρ M = (g ρ M).bind fun p M1 => (t ρ M1).bind fun ps M2 => .ok (p :: ps) M2 := rfl
theorem e_qPA (gs : Rho → R (List D)) : qPA gs ρ M = (gs (clR ρ)).up M fun ds => ds.map fun d => (false, d) := rfl
theorem e_qCall (G : GF) : qCall G t ρ M = (t ρ M).bind G := rfl
theorem e_qTup : qTup t ρ M = (t ρ M).bind tupP := rfl
theorem e_tupP2 (p q : P) : tupP [p, q] M = .ok (p.1 || q.1, .tup [p.2, q.2]) M := by
  unfold tupP
  rw [if_pos (by rw [sizeLine_eq, List.length_cons, List.length_cons, List.length_nil]; omega)]
  show RQ.ok (p.1 || (q.1 || false), _) M = _
  rw [Bool.or_false]
  rfl
theorem e_qSn : qSn gp ρ M = upS M (gp (snR M ρ)) := rfl
theorem up_off {d : D} (h : d.off (tagsM M) = true) : upS M (.ok d) = .ok (false, d) M := if_pos h
def RQ.tst (r : R Bool) (M : Mem) : RQ Bool := match r with
  | .ok b => .ok b M
  | .ex x => if D.offF (tagsM M) x.fs = true then .ex x M else .st
  | .st => .st
theorem e_qSnT (p : Rho → R Bool) : qSnT p ρ M = RQ.tst (p (snR M ρ)) M := rfl
theorem e_tok (b : Bool) : RQ.tst (.ok b) M = .ok b M := rfl
def SQ.pk (r : RQ Bool) (ρ : RhoQ) (a b : Mem → SQ) : SQ := match r with
  | .ok k M => if k = true then a M else b M
  | .ex x M => .ex x ρ M
  | .st => .st
theorem q_ifS (p : RhoQ → Mem → RQ Bool) : sqIf p s u ρ M = SQ.pk (p ρ M) ρ (s ρ) (u ρ) := rfl
theorem pk_ok (k : Bool) (a b : Mem → SQ) : SQ.pk (.ok k M) ρ a b = if k = true then a M else b M := rfl
theorem e_qT (p : Rho → R Bool) : qT p ρ M = (p (clR ρ)).up M fun b => b := rfl
theorem e_up_ite {α β : Type} {c : Prop} [Decidable c] (a b : R α) (f : α → β) : (if c then a else b).up M f = if c then a.up M f else b.up M f := by split <;> rfl
theorem pk_ite {c : Prop} [Decidable c] (p q : RQ Bool) (a b : Mem → SQ) : SQ.pk (if c then p else q) ρ a b = if c then SQ.pk p ρ a b else SQ.pk q ρ a b := by split <;> rfl
theorem s_ite {c : Prop} [Decidable c] (p q : RQ P) (k : P → Mem → SQ) : SQ.of (if c then p else q) ρ k = if c then SQ.of p ρ k else SQ.of q ρ k := by split <;> rfl
theorem tst_ite {c : Prop} [Decidable c] (p q : R Bool) : RQ.tst (if c then p else q) M = if c then RQ.tst p M else RQ.tst q M := by split <;> rfl
theorem e_end_ite {c : Prop} [Decidable c] (p q : SQ) : endQ (if c then p else q) = if c then endQ p else endQ q := by split <;> rfl
theorem sn_nil : snR M [] = [] := rfl
theorem sn_s (p : P) (ρ : RhoQ) : snR M (some p :: ρ) = p.full M :: snR M ρ := rfl
theorem sn_n (ρ : RhoQ) : snR M (none :: ρ) = none :: snR M ρ := rfl
theorem fu_f (d : D) : P.full M (false, d) = some d := rfl
theorem fu_t {l : Bool} {n : Nat} {d : D} (h : cvD l n d = true) : P.full M (true, d) = some d := put_cv n d h
theorem fu_loc {l : Bool} {n k : Nat} {b : Bool} {d : D} (hM : M[k]? = some (b, d)) (h : cvD l n d = true) : P.full M (true, .loc k) = some d := by
  have hl : k < M.length := (List.getElem?_eq_some_iff.mp hM).1
  show memD M M.length k = some d
  obtain ⟨m, hm⟩ : ∃ m, M.length = m + 1 := ⟨M.length - 1, by omega⟩
  rw [hm]
  show (match M[k]? with
    | some (false, d) => some d
    | some (true, d) => d.put (memD M m)
    | none => none) = some d
  rw [hM]
  cases b with
  | false => rfl
  | true => exact put_cv n d h
theorem e_qIx : qIx go gk ρ M = (go ρ M).bind fun p M1 => (gk ρ M1).bind fun q M2 => ixP M2 p q := rfl
theorem ixP_tup {b c : Bool} {ds : List D} {i : Int} {d : D} (h : atI ds i = some d) : ixP M (b, .tup ds) (c, .int i) = .ok (b, d) M := by
  show (match seqP M (b, .tup ds) with
    | some (b, ds) => (match atI ds i with
      | some d => RQ.ok (b, d) M
      | none => .st)
    | none => .st) = _
  have e : seqP M (b, .tup ds) = some (b, ds) := by cases b <;> rfl
  rw [e]
  show (match atI ds i with
      | some d => RQ.ok (b, d) M
      | none => .st) = _
  rw [h]
theorem e_qApp {k : Nat} {b b0 : Bool} {ds ds0 : List D} {p : P} (hgo : go ρ M = .ok (true, .loc k) M) (hM : M[k]? = some (b0, .list ds0)) (hg : g ρ M = .ok p M1) (hM1 : M1[k]? = some (b, .list ds)) (hl : ds.length < sizeLine) :
    sqAppend go g ρ M = .nx ρ (M1.set k (b || p.1, .list (ds ++ [p.2]))) := by
  unfold sqAppend sqE
  rw [hgo]
  show (match M[k]? with
    | some (_, .list _) => _
    | _ => SQ.st) = _
  rw [hM]
  show (match g ρ M with
    | .ok p M1 => (match M1[k]? with
      | some (b, .list ds) => if ds.length < sizeLine then SQ.nx ρ (M1.set k (b || p.1, .list (ds ++ [p.2]))) else .st
      | _ => .st)
    | .ex x M1 => .ex x ρ M1
    | .st => .st) = _
  rw [hg]
  show (match M1[k]? with
      | some (b, .list ds) => if ds.length < sizeLine then SQ.nx ρ (M1.set k (b || p.1, .list (ds ++ [p.2]))) else .st
      | _ => .st) = _
  rw [hM1]
  exact if_pos hl
theorem e_sqFor {gi : Rho → R (List D)} {τ : TQ} {b : SQF} {items : List D} (h : gi (clR ρ) = .ok items) : sqFor gi τ b ρ M = forLQ τ b (items.map fun d => (false, d)) ρ M := by
  unfold sqFor
  rw [h]
theorem e_endrt (p : P) : endQ (.rt p M) = .ok p M := rfl
theorem e_endnx (ρ' : RhoQ) : endQ (.nx ρ' M) = .ok (false, .non) M := rfl
theorem e_qMeth {tb : List (Str × GF)} {mn : Str} {c : Str} {fs : List (Str × D)} {b : Bool} {G : GF} {p : P} {ps : List P} (hgo : go ρ M = .ok p M1) (ho : objP M1 p = some (b, c, fs)) (hf : fs.lookup mn = none) (ht : tb.lookup c = some G) (ha : t ρ M1 = .ok ps M2) :
    qMeth tb mn go t ρ M = G (p :: ps) M2 := by
  unfold qMeth
  rw [hgo]
  show metQ tb mn p M1 (fun G => (t ρ M1).bind fun ps M2 => G (p :: ps) M2) = _
  unfold metQ
  rw [ho]
  show (match fs.lookup mn with
    | some _ => RQ.st
    | none => match tb.lookup c with
      | some G => (t ρ M1).bind fun ps M2 => G (p :: ps) M2
      | none => .st) = _
  rw [hf]
  show (match tb.lookup c with
      | some G => (t ρ M1).bind fun ps M2 => G (p :: ps) M2
      | none => RQ.st) = _
  rw [ht, ha]
  rfl
theorem forLQ_nx {τ : TQ} {b : SQF} (Inv : Nat → RhoQ → Mem → Prop) : ∀ (items : List P) (k : Nat) (ρ : RhoQ) (M : Mem), Inv k ρ M →
    (∀ j p ρ M, items[j]? = some p → Inv (k + j) ρ M → ∃ ρ1, τ p ρ = some ρ1 ∧ ∃ ρ2 M2, b ρ1 M = .nx ρ2 M2 ∧ Inv (k + j + 1) ρ2 M2) → ∃ ρ' M', forLQ τ b items ρ M = .nx ρ' M' ∧ Inv (k + items.length) ρ' M'
  | [], k, ρ, M, h, _ => ⟨ρ, M, rfl, h⟩
  | p :: ps, k, ρ, M, h, hs => by
    obtain ⟨ρ1, e1, ρ2, M2, e2, h2⟩ := hs 0 p ρ M rfl h
    obtain ⟨ρ', M', e3, h3⟩ := forLQ_nx Inv ps (k + 1) ρ2 M2 h2 fun j q ρ M hq hi => by
      have := hs (j + 1) q ρ M hq (by rw [show k + (j + 1) = k + 1 + j by omega]; exact hi)
      rw [show k + (j + 1) + 1 = k + 1 + j + 1 by omega] at this
      exact this
    refine ⟨ρ', M', ?_, by rw [List.length_cons, show k + (ps.length + 1) = k + 1 + ps.length by omega]; exact h3⟩
    show (match τ p ρ with
      | some ρ1 => match b ρ1 M with
        | .nx ρ2 M2 => forLQ τ b ps ρ2 M2
        | .ct ρ2 M2 => forLQ τ b ps ρ2 M2
        | .bk ρ2 M2 => .nx ρ2 M2
        | r => r
      | none => .st) = _
    rw [e1]
    show (match b ρ1 M with
        | .nx ρ2 M2 => forLQ τ b ps ρ2 M2
        | .ct ρ2 M2 => forLQ τ b ps ρ2 M2
        | .bk ρ2 M2 => .nx ρ2 M2
        | r => r) = _
    rw [e2]
    exact e3
theorem forLQ_out {r : SQ} {τ : TQ} {b : SQF} {items : List P} (hr : forLQ τ b items ρ M = r) (Inv : Nat → RhoQ → Mem → Prop) (i0 : Inv 0 ρ M)
    (hs : ∀ j p ρ M, items[j]? = some p → Inv j ρ M → ∃ ρ1, τ p ρ = some ρ1 ∧ ∃ ρ2 M2, b ρ1 M = .nx ρ2 M2 ∧ Inv (j + 1) ρ2 M2) : ∃ ρ' M', r = .nx ρ' M' ∧ Inv items.length ρ' M' := by
  obtain ⟨ρ', M', e, h⟩ := forLQ_nx Inv items 0 ρ M i0 fun j p ρ M hp hi => by
    have := hs j p ρ M hp (by rw [show j = 0 + j by omega]; exact hi)
    rw [show 0 + j + 1 = j + 1 by omega]
    exact this
  rw [hr] at e
  rw [Nat.zero_add] at h
  exact ⟨ρ', M', e, h⟩
end
end Pd

/-! Pe4: Pq8 evaluated; memories -/
namespace Pd
open PySem PySem.Spec PyProof.Rows L2
theorem set_ne {M : Mem} {i j : Nat} {x : P} (h : i ≠ j) : (M.set i x)[j]? = M[j]? := by
  rw [List.getElem?_set]
  exact if_neg h
theorem set_eq {M : Mem} {i : Nat} {x : P} (h : i < M.length) : (M.set i x)[i]? = some x := by
  rw [List.getElem?_set, if_pos rfl, if_pos h]
theorem app_l {M : Mem} {i : Nat} {x q : P} (h : M[i]? = some x) : (M ++ [q])[i]? = some x := by
  rw [List.getElem?_append_left (List.getElem?_eq_some_iff.mp h).1, h]
theorem app_n {M : Mem} {q : P} : (M ++ [q])[M.length]? = some q := by
  rw [List.getElem?_append_right (Nat.le_refl _), Nat.sub_self]
  rfl
theorem lt_of {M : Mem} {i : Nat} {x : P} (h : M[i]? = some x) : i < M.length := (List.getElem?_eq_some_iff.mp h).1
theorem rng_items {n : Nat} {i : Nat} {q : P} (h : ((rngL 0 n).map fun d => (false, d))[i]? = some q) : i < n ∧ q = (false, .int (i : Int)) := by
  have hi : i < ((rngL 0 n).map fun d => ((false, d) : P)).length := (List.getElem?_eq_some_iff.mp h).1
  rw [List.length_map, rng_len] at hi
  refine ⟨hi, ?_⟩
  unfold rngL at h
  rw [List.getElem?_map, List.getElem?_map, List.getElem?_range hi] at h
  have := Option.some.inj h
  rw [← this]
  show ((false, D.int (0 + (i : Int))) : P) = _
  rw [Int.zero_add]
section
variable {g go gi ga gb : GQ} {t : GQA} {ρ : RhoQ} {M M1 M2 M3 : Mem} {s u : SQF}
theorem e_q2 (f : D → D → R D) : q2 f ga gb ρ M = (ga ρ M).bind fun p M1 => (gb ρ M1).bind fun q M2 => op2P f M2 p q := rfl
theorem op2_ii (f : D → D → R D) (b c : Bool) (i j : Int) : op2P f M (b, .int i) (c, .int j) = (f (.int i) (.int j)).up M fun d => (false, d) := by cases b <;> cases c <;> rfl
theorem op2_ss (f : D → D → R D) (b c : Bool) (i j : Str) : op2P f M (b, .str i) (c, .str j) = (f (.str i) (.str j)).up M fun d => (false, d) := by cases b <;> cases c <;> rfl
theorem op2_si (f : D → D → R D) (b c : Bool) (i : Str) (j : Int) : op2P f M (b, .str i) (c, .int j) = (f (.str i) (.int j)).up M fun d => (false, d) := by cases b <;> cases c <;> rfl
theorem e_qLst : qLst t ρ M = (t ρ M).bind lstP := rfl
theorem lstP1 (p : P) : lstP [p] M = .ok (true, .loc M.length) (M ++ [(p.1, .list [p.2])]) := by
  unfold lstP
  rw [if_pos (by rw [sizeLine_eq, List.length_cons, List.length_nil]; omega)]
  show RQ.ok (true, D.loc M.length) (M ++ [((p.1 || false), D.list [p.2])]) = _
  rw [Bool.or_false]
theorem e_sqForI {gi : RhoQ → Mem → RQ (List D)} {τ : TQ} {b : SQF} {items : List D} (h : gi ρ M = .ok items M1) : sqForI gi τ b ρ M = forLQ τ b (items.map fun d => (false, d)) ρ M1 := by
  unfold sqForI
  rw [h]
theorem e_iqR : iqRange1 t ρ M = (t ρ M).bind fun ps M1 => rngP M1 ps := rfl
theorem rngP_int (b : Bool) (j : Int) (h : small62 j = true) : rngP M [(b, .int j)] = .ok (rngL 0 j.toNat) M := by
  cases b <;> exact if_pos h
theorem e_qSetIx {n j : Nat} {i : Int} {b c : Bool} {ds : List D} {p : P} (hg : g ρ M = .ok p M1) (hgo : go ρ M1 = .ok (true, .loc n) M2) (hk : gi ρ M2 = .ok (c, .int i) M3) (hM : M3[n]? = some (b, .list ds)) (hj : ixN ds.length i = some j) :
    sqSetIx go gi g ρ M = .nx ρ (M3.set n (b || p.1, .list (ds.set j p.2))) := by
  unfold sqSetIx sqE
  rw [hg]
  show (match go ρ M1 with
    | .ok q M1 => (match gi ρ M1 with
      | .ok k M2 => setP ρ p q k M2
      | .ex x M1 => .ex x ρ M1
      | .st => .st)
    | .ex x M1 => .ex x ρ M1
    | .st => .st) = _
  rw [hgo]
  show (match gi ρ M2 with
      | .ok k M2 => setP ρ p (true, .loc n) k M2
      | .ex x M1 => .ex x ρ M1
      | .st => .st) = _
  rw [hk]
  show (match M3[n]? with
    | some (b, .list ds) => (match ixN ds.length i with
      | some j => SQ.nx ρ (M3.set n (b || p.1, .list (ds.set j p.2)))
      | none => .st)
    | _ => .st) = _
  rw [hM]
  show (match ixN ds.length i with
      | some j => SQ.nx ρ (M3.set n (b || p.1, .list (ds.set j p.2)))
      | none => .st) = _
  rw [hj]
theorem ixP_loc {b c : Bool} {k : Nat} {ds : List D} {i : Int} {d : D} (hM : M[k]? = some (b, .list ds)) (h : atI ds i = some d) : ixP M (true, .loc k) (c, .int i) = .ok (b, d) M := by
  have e : seqP M (true, .loc k) = some (b, ds) := by
    show (match M[k]? with
      | some (b, .list ds) => some (b, ds)
      | _ => none) = _
    rw [hM]
  show (match seqP M (true, .loc k) with
    | some (b, ds) => (match atI ds i with
      | some d => RQ.ok (b, d) M
      | none => .st)
    | none => .st) = _
  rw [e]
  show (match atI ds i with
      | some d => RQ.ok (b, d) M
      | none => .st) = _
  rw [h]
theorem whileLQ_succ {p : RhoQ → Mem → RQ Bool} {b : SQF} (n : Nat) : whileLQ p b (n + 1) ρ M = (match p ρ M with
    | .ok k M1 => if k = true then (match b ρ M1 with
      | .nx ρ2 M2 => whileLQ p b n ρ2 M2
      | .ct ρ2 M2 => whileLQ p b n ρ2 M2
      | .bk ρ2 M2 => .nx ρ2 M2
      | r => r) else .nx ρ M1
    | .ex x M1 => .ex x ρ M1
    | .st => .st) := rfl
theorem e_sqWhile (fuel : RhoQ → Mem → Nat) (p : RhoQ → Mem → RQ Bool) (b : SQF) : sqWhile fuel p b ρ M = whileLQ p b (fuel ρ M) ρ M := rfl
end
/-- the last one -/
theorem ixN_last {n : Nat} (h : 1 ≤ n) : ixN n (-1) = some (n - 1) := by
  unfold ixN
  rw [if_neg (by decide)]
  rw [if_pos (by omega)]
  congr 1
  omega
theorem atI_last (ds : List D) (d : D) : atI (ds ++ [d]) (-1) = some d := by
  unfold atI
  rw [ixN_last (by rw [List.length_append, List.length_cons, List.length_nil]; omega)]
  show (ds ++ [d])[(ds ++ [d]).length - 1]? = some d
  rw [List.length_append, List.length_cons, List.length_nil, show ds.length + (0 + 1) - 1 = ds.length by omega, List.getElem?_append_right (Nat.le_refl _), Nat.sub_self]
  rfl
theorem set_last (ds : List D) (d e : D) : (ds ++ [d]).set (ds.length + 1 - 1) e = ds ++ [e] := by
  rw [show ds.length + 1 - 1 = ds.length by omega, List.set_append, if_neg (by omega), Nat.sub_self]
  rfl
end Pd

set_option maxHeartbeats 4000000
namespace Pd
open PySem PySem.Spec PyProof.Rows L2
local macro_rules | `(tactic| walk_at "pd") => `(tactic| try simp -implicitDefEqProofs only [e_seq, e_thn, e_trt, e_trn, e_tex, e_if, e_pick, e_pickx, e_ret, e_retN, e_set, e_drop, e_for, e_ofR, e_ofRx, e_ofI, e_nil, e_asg, endS_rt, endS_rn, endS_nx, endS_ex, endN_rn, endN_ex, gC, g1, g2, g3, gA, aNil, aCons, gAnd, gOr, gNot, gB, gTru, bAnd, bOr, bNot, gIf, iA, iSeq, gSl, pNone, pSome, ok_bind, ex_bind, st_bind, gVar, List.getElem?_cons_zero, List.getElem?_cons_succ, List.set_cons_zero, List.set_cons_succ, if_true, if_false, Bool.not_true, Bool.not_false, Bool.false_eq_true, ↓reduceIte, e_asB, e_lt, e_gt, e_le, e_ge, e_ltS, e_gtS, e_eqI, e_eqS, e_eqB, e_neI, e_neS, e_neB, e_addI, e_iaddI, e_subI, e_negI, e_andI, e_orI, e_xorI, e_lenL, e_lenT, e_ord, e_intB, e_intI, e_inS, e_ninS, e_itL, e_itT, e_itS, e_zip, e_enum, e_slL, e_slT, e_asI, e_isN1, e_isN2, e_notN1, e_notN2, e_truB, e_truI, e_truL, e_isi_int_non, e_isi_int_bl, e_isi_int_int, e_isi_int_str, e_isi_int_list, e_isi_int_tup, e_isi_int_dict, e_isi_int_dictT, e_isi_bool_non, e_isi_bool_bl, e_isi_bool_int, e_isi_bool_str, e_isi_bool_list, e_isi_bool_tup, e_isi_bool_dict, e_isi_bool_dictT, e_isi_str_non, e_isi_str_bl, e_isi_str_int, e_isi_str_str, e_isi_str_list, e_isi_str_tup, e_isi_str_dict, e_isi_str_dictT, e_isi_list_non, e_isi_list_bl, e_isi_list_int, e_isi_list_str, e_isi_list_list, e_isi_list_tup, e_isi_list_dict, e_isi_list_dictT, e_isi_tuple_non, e_isi_tuple_bl, e_isi_tuple_int, e_isi_tuple_str, e_isi_tuple_list, e_isi_tuple_tup, e_isi_tuple_dict, e_isi_tuple_dictT, e_isi_dict_non, e_isi_dict_bl, e_isi_dict_int, e_isi_dict_str, e_isi_dict_list, e_isi_dict_tup, e_isi_dict_dict, e_isi_dict_dictT, e_iteAnd, e_iteOr, e_iteAndD, e_iteOrD, e_then_ite, e_endS_ite, e_endN_ite, e_ofR_ite, e_pick_ite, e_bind_ite, e_modI, e_fdivI, e_mul1, e_pow10, e_pow2, e_shl1, e_shrI, e_addS, e_iaddS, e_addL, e_addT, e_lenS, e_lst, e_strLit, String.reduceBEq, e_ixL0, e_ixL1, e_ixL2, e_ixL3, e_ixL4, e_ixL5, e_ixL6, e_ixL7, e_ixL8, e_ixT0, e_ixT1, e_ixT2, e_ixT3, e_ixT4, e_ixT5, e_tupleL, e_listT, e_tupleT, eqX_int, neX_int, eqX_S, neX_S, eqX_t0, neX_t0, e_catL, e_tup, e_inT, e_ninT, e_inL, e_ninL, e_slS, Int.reduceLT, Int.reduceLE, Int.reduceMul, Int.reduceAdd, Int.reduceSub, Int.reducePow, Int.reduceNeg, Int.reduceToNat, List.length_cons, List.length_nil, List.length_append, Nat.reduceAdd, Nat.reduceLeDiff, flD, List.all_cons, List.all_nil, Bool.and_true, Bool.true_and, Bool.and_self, decide_true, decide_false, or_true, true_or, and_true, true_and, eq_self])
local macro_rules | `(tactic| walk_at "pdh") => `(tactic| try simp -implicitDefEqProofs only [e_seq, e_thn, e_trt, e_trn, e_tex, e_if, e_pick, e_pickx, e_ret, e_retN, e_set, e_drop, e_for, e_ofR, e_ofRx, e_ofI, e_nil, e_asg, endS_rt, endS_rn, endS_nx, endS_ex, endN_rn, endN_ex, gC, g1, g2, g3, gA, aNil, aCons, gAnd, gOr, gNot, gB, gTru, bAnd, bOr, bNot, gIf, iA, iSeq, gSl, pNone, pSome, ok_bind, ex_bind, st_bind, gVar, List.getElem?_cons_zero, List.getElem?_cons_succ, List.set_cons_zero, List.set_cons_succ, if_true, if_false, Bool.not_true, Bool.not_false, Bool.false_eq_true, ↓reduceIte, e_asB, e_lt, e_gt, e_le, e_ge, e_ltS, e_gtS, e_eqI, e_eqS, e_eqB, e_neI, e_neS, e_neB, e_addI, e_iaddI, e_subI, e_negI, e_andI, e_orI, e_xorI, e_lenL, e_lenT, e_ord, e_intB, e_intI, e_inS, e_ninS, e_itL, e_itT, e_itS, e_zip, e_enum, e_slL, e_slT, e_asI, e_isN1, e_isN2, e_notN1, e_notN2, e_truB, e_truI, e_truL, e_isi_int_non, e_isi_int_bl, e_isi_int_int, e_isi_int_str, e_isi_int_list, e_isi_int_tup, e_isi_int_dict, e_isi_int_dictT, e_isi_bool_non, e_isi_bool_bl, e_isi_bool_int, e_isi_bool_str, e_isi_bool_list, e_isi_bool_tup, e_isi_bool_dict, e_isi_bool_dictT, e_isi_str_non, e_isi_str_bl, e_isi_str_int, e_isi_str_str, e_isi_str_list, e_isi_str_tup, e_isi_str_dict, e_isi_str_dictT, e_isi_list_non, e_isi_list_bl, e_isi_list_int, e_isi_list_str, e_isi_list_list, e_isi_list_tup, e_isi_list_dict, e_isi_list_dictT, e_isi_tuple_non, e_isi_tuple_bl, e_isi_tuple_int, e_isi_tuple_str, e_isi_tuple_list, e_isi_tuple_tup, e_isi_tuple_dict, e_isi_tuple_dictT, e_isi_dict_non, e_isi_dict_bl, e_isi_dict_int, e_isi_dict_str, e_isi_dict_list, e_isi_dict_tup, e_isi_dict_dict, e_isi_dict_dictT, e_iteAnd, e_iteOr, e_iteAndD, e_iteOrD, e_then_ite, e_endS_ite, e_endN_ite, e_ofR_ite, e_pick_ite, e_bind_ite, e_modI, e_fdivI, e_mul1, e_pow10, e_pow2, e_shl1, e_shrI, e_addS, e_iaddS, e_addL, e_addT, e_lenS, e_lst, e_strLit, String.reduceBEq, e_ixL0, e_ixL1, e_ixL2, e_ixL3, e_ixL4, e_ixL5, e_ixL6, e_ixL7, e_ixL8, e_ixT0, e_ixT1, e_ixT2, e_ixT3, e_ixT4, e_ixT5, e_tupleL, e_listT, e_tupleT, eqX_int, neX_int, eqX_S, neX_S, eqX_t0, neX_t0, e_catL, e_tup, e_inT, e_ninT, e_inL, e_ninL, e_slS, Int.reduceLT, Int.reduceLE, Int.reduceMul, Int.reduceAdd, Int.reduceSub, Int.reducePow, Int.reduceNeg, Int.reduceToNat, List.length_cons, List.length_nil, List.length_append, Nat.reduceAdd, Nat.reduceLeDiff, flD, List.all_cons, List.all_nil, Bool.and_true, Bool.true_and, Bool.and_self, decide_true, decide_false, or_true, true_or, and_true, true_and, eq_self, *])
local macro_rules | `(tactic| walk_at "pdu") => `(tactic| try simp -implicitDefEqProofs only [e_seq, e_forN, e_for0, e_nxn, e_nct, e_nbk, e_nrt, e_nrn, e_nex, e_next_ite, e_thn, e_trt, e_trn, e_tex, e_if, e_pick, e_pickx, e_ret, e_retN, e_set, e_drop, e_for, e_ofR, e_ofRx, e_ofI, e_nil, e_asg, endS_rt, endS_rn, endS_nx, endS_ex, endN_rn, endN_ex, gC, g1, g2, g3, gA, aNil, aCons, gAnd, gOr, gNot, gB, gTru, bAnd, bOr, bNot, gIf, iA, iSeq, gSl, pNone, pSome, ok_bind, ex_bind, st_bind, gVar, List.getElem?_cons_zero, List.getElem?_cons_succ, List.set_cons_zero, List.set_cons_succ, if_true, if_false, Bool.not_true, Bool.not_false, Bool.false_eq_true, ↓reduceIte, e_asB, e_lt, e_gt, e_le, e_ge, e_ltS, e_gtS, e_eqI, e_eqS, e_eqB, e_neI, e_neS, e_neB, e_addI, e_iaddI, e_subI, e_negI, e_andI, e_orI, e_xorI, e_lenL, e_lenT, e_ord, e_intB, e_intI, e_inS, e_ninS, e_itL, e_itT, e_itS, e_zip, e_enum, e_slL, e_slT, e_asI, e_isN1, e_isN2, e_notN1, e_notN2, e_truB, e_truI, e_truL, e_isi_int_non, e_isi_int_bl, e_isi_int_int, e_isi_int_str, e_isi_int_list, e_isi_int_tup, e_isi_int_dict, e_isi_int_dictT, e_isi_bool_non, e_isi_bool_bl, e_isi_bool_int, e_isi_bool_str, e_isi_bool_list, e_isi_bool_tup, e_isi_bool_dict, e_isi_bool_dictT, e_isi_str_non, e_isi_str_bl, e_isi_str_int, e_isi_str_str, e_isi_str_list, e_isi_str_tup, e_isi_str_dict, e_isi_str_dictT, e_isi_list_non, e_isi_list_bl, e_isi_list_int, e_isi_list_str, e_isi_list_list, e_isi_list_tup, e_isi_list_dict, e_isi_list_dictT, e_isi_tuple_non, e_isi_tuple_bl, e_isi_tuple_int, e_isi_tuple_str, e_isi_tuple_list, e_isi_tuple_tup, e_isi_tuple_dict, e_isi_tuple_dictT, e_isi_dict_non, e_isi_dict_bl, e_isi_dict_int, e_isi_dict_str, e_isi_dict_list, e_isi_dict_tup, e_isi_dict_dict, e_isi_dict_dictT, e_iteAnd, e_iteOr, e_iteAndD, e_iteOrD, e_then_ite, e_endS_ite, e_endN_ite, e_ofR_ite, e_pick_ite, e_bind_ite, e_modI, e_fdivI, e_mul1, e_pow10, e_pow2, e_shl1, e_shrI, e_addS, e_iaddS, e_addL, e_addT, e_lenS, e_lst, e_strLit, String.reduceBEq, e_ixL0, e_ixL1, e_ixL2, e_ixL3, e_ixL4, e_ixL5, e_ixL6, e_ixL7, e_ixL8, e_ixT0, e_ixT1, e_ixT2, e_ixT3, e_ixT4, e_ixT5, e_tupleL, e_listT, e_tupleT, eqX_int, neX_int, eqX_S, neX_S, eqX_t0, neX_t0, e_catL, e_tup, e_inT, e_ninT, e_inL, e_ninL, e_slS, Int.reduceLT, Int.reduceLE, Int.reduceMul, Int.reduceAdd, Int.reduceSub, Int.reducePow, Int.reduceNeg, Int.reduceToNat, List.length_cons, List.length_nil, List.length_append, Nat.reduceAdd, Nat.reduceLeDiff, flD, List.all_cons, List.all_nil, Bool.and_true, Bool.true_and, Bool.and_self, decide_true, decide_false, or_true, true_or, and_true, true_and, eq_self])
local macro_rules | `(tactic| walk_at "pdq") => `(tactic| try simp -implicitDefEqProofs only [e_seq, q_seq, q_tnx, q_tex, q_trt, q_then_ite, q_if, q_pick, q_pickx, q_pick_ite, q_nil, q_raise, cl_nil, cl_f, cl_t, cl_n, e_thn, e_trt, e_trn, e_tex, e_if, e_pick, e_pickx, e_ret, e_retN, e_set, e_drop, e_for, e_ofR, e_ofRx, e_ofI, e_nil, e_asg, endS_rt, endS_rn, endS_nx, endS_ex, endN_rn, endN_ex, gC, g1, g2, g3, gA, aNil, aCons, gAnd, gOr, gNot, gB, gTru, bAnd, bOr, bNot, gIf, iA, iSeq, gSl, pNone, pSome, ok_bind, ex_bind, st_bind, gVar, List.getElem?_cons_zero, List.getElem?_cons_succ, List.set_cons_zero, List.set_cons_succ, if_true, if_false, Bool.not_true, Bool.not_false, Bool.false_eq_true, ↓reduceIte, e_asB, e_lt, e_gt, e_le, e_ge, e_ltS, e_gtS, e_eqI, e_eqS, e_eqB, e_neI, e_neS, e_neB, e_addI, e_iaddI, e_subI, e_negI, e_andI, e_orI, e_xorI, e_lenL, e_lenT, e_ord, e_intB, e_intI, e_inS, e_ninS, e_itL, e_itT, e_itS, e_zip, e_enum, e_slL, e_slT, e_asI, e_isN1, e_isN2, e_notN1, e_notN2, e_truB, e_truI, e_truL, e_isi_int_non, e_isi_int_bl, e_isi_int_int, e_isi_int_str, e_isi_int_list, e_isi_int_tup, e_isi_int_dict, e_isi_int_dictT, e_isi_bool_non, e_isi_bool_bl, e_isi_bool_int, e_isi_bool_str, e_isi_bool_list, e_isi_bool_tup, e_isi_bool_dict, e_isi_bool_dictT, e_isi_str_non, e_isi_str_bl, e_isi_str_int, e_isi_str_str, e_isi_str_list, e_isi_str_tup, e_isi_str_dict, e_isi_str_dictT, e_isi_list_non, e_isi_list_bl, e_isi_list_int, e_isi_list_str, e_isi_list_list, e_isi_list_tup, e_isi_list_dict, e_isi_list_dictT, e_isi_tuple_non, e_isi_tuple_bl, e_isi_tuple_int, e_isi_tuple_str, e_isi_tuple_list, e_isi_tuple_tup, e_isi_tuple_dict, e_isi_tuple_dictT, e_isi_dict_non, e_isi_dict_bl, e_isi_dict_int, e_isi_dict_str, e_isi_dict_list, e_isi_dict_tup, e_isi_dict_dict, e_isi_dict_dictT, e_iteAnd, e_iteOr, e_iteAndD, e_iteOrD, e_then_ite, e_endS_ite, e_endN_ite, e_ofR_ite, e_pick_ite, e_bind_ite, e_modI, e_fdivI, e_mul1, e_pow10, e_pow2, e_shl1, e_shrI, e_addS, e_iaddS, e_addL, e_addT, e_lenS, e_lst, e_strLit, String.reduceBEq, e_ixL0, e_ixL1, e_ixL2, e_ixL3, e_ixL4, e_ixL5, e_ixL6, e_ixL7, e_ixL8, e_ixT0, e_ixT1, e_ixT2, e_ixT3, e_ixT4, e_ixT5, e_tupleL, e_listT, e_tupleT, eqX_int, neX_int, eqX_S, neX_S, eqX_t0, neX_t0, e_catL, e_tup, e_inT, e_ninT, e_inL, e_ninL, e_slS, Int.reduceLT, Int.reduceLE, Int.reduceMul, Int.reduceAdd, Int.reduceSub, Int.reducePow, Int.reduceNeg, Int.reduceToNat, List.length_cons, List.length_nil, List.length_append, Nat.reduceAdd, Nat.reduceLeDiff, flD, List.all_cons, List.all_nil, Bool.and_true, Bool.true_and, Bool.and_self, decide_true, decide_false, or_true, true_or, and_true, true_and, eq_self])
local macro_rules | `(tactic| walk_at "pdr") => `(tactic| try simp -implicitDefEqProofs only [e_seq, q_seq, q_tnx, q_tex, q_trt, q_then_ite, q_nil, q_raise, cl_nil, cl_f, cl_t, cl_n, s_ok, s_ex, e_sqRet, e_sqSet, e_sqExpr, e_sqAsg, asg_some, e_tqName, e_tqTup2, e_qP, e_upok, e_upex, e_qVar, e_varok, e_qNew, e_newok, rq_ok, rq_ex, e_aqN, e_aqC, e_qPA, e_qCall, e_qTup, e_tupP2, e_qSn, e_qSnT, e_tok, e_qT, e_up_ite, pk_ite, s_ite, tst_ite, e_end_ite, q_ifS, pk_ok, sn_nil, sn_s, sn_n, fu_f, e_qIx, e_endrt, e_endnx, List.map_cons, List.map_nil, Bool.or_false, Bool.or_true, Bool.true_or, Bool.false_or, e_thn, e_trt, e_trn, e_tex, e_if, e_pick, e_pickx, e_ret, e_retN, e_set, e_drop, e_for, e_ofR, e_ofRx, e_ofI, e_nil, e_asg, endS_rt, endS_rn, endS_nx, endS_ex, endN_rn, endN_ex, gC, g1, g2, g3, gA, aNil, aCons, gAnd, gOr, gNot, gB, gTru, bAnd, bOr, bNot, gIf, iA, iSeq, gSl, pNone, pSome, ok_bind, ex_bind, st_bind, gVar, List.getElem?_cons_zero, List.getElem?_cons_succ, List.set_cons_zero, List.set_cons_succ, if_true, if_false, Bool.not_true, Bool.not_false, Bool.false_eq_true, ↓reduceIte, e_asB, e_lt, e_gt, e_le, e_ge, e_ltS, e_gtS, e_eqI, e_eqS, e_eqB, e_neI, e_neS, e_neB, e_addI, e_iaddI, e_subI, e_negI, e_andI, e_orI, e_xorI, e_lenL, e_lenT, e_ord, e_intB, e_intI, e_inS, e_ninS, e_itL, e_itT, e_itS, e_zip, e_enum, e_slL, e_slT, e_asI, e_isN1, e_isN2, e_notN1, e_notN2, e_truB, e_truI, e_truL, e_isi_int_non, e_isi_int_bl, e_isi_int_int, e_isi_int_str, e_isi_int_list, e_isi_int_tup, e_isi_int_dict, e_isi_int_dictT, e_isi_bool_non, e_isi_bool_bl, e_isi_bool_int, e_isi_bool_str, e_isi_bool_list, e_isi_bool_tup, e_isi_bool_dict, e_isi_bool_dictT, e_isi_str_non, e_isi_str_bl, e_isi_str_int, e_isi_str_str, e_isi_str_list, e_isi_str_tup, e_isi_str_dict, e_isi_str_dictT, e_isi_list_non, e_isi_list_bl, e_isi_list_int, e_isi_list_str, e_isi_list_list, e_isi_list_tup, e_isi_list_dict, e_isi_list_dictT, e_isi_tuple_non, e_isi_tuple_bl, e_isi_tuple_int, e_isi_tuple_str, e_isi_tuple_list, e_isi_tuple_tup, e_isi_tuple_dict, e_isi_tuple_dictT, e_isi_dict_non, e_isi_dict_bl, e_isi_dict_int, e_isi_dict_str, e_isi_dict_list, e_isi_dict_tup, e_isi_dict_dict, e_isi_dict_dictT, e_iteAnd, e_iteOr, e_iteAndD, e_iteOrD, e_then_ite, e_endS_ite, e_endN_ite, e_ofR_ite, e_pick_ite, e_bind_ite, e_modI, e_fdivI, e_mul1, e_pow10, e_pow2, e_shl1, e_shrI, e_addS, e_iaddS, e_addL, e_addT, e_lenS, e_lst, e_strLit, String.reduceBEq, e_ixL0, e_ixL1, e_ixL2, e_ixL3, e_ixL4, e_ixL5, e_ixL6, e_ixL7, e_ixL8, e_ixT0, e_ixT1, e_ixT2, e_ixT3, e_ixT4, e_ixT5, e_tupleL, e_listT, e_tupleT, eqX_int, neX_int, eqX_S, neX_S, eqX_t0, neX_t0, e_catL, e_tup, e_inT, e_ninT, e_inL, e_ninL, e_slS, Int.reduceLT, Int.reduceLE, Int.reduceMul, Int.reduceAdd, Int.reduceSub, Int.reducePow, Int.reduceNeg, Int.reduceToNat, List.length_cons, List.length_nil, List.length_append, Nat.reduceAdd, Nat.reduceLeDiff, flD, List.all_cons, List.all_nil, Bool.and_true, Bool.true_and, Bool.and_self, decide_true, decide_false, or_true, true_or, and_true, true_and, eq_self])
local macro_rules | `(tactic| walk_at "pdv") => `(tactic| try simp -implicitDefEqProofs only [e_seq, Int.reduceBEq, Int.cast_ofNat_Int, e_thn, e_trt, e_trn, e_tex, e_if, e_pick, e_pickx, e_ret, e_retN, e_set, e_drop, e_for, e_ofR, e_ofRx, e_ofI, e_nil, e_asg, endS_rt, endS_rn, endS_nx, endS_ex, endN_rn, endN_ex, gC, g1, g2, g3, gA, aNil, aCons, gAnd, gOr, gNot, gB, gTru, bAnd, bOr, bNot, gIf, iA, iSeq, gSl, pNone, pSome, ok_bind, ex_bind, st_bind, gVar, List.getElem?_cons_zero, List.getElem?_cons_succ, List.set_cons_zero, List.set_cons_succ, if_true, if_false, Bool.not_true, Bool.not_false, Bool.false_eq_true, ↓reduceIte, e_asB, e_lt, e_gt, e_le, e_ge, e_ltS, e_gtS, e_eqI, e_eqS, e_eqB, e_neI, e_neS, e_neB, e_addI, e_iaddI, e_subI, e_negI, e_andI, e_orI, e_xorI, e_lenL, e_lenT, e_ord, e_intB, e_intI, e_inS, e_ninS, e_itL, e_itT, e_itS, e_zip, e_enum, e_slL, e_slT, e_asI, e_isN1, e_isN2, e_notN1, e_notN2, e_truB, e_truI, e_truL, e_isi_int_non, e_isi_int_bl, e_isi_int_int, e_isi_int_str, e_isi_int_list, e_isi_int_tup, e_isi_int_dict, e_isi_int_dictT, e_isi_bool_non, e_isi_bool_bl, e_isi_bool_int, e_isi_bool_str, e_isi_bool_list, e_isi_bool_tup, e_isi_bool_dict, e_isi_bool_dictT, e_isi_str_non, e_isi_str_bl, e_isi_str_int, e_isi_str_str, e_isi_str_list, e_isi_str_tup, e_isi_str_dict, e_isi_str_dictT, e_isi_list_non, e_isi_list_bl, e_isi_list_int, e_isi_list_str, e_isi_list_list, e_isi_list_tup, e_isi_list_dict, e_isi_list_dictT, e_isi_tuple_non, e_isi_tuple_bl, e_isi_tuple_int, e_isi_tuple_str, e_isi_tuple_list, e_isi_tuple_tup, e_isi_tuple_dict, e_isi_tuple_dictT, e_isi_dict_non, e_isi_dict_bl, e_isi_dict_int, e_isi_dict_str, e_isi_dict_list, e_isi_dict_tup, e_isi_dict_dict, e_isi_dict_dictT, e_iteAnd, e_iteOr, e_iteAndD, e_iteOrD, e_then_ite, e_endS_ite, e_endN_ite, e_ofR_ite, e_pick_ite, e_bind_ite, e_modI, e_fdivI, e_mul1, e_pow10, e_pow2, e_shl1, e_shrI, e_addS, e_iaddS, e_addL, e_addT, e_lenS, e_lst, e_strLit, String.reduceBEq, e_ixL0, e_ixL1, e_ixL2, e_ixL3, e_ixL4, e_ixL5, e_ixL6, e_ixL7, e_ixL8, e_ixT0, e_ixT1, e_ixT2, e_ixT3, e_ixT4, e_ixT5, e_tupleL, e_listT, e_tupleT, eqX_int, neX_int, eqX_S, neX_S, eqX_t0, neX_t0, e_catL, e_tup, e_inT, e_ninT, e_inL, e_ninL, e_slS, Int.reduceLT, Int.reduceLE, Int.reduceMul, Int.reduceAdd, Int.reduceSub, Int.reducePow, Int.reduceNeg, Int.reduceToNat, List.length_cons, List.length_nil, List.length_append, Nat.reduceAdd, Nat.reduceLeDiff, flD, List.all_cons, List.all_nil, Bool.and_true, Bool.true_and, Bool.and_self, decide_true, decide_false, or_true, true_or, and_true, true_and, eq_self])
theorem signs_all (s : Str) (P : D → Bool) : (signs s).all P = s.cps.toList.all fun c => P (.str ⟨#[c]⟩) := by
  unfold signs
  rw [List.all_map]
  rfl
theorem mem_signs {s : Str} {d : D} (h : d ∈ signs s) : ∃ c, c ∈ s.cps.toList ∧ d = .str ⟨#[c]⟩ := by
  unfold signs at h
  obtain ⟨c, hc, rfl⟩ := List.mem_map.mp h
  exact ⟨c, hc, rfl⟩
def ofS (s g : Str) (lo hi : Int) : Bool := (decide (lo ≤ (s.length : Int)) && decide ((s.length : Int) ≤ hi)) && s.cps.toList.all fun c => decide (c ∈ g.cps.toList)
def inStr (g : Str) : D → Bool
  | .str z => hasSub g z
  | _ => false
theorem inStr_all (s g : Str) : (signs s).all (inStr g) = s.cps.toList.all fun c => decide (c ∈ g.cps.toList) := by
  rw [signs_all]
  congr 1
  funext c
  exact hasSub_one g c
/-- what is no text -/
def other : D → Bool
  | .non => true | .bl _ => true | .int _ => true | .list _ => true | .tup _ => true | .dict _ => true
  | _ => false
def allSigns : Str := " !\"#$&'()*+,-./0123456789:;<=>?@ABCDEFGHIJKLMNOPQRSTUVWXYZ[\\]^_`abcdefghijklmnopqrstuvwxyz{|}~"
theorem sign_in (c : Nat) : decide (c ∈ allSigns.cps.toList) = !(decide (c < 32) || (decide (126 < c) || decide ((c : Int) = 37))) := by
  by_cases h : c < 127
  · have key : ∀ c : Nat, c < 127 → decide (c ∈ allSigns.cps.toList) = !(decide (c < 32) || (decide (126 < c) || decide ((c : Int) = 37))) := by decide +kernel
    exact key c h
  · have h1 : ¬ c ∈ allSigns.cps.toList := fun z => by
      have key : ∀ x ∈ allSigns.cps.toList, x < 127 := by decide +kernel
      exact h (key c z)
    rw [decide_eq_false h1, decide_eq_true (show 126 < c by omega)]
    simp
theorem lt_one (c n : Nat) : decide (([c] : List Nat) < [n]) = decide (c < n) := by
  rw [decide_eq_decide]
  rw [List.cons_lt_cons_iff]
  constructor
  · rintro (h | ⟨_, h⟩)
    · exact h
    · exact absurd h (by decide)
  · exact fun h => .inl h
theorem is_text_str (s : Str) (hs : s.length ≤ 16777216) : F_is_text [.str s] = .ok (.bl (ofS s allSigns 0 60)) := by
  show endS (S_is_text [some (.str s), none]) = _
  unfold S_is_text ofS
  walk_at "pd"
  rw [e_lenS s hs]
  walk_at "pd"
  rw [decide_eq_true (show (0 : Int) ≤ (s.length : Int) by omega), Bool.true_and]
  by_cases h2 : (s.length : Int) ≤ 60
  · rw [decide_eq_true h2, decide_eq_false (show ¬ (60 : Int) < (s.length : Int) by omega)]
    walk_at "pd"
    obtain ⟨ρ', hρ, e⟩ := forL_all (i := 1) (b := B_is_text_0) (inStr allSigns) (.rt (.bl false)) (.inl ⟨_, rfl⟩) [some (.str s), none] (signs s) _ (.inl rfl) (fun d hd => by
      obtain ⟨c, hc, rfl⟩ := mem_signs hd
      unfold B_is_text_0
      walk_at "pd"
      have e1 : ltS ⟨#[c]⟩ " " = decide (c < 32) := lt_one c 32
      have e2 : ltS "~" ⟨#[c]⟩ = decide (126 < c) := lt_one 126 c
      have e3 : ((c : Int) == 37) = decide ((c : Int) = 37) := rfl
      have e4 : inStr allSigns (.str ⟨#[c]⟩) = decide (c ∈ allSigns.cps.toList) := hasSub_one allSigns c
      rw [e1, e2, e3, e4, sign_in c]
      cases decide (c < 32) <;> cases decide (126 < c) <;> cases decide ((c : Int) = 37) <;> rfl)
    rw [e, inStr_all]
    cases hb : s.cps.toList.all fun c => decide (c ∈ allSigns.cps.toList) <;> rfl
  · rw [decide_eq_false h2, decide_eq_true (show (60 : Int) < (s.length : Int) by omega)]
    rfl
theorem is_text_other (d : D) (h : other d = true) : F_is_text [d] = .ok (.bl false) := by
  cases d <;> first | rfl | cases h
def ofB (d : D) (g : Str) (lo hi : Int) : Bool := match d with
  | .str s => ofS s g lo hi
  | _ => false
def good : D → Bool
  | .str s => decide (s.length ≤ 16777216)
  | d => other d
theorem good_cases {d : D} (h : good d = true) : (∃ s, d = .str s ∧ s.length ≤ 16777216) ∨ other d = true := by
  cases d with
  | str s => exact .inl ⟨s, rfl, of_decide_eq_true h⟩
  | _ => exact .inr h
theorem ofB_other {d : D} (g : Str) (lo hi : Int) (h : other d = true) : ofB d g lo hi = false := by
  cases d <;> first | rfl | cases h
theorem f_text {d : D} (h : good d = true) : F_is_text [d] = .ok (.bl (ofB d allSigns 0 60)) := by
  rcases good_cases h with ⟨s, rfl, hs⟩ | h'
  · exact is_text_str s hs
  · rw [is_text_other d h', ofB_other _ 0 60 h']
/-! ### the numbers drawn -/
def intsD (ks : List Nat) : List D := ks.map fun (k : Nat) => D.int (k : Int)
theorem intsD_app (ks : List Nat) (k : Nat) : intsD ks ++ [D.int (k : Int)] = intsD (ks ++ [k]) := by
  unfold intsD
  rw [List.map_append]
  rfl
theorem intsD_len (ks : List Nat) : (intsD ks).length = ks.length := by unfold intsD; simp
/-- a drawn number -/
def Dr (x : Nat) : Prop := (x : Int) < 268435456
def StreamInv (c n : Int) (j : Nat) (ρ : Rho) : Prop := ∃ (xs : List Nat) (left : Int) (num : Nat) (o : Option D), ρ = [some (.int c), some (.int n), some (.list (intsD xs)), some (.int left), some (.int (num : Int)), o] ∧ xs.length = j ∧ (∀ x ∈ xs, Dr x) ∧ (num : Int) < 4294967296
theorem stream_step (c n : Int) (xs : List Nat) (left : Int) (num k : Nat) (hnum : (num : Int) < 4294967296) (hk : k < 1000) (hl : xs.length ≤ 1000) :
    ∃ (x : Nat) (left' : Int) (num' : Nat), B__law_stream_0 [some (.int c), some (.int n), some (.list (intsD xs)), some (.int left), some (.int (num : Int)), some (.int (0 + (k : Int)))] =
      .nx [some (.int c), some (.int n), some (.list (intsD (xs ++ [x]))), some (.int left'), some (.int (num' : Int)), some (.int (0 + (k : Int)))] ∧ Dr x ∧ (num' : Int) < 4294967296 := by
  have hz : (intsD xs).length < sizeLine := by rw [intsD_len, sizeLine_eq]; omega
  have hm : 0 ≤ ((num : Int) * 48271 + 7919 * (0 + (k : Int)) + 1) % 2147483647 ∧ ((num : Int) * 48271 + 7919 * (0 + (k : Int)) + 1) % 2147483647 < 2147483647 := ⟨Int.emod_nonneg _ (by decide), Int.emod_lt_of_pos _ (by decide)⟩
  generalize hq : ((num : Int) * 48271 + 7919 * (0 + (k : Int)) + 1) % 2147483647 = q at hm
  have e1 : ∀ r : S, (∀ ρ', ρ' = [some (.int c), some (.int n), some (.list (intsD xs)), some (.int left), some (.int q), some (.int (0 + (k : Int)))] → (if (c % 2 == 1 && (!left == 0 && !left == -1)) = true then (sSeq (sAppend 2 (g2 modD (gVar 3) (gC (.int 268435456)))) (sSet 3 (g2 fdivD (gVar 3) (gC (.int 268435456))))) ρ' else (sAppend 2 (g2 fdivD (g2 modD (g2 addD (g2 mulD (g2 modD (g2 mulD (gVar 4) (gVar 4)) (gC (.int 2147483629))) (gC (.int 16807))) (gVar 5)) (gC (.int 2147483587))) (gC (.int 8)))) ρ') = r) →
      B__law_stream_0 [some (.int c), some (.int n), some (.list (intsD xs)), some (.int left), some (.int (num : Int)), some (.int (0 + (k : Int)))] = r := fun r h => by
    have := h _ rfl
    unfold B__law_stream_0
    walk_at "pd"
    rw [hq]
    walk_at "pd"
    exact this
  by_cases hc : (c % 2 == 1 && (!left == 0 && !left == -1)) = true
  · refine ⟨(left % 268435456).toNat, left / 268435456, q.toNat, e1 _ fun ρ' hρ => ?_, ?_, ?_⟩
    · subst hρ
      rw [if_pos hc]
      walk_at "pd"
      rw [e_append (intsD xs) rfl]
      walk_at "pd"
      rw [if_pos hz]
      walk_at "pd"
      have f1 : ((left % 268435456).toNat : Int) = left % 268435456 := by omega
      have f2 : (q.toNat : Int) = q := by omega
      rw [← intsD_app, f1, f2]
    · show ((left % 268435456).toNat : Int) < 268435456
      omega
    · omega
  · have g1 : 0 ≤ q * q % 2147483629 ∧ q * q % 2147483629 < 2147483629 := ⟨Int.emod_nonneg _ (by decide), Int.emod_lt_of_pos _ (by decide)⟩
    have g2 : 0 ≤ (q * q % 2147483629 * 16807 + (0 + (k : Int))) % 2147483587 ∧ (q * q % 2147483629 * 16807 + (0 + (k : Int))) % 2147483587 < 2147483587 := ⟨Int.emod_nonneg _ (by decide), Int.emod_lt_of_pos _ (by decide)⟩
    generalize hr : (q * q % 2147483629 * 16807 + (0 + (k : Int))) % 2147483587 = r at g2
    refine ⟨(r / 8).toNat, left, q.toNat, e1 _ fun ρ' hρ => ?_, ?_, ?_⟩
    · subst hρ
      rw [if_neg hc, e_append (intsD xs) rfl]
      walk_at "pd"
      rw [e_mul1 q q (.inl ⟨by omega, by omega⟩)]
      walk_at "pd"
      rw [hr]
      walk_at "pd"
      rw [if_pos hz]
      have f1 : ((r / 8).toNat : Int) = r / 8 := by omega
      have f2 : (q.toNat : Int) = q := by omega
      rw [← intsD_app, f1, f2]
    · show ((r / 8).toNat : Int) < 268435456
      omega
    · omega
theorem stream_at (c : Int) (n : Nat) (hn : n ≤ 1000) : ∃ xs : List Nat, F__law_stream [.int c, .int (n : Int)] = .ok (.list (intsD xs)) ∧ xs.length = n ∧ ∀ x ∈ xs, Dr x := by
  show ∃ xs : List Nat, endS (S__law_stream [some (.int c), some (.int (n : Int)), none, none, none, none]) = .ok (.list (intsD xs)) ∧ xs.length = n ∧ ∀ x ∈ xs, Dr x
  unfold S__law_stream
  walk_at "pd"
  rw [e_rng1 (n : Int) (small_ok (by omega) (by omega)), Int.toNat_natCast]
  walk_at "pd"
  have i0 : 0 ≤ n ∧ StreamInv c n 0 [some (.int c), some (.int (n : Int)), some (.list []), some (.int (c / 2)), some (.int (c % 2147483629 + 17)), none] := by
    refine ⟨Nat.zero_le _, [], c / 2, (c % 2147483629 + 17).toNat, none, ?_, rfl, (fun x hx => by simp at hx), ?_⟩
    · have : ((c % 2147483629 + 17).toNat : Int) = c % 2147483629 + 17 := by omega
      rw [this]
      rfl
    · omega
  have key := forL_nx (τ := τName 5) (b := B__law_stream_0) (fun j ρ => j ≤ n ∧ StreamInv c n j ρ) (rngL 0 n) 0 _ i0 (by
    rintro j d ρ hd ⟨hj, xs, left, num, o, rfl, hl, hx, hnum⟩
    obtain ⟨k, hk, rfl⟩ := mem_rng (List.mem_of_getElem? hd)
    have hj2 : j < n := by
      have := (List.getElem?_eq_some_iff.mp hd).1
      rw [rng_len] at this
      exact this
    obtain ⟨x, left', num', eb, hx', hn'⟩ := stream_step c n xs left num k hnum (by omega) (by omega)
    exact ⟨_, _, rfl, eb, by omega, xs ++ [x], left', num', _, rfl, by rw [List.length_append, hl]; rfl, fun y hy => by
      rcases List.mem_append.mp hy with h | h
      · exact hx y h
      · simp at h
        rw [h]
        exact hx', hn'⟩)
  obtain ⟨ρ', ef, _, xs, left, num, o, rfl, hl, hx, hnum⟩ := key
  refine ⟨xs, ?_, ?_, hx⟩
  · rw [ef]
    walk_at "pd"
    rw [e_retO (.list (intsD xs)) rfl]
    rfl
  · rw [hl, rng_len]
    omega

end Pd

set_option maxHeartbeats 4000000
namespace Pd
open PySem PySem.Spec PyProof.Rows L2
local macro_rules | `(tactic| walk_at "pd") => `(tactic| try simp -implicitDefEqProofs only [e_seq, e_thn, e_trt, e_trn, e_tex, e_if, e_pick, e_pickx, e_ret, e_retN, e_set, e_drop, e_for, e_ofR, e_ofRx, e_ofI, e_nil, e_asg, endS_rt, endS_rn, endS_nx, endS_ex, endN_rn, endN_ex, gC, g1, g2, g3, gA, aNil, aCons, gAnd, gOr, gNot, gB, gTru, bAnd, bOr, bNot, gIf, iA, iSeq, gSl, pNone, pSome, ok_bind, ex_bind, st_bind, gVar, List.getElem?_cons_zero, List.getElem?_cons_succ, List.set_cons_zero, List.set_cons_succ, if_true, if_false, Bool.not_true, Bool.not_false, Bool.false_eq_true, ↓reduceIte, e_asB, e_lt, e_gt, e_le, e_ge, e_ltS, e_gtS, e_eqI, e_eqS, e_eqB, e_neI, e_neS, e_neB, e_addI, e_iaddI, e_subI, e_negI, e_andI, e_orI, e_xorI, e_lenL, e_lenT, e_ord, e_intB, e_intI, e_inS, e_ninS, e_itL, e_itT, e_itS, e_zip, e_enum, e_slL, e_slT, e_asI, e_isN1, e_isN2, e_notN1, e_notN2, e_truB, e_truI, e_truL, e_isi_int_non, e_isi_int_bl, e_isi_int_int, e_isi_int_str, e_isi_int_list, e_isi_int_tup, e_isi_int_dict, e_isi_int_dictT, e_isi_bool_non, e_isi_bool_bl, e_isi_bool_int, e_isi_bool_str, e_isi_bool_list, e_isi_bool_tup, e_isi_bool_dict, e_isi_bool_dictT, e_isi_str_non, e_isi_str_bl, e_isi_str_int, e_isi_str_str, e_isi_str_list, e_isi_str_tup, e_isi_str_dict, e_isi_str_dictT, e_isi_list_non, e_isi_list_bl, e_isi_list_int, e_isi_list_str, e_isi_list_list, e_isi_list_tup, e_isi_list_dict, e_isi_list_dictT, e_isi_tuple_non, e_isi_tuple_bl, e_isi_tuple_int, e_isi_tuple_str, e_isi_tuple_list, e_isi_tuple_tup, e_isi_tuple_dict, e_isi_tuple_dictT, e_isi_dict_non, e_isi_dict_bl, e_isi_dict_int, e_isi_dict_str, e_isi_dict_list, e_isi_dict_tup, e_isi_dict_dict, e_isi_dict_dictT, e_iteAnd, e_iteOr, e_iteAndD, e_iteOrD, e_then_ite, e_endS_ite, e_endN_ite, e_ofR_ite, e_pick_ite, e_bind_ite, e_modI, e_fdivI, e_mul1, e_pow10, e_pow2, e_shl1, e_shrI, e_addS, e_iaddS, e_addL, e_addT, e_lenS, e_lst, e_strLit, String.reduceBEq, e_ixL0, e_ixL1, e_ixL2, e_ixL3, e_ixL4, e_ixL5, e_ixL6, e_ixL7, e_ixL8, e_ixT0, e_ixT1, e_ixT2, e_ixT3, e_ixT4, e_ixT5, e_tupleL, e_listT, e_tupleT, eqX_int, neX_int, eqX_S, neX_S, eqX_t0, neX_t0, e_catL, e_tup, e_inT, e_ninT, e_inL, e_ninL, e_slS, Int.reduceLT, Int.reduceLE, Int.reduceMul, Int.reduceAdd, Int.reduceSub, Int.reducePow, Int.reduceNeg, Int.reduceToNat, List.length_cons, List.length_nil, List.length_append, Nat.reduceAdd, Nat.reduceLeDiff, flD, List.all_cons, List.all_nil, Bool.and_true, Bool.true_and, Bool.and_self, decide_true, decide_false, or_true, true_or, and_true, true_and, eq_self])
local macro_rules | `(tactic| walk_at "pdh") => `(tactic| try simp -implicitDefEqProofs only [e_seq, e_thn, e_trt, e_trn, e_tex, e_if, e_pick, e_pickx, e_ret, e_retN, e_set, e_drop, e_for, e_ofR, e_ofRx, e_ofI, e_nil, e_asg, endS_rt, endS_rn, endS_nx, endS_ex, endN_rn, endN_ex, gC, g1, g2, g3, gA, aNil, aCons, gAnd, gOr, gNot, gB, gTru, bAnd, bOr, bNot, gIf, iA, iSeq, gSl, pNone, pSome, ok_bind, ex_bind, st_bind, gVar, List.getElem?_cons_zero, List.getElem?_cons_succ, List.set_cons_zero, List.set_cons_succ, if_true, if_false, Bool.not_true, Bool.not_false, Bool.false_eq_true, ↓reduceIte, e_asB, e_lt, e_gt, e_le, e_ge, e_ltS, e_gtS, e_eqI, e_eqS, e_eqB, e_neI, e_neS, e_neB, e_addI, e_iaddI, e_subI, e_negI, e_andI, e_orI, e_xorI, e_lenL, e_lenT, e_ord, e_intB, e_intI, e_inS, e_ninS, e_itL, e_itT, e_itS, e_zip, e_enum, e_slL, e_slT, e_asI, e_isN1, e_isN2, e_notN1, e_notN2, e_truB, e_truI, e_truL, e_isi_int_non, e_isi_int_bl, e_isi_int_int, e_isi_int_str, e_isi_int_list, e_isi_int_tup, e_isi_int_dict, e_isi_int_dictT, e_isi_bool_non, e_isi_bool_bl, e_isi_bool_int, e_isi_bool_str, e_isi_bool_list, e_isi_bool_tup, e_isi_bool_dict, e_isi_bool_dictT, e_isi_str_non, e_isi_str_bl, e_isi_str_int, e_isi_str_str, e_isi_str_list, e_isi_str_tup, e_isi_str_dict, e_isi_str_dictT, e_isi_list_non, e_isi_list_bl, e_isi_list_int, e_isi_list_str, e_isi_list_list, e_isi_list_tup, e_isi_list_dict, e_isi_list_dictT, e_isi_tuple_non, e_isi_tuple_bl, e_isi_tuple_int, e_isi_tuple_str, e_isi_tuple_list, e_isi_tuple_tup, e_isi_tuple_dict, e_isi_tuple_dictT, e_isi_dict_non, e_isi_dict_bl, e_isi_dict_int, e_isi_dict_str, e_isi_dict_list, e_isi_dict_tup, e_isi_dict_dict, e_isi_dict_dictT, e_iteAnd, e_iteOr, e_iteAndD, e_iteOrD, e_then_ite, e_endS_ite, e_endN_ite, e_ofR_ite, e_pick_ite, e_bind_ite, e_modI, e_fdivI, e_mul1, e_pow10, e_pow2, e_shl1, e_shrI, e_addS, e_iaddS, e_addL, e_addT, e_lenS, e_lst, e_strLit, String.reduceBEq, e_ixL0, e_ixL1, e_ixL2, e_ixL3, e_ixL4, e_ixL5, e_ixL6, e_ixL7, e_ixL8, e_ixT0, e_ixT1, e_ixT2, e_ixT3, e_ixT4, e_ixT5, e_tupleL, e_listT, e_tupleT, eqX_int, neX_int, eqX_S, neX_S, eqX_t0, neX_t0, e_catL, e_tup, e_inT, e_ninT, e_inL, e_ninL, e_slS, Int.reduceLT, Int.reduceLE, Int.reduceMul, Int.reduceAdd, Int.reduceSub, Int.reducePow, Int.reduceNeg, Int.reduceToNat, List.length_cons, List.length_nil, List.length_append, Nat.reduceAdd, Nat.reduceLeDiff, flD, List.all_cons, List.all_nil, Bool.and_true, Bool.true_and, Bool.and_self, decide_true, decide_false, or_true, true_or, and_true, true_and, eq_self, *])
local macro_rules | `(tactic| walk_at "pdu") => `(tactic| try simp -implicitDefEqProofs only [e_seq, e_forN, e_for0, e_nxn, e_nct, e_nbk, e_nrt, e_nrn, e_nex, e_next_ite, e_thn, e_trt, e_trn, e_tex, e_if, e_pick, e_pickx, e_ret, e_retN, e_set, e_drop, e_for, e_ofR, e_ofRx, e_ofI, e_nil, e_asg, endS_rt, endS_rn, endS_nx, endS_ex, endN_rn, endN_ex, gC, g1, g2, g3, gA, aNil, aCons, gAnd, gOr, gNot, gB, gTru, bAnd, bOr, bNot, gIf, iA, iSeq, gSl, pNone, pSome, ok_bind, ex_bind, st_bind, gVar, List.getElem?_cons_zero, List.getElem?_cons_succ, List.set_cons_zero, List.set_cons_succ, if_true, if_false, Bool.not_true, Bool.not_false, Bool.false_eq_true, ↓reduceIte, e_asB, e_lt, e_gt, e_le, e_ge, e_ltS, e_gtS, e_eqI, e_eqS, e_eqB, e_neI, e_neS, e_neB, e_addI, e_iaddI, e_subI, e_negI, e_andI, e_orI, e_xorI, e_lenL, e_lenT, e_ord, e_intB, e_intI, e_inS, e_ninS, e_itL, e_itT, e_itS, e_zip, e_enum, e_slL, e_slT, e_asI, e_isN1, e_isN2, e_notN1, e_notN2, e_truB, e_truI, e_truL, e_isi_int_non, e_isi_int_bl, e_isi_int_int, e_isi_int_str, e_isi_int_list, e_isi_int_tup, e_isi_int_dict, e_isi_int_dictT, e_isi_bool_non, e_isi_bool_bl, e_isi_bool_int, e_isi_bool_str, e_isi_bool_list, e_isi_bool_tup, e_isi_bool_dict, e_isi_bool_dictT, e_isi_str_non, e_isi_str_bl, e_isi_str_int, e_isi_str_str, e_isi_str_list, e_isi_str_tup, e_isi_str_dict, e_isi_str_dictT, e_isi_list_non, e_isi_list_bl, e_isi_list_int, e_isi_list_str, e_isi_list_list, e_isi_list_tup, e_isi_list_dict, e_isi_list_dictT, e_isi_tuple_non, e_isi_tuple_bl, e_isi_tuple_int, e_isi_tuple_str, e_isi_tuple_list, e_isi_tuple_tup, e_isi_tuple_dict, e_isi_tuple_dictT, e_isi_dict_non, e_isi_dict_bl, e_isi_dict_int, e_isi_dict_str, e_isi_dict_list, e_isi_dict_tup, e_isi_dict_dict, e_isi_dict_dictT, e_iteAnd, e_iteOr, e_iteAndD, e_iteOrD, e_then_ite, e_endS_ite, e_endN_ite, e_ofR_ite, e_pick_ite, e_bind_ite, e_modI, e_fdivI, e_mul1, e_pow10, e_pow2, e_shl1, e_shrI, e_addS, e_iaddS, e_addL, e_addT, e_lenS, e_lst, e_strLit, String.reduceBEq, e_ixL0, e_ixL1, e_ixL2, e_ixL3, e_ixL4, e_ixL5, e_ixL6, e_ixL7, e_ixL8, e_ixT0, e_ixT1, e_ixT2, e_ixT3, e_ixT4, e_ixT5, e_tupleL, e_listT, e_tupleT, eqX_int, neX_int, eqX_S, neX_S, eqX_t0, neX_t0, e_catL, e_tup, e_inT, e_ninT, e_inL, e_ninL, e_slS, Int.reduceLT, Int.reduceLE, Int.reduceMul, Int.reduceAdd, Int.reduceSub, Int.reducePow, Int.reduceNeg, Int.reduceToNat, List.length_cons, List.length_nil, List.length_append, Nat.reduceAdd, Nat.reduceLeDiff, flD, List.all_cons, List.all_nil, Bool.and_true, Bool.true_and, Bool.and_self, decide_true, decide_false, or_true, true_or, and_true, true_and, eq_self])
local macro_rules | `(tactic| walk_at "pdq") => `(tactic| try simp -implicitDefEqProofs only [e_seq, q_seq, q_tnx, q_tex, q_trt, q_then_ite, q_if, q_pick, q_pickx, q_pick_ite, q_nil, q_raise, cl_nil, cl_f, cl_t, cl_n, e_thn, e_trt, e_trn, e_tex, e_if, e_pick, e_pickx, e_ret, e_retN, e_set, e_drop, e_for, e_ofR, e_ofRx, e_ofI, e_nil, e_asg, endS_rt, endS_rn, endS_nx, endS_ex, endN_rn, endN_ex, gC, g1, g2, g3, gA, aNil, aCons, gAnd, gOr, gNot, gB, gTru, bAnd, bOr, bNot, gIf, iA, iSeq, gSl, pNone, pSome, ok_bind, ex_bind, st_bind, gVar, List.getElem?_cons_zero, List.getElem?_cons_succ, List.set_cons_zero, List.set_cons_succ, if_true, if_false, Bool.not_true, Bool.not_false, Bool.false_eq_true, ↓reduceIte, e_asB, e_lt, e_gt, e_le, e_ge, e_ltS, e_gtS, e_eqI, e_eqS, e_eqB, e_neI, e_neS, e_neB, e_addI, e_iaddI, e_subI, e_negI, e_andI, e_orI, e_xorI, e_lenL, e_lenT, e_ord, e_intB, e_intI, e_inS, e_ninS, e_itL, e_itT, e_itS, e_zip, e_enum, e_slL, e_slT, e_asI, e_isN1, e_isN2, e_notN1, e_notN2, e_truB, e_truI, e_truL, e_isi_int_non, e_isi_int_bl, e_isi_int_int, e_isi_int_str, e_isi_int_list, e_isi_int_tup, e_isi_int_dict, e_isi_int_dictT, e_isi_bool_non, e_isi_bool_bl, e_isi_bool_int, e_isi_bool_str, e_isi_bool_list, e_isi_bool_tup, e_isi_bool_dict, e_isi_bool_dictT, e_isi_str_non, e_isi_str_bl, e_isi_str_int, e_isi_str_str, e_isi_str_list, e_isi_str_tup, e_isi_str_dict, e_isi_str_dictT, e_isi_list_non, e_isi_list_bl, e_isi_list_int, e_isi_list_str, e_isi_list_list, e_isi_list_tup, e_isi_list_dict, e_isi_list_dictT, e_isi_tuple_non, e_isi_tuple_bl, e_isi_tuple_int, e_isi_tuple_str, e_isi_tuple_list, e_isi_tuple_tup, e_isi_tuple_dict, e_isi_tuple_dictT, e_isi_dict_non, e_isi_dict_bl, e_isi_dict_int, e_isi_dict_str, e_isi_dict_list, e_isi_dict_tup, e_isi_dict_dict, e_isi_dict_dictT, e_iteAnd, e_iteOr, e_iteAndD, e_iteOrD, e_then_ite, e_endS_ite, e_endN_ite, e_ofR_ite, e_pick_ite, e_bind_ite, e_modI, e_fdivI, e_mul1, e_pow10, e_pow2, e_shl1, e_shrI, e_addS, e_iaddS, e_addL, e_addT, e_lenS, e_lst, e_strLit, String.reduceBEq, e_ixL0, e_ixL1, e_ixL2, e_ixL3, e_ixL4, e_ixL5, e_ixL6, e_ixL7, e_ixL8, e_ixT0, e_ixT1, e_ixT2, e_ixT3, e_ixT4, e_ixT5, e_tupleL, e_listT, e_tupleT, eqX_int, neX_int, eqX_S, neX_S, eqX_t0, neX_t0, e_catL, e_tup, e_inT, e_ninT, e_inL, e_ninL, e_slS, Int.reduceLT, Int.reduceLE, Int.reduceMul, Int.reduceAdd, Int.reduceSub, Int.reducePow, Int.reduceNeg, Int.reduceToNat, List.length_cons, List.length_nil, List.length_append, Nat.reduceAdd, Nat.reduceLeDiff, flD, List.all_cons, List.all_nil, Bool.and_true, Bool.true_and, Bool.and_self, decide_true, decide_false, or_true, true_or, and_true, true_and, eq_self])
local macro_rules | `(tactic| walk_at "pdr") => `(tactic| try simp -implicitDefEqProofs only [e_seq, q_seq, q_tnx, q_tex, q_trt, q_then_ite, q_nil, q_raise, cl_nil, cl_f, cl_t, cl_n, s_ok, s_ex, e_sqRet, e_sqSet, e_sqExpr, e_sqAsg, asg_some, e_tqName, e_tqTup2, e_qP, e_upok, e_upex, e_qVar, e_varok, e_qNew, e_newok, rq_ok, rq_ex, e_aqN, e_aqC, e_qPA, e_qCall, e_qTup, e_tupP2, e_qSn, e_qSnT, e_tok, e_qT, e_up_ite, pk_ite, s_ite, tst_ite, e_end_ite, q_ifS, pk_ok, sn_nil, sn_s, sn_n, fu_f, e_qIx, e_endrt, e_endnx, List.map_cons, List.map_nil, Bool.or_false, Bool.or_true, Bool.true_or, Bool.false_or, e_thn, e_trt, e_trn, e_tex, e_if, e_pick, e_pickx, e_ret, e_retN, e_set, e_drop, e_for, e_ofR, e_ofRx, e_ofI, e_nil, e_asg, endS_rt, endS_rn, endS_nx, endS_ex, endN_rn, endN_ex, gC, g1, g2, g3, gA, aNil, aCons, gAnd, gOr, gNot, gB, gTru, bAnd, bOr, bNot, gIf, iA, iSeq, gSl, pNone, pSome, ok_bind, ex_bind, st_bind, gVar, List.getElem?_cons_zero, List.getElem?_cons_succ, List.set_cons_zero, List.set_cons_succ, if_true, if_false, Bool.not_true, Bool.not_false, Bool.false_eq_true, ↓reduceIte, e_asB, e_lt, e_gt, e_le, e_ge, e_ltS, e_gtS, e_eqI, e_eqS, e_eqB, e_neI, e_neS, e_neB, e_addI, e_iaddI, e_subI, e_negI, e_andI, e_orI, e_xorI, e_lenL, e_lenT, e_ord, e_intB, e_intI, e_inS, e_ninS, e_itL, e_itT, e_itS, e_zip, e_enum, e_slL, e_slT, e_asI, e_isN1, e_isN2, e_notN1, e_notN2, e_truB, e_truI, e_truL, e_isi_int_non, e_isi_int_bl, e_isi_int_int, e_isi_int_str, e_isi_int_list, e_isi_int_tup, e_isi_int_dict, e_isi_int_dictT, e_isi_bool_non, e_isi_bool_bl, e_isi_bool_int, e_isi_bool_str, e_isi_bool_list, e_isi_bool_tup, e_isi_bool_dict, e_isi_bool_dictT, e_isi_str_non, e_isi_str_bl, e_isi_str_int, e_isi_str_str, e_isi_str_list, e_isi_str_tup, e_isi_str_dict, e_isi_str_dictT, e_isi_list_non, e_isi_list_bl, e_isi_list_int, e_isi_list_str, e_isi_list_list, e_isi_list_tup, e_isi_list_dict, e_isi_list_dictT, e_isi_tuple_non, e_isi_tuple_bl, e_isi_tuple_int, e_isi_tuple_str, e_isi_tuple_list, e_isi_tuple_tup, e_isi_tuple_dict, e_isi_tuple_dictT, e_isi_dict_non, e_isi_dict_bl, e_isi_dict_int, e_isi_dict_str, e_isi_dict_list, e_isi_dict_tup, e_isi_dict_dict, e_isi_dict_dictT, e_iteAnd, e_iteOr, e_iteAndD, e_iteOrD, e_then_ite, e_endS_ite, e_endN_ite, e_ofR_ite, e_pick_ite, e_bind_ite, e_modI, e_fdivI, e_mul1, e_pow10, e_pow2, e_shl1, e_shrI, e_addS, e_iaddS, e_addL, e_addT, e_lenS, e_lst, e_strLit, String.reduceBEq, e_ixL0, e_ixL1, e_ixL2, e_ixL3, e_ixL4, e_ixL5, e_ixL6, e_ixL7, e_ixL8, e_ixT0, e_ixT1, e_ixT2, e_ixT3, e_ixT4, e_ixT5, e_tupleL, e_listT, e_tupleT, eqX_int, neX_int, eqX_S, neX_S, eqX_t0, neX_t0, e_catL, e_tup, e_inT, e_ninT, e_inL, e_ninL, e_slS, Int.reduceLT, Int.reduceLE, Int.reduceMul, Int.reduceAdd, Int.reduceSub, Int.reducePow, Int.reduceNeg, Int.reduceToNat, List.length_cons, List.length_nil, List.length_append, Nat.reduceAdd, Nat.reduceLeDiff, flD, List.all_cons, List.all_nil, Bool.and_true, Bool.true_and, Bool.and_self, decide_true, decide_false, or_true, true_or, and_true, true_and, eq_self])
local macro_rules | `(tactic| walk_at "pdv") => `(tactic| try simp -implicitDefEqProofs only [e_seq, Int.reduceBEq, Int.cast_ofNat_Int, e_thn, e_trt, e_trn, e_tex, e_if, e_pick, e_pickx, e_ret, e_retN, e_set, e_drop, e_for, e_ofR, e_ofRx, e_ofI, e_nil, e_asg, endS_rt, endS_rn, endS_nx, endS_ex, endN_rn, endN_ex, gC, g1, g2, g3, gA, aNil, aCons, gAnd, gOr, gNot, gB, gTru, bAnd, bOr, bNot, gIf, iA, iSeq, gSl, pNone, pSome, ok_bind, ex_bind, st_bind, gVar, List.getElem?_cons_zero, List.getElem?_cons_succ, List.set_cons_zero, List.set_cons_succ, if_true, if_false, Bool.not_true, Bool.not_false, Bool.false_eq_true, ↓reduceIte, e_asB, e_lt, e_gt, e_le, e_ge, e_ltS, e_gtS, e_eqI, e_eqS, e_eqB, e_neI, e_neS, e_neB, e_addI, e_iaddI, e_subI, e_negI, e_andI, e_orI, e_xorI, e_lenL, e_lenT, e_ord, e_intB, e_intI, e_inS, e_ninS, e_itL, e_itT, e_itS, e_zip, e_enum, e_slL, e_slT, e_asI, e_isN1, e_isN2, e_notN1, e_notN2, e_truB, e_truI, e_truL, e_isi_int_non, e_isi_int_bl, e_isi_int_int, e_isi_int_str, e_isi_int_list, e_isi_int_tup, e_isi_int_dict, e_isi_int_dictT, e_isi_bool_non, e_isi_bool_bl, e_isi_bool_int, e_isi_bool_str, e_isi_bool_list, e_isi_bool_tup, e_isi_bool_dict, e_isi_bool_dictT, e_isi_str_non, e_isi_str_bl, e_isi_str_int, e_isi_str_str, e_isi_str_list, e_isi_str_tup, e_isi_str_dict, e_isi_str_dictT, e_isi_list_non, e_isi_list_bl, e_isi_list_int, e_isi_list_str, e_isi_list_list, e_isi_list_tup, e_isi_list_dict, e_isi_list_dictT, e_isi_tuple_non, e_isi_tuple_bl, e_isi_tuple_int, e_isi_tuple_str, e_isi_tuple_list, e_isi_tuple_tup, e_isi_tuple_dict, e_isi_tuple_dictT, e_isi_dict_non, e_isi_dict_bl, e_isi_dict_int, e_isi_dict_str, e_isi_dict_list, e_isi_dict_tup, e_isi_dict_dict, e_isi_dict_dictT, e_iteAnd, e_iteOr, e_iteAndD, e_iteOrD, e_then_ite, e_endS_ite, e_endN_ite, e_ofR_ite, e_pick_ite, e_bind_ite, e_modI, e_fdivI, e_mul1, e_pow10, e_pow2, e_shl1, e_shrI, e_addS, e_iaddS, e_addL, e_addT, e_lenS, e_lst, e_strLit, String.reduceBEq, e_ixL0, e_ixL1, e_ixL2, e_ixL3, e_ixL4, e_ixL5, e_ixL6, e_ixL7, e_ixL8, e_ixT0, e_ixT1, e_ixT2, e_ixT3, e_ixT4, e_ixT5, e_tupleL, e_listT, e_tupleT, eqX_int, neX_int, eqX_S, neX_S, eqX_t0, neX_t0, e_catL, e_tup, e_inT, e_ninT, e_inL, e_ninL, e_slS, Int.reduceLT, Int.reduceLE, Int.reduceMul, Int.reduceAdd, Int.reduceSub, Int.reducePow, Int.reduceNeg, Int.reduceToNat, List.length_cons, List.length_nil, List.length_append, Nat.reduceAdd, Nat.reduceLeDiff, flD, List.all_cons, List.all_nil, Bool.and_true, Bool.true_and, Bool.and_self, decide_true, decide_false, or_true, true_or, and_true, true_and, eq_self])
def lawSigns : Str := " !#$&'()*+,-./0123456789:;<=>?@ABCDEFGHIJKLMNOPQRSTUVWXYZ[\\]^_`abcdefghijklmnopqrstuvwxyz{|}~\""
theorem law_signs : addD (.str " !#$&'()*+,-./0123456789:;<=>?@ABCDEFGHIJKLMNOPQRSTUVWXYZ[\\]^_`abcdefghijklmnopqrstuvwxyz{|}~") (.str "\"") = .ok (.str lawSigns) := by
  rw [e_addS _ _ (by decide +kernel)]
  exact congrArg (fun z => R.ok (D.str z)) (by decide +kernel)
theorem lawSigns_len : lawSigns.length = 94 := by decide +kernel
theorem lawSigns_sub : Sub allSigns lawSigns := by
  have : ∀ c ∈ cps lawSigns, c ∈ cps allSigns := by decide +kernel
  exact this
theorem five_len : (Str.ofString "|/\\a ").length = 5 := by decide +kernel
theorem five_sub : Sub allSigns (Str.ofString "|/\\a ") := by
  have : ∀ c ∈ cps (Str.ofString "|/\\a "), c ∈ cps allSigns := by decide +kernel
  exact this
def TextOk (s : Str) : Prop := s.length ≤ 60 ∧ Sub allSigns s
theorem TextOk.b {s : Str} (h : TextOk s) : ofS s allSigns 0 60 = true := by
  unfold ofS
  rw [decide_eq_true (show (0 : Int) ≤ (s.length : Int) by omega), decide_eq_true (show (s.length : Int) ≤ 60 by have := h.1; omega)]
  rw [List.all_eq_true.mpr fun c hc => decide_eq_true (h.2 c hc)]
  rfl
theorem all_lt : ∀ c ∈ cps allSigns, c < 1114112 := by decide +kernel
theorem TextOk.sh {s : Str} (h : TextOk s) (n : Nat) : shL n (.str s) = true := by
  have : (PyData.strOk s && decide (s.length ≤ 1000)) = true := by
    rw [strOk_of fun c hc => all_lt c (h.2 c hc), decide_eq_true (show s.length ≤ 1000 by have := h.1; omega)]
    rfl
  cases n <;> exact this
theorem four {xs : List Nat} (h : xs.length = 4) : ∃ a b c d, xs = [a, b, c, d] := by
  match xs, h with
  | [a, b, c, d], _ => exact ⟨a, b, c, d, rfl⟩
theorem text_at (c : Int) : ∃ s, F__law_text [.int c] = .ok (.str s) ∧ TextOk s := by
  show ∃ s, endS (S__law_text [some (.int c), none, none, none, none, none]) = .ok (.str s) ∧ TextOk s
  unfold S__law_text
  obtain ⟨xs, e1, l1, h1⟩ := stream_at c 4 (by decide)
  obtain ⟨x0, x1, x2, x3, rfl⟩ := four l1
  walk_at "pd"
  rw [law_signs]
  walk_at "pd"
  rw [show (F__law_stream [.int c, .int 4]) = .ok (.list (intsD [x0, x1, x2, x3])) from e1]
  have ei : intsD [x0, x1, x2, x3] = [.int x0, .int x1, .int x2, .int x3] := rfl
  rw [ei]
  walk_at "pd"
  try simp only [e_ixL0, e_ixL1, e_ixL2, e_ixL3]
  walk_at "pd"
  obtain ⟨d, e2, m2⟩ := ix_any (ds := [.int 0, .int ((x1 : Int) % 4), .int ((x1 : Int) % 12), .int ((x1 : Int) % 61)]) (i := (x0 : Int) % 4) (by omega) (by show _ < ((4 : Nat) : Int); omega)
  rw [e2]
  obtain ⟨n, rfl, hn⟩ : ∃ n : Nat, d = .int (n : Int) ∧ n ≤ 60 := by
    simp only [List.mem_cons, List.not_mem_nil, or_false] at m2
    rcases m2 with rfl | rfl | rfl | rfl
    · exact ⟨0, rfl, by decide⟩
    · exact ⟨x1 % 4, by rw [Int.natCast_emod]; rfl, by omega⟩
    · exact ⟨x1 % 12, by rw [Int.natCast_emod]; rfl, by omega⟩
    · exact ⟨x1 % 61, by rw [Int.natCast_emod]; rfl, by omega⟩
  walk_at "pd"
  obtain ⟨ys, e3, l3, h3⟩ := stream_at (c + 1) n (by omega)
  rw [e3]
  walk_at "pd"
  generalize hr : forL _ _ _ _ = r
  obtain ⟨ρ', rfl, s, o, rfl, hs, hq⟩ := forL_out hr (fun j ρ => ∃ s o, ρ = [some (.int c), some (.str lawSigns), some (.list [.int x0, .int x1, .int x2, .int x3]), some (.int (n : Int)), some (.str s), o] ∧ s.length = j ∧ Sub allSigns s) ⟨_, none, rfl, by decide +kernel, Sub.emp _⟩ (by
    rintro j d ρ hd ⟨s, o, rfl, hs, hq⟩
    have hj : j < (intsD ys).length := (List.getElem?_eq_some_iff.mp hd).1
    rw [intsD_len, l3] at hj
    obtain ⟨x, hx, rfl⟩ := List.mem_map.mp (List.mem_of_getElem? hd)
    refine ⟨_, rfl, ?_⟩
    obtain ⟨q, eq, lq, sq⟩ := ix_sub (Str.ofString "|/\\a ") ((x : Int) % 5) (by decide +kernel) (by omega) (by rw [five_len]; omega)
    obtain ⟨q2, eq2, lq2, sq2⟩ := ix_sub lawSigns ((x : Int) % 94) (by decide +kernel) (by omega) (by rw [lawSigns_len]; omega)
    unfold B__law_text_0
    walk_at "pd"
    try simp only [e_ixL2]
    walk_at "pd"
    rw [eq, eq2]
    walk_at "pd"
    rw [e_addS _ _ (by omega), e_addS _ _ (by omega)]
    walk_at "pd"
    by_cases hc : ((x2 : Int) % 2 == 0) = true
    · rw [if_pos hc]
      exact ⟨_, rfl, s ++ q, _, rfl, by rw [len_app]; omega, hq.app (five_sub.trans sq)⟩
    · rw [if_neg hc]
      exact ⟨_, rfl, s ++ q2, _, rfl, by rw [len_app]; omega, hq.app (lawSigns_sub.trans sq2)⟩)
  walk_at "pd"
  refine ⟨_, rfl, ?_, hq⟩
  rw [hs, intsD_len, l3]
  exact hn
/-! ### tables -/
def textsOk (ds : List D) : Prop := ∀ d ∈ ds, ∃ s, d = .str s ∧ TextOk s
def RowOk (n : Nat) (d : D) : Prop := ∃ ds, d = .tup ds ∧ ds.length = n ∧ textsOk ds
def TableOk (d : D) : Prop := ∃ rows n, d = .tup rows ∧ 1 ≤ rows.length ∧ rows.length ≤ 6 ∧ 1 ≤ n ∧ n ≤ 6 ∧ ∀ r ∈ rows, RowOk n r
theorem three {xs : List Nat} (h : xs.length = 3) : ∃ a b c, xs = [a, b, c] := by
  match xs, h with
  | [a, b, c], _ => exact ⟨a, b, c, rfl⟩
theorem pick6 {x : Nat} {d : D} (m : d ∈ [.int (1 + (x : Int) / 3 % 3), .int (1 + (x : Int) / 3 % 6), (.int 6 : D)]) : ∃ n : Nat, d = .int (n : Int) ∧ 1 ≤ n ∧ n ≤ 6 := by
  simp only [List.mem_cons, List.not_mem_nil, or_false] at m
  rcases m with rfl | rfl | rfl
  · exact ⟨1 + x / 3 % 3, by congr 1, by omega, by omega⟩
  · exact ⟨1 + x / 3 % 6, by congr 1, by omega, by omega⟩
  · exact ⟨6, rfl, by omega, by omega⟩
theorem table_at (c : Int) : ∃ d, F__law_table [.int c] = .ok d ∧ TableOk d := by
  show ∃ d, endS (S__law_table [some (.int c), none, none, none, none, none, none]) = .ok d ∧ TableOk d
  unfold S__law_table
  obtain ⟨xs, e1, l1, h1⟩ := stream_at c 3 (by decide)
  obtain ⟨x0, x1, x2, rfl⟩ := three l1
  have ei : intsD [x0, x1, x2] = [.int x0, .int x1, .int x2] := rfl
  walk_at "pd"
  rw [show (F__law_stream [.int c, .int 3]) = .ok (.list (intsD [x0, x1, x2])) from e1, ei]
  walk_at "pd"
  try simp only [e_ixL0, e_ixL1]
  walk_at "pd"
  obtain ⟨d, e2, m2⟩ := ix_any (ds := [.int (1 + (x0 : Int) / 3 % 3), .int (1 + (x0 : Int) / 3 % 6), .int 6]) (i := (x0 : Int) % 3) (by omega) (by show _ < ((3 : Nat) : Int); omega)
  rw [e2]
  obtain ⟨m, rfl, m0, m1⟩ := pick6 m2
  walk_at "pd"
  try simp only [e_ixL0, e_ixL1]
  walk_at "pd"
  obtain ⟨d, e3, m3⟩ := ix_any (ds := [.int (1 + (x1 : Int) / 3 % 3), .int (1 + (x1 : Int) / 3 % 6), .int 6]) (i := (x1 : Int) % 3) (by omega) (by show _ < ((3 : Nat) : Int); omega)
  rw [e3]
  obtain ⟨w, rfl, w0, w1⟩ := pick6 m3
  walk_at "pd"
  rw [e_rng1 (m : Int) (small_ok (by omega) (by omega)), Int.toNat_natCast]
  walk_at "pd"
  generalize hr : forL _ _ _ _ = r
  obtain ⟨ρ', rfl, rows, o, rfl, hl, hq⟩ := forL_out hr (fun j ρ => ∃ rows o, ρ = [some (.int c), some (.list [.int x0, .int x1, .int x2]), some (.int (m : Int)), some (.int (w : Int)), some (.list rows), o, none] ∧ rows.length = j ∧ ∀ r ∈ rows, RowOk w r) ⟨[], none, rfl, rfl, fun r h => nomatch h⟩ (by
    rintro j d ρ hd ⟨rows, o, rfl, hl, hq⟩
    have hj : j < (rngL 0 m).length := (List.getElem?_eq_some_iff.mp hd).1
    rw [rng_len] at hj
    obtain ⟨k, hk, rfl⟩ := mem_rng (List.mem_of_getElem? hd)
    refine ⟨_, rfl, ?_⟩
    unfold B__law_table_0
    have hz : rows.length < sizeLine := by rw [sizeLine_eq]; omega
    walk_at "pd"
    rw [e_append rows rfl]
    walk_at "pd"
    generalize hG : gLc _ _ _ _ _ _ = G
    obtain ⟨ys, rfl, ly, hy⟩ := gLc_out hG (fun y => ∃ s, y = .str s ∧ TextOk s) (items := rngL 0 w) (by
      walk_at "pd"
      rw [e_rng1 (w : Int) (small_ok (by omega) (by omega)), Int.toNat_natCast]) (by rw [rng_len]; omega) (by
      intro d hd
      obtain ⟨i, hi, rfl⟩ := mem_rng hd
      show ∃ y, gA _ _ [some (.int c), some (.list [.int x0, .int x1, .int x2]), some (.int (m : Int)), some (.int (w : Int)), some (.list rows), some (.int (0 + (k : Int))), some (.int (0 + (i : Int)))] = .ok y ∧ _
      walk_at "pd"
      obtain ⟨s, es, hs⟩ := text_at (c + 101 * (0 + (k : Int)) + 1009 * (0 + (i : Int)) + 7)
      exact ⟨_, es, s, rfl, hs⟩)
    walk_at "pd"
    rw [if_pos hz]
    refine ⟨_, rfl, rows ++ [.tup ys], _, rfl, by rw [List.length_append, hl]; rfl, fun r hr => ?_⟩
    rcases List.mem_append.mp hr with h | h
    · exact hq r h
    · simp only [List.mem_cons, List.not_mem_nil, or_false] at h
      exact ⟨ys, h, ly.trans (rng_len _ _), hy⟩)
  walk_at "pd"
  rw [rng_len] at hl
  exact ⟨_, rfl, rows, w, rfl, by omega, by omega, w0, w1, hq⟩

end Pd

set_option maxHeartbeats 4000000
namespace Pd
open PySem PySem.Spec PyProof.Rows L2
local macro_rules | `(tactic| walk_at "pd") => `(tactic| try simp -implicitDefEqProofs only [e_seq, e_thn, e_trt, e_trn, e_tex, e_if, e_pick, e_pickx, e_ret, e_retN, e_set, e_drop, e_for, e_ofR, e_ofRx, e_ofI, e_nil, e_asg, endS_rt, endS_rn, endS_nx, endS_ex, endN_rn, endN_ex, gC, g1, g2, g3, gA, aNil, aCons, gAnd, gOr, gNot, gB, gTru, bAnd, bOr, bNot, gIf, iA, iSeq, gSl, pNone, pSome, ok_bind, ex_bind, st_bind, gVar, List.getElem?_cons_zero, List.getElem?_cons_succ, List.set_cons_zero, List.set_cons_succ, if_true, if_false, Bool.not_true, Bool.not_false, Bool.false_eq_true, ↓reduceIte, e_asB, e_lt, e_gt, e_le, e_ge, e_ltS, e_gtS, e_eqI, e_eqS, e_eqB, e_neI, e_neS, e_neB, e_addI, e_iaddI, e_subI, e_negI, e_andI, e_orI, e_xorI, e_lenL, e_lenT, e_ord, e_intB, e_intI, e_inS, e_ninS, e_itL, e_itT, e_itS, e_zip, e_enum, e_slL, e_slT, e_asI, e_isN1, e_isN2, e_notN1, e_notN2, e_truB, e_truI, e_truL, e_isi_int_non, e_isi_int_bl, e_isi_int_int, e_isi_int_str, e_isi_int_list, e_isi_int_tup, e_isi_int_dict, e_isi_int_dictT, e_isi_bool_non, e_isi_bool_bl, e_isi_bool_int, e_isi_bool_str, e_isi_bool_list, e_isi_bool_tup, e_isi_bool_dict, e_isi_bool_dictT, e_isi_str_non, e_isi_str_bl, e_isi_str_int, e_isi_str_str, e_isi_str_list, e_isi_str_tup, e_isi_str_dict, e_isi_str_dictT, e_isi_list_non, e_isi_list_bl, e_isi_list_int, e_isi_list_str, e_isi_list_list, e_isi_list_tup, e_isi_list_dict, e_isi_list_dictT, e_isi_tuple_non, e_isi_tuple_bl, e_isi_tuple_int, e_isi_tuple_str, e_isi_tuple_list, e_isi_tuple_tup, e_isi_tuple_dict, e_isi_tuple_dictT, e_isi_dict_non, e_isi_dict_bl, e_isi_dict_int, e_isi_dict_str, e_isi_dict_list, e_isi_dict_tup, e_isi_dict_dict, e_isi_dict_dictT, e_iteAnd, e_iteOr, e_iteAndD, e_iteOrD, e_then_ite, e_endS_ite, e_endN_ite, e_ofR_ite, e_pick_ite, e_bind_ite, e_modI, e_fdivI, e_mul1, e_pow10, e_pow2, e_shl1, e_shrI, e_addS, e_iaddS, e_addL, e_addT, e_lenS, e_lst, e_strLit, String.reduceBEq, e_ixL0, e_ixL1, e_ixL2, e_ixL3, e_ixL4, e_ixL5, e_ixL6, e_ixL7, e_ixL8, e_ixT0, e_ixT1, e_ixT2, e_ixT3, e_ixT4, e_ixT5, e_tupleL, e_listT, e_tupleT, eqX_int, neX_int, eqX_S, neX_S, eqX_t0, neX_t0, e_catL, e_tup, e_inT, e_ninT, e_inL, e_ninL, e_slS, Int.reduceLT, Int.reduceLE, Int.reduceMul, Int.reduceAdd, Int.reduceSub, Int.reducePow, Int.reduceNeg, Int.reduceToNat, List.length_cons, List.length_nil, List.length_append, Nat.reduceAdd, Nat.reduceLeDiff, flD, List.all_cons, List.all_nil, Bool.and_true, Bool.true_and, Bool.and_self, decide_true, decide_false, or_true, true_or, and_true, true_and, eq_self])
local macro_rules | `(tactic| walk_at "pdh") => `(tactic| try simp -implicitDefEqProofs only [e_seq, e_thn, e_trt, e_trn, e_tex, e_if, e_pick, e_pickx, e_ret, e_retN, e_set, e_drop, e_for, e_ofR, e_ofRx, e_ofI, e_nil, e_asg, endS_rt, endS_rn, endS_nx, endS_ex, endN_rn, endN_ex, gC, g1, g2, g3, gA, aNil, aCons, gAnd, gOr, gNot, gB, gTru, bAnd, bOr, bNot, gIf, iA, iSeq, gSl, pNone, pSome, ok_bind, ex_bind, st_bind, gVar, List.getElem?_cons_zero, List.getElem?_cons_succ, List.set_cons_zero, List.set_cons_succ, if_true, if_false, Bool.not_true, Bool.not_false, Bool.false_eq_true, ↓reduceIte, e_asB, e_lt, e_gt, e_le, e_ge, e_ltS, e_gtS, e_eqI, e_eqS, e_eqB, e_neI, e_neS, e_neB, e_addI, e_iaddI, e_subI, e_negI, e_andI, e_orI, e_xorI, e_lenL, e_lenT, e_ord, e_intB, e_intI, e_inS, e_ninS, e_itL, e_itT, e_itS, e_zip, e_enum, e_slL, e_slT, e_asI, e_isN1, e_isN2, e_notN1, e_notN2, e_truB, e_truI, e_truL, e_isi_int_non, e_isi_int_bl, e_isi_int_int, e_isi_int_str, e_isi_int_list, e_isi_int_tup, e_isi_int_dict, e_isi_int_dictT, e_isi_bool_non, e_isi_bool_bl, e_isi_bool_int, e_isi_bool_str, e_isi_bool_list, e_isi_bool_tup, e_isi_bool_dict, e_isi_bool_dictT, e_isi_str_non, e_isi_str_bl, e_isi_str_int, e_isi_str_str, e_isi_str_list, e_isi_str_tup, e_isi_str_dict, e_isi_str_dictT, e_isi_list_non, e_isi_list_bl, e_isi_list_int, e_isi_list_str, e_isi_list_list, e_isi_list_tup, e_isi_list_dict, e_isi_list_dictT, e_isi_tuple_non, e_isi_tuple_bl, e_isi_tuple_int, e_isi_tuple_str, e_isi_tuple_list, e_isi_tuple_tup, e_isi_tuple_dict, e_isi_tuple_dictT, e_isi_dict_non, e_isi_dict_bl, e_isi_dict_int, e_isi_dict_str, e_isi_dict_list, e_isi_dict_tup, e_isi_dict_dict, e_isi_dict_dictT, e_iteAnd, e_iteOr, e_iteAndD, e_iteOrD, e_then_ite, e_endS_ite, e_endN_ite, e_ofR_ite, e_pick_ite, e_bind_ite, e_modI, e_fdivI, e_mul1, e_pow10, e_pow2, e_shl1, e_shrI, e_addS, e_iaddS, e_addL, e_addT, e_lenS, e_lst, e_strLit, String.reduceBEq, e_ixL0, e_ixL1, e_ixL2, e_ixL3, e_ixL4, e_ixL5, e_ixL6, e_ixL7, e_ixL8, e_ixT0, e_ixT1, e_ixT2, e_ixT3, e_ixT4, e_ixT5, e_tupleL, e_listT, e_tupleT, eqX_int, neX_int, eqX_S, neX_S, eqX_t0, neX_t0, e_catL, e_tup, e_inT, e_ninT, e_inL, e_ninL, e_slS, Int.reduceLT, Int.reduceLE, Int.reduceMul, Int.reduceAdd, Int.reduceSub, Int.reducePow, Int.reduceNeg, Int.reduceToNat, List.length_cons, List.length_nil, List.length_append, Nat.reduceAdd, Nat.reduceLeDiff, flD, List.all_cons, List.all_nil, Bool.and_true, Bool.true_and, Bool.and_self, decide_true, decide_false, or_true, true_or, and_true, true_and, eq_self, *])
local macro_rules | `(tactic| walk_at "pdu") => `(tactic| try simp -implicitDefEqProofs only [e_seq, e_forN, e_for0, e_nxn, e_nct, e_nbk, e_nrt, e_nrn, e_nex, e_next_ite, e_thn, e_trt, e_trn, e_tex, e_if, e_pick, e_pickx, e_ret, e_retN, e_set, e_drop, e_for, e_ofR, e_ofRx, e_ofI, e_nil, e_asg, endS_rt, endS_rn, endS_nx, endS_ex, endN_rn, endN_ex, gC, g1, g2, g3, gA, aNil, aCons, gAnd, gOr, gNot, gB, gTru, bAnd, bOr, bNot, gIf, iA, iSeq, gSl, pNone, pSome, ok_bind, ex_bind, st_bind, gVar, List.getElem?_cons_zero, List.getElem?_cons_succ, List.set_cons_zero, List.set_cons_succ, if_true, if_false, Bool.not_true, Bool.not_false, Bool.false_eq_true, ↓reduceIte, e_asB, e_lt, e_gt, e_le, e_ge, e_ltS, e_gtS, e_eqI, e_eqS, e_eqB, e_neI, e_neS, e_neB, e_addI, e_iaddI, e_subI, e_negI, e_andI, e_orI, e_xorI, e_lenL, e_lenT, e_ord, e_intB, e_intI, e_inS, e_ninS, e_itL, e_itT, e_itS, e_zip, e_enum, e_slL, e_slT, e_asI, e_isN1, e_isN2, e_notN1, e_notN2, e_truB, e_truI, e_truL, e_isi_int_non, e_isi_int_bl, e_isi_int_int, e_isi_int_str, e_isi_int_list, e_isi_int_tup, e_isi_int_dict, e_isi_int_dictT, e_isi_bool_non, e_isi_bool_bl, e_isi_bool_int, e_isi_bool_str, e_isi_bool_list, e_isi_bool_tup, e_isi_bool_dict, e_isi_bool_dictT, e_isi_str_non, e_isi_str_bl, e_isi_str_int, e_isi_str_str, e_isi_str_list, e_isi_str_tup, e_isi_str_dict, e_isi_str_dictT, e_isi_list_non, e_isi_list_bl, e_isi_list_int, e_isi_list_str, e_isi_list_list, e_isi_list_tup, e_isi_list_dict, e_isi_list_dictT, e_isi_tuple_non, e_isi_tuple_bl, e_isi_tuple_int, e_isi_tuple_str, e_isi_tuple_list, e_isi_tuple_tup, e_isi_tuple_dict, e_isi_tuple_dictT, e_isi_dict_non, e_isi_dict_bl, e_isi_dict_int, e_isi_dict_str, e_isi_dict_list, e_isi_dict_tup, e_isi_dict_dict, e_isi_dict_dictT, e_iteAnd, e_iteOr, e_iteAndD, e_iteOrD, e_then_ite, e_endS_ite, e_endN_ite, e_ofR_ite, e_pick_ite, e_bind_ite, e_modI, e_fdivI, e_mul1, e_pow10, e_pow2, e_shl1, e_shrI, e_addS, e_iaddS, e_addL, e_addT, e_lenS, e_lst, e_strLit, String.reduceBEq, e_ixL0, e_ixL1, e_ixL2, e_ixL3, e_ixL4, e_ixL5, e_ixL6, e_ixL7, e_ixL8, e_ixT0, e_ixT1, e_ixT2, e_ixT3, e_ixT4, e_ixT5, e_tupleL, e_listT, e_tupleT, eqX_int, neX_int, eqX_S, neX_S, eqX_t0, neX_t0, e_catL, e_tup, e_inT, e_ninT, e_inL, e_ninL, e_slS, Int.reduceLT, Int.reduceLE, Int.reduceMul, Int.reduceAdd, Int.reduceSub, Int.reducePow, Int.reduceNeg, Int.reduceToNat, List.length_cons, List.length_nil, List.length_append, Nat.reduceAdd, Nat.reduceLeDiff, flD, List.all_cons, List.all_nil, Bool.and_true, Bool.true_and, Bool.and_self, decide_true, decide_false, or_true, true_or, and_true, true_and, eq_self])
local macro_rules | `(tactic| walk_at "pdq") => `(tactic| try simp -implicitDefEqProofs only [e_seq, q_seq, q_tnx, q_tex, q_trt, q_then_ite, q_if, q_pick, q_pickx, q_pick_ite, q_nil, q_raise, cl_nil, cl_f, cl_t, cl_n, e_thn, e_trt, e_trn, e_tex, e_if, e_pick, e_pickx, e_ret, e_retN, e_set, e_drop, e_for, e_ofR, e_ofRx, e_ofI, e_nil, e_asg, endS_rt, endS_rn, endS_nx, endS_ex, endN_rn, endN_ex, gC, g1, g2, g3, gA, aNil, aCons, gAnd, gOr, gNot, gB, gTru, bAnd, bOr, bNot, gIf, iA, iSeq, gSl, pNone, pSome, ok_bind, ex_bind, st_bind, gVar, List.getElem?_cons_zero, List.getElem?_cons_succ, List.set_cons_zero, List.set_cons_succ, if_true, if_false, Bool.not_true, Bool.not_false, Bool.false_eq_true, ↓reduceIte, e_asB, e_lt, e_gt, e_le, e_ge, e_ltS, e_gtS, e_eqI, e_eqS, e_eqB, e_neI, e_neS, e_neB, e_addI, e_iaddI, e_subI, e_negI, e_andI, e_orI, e_xorI, e_lenL, e_lenT, e_ord, e_intB, e_intI, e_inS, e_ninS, e_itL, e_itT, e_itS, e_zip, e_enum, e_slL, e_slT, e_asI, e_isN1, e_isN2, e_notN1, e_notN2, e_truB, e_truI, e_truL, e_isi_int_non, e_isi_int_bl, e_isi_int_int, e_isi_int_str, e_isi_int_list, e_isi_int_tup, e_isi_int_dict, e_isi_int_dictT, e_isi_bool_non, e_isi_bool_bl, e_isi_bool_int, e_isi_bool_str, e_isi_bool_list, e_isi_bool_tup, e_isi_bool_dict, e_isi_bool_dictT, e_isi_str_non, e_isi_str_bl, e_isi_str_int, e_isi_str_str, e_isi_str_list, e_isi_str_tup, e_isi_str_dict, e_isi_str_dictT, e_isi_list_non, e_isi_list_bl, e_isi_list_int, e_isi_list_str, e_isi_list_list, e_isi_list_tup, e_isi_list_dict, e_isi_list_dictT, e_isi_tuple_non, e_isi_tuple_bl, e_isi_tuple_int, e_isi_tuple_str, e_isi_tuple_list, e_isi_tuple_tup, e_isi_tuple_dict, e_isi_tuple_dictT, e_isi_dict_non, e_isi_dict_bl, e_isi_dict_int, e_isi_dict_str, e_isi_dict_list, e_isi_dict_tup, e_isi_dict_dict, e_isi_dict_dictT, e_iteAnd, e_iteOr, e_iteAndD, e_iteOrD, e_then_ite, e_endS_ite, e_endN_ite, e_ofR_ite, e_pick_ite, e_bind_ite, e_modI, e_fdivI, e_mul1, e_pow10, e_pow2, e_shl1, e_shrI, e_addS, e_iaddS, e_addL, e_addT, e_lenS, e_lst, e_strLit, String.reduceBEq, e_ixL0, e_ixL1, e_ixL2, e_ixL3, e_ixL4, e_ixL5, e_ixL6, e_ixL7, e_ixL8, e_ixT0, e_ixT1, e_ixT2, e_ixT3, e_ixT4, e_ixT5, e_tupleL, e_listT, e_tupleT, eqX_int, neX_int, eqX_S, neX_S, eqX_t0, neX_t0, e_catL, e_tup, e_inT, e_ninT, e_inL, e_ninL, e_slS, Int.reduceLT, Int.reduceLE, Int.reduceMul, Int.reduceAdd, Int.reduceSub, Int.reducePow, Int.reduceNeg, Int.reduceToNat, List.length_cons, List.length_nil, List.length_append, Nat.reduceAdd, Nat.reduceLeDiff, flD, List.all_cons, List.all_nil, Bool.and_true, Bool.true_and, Bool.and_self, decide_true, decide_false, or_true, true_or, and_true, true_and, eq_self])
local macro_rules | `(tactic| walk_at "pdr") => `(tactic| try simp -implicitDefEqProofs only [e_seq, q_seq, q_tnx, q_tex, q_trt, q_then_ite, q_nil, q_raise, cl_nil, cl_f, cl_t, cl_n, s_ok, s_ex, e_sqRet, e_sqSet, e_sqExpr, e_sqAsg, asg_some, e_tqName, e_tqTup2, e_qP, e_upok, e_upex, e_qVar, e_varok, e_qNew, e_newok, rq_ok, rq_ex, e_aqN, e_aqC, e_qPA, e_qCall, e_qTup, e_tupP2, e_qSn, e_qSnT, e_tok, e_qT, e_up_ite, pk_ite, s_ite, tst_ite, e_end_ite, q_ifS, pk_ok, sn_nil, sn_s, sn_n, fu_f, e_qIx, e_endrt, e_endnx, List.map_cons, List.map_nil, Bool.or_false, Bool.or_true, Bool.true_or, Bool.false_or, e_thn, e_trt, e_trn, e_tex, e_if, e_pick, e_pickx, e_ret, e_retN, e_set, e_drop, e_for, e_ofR, e_ofRx, e_ofI, e_nil, e_asg, endS_rt, endS_rn, endS_nx, endS_ex, endN_rn, endN_ex, gC, g1, g2, g3, gA, aNil, aCons, gAnd, gOr, gNot, gB, gTru, bAnd, bOr, bNot, gIf, iA, iSeq, gSl, pNone, pSome, ok_bind, ex_bind, st_bind, gVar, List.getElem?_cons_zero, List.getElem?_cons_succ, List.set_cons_zero, List.set_cons_succ, if_true, if_false, Bool.not_true, Bool.not_false, Bool.false_eq_true, ↓reduceIte, e_asB, e_lt, e_gt, e_le, e_ge, e_ltS, e_gtS, e_eqI, e_eqS, e_eqB, e_neI, e_neS, e_neB, e_addI, e_iaddI, e_subI, e_negI, e_andI, e_orI, e_xorI, e_lenL, e_lenT, e_ord, e_intB, e_intI, e_inS, e_ninS, e_itL, e_itT, e_itS, e_zip, e_enum, e_slL, e_slT, e_asI, e_isN1, e_isN2, e_notN1, e_notN2, e_truB, e_truI, e_truL, e_isi_int_non, e_isi_int_bl, e_isi_int_int, e_isi_int_str, e_isi_int_list, e_isi_int_tup, e_isi_int_dict, e_isi_int_dictT, e_isi_bool_non, e_isi_bool_bl, e_isi_bool_int, e_isi_bool_str, e_isi_bool_list, e_isi_bool_tup, e_isi_bool_dict, e_isi_bool_dictT, e_isi_str_non, e_isi_str_bl, e_isi_str_int, e_isi_str_str, e_isi_str_list, e_isi_str_tup, e_isi_str_dict, e_isi_str_dictT, e_isi_list_non, e_isi_list_bl, e_isi_list_int, e_isi_list_str, e_isi_list_list, e_isi_list_tup, e_isi_list_dict, e_isi_list_dictT, e_isi_tuple_non, e_isi_tuple_bl, e_isi_tuple_int, e_isi_tuple_str, e_isi_tuple_list, e_isi_tuple_tup, e_isi_tuple_dict, e_isi_tuple_dictT, e_isi_dict_non, e_isi_dict_bl, e_isi_dict_int, e_isi_dict_str, e_isi_dict_list, e_isi_dict_tup, e_isi_dict_dict, e_isi_dict_dictT, e_iteAnd, e_iteOr, e_iteAndD, e_iteOrD, e_then_ite, e_endS_ite, e_endN_ite, e_ofR_ite, e_pick_ite, e_bind_ite, e_modI, e_fdivI, e_mul1, e_pow10, e_pow2, e_shl1, e_shrI, e_addS, e_iaddS, e_addL, e_addT, e_lenS, e_lst, e_strLit, String.reduceBEq, e_ixL0, e_ixL1, e_ixL2, e_ixL3, e_ixL4, e_ixL5, e_ixL6, e_ixL7, e_ixL8, e_ixT0, e_ixT1, e_ixT2, e_ixT3, e_ixT4, e_ixT5, e_tupleL, e_listT, e_tupleT, eqX_int, neX_int, eqX_S, neX_S, eqX_t0, neX_t0, e_catL, e_tup, e_inT, e_ninT, e_inL, e_ninL, e_slS, Int.reduceLT, Int.reduceLE, Int.reduceMul, Int.reduceAdd, Int.reduceSub, Int.reducePow, Int.reduceNeg, Int.reduceToNat, List.length_cons, List.length_nil, List.length_append, Nat.reduceAdd, Nat.reduceLeDiff, flD, List.all_cons, List.all_nil, Bool.and_true, Bool.true_and, Bool.and_self, decide_true, decide_false, or_true, true_or, and_true, true_and, eq_self])
local macro_rules | `(tactic| walk_at "pdv") => `(tactic| try simp -implicitDefEqProofs only [e_seq, Int.reduceBEq, Int.cast_ofNat_Int, e_thn, e_trt, e_trn, e_tex, e_if, e_pick, e_pickx, e_ret, e_retN, e_set, e_drop, e_for, e_ofR, e_ofRx, e_ofI, e_nil, e_asg, endS_rt, endS_rn, endS_nx, endS_ex, endN_rn, endN_ex, gC, g1, g2, g3, gA, aNil, aCons, gAnd, gOr, gNot, gB, gTru, bAnd, bOr, bNot, gIf, iA, iSeq, gSl, pNone, pSome, ok_bind, ex_bind, st_bind, gVar, List.getElem?_cons_zero, List.getElem?_cons_succ, List.set_cons_zero, List.set_cons_succ, if_true, if_false, Bool.not_true, Bool.not_false, Bool.false_eq_true, ↓reduceIte, e_asB, e_lt, e_gt, e_le, e_ge, e_ltS, e_gtS, e_eqI, e_eqS, e_eqB, e_neI, e_neS, e_neB, e_addI, e_iaddI, e_subI, e_negI, e_andI, e_orI, e_xorI, e_lenL, e_lenT, e_ord, e_intB, e_intI, e_inS, e_ninS, e_itL, e_itT, e_itS, e_zip, e_enum, e_slL, e_slT, e_asI, e_isN1, e_isN2, e_notN1, e_notN2, e_truB, e_truI, e_truL, e_isi_int_non, e_isi_int_bl, e_isi_int_int, e_isi_int_str, e_isi_int_list, e_isi_int_tup, e_isi_int_dict, e_isi_int_dictT, e_isi_bool_non, e_isi_bool_bl, e_isi_bool_int, e_isi_bool_str, e_isi_bool_list, e_isi_bool_tup, e_isi_bool_dict, e_isi_bool_dictT, e_isi_str_non, e_isi_str_bl, e_isi_str_int, e_isi_str_str, e_isi_str_list, e_isi_str_tup, e_isi_str_dict, e_isi_str_dictT, e_isi_list_non, e_isi_list_bl, e_isi_list_int, e_isi_list_str, e_isi_list_list, e_isi_list_tup, e_isi_list_dict, e_isi_list_dictT, e_isi_tuple_non, e_isi_tuple_bl, e_isi_tuple_int, e_isi_tuple_str, e_isi_tuple_list, e_isi_tuple_tup, e_isi_tuple_dict, e_isi_tuple_dictT, e_isi_dict_non, e_isi_dict_bl, e_isi_dict_int, e_isi_dict_str, e_isi_dict_list, e_isi_dict_tup, e_isi_dict_dict, e_isi_dict_dictT, e_iteAnd, e_iteOr, e_iteAndD, e_iteOrD, e_then_ite, e_endS_ite, e_endN_ite, e_ofR_ite, e_pick_ite, e_bind_ite, e_modI, e_fdivI, e_mul1, e_pow10, e_pow2, e_shl1, e_shrI, e_addS, e_iaddS, e_addL, e_addT, e_lenS, e_lst, e_strLit, String.reduceBEq, e_ixL0, e_ixL1, e_ixL2, e_ixL3, e_ixL4, e_ixL5, e_ixL6, e_ixL7, e_ixL8, e_ixT0, e_ixT1, e_ixT2, e_ixT3, e_ixT4, e_ixT5, e_tupleL, e_listT, e_tupleT, eqX_int, neX_int, eqX_S, neX_S, eqX_t0, neX_t0, e_catL, e_tup, e_inT, e_ninT, e_inL, e_ninL, e_slS, Int.reduceLT, Int.reduceLE, Int.reduceMul, Int.reduceAdd, Int.reduceSub, Int.reducePow, Int.reduceNeg, Int.reduceToNat, List.length_cons, List.length_nil, List.length_append, Nat.reduceAdd, Nat.reduceLeDiff, flD, List.all_cons, List.all_nil, Bool.and_true, Bool.true_and, Bool.and_self, decide_true, decide_false, or_true, true_or, and_true, true_and, eq_self])
/-! ### things that is_text and its like can look at -/
def gdL : Nat → D → Bool
  | _, .non => true | _, .bl _ => true | _, .int _ => true
  | _, .str s => decide (s.length ≤ 16777216)
  | n + 1, .list ds => ds.all (gdL n)
  | n + 1, .tup ds => ds.all (gdL n)
  | _, _ => false
theorem gdL_len {n : Nat} {s : Str} (h : gdL n (.str s) = true) : s.length ≤ 16777216 := by
  have : decide (s.length ≤ 16777216) = true := by cases n <;> exact h
  exact of_decide_eq_true this
theorem gdL_tup {n : Nat} {ds : List D} (h : gdL (n + 1) (.tup ds) = true) : ∀ d ∈ ds, gdL n d = true := List.all_eq_true.mp (show ds.all (gdL n) = true from h)
def Tq (n : Nat) (d : D) : Prop := gdL n d = true ∨ d = .dict []
theorem Tq.of {n : Nat} {d : D} (h : gdL n d = true) : Tq n d := .inl h
theorem TextOk.gd {s : Str} (h : TextOk s) (n : Nat) : gdL n (.str s) = true := by
  have : decide (s.length ≤ 16777216) = true := decide_eq_true (by have := h.1; omega)
  cases n <;> exact this
def textB (d : D) : Bool := ofB d allSigns 0 60
def few (n : Nat) : Bool := decide (1 ≤ (n : Int)) && decide ((n : Int) ≤ 6)
def cellsB : D → Bool
  | .tup ds => few ds.length && ds.all textB
  | _ => false
def rowB (n : Nat) : D → Bool
  | .tup ds => ((ds.length : Int) == (n : Int)) && ds.all textB
  | _ => false
def firstLen : List D → Nat
  | .tup ds :: _ => ds.length
  | _ => 0
def tableB : D → Bool
  | .tup rows => few rows.length && ((rows.head?.map cellsB).getD false && rows.all (rowB (firstLen rows)))
  | _ => false
theorem few_of {n : Nat} (h : 1 ≤ n) (h' : n ≤ 6) : few n = true := by
  unfold few
  rw [decide_eq_true (by omega), decide_eq_true (by omega)]
  rfl
theorem textsOk.all {ds : List D} (h : textsOk ds) : ds.all textB = true := List.all_eq_true.mpr fun d hd => by
  obtain ⟨s, rfl, hs⟩ := h d hd
  exact hs.b
theorem textsOk.sh {ds : List D} (h : textsOk ds) (n : Nat) : ds.all (gdL n) = true := List.all_eq_true.mpr fun d hd => by
  obtain ⟨s, rfl, hs⟩ := h d hd
  exact hs.gd n
theorem RowOk.sh {n : Nat} {d : D} (h : RowOk n d) (k : Nat) : gdL (k + 1) d = true := by
  obtain ⟨ds, rfl, _, h⟩ := h
  exact h.sh k
theorem TableOk.sh {d : D} (h : TableOk d) (k : Nat) : gdL (k + 2) d = true := by
  obtain ⟨rows, n, rfl, _, _, _, _, h⟩ := h
  exact List.all_eq_true.mpr fun r hr => (h r hr).sh k
theorem TableOk.b {d : D} (h : TableOk d) : tableB d = true := by
  obtain ⟨rows, n, rfl, h1, h2, h3, h4, h⟩ := h
  cases rows with
  | nil => exact absurd h1 (by decide)
  | cons r rows =>
    obtain ⟨ds, rfl, l, t⟩ := h r List.mem_cons_self
    have e1 : cellsB (.tup ds) = true := by
      show (few ds.length && ds.all textB) = true
      rw [few_of (by omega) (by omega), t.all]
      rfl
    have e2 : (D.tup ds :: rows).all (rowB ds.length) = true := List.all_eq_true.mpr fun r hr => by
      obtain ⟨es, rfl, l', t'⟩ := h r hr
      show (((es.length : Int) == (ds.length : Int)) && es.all textB) = true
      rw [t'.all, l, l', beq_self_eq_true]
      rfl
    show (few (D.tup ds :: rows).length && (cellsB (.tup ds) && (D.tup ds :: rows).all (rowB ds.length))) = true
    rw [few_of h1 h2, e1, e2]
    rfl
theorem tq_good {n : Nat} {d : D} (h : Tq n d) : good d = true := by
  rcases h with h | rfl
  · cases d with
    | str s => exact decide_eq_true (by have := gdL_len h; omega)
    | dictT _ => cases n <;> cases h
    | obj _ _ => cases n <;> cases h
    | loc _ => cases n <;> cases h
    | adr _ => cases n <;> cases h
    | _ => rfl
  · rfl
theorem f_txt {n : Nat} {d : D} (h : Tq n d) : F_is_text [d] = .ok (.bl (textB d)) := f_text (tq_good h)
theorem row_tup {m : Nat} {ds : List D} (n : Nat) (h : ∀ d ∈ ds, Tq m d) (hn : n ≤ 16777216) : F_is_row [.tup ds, .int (n : Int)] = .ok (.bl (rowB n (.tup ds))) := by
  show endS (S_is_row [some (.tup ds), some (.int (n : Int)), none]) = .ok (.bl (((ds.length : Int) == (n : Int)) && ds.all textB))
  unfold S_is_row
  walk_at "pd"
  by_cases hl : ((ds.length : Int) == (n : Int)) = true
  · rw [hl]
    have hl' : ds.length = n := by have := eq_of_beq hl; omega
    walk_at "pd"
    generalize hG : gLc _ _ _ _ _ _ = G
    have e := gLc_map hG (fun d => .bl (textB d)) (items := ds) (by walk_at "pd") (by omega) (fun d hd => by
      show gA _ _ [some (.tup ds), some (.int (n : Int)), some d] = _
      walk_at "pd"
      rw [f_txt (h d hd)])
    rw [e]
    walk_at "pd"
    rw [e_all]
    rfl
  · rw [show ((ds.length : Int) == (n : Int)) = false by simpa using hl]
    rfl
theorem row_other {m : Nat} {d : D} (n : Nat) (h : Tq m d) (ht : ∀ ds, d ≠ .tup ds) : F_is_row [d, .int (n : Int)] = .ok (.bl false) := by
  rcases h with h | rfl
  · cases d with
    | tup ds => exact absurd rfl (ht ds)
    | dictT _ => cases m <;> cases h
    | obj _ _ => cases m <;> cases h
    | loc _ => cases m <;> cases h
    | adr _ => cases m <;> cases h
    | _ => rfl
  · rfl
theorem f_row {m : Nat} {d : D} (n : Nat) (h : gdL (m + 1) d = true) (hn : n ≤ 16777216) : F_is_row [d, .int (n : Int)] = .ok (.bl (rowB n d)) := by
  by_cases ht : ∃ ds, d = .tup ds
  · obtain ⟨ds, rfl⟩ := ht
    exact row_tup n (fun x hx => .of (gdL_tup h x hx)) hn
  · rw [row_other n (.of h) fun ds e => ht ⟨ds, e⟩]
    cases d <;> first | rfl | exact absurd ⟨_, rfl⟩ ht
theorem beq_nat (n : Nat) : ((n : Int) == (n : Int)) = true := by simp
theorem few_iff {n : Nat} (h : few n = true) : 1 ≤ n ∧ n ≤ 6 := by
  unfold few at h
  rw [Bool.and_eq_true, decide_eq_true_eq, decide_eq_true_eq] at h
  omega
theorem f_cells {m : Nat} {d : D} (h : Tq (m + 1) d) : F_is_cells [d] = .ok (.bl (cellsB d)) := by
  by_cases ht : ∃ ds, d = .tup ds
  · obtain ⟨ds, rfl⟩ := ht
    have h' : gdL (m + 1) (.tup ds) = true := h.resolve_right fun z => by cases z
    show endS (S_is_cells [some (.tup ds)]) = .ok (.bl (few ds.length && ds.all textB))
    unfold S_is_cells
    walk_at "pd"
    show (if few ds.length = true then endS (S.ofR (F_is_row [.tup ds, .int (ds.length : Int)]) _ _) else R.ok (.bl false)) = _
    by_cases hf : few ds.length = true
    · have := few_iff hf
      rw [if_pos hf, row_tup _ (fun x hx => Tq.of (gdL_tup h' x hx)) (by omega), hf]
      show R.ok (D.bl (((ds.length : Int) == (ds.length : Int)) && ds.all textB)) = _
      rw [beq_nat]
    · rw [if_neg hf, show few ds.length = false by simpa using hf]
      rfl
  · rcases h with h | rfl
    · cases d with
      | tup ds => exact absurd ⟨_, rfl⟩ ht
      | dictT _ => cases h
      | obj _ _ => cases h
      | loc _ => cases h
      | adr _ => cases h
      | _ => rfl
    · rfl
theorem f_chapter (c : D) : F_Kind_fits [.obj "Chapter" [], c] = F_is_text [c] := by
  show endS (S_Kind_fits [some (.obj "Chapter" []), some c]) = _
  unfold S_Kind_fits
  walk_at "pd"
  exact endS_of _ _
theorem f_para (c : D) : F_Kind_fits [.obj "Para" [], c] = F_is_text [c] := by
  show endS (S_Kind_fits [some (.obj "Para" []), some c]) = _
  unfold S_Kind_fits
  walk_at "pd"
  exact endS_of _ _
theorem cells_tup {d : D} (h : cellsB d = true) : ∃ ds, d = .tup ds ∧ few ds.length = true ∧ ds.all textB = true := by
  cases d with
  | tup ds =>
    have h' : (few ds.length && ds.all textB) = true := h
    rw [Bool.and_eq_true] at h'
    exact ⟨ds, rfl, h'.1, h'.2⟩
  | _ => cases h
theorem f_table {m : Nat} {o d : D} (h : Tq (m + 2) d) : F_Table_fits [o, d] = .ok (.bl (tableB d)) := by
  by_cases ht : ∃ ds, d = .tup ds
  · obtain ⟨rows, rfl⟩ := ht
    have h' : gdL (m + 2) (.tup rows) = true := h.resolve_right fun z => by cases z
    show endS (S_Table_fits [some o, some (.tup rows), none]) = .ok (.bl (few rows.length && ((rows.head?.map cellsB).getD false && rows.all (rowB (firstLen rows)))))
    unfold S_Table_fits
    walk_at "pd"
    show (if (!few rows.length) = true then _ else _) = _
    by_cases hf : few rows.length = true
    · have := few_iff hf
      rw [hf]
      cases rows with
      | nil => exact absurd this.1 (by decide)
      | cons r rows =>
        have hr : Tq (m + 1) r := .of (gdL_tup h' r List.mem_cons_self)
        walk_at "pd"
        rw [f_cells hr]
        walk_at "pd"
        show (if (!cellsB r) = true then _ else _) = R.ok (D.bl (cellsB r && _))
        by_cases hc : cellsB r = true
        · obtain ⟨ds, rfl, hd, _⟩ := cells_tup hc
          have hd' := few_iff hd
          rw [hc]
          walk_at "pd"
          generalize hG : gLc _ _ _ _ _ _ = G
          have e := gLc_map hG (fun x => .bl (rowB ds.length x)) (items := .tup ds :: rows) (by walk_at "pd") (by omega) (fun x hx => by
            show gA _ _ [some o, some (.tup (.tup ds :: rows)), some x] = _
            walk_at "pd"
            rw [f_row ds.length (gdL_tup h' x hx) (by omega)])
          rw [e]
          walk_at "pd"
          rw [e_all]
          rfl
        · rw [show cellsB r = false by simpa using hc]
          rfl
    · rw [show few rows.length = false by simpa using hf]
      rfl
  · rcases h with h | rfl
    · cases d with
      | tup ds => exact absurd ⟨_, rfl⟩ ht
      | dictT _ => cases h
      | obj _ _ => cases h
      | loc _ => cases h
      | adr _ => cases h
      | _ => rfl
    · rfl

end Pd

set_option maxHeartbeats 4000000
namespace Pd
open PySem PySem.Spec PyProof.Rows L2
local macro_rules | `(tactic| walk_at "pd") => `(tactic| try simp -implicitDefEqProofs only [e_seq, e_thn, e_trt, e_trn, e_tex, e_if, e_pick, e_pickx, e_ret, e_retN, e_set, e_drop, e_for, e_ofR, e_ofRx, e_ofI, e_nil, e_asg, endS_rt, endS_rn, endS_nx, endS_ex, endN_rn, endN_ex, gC, g1, g2, g3, gA, aNil, aCons, gAnd, gOr, gNot, gB, gTru, bAnd, bOr, bNot, gIf, iA, iSeq, gSl, pNone, pSome, ok_bind, ex_bind, st_bind, gVar, List.getElem?_cons_zero, List.getElem?_cons_succ, List.set_cons_zero, List.set_cons_succ, if_true, if_false, Bool.not_true, Bool.not_false, Bool.false_eq_true, ↓reduceIte, e_asB, e_lt, e_gt, e_le, e_ge, e_ltS, e_gtS, e_eqI, e_eqS, e_eqB, e_neI, e_neS, e_neB, e_addI, e_iaddI, e_subI, e_negI, e_andI, e_orI, e_xorI, e_lenL, e_lenT, e_ord, e_intB, e_intI, e_inS, e_ninS, e_itL, e_itT, e_itS, e_zip, e_enum, e_slL, e_slT, e_asI, e_isN1, e_isN2, e_notN1, e_notN2, e_truB, e_truI, e_truL, e_isi_int_non, e_isi_int_bl, e_isi_int_int, e_isi_int_str, e_isi_int_list, e_isi_int_tup, e_isi_int_dict, e_isi_int_dictT, e_isi_bool_non, e_isi_bool_bl, e_isi_bool_int, e_isi_bool_str, e_isi_bool_list, e_isi_bool_tup, e_isi_bool_dict, e_isi_bool_dictT, e_isi_str_non, e_isi_str_bl, e_isi_str_int, e_isi_str_str, e_isi_str_list, e_isi_str_tup, e_isi_str_dict, e_isi_str_dictT, e_isi_list_non, e_isi_list_bl, e_isi_list_int, e_isi_list_str, e_isi_list_list, e_isi_list_tup, e_isi_list_dict, e_isi_list_dictT, e_isi_tuple_non, e_isi_tuple_bl, e_isi_tuple_int, e_isi_tuple_str, e_isi_tuple_list, e_isi_tuple_tup, e_isi_tuple_dict, e_isi_tuple_dictT, e_isi_dict_non, e_isi_dict_bl, e_isi_dict_int, e_isi_dict_str, e_isi_dict_list, e_isi_dict_tup, e_isi_dict_dict, e_isi_dict_dictT, e_iteAnd, e_iteOr, e_iteAndD, e_iteOrD, e_then_ite, e_endS_ite, e_endN_ite, e_ofR_ite, e_pick_ite, e_bind_ite, e_modI, e_fdivI, e_mul1, e_pow10, e_pow2, e_shl1, e_shrI, e_addS, e_iaddS, e_addL, e_addT, e_lenS, e_lst, e_strLit, String.reduceBEq, e_ixL0, e_ixL1, e_ixL2, e_ixL3, e_ixL4, e_ixL5, e_ixL6, e_ixL7, e_ixL8, e_ixT0, e_ixT1, e_ixT2, e_ixT3, e_ixT4, e_ixT5, e_tupleL, e_listT, e_tupleT, eqX_int, neX_int, eqX_S, neX_S, eqX_t0, neX_t0, e_catL, e_tup, e_inT, e_ninT, e_inL, e_ninL, e_slS, Int.reduceLT, Int.reduceLE, Int.reduceMul, Int.reduceAdd, Int.reduceSub, Int.reducePow, Int.reduceNeg, Int.reduceToNat, List.length_cons, List.length_nil, List.length_append, Nat.reduceAdd, Nat.reduceLeDiff, flD, List.all_cons, List.all_nil, Bool.and_true, Bool.true_and, Bool.and_self, decide_true, decide_false, or_true, true_or, and_true, true_and, eq_self])
local macro_rules | `(tactic| walk_at "pdh") => `(tactic| try simp -implicitDefEqProofs only [e_seq, e_thn, e_trt, e_trn, e_tex, e_if, e_pick, e_pickx, e_ret, e_retN, e_set, e_drop, e_for, e_ofR, e_ofRx, e_ofI, e_nil, e_asg, endS_rt, endS_rn, endS_nx, endS_ex, endN_rn, endN_ex, gC, g1, g2, g3, gA, aNil, aCons, gAnd, gOr, gNot, gB, gTru, bAnd, bOr, bNot, gIf, iA, iSeq, gSl, pNone, pSome, ok_bind, ex_bind, st_bind, gVar, List.getElem?_cons_zero, List.getElem?_cons_succ, List.set_cons_zero, List.set_cons_succ, if_true, if_false, Bool.not_true, Bool.not_false, Bool.false_eq_true, ↓reduceIte, e_asB, e_lt, e_gt, e_le, e_ge, e_ltS, e_gtS, e_eqI, e_eqS, e_eqB, e_neI, e_neS, e_neB, e_addI, e_iaddI, e_subI, e_negI, e_andI, e_orI, e_xorI, e_lenL, e_lenT, e_ord, e_intB, e_intI, e_inS, e_ninS, e_itL, e_itT, e_itS, e_zip, e_enum, e_slL, e_slT, e_asI, e_isN1, e_isN2, e_notN1, e_notN2, e_truB, e_truI, e_truL, e_isi_int_non, e_isi_int_bl, e_isi_int_int, e_isi_int_str, e_isi_int_list, e_isi_int_tup, e_isi_int_dict, e_isi_int_dictT, e_isi_bool_non, e_isi_bool_bl, e_isi_bool_int, e_isi_bool_str, e_isi_bool_list, e_isi_bool_tup, e_isi_bool_dict, e_isi_bool_dictT, e_isi_str_non, e_isi_str_bl, e_isi_str_int, e_isi_str_str, e_isi_str_list, e_isi_str_tup, e_isi_str_dict, e_isi_str_dictT, e_isi_list_non, e_isi_list_bl, e_isi_list_int, e_isi_list_str, e_isi_list_list, e_isi_list_tup, e_isi_list_dict, e_isi_list_dictT, e_isi_tuple_non, e_isi_tuple_bl, e_isi_tuple_int, e_isi_tuple_str, e_isi_tuple_list, e_isi_tuple_tup, e_isi_tuple_dict, e_isi_tuple_dictT, e_isi_dict_non, e_isi_dict_bl, e_isi_dict_int, e_isi_dict_str, e_isi_dict_list, e_isi_dict_tup, e_isi_dict_dict, e_isi_dict_dictT, e_iteAnd, e_iteOr, e_iteAndD, e_iteOrD, e_then_ite, e_endS_ite, e_endN_ite, e_ofR_ite, e_pick_ite, e_bind_ite, e_modI, e_fdivI, e_mul1, e_pow10, e_pow2, e_shl1, e_shrI, e_addS, e_iaddS, e_addL, e_addT, e_lenS, e_lst, e_strLit, String.reduceBEq, e_ixL0, e_ixL1, e_ixL2, e_ixL3, e_ixL4, e_ixL5, e_ixL6, e_ixL7, e_ixL8, e_ixT0, e_ixT1, e_ixT2, e_ixT3, e_ixT4, e_ixT5, e_tupleL, e_listT, e_tupleT, eqX_int, neX_int, eqX_S, neX_S, eqX_t0, neX_t0, e_catL, e_tup, e_inT, e_ninT, e_inL, e_ninL, e_slS, Int.reduceLT, Int.reduceLE, Int.reduceMul, Int.reduceAdd, Int.reduceSub, Int.reducePow, Int.reduceNeg, Int.reduceToNat, List.length_cons, List.length_nil, List.length_append, Nat.reduceAdd, Nat.reduceLeDiff, flD, List.all_cons, List.all_nil, Bool.and_true, Bool.true_and, Bool.and_self, decide_true, decide_false, or_true, true_or, and_true, true_and, eq_self, *])
local macro_rules | `(tactic| walk_at "pdu") => `(tactic| try simp -implicitDefEqProofs only [e_seq, e_forN, e_for0, e_nxn, e_nct, e_nbk, e_nrt, e_nrn, e_nex, e_next_ite, e_thn, e_trt, e_trn, e_tex, e_if, e_pick, e_pickx, e_ret, e_retN, e_set, e_drop, e_for, e_ofR, e_ofRx, e_ofI, e_nil, e_asg, endS_rt, endS_rn, endS_nx, endS_ex, endN_rn, endN_ex, gC, g1, g2, g3, gA, aNil, aCons, gAnd, gOr, gNot, gB, gTru, bAnd, bOr, bNot, gIf, iA, iSeq, gSl, pNone, pSome, ok_bind, ex_bind, st_bind, gVar, List.getElem?_cons_zero, List.getElem?_cons_succ, List.set_cons_zero, List.set_cons_succ, if_true, if_false, Bool.not_true, Bool.not_false, Bool.false_eq_true, ↓reduceIte, e_asB, e_lt, e_gt, e_le, e_ge, e_ltS, e_gtS, e_eqI, e_eqS, e_eqB, e_neI, e_neS, e_neB, e_addI, e_iaddI, e_subI, e_negI, e_andI, e_orI, e_xorI, e_lenL, e_lenT, e_ord, e_intB, e_intI, e_inS, e_ninS, e_itL, e_itT, e_itS, e_zip, e_enum, e_slL, e_slT, e_asI, e_isN1, e_isN2, e_notN1, e_notN2, e_truB, e_truI, e_truL, e_isi_int_non, e_isi_int_bl, e_isi_int_int, e_isi_int_str, e_isi_int_list, e_isi_int_tup, e_isi_int_dict, e_isi_int_dictT, e_isi_bool_non, e_isi_bool_bl, e_isi_bool_int, e_isi_bool_str, e_isi_bool_list, e_isi_bool_tup, e_isi_bool_dict, e_isi_bool_dictT, e_isi_str_non, e_isi_str_bl, e_isi_str_int, e_isi_str_str, e_isi_str_list, e_isi_str_tup, e_isi_str_dict, e_isi_str_dictT, e_isi_list_non, e_isi_list_bl, e_isi_list_int, e_isi_list_str, e_isi_list_list, e_isi_list_tup, e_isi_list_dict, e_isi_list_dictT, e_isi_tuple_non, e_isi_tuple_bl, e_isi_tuple_int, e_isi_tuple_str, e_isi_tuple_list, e_isi_tuple_tup, e_isi_tuple_dict, e_isi_tuple_dictT, e_isi_dict_non, e_isi_dict_bl, e_isi_dict_int, e_isi_dict_str, e_isi_dict_list, e_isi_dict_tup, e_isi_dict_dict, e_isi_dict_dictT, e_iteAnd, e_iteOr, e_iteAndD, e_iteOrD, e_then_ite, e_endS_ite, e_endN_ite, e_ofR_ite, e_pick_ite, e_bind_ite, e_modI, e_fdivI, e_mul1, e_pow10, e_pow2, e_shl1, e_shrI, e_addS, e_iaddS, e_addL, e_addT, e_lenS, e_lst, e_strLit, String.reduceBEq, e_ixL0, e_ixL1, e_ixL2, e_ixL3, e_ixL4, e_ixL5, e_ixL6, e_ixL7, e_ixL8, e_ixT0, e_ixT1, e_ixT2, e_ixT3, e_ixT4, e_ixT5, e_tupleL, e_listT, e_tupleT, eqX_int, neX_int, eqX_S, neX_S, eqX_t0, neX_t0, e_catL, e_tup, e_inT, e_ninT, e_inL, e_ninL, e_slS, Int.reduceLT, Int.reduceLE, Int.reduceMul, Int.reduceAdd, Int.reduceSub, Int.reducePow, Int.reduceNeg, Int.reduceToNat, List.length_cons, List.length_nil, List.length_append, Nat.reduceAdd, Nat.reduceLeDiff, flD, List.all_cons, List.all_nil, Bool.and_true, Bool.true_and, Bool.and_self, decide_true, decide_false, or_true, true_or, and_true, true_and, eq_self])
local macro_rules | `(tactic| walk_at "pdq") => `(tactic| try simp -implicitDefEqProofs only [e_seq, q_seq, q_tnx, q_tex, q_trt, q_then_ite, q_if, q_pick, q_pickx, q_pick_ite, q_nil, q_raise, cl_nil, cl_f, cl_t, cl_n, e_thn, e_trt, e_trn, e_tex, e_if, e_pick, e_pickx, e_ret, e_retN, e_set, e_drop, e_for, e_ofR, e_ofRx, e_ofI, e_nil, e_asg, endS_rt, endS_rn, endS_nx, endS_ex, endN_rn, endN_ex, gC, g1, g2, g3, gA, aNil, aCons, gAnd, gOr, gNot, gB, gTru, bAnd, bOr, bNot, gIf, iA, iSeq, gSl, pNone, pSome, ok_bind, ex_bind, st_bind, gVar, List.getElem?_cons_zero, List.getElem?_cons_succ, List.set_cons_zero, List.set_cons_succ, if_true, if_false, Bool.not_true, Bool.not_false, Bool.false_eq_true, ↓reduceIte, e_asB, e_lt, e_gt, e_le, e_ge, e_ltS, e_gtS, e_eqI, e_eqS, e_eqB, e_neI, e_neS, e_neB, e_addI, e_iaddI, e_subI, e_negI, e_andI, e_orI, e_xorI, e_lenL, e_lenT, e_ord, e_intB, e_intI, e_inS, e_ninS, e_itL, e_itT, e_itS, e_zip, e_enum, e_slL, e_slT, e_asI, e_isN1, e_isN2, e_notN1, e_notN2, e_truB, e_truI, e_truL, e_isi_int_non, e_isi_int_bl, e_isi_int_int, e_isi_int_str, e_isi_int_list, e_isi_int_tup, e_isi_int_dict, e_isi_int_dictT, e_isi_bool_non, e_isi_bool_bl, e_isi_bool_int, e_isi_bool_str, e_isi_bool_list, e_isi_bool_tup, e_isi_bool_dict, e_isi_bool_dictT, e_isi_str_non, e_isi_str_bl, e_isi_str_int, e_isi_str_str, e_isi_str_list, e_isi_str_tup, e_isi_str_dict, e_isi_str_dictT, e_isi_list_non, e_isi_list_bl, e_isi_list_int, e_isi_list_str, e_isi_list_list, e_isi_list_tup, e_isi_list_dict, e_isi_list_dictT, e_isi_tuple_non, e_isi_tuple_bl, e_isi_tuple_int, e_isi_tuple_str, e_isi_tuple_list, e_isi_tuple_tup, e_isi_tuple_dict, e_isi_tuple_dictT, e_isi_dict_non, e_isi_dict_bl, e_isi_dict_int, e_isi_dict_str, e_isi_dict_list, e_isi_dict_tup, e_isi_dict_dict, e_isi_dict_dictT, e_iteAnd, e_iteOr, e_iteAndD, e_iteOrD, e_then_ite, e_endS_ite, e_endN_ite, e_ofR_ite, e_pick_ite, e_bind_ite, e_modI, e_fdivI, e_mul1, e_pow10, e_pow2, e_shl1, e_shrI, e_addS, e_iaddS, e_addL, e_addT, e_lenS, e_lst, e_strLit, String.reduceBEq, e_ixL0, e_ixL1, e_ixL2, e_ixL3, e_ixL4, e_ixL5, e_ixL6, e_ixL7, e_ixL8, e_ixT0, e_ixT1, e_ixT2, e_ixT3, e_ixT4, e_ixT5, e_tupleL, e_listT, e_tupleT, eqX_int, neX_int, eqX_S, neX_S, eqX_t0, neX_t0, e_catL, e_tup, e_inT, e_ninT, e_inL, e_ninL, e_slS, Int.reduceLT, Int.reduceLE, Int.reduceMul, Int.reduceAdd, Int.reduceSub, Int.reducePow, Int.reduceNeg, Int.reduceToNat, List.length_cons, List.length_nil, List.length_append, Nat.reduceAdd, Nat.reduceLeDiff, flD, List.all_cons, List.all_nil, Bool.and_true, Bool.true_and, Bool.and_self, decide_true, decide_false, or_true, true_or, and_true, true_and, eq_self])
local macro_rules | `(tactic| walk_at "pdr") => `(tactic| try simp -implicitDefEqProofs only [e_seq, q_seq, q_tnx, q_tex, q_trt, q_then_ite, q_nil, q_raise, cl_nil, cl_f, cl_t, cl_n, s_ok, s_ex, e_sqRet, e_sqSet, e_sqExpr, e_sqAsg, asg_some, e_tqName, e_tqTup2, e_qP, e_upok, e_upex, e_qVar, e_varok, e_qNew, e_newok, rq_ok, rq_ex, e_aqN, e_aqC, e_qPA, e_qCall, e_qTup, e_tupP2, e_qSn, e_qSnT, e_tok, e_qT, e_up_ite, pk_ite, s_ite, tst_ite, e_end_ite, q_ifS, pk_ok, e_q2, op2_ii, op2_ss, op2_si, e_qLst, lstP1, e_iqR,  sn_nil, sn_s, sn_n, fu_f, e_qIx, e_endrt, e_endnx, List.map_cons, List.map_nil, Bool.or_false, Bool.or_true, Bool.true_or, Bool.false_or, e_thn, e_trt, e_trn, e_tex, e_if, e_pick, e_pickx, e_ret, e_retN, e_set, e_drop, e_for, e_ofR, e_ofRx, e_ofI, e_nil, e_asg, endS_rt, endS_rn, endS_nx, endS_ex, endN_rn, endN_ex, gC, g1, g2, g3, gA, aNil, aCons, gAnd, gOr, gNot, gB, gTru, bAnd, bOr, bNot, gIf, iA, iSeq, gSl, pNone, pSome, ok_bind, ex_bind, st_bind, gVar, List.getElem?_cons_zero, List.getElem?_cons_succ, List.set_cons_zero, List.set_cons_succ, if_true, if_false, Bool.not_true, Bool.not_false, Bool.false_eq_true, ↓reduceIte, e_asB, e_lt, e_gt, e_le, e_ge, e_ltS, e_gtS, e_eqI, e_eqS, e_eqB, e_neI, e_neS, e_neB, e_addI, e_iaddI, e_subI, e_negI, e_andI, e_orI, e_xorI, e_lenL, e_lenT, e_ord, e_intB, e_intI, e_inS, e_ninS, e_itL, e_itT, e_itS, e_zip, e_enum, e_slL, e_slT, e_asI, e_isN1, e_isN2, e_notN1, e_notN2, e_truB, e_truI, e_truL, e_isi_int_non, e_isi_int_bl, e_isi_int_int, e_isi_int_str, e_isi_int_list, e_isi_int_tup, e_isi_int_dict, e_isi_int_dictT, e_isi_bool_non, e_isi_bool_bl, e_isi_bool_int, e_isi_bool_str, e_isi_bool_list, e_isi_bool_tup, e_isi_bool_dict, e_isi_bool_dictT, e_isi_str_non, e_isi_str_bl, e_isi_str_int, e_isi_str_str, e_isi_str_list, e_isi_str_tup, e_isi_str_dict, e_isi_str_dictT, e_isi_list_non, e_isi_list_bl, e_isi_list_int, e_isi_list_str, e_isi_list_list, e_isi_list_tup, e_isi_list_dict, e_isi_list_dictT, e_isi_tuple_non, e_isi_tuple_bl, e_isi_tuple_int, e_isi_tuple_str, e_isi_tuple_list, e_isi_tuple_tup, e_isi_tuple_dict, e_isi_tuple_dictT, e_isi_dict_non, e_isi_dict_bl, e_isi_dict_int, e_isi_dict_str, e_isi_dict_list, e_isi_dict_tup, e_isi_dict_dict, e_isi_dict_dictT, e_iteAnd, e_iteOr, e_iteAndD, e_iteOrD, e_then_ite, e_endS_ite, e_endN_ite, e_ofR_ite, e_pick_ite, e_bind_ite, e_modI, e_fdivI, e_mul1, e_pow10, e_pow2, e_shl1, e_shrI, e_addS, e_iaddS, e_addL, e_addT, e_lenS, e_lst, e_strLit, String.reduceBEq, e_ixL0, e_ixL1, e_ixL2, e_ixL3, e_ixL4, e_ixL5, e_ixL6, e_ixL7, e_ixL8, e_ixT0, e_ixT1, e_ixT2, e_ixT3, e_ixT4, e_ixT5, e_tupleL, e_listT, e_tupleT, eqX_int, neX_int, eqX_S, neX_S, eqX_t0, neX_t0, e_catL, e_tup, e_inT, e_ninT, e_inL, e_ninL, e_slS, Int.reduceLT, Int.reduceLE, Int.reduceMul, Int.reduceAdd, Int.reduceSub, Int.reducePow, Int.reduceNeg, Int.reduceToNat, List.length_cons, List.length_nil, List.length_append, Nat.reduceAdd, Nat.reduceLeDiff, flD, List.all_cons, List.all_nil, Bool.and_true, Bool.true_and, Bool.and_self, decide_true, decide_false, or_true, true_or, and_true, true_and, eq_self])
local macro_rules | `(tactic| walk_at "pdv") => `(tactic| try simp -implicitDefEqProofs only [e_seq, Int.reduceBEq, Int.cast_ofNat_Int, e_thn, e_trt, e_trn, e_tex, e_if, e_pick, e_pickx, e_ret, e_retN, e_set, e_drop, e_for, e_ofR, e_ofRx, e_ofI, e_nil, e_asg, endS_rt, endS_rn, endS_nx, endS_ex, endN_rn, endN_ex, gC, g1, g2, g3, gA, aNil, aCons, gAnd, gOr, gNot, gB, gTru, bAnd, bOr, bNot, gIf, iA, iSeq, gSl, pNone, pSome, ok_bind, ex_bind, st_bind, gVar, List.getElem?_cons_zero, List.getElem?_cons_succ, List.set_cons_zero, List.set_cons_succ, if_true, if_false, Bool.not_true, Bool.not_false, Bool.false_eq_true, ↓reduceIte, e_asB, e_lt, e_gt, e_le, e_ge, e_ltS, e_gtS, e_eqI, e_eqS, e_eqB, e_neI, e_neS, e_neB, e_addI, e_iaddI, e_subI, e_negI, e_andI, e_orI, e_xorI, e_lenL, e_lenT, e_ord, e_intB, e_intI, e_inS, e_ninS, e_itL, e_itT, e_itS, e_zip, e_enum, e_slL, e_slT, e_asI, e_isN1, e_isN2, e_notN1, e_notN2, e_truB, e_truI, e_truL, e_isi_int_non, e_isi_int_bl, e_isi_int_int, e_isi_int_str, e_isi_int_list, e_isi_int_tup, e_isi_int_dict, e_isi_int_dictT, e_isi_bool_non, e_isi_bool_bl, e_isi_bool_int, e_isi_bool_str, e_isi_bool_list, e_isi_bool_tup, e_isi_bool_dict, e_isi_bool_dictT, e_isi_str_non, e_isi_str_bl, e_isi_str_int, e_isi_str_str, e_isi_str_list, e_isi_str_tup, e_isi_str_dict, e_isi_str_dictT, e_isi_list_non, e_isi_list_bl, e_isi_list_int, e_isi_list_str, e_isi_list_list, e_isi_list_tup, e_isi_list_dict, e_isi_list_dictT, e_isi_tuple_non, e_isi_tuple_bl, e_isi_tuple_int, e_isi_tuple_str, e_isi_tuple_list, e_isi_tuple_tup, e_isi_tuple_dict, e_isi_tuple_dictT, e_isi_dict_non, e_isi_dict_bl, e_isi_dict_int, e_isi_dict_str, e_isi_dict_list, e_isi_dict_tup, e_isi_dict_dict, e_isi_dict_dictT, e_iteAnd, e_iteOr, e_iteAndD, e_iteOrD, e_then_ite, e_endS_ite, e_endN_ite, e_ofR_ite, e_pick_ite, e_bind_ite, e_modI, e_fdivI, e_mul1, e_pow10, e_pow2, e_shl1, e_shrI, e_addS, e_iaddS, e_addL, e_addT, e_lenS, e_lst, e_strLit, String.reduceBEq, e_ixL0, e_ixL1, e_ixL2, e_ixL3, e_ixL4, e_ixL5, e_ixL6, e_ixL7, e_ixL8, e_ixT0, e_ixT1, e_ixT2, e_ixT3, e_ixT4, e_ixT5, e_tupleL, e_listT, e_tupleT, eqX_int, neX_int, eqX_S, neX_S, eqX_t0, neX_t0, e_catL, e_tup, e_inT, e_ninT, e_inL, e_ninL, e_slS, Int.reduceLT, Int.reduceLE, Int.reduceMul, Int.reduceAdd, Int.reduceSub, Int.reducePow, Int.reduceNeg, Int.reduceToNat, List.length_cons, List.length_nil, List.length_append, Nat.reduceAdd, Nat.reduceLeDiff, flD, List.all_cons, List.all_nil, Bool.and_true, Bool.true_and, Bool.and_self, decide_true, decide_false, or_true, true_or, and_true, true_and, eq_self])
/-! ### the digits drawn -/
def StOk (p : Nat) (M : Mem) : Prop := ∃ (f : Bool) (s0 s1 : Int), M[p]? = some (f, .list [.int s0, .int s1]) ∧ 0 ≤ s1 ∧ s1 < 4294967296
theorem ii_cv (a b : Int) : cvD true 1 (.list [.int a, .int b]) = true := rfl
theorem next_at {p : Nat} {M : Mem} (h : StOk p M) (b : Int) (hb : 0 < b) (hb2 : b ≤ 1000) : ∃ r fl M', FQ__law_next [(true, .loc p), (false, .int b)] M = .ok (fl, .int r) M' ∧ 0 ≤ r ∧ r < b ∧ StOk p M' ∧ ∀ j, j ≠ p → M'[j]? = M[j]? := by
  obtain ⟨f, s0, s1, hM, h0, h1⟩ := h
  have hp := lt_of hM
  show ∃ r fl M', endQ (SQ__law_next [some (true, .loc p), some (false, .int b), none] M) = .ok (fl, .int r) M' ∧ _
  unfold SQ__law_next
  have q0 : 0 ≤ (s1 * 48271 + 1) % 2147483647 ∧ (s1 * 48271 + 1) % 2147483647 < 2147483647 := ⟨Int.emod_nonneg _ (by decide), Int.emod_lt_of_pos _ (by decide)⟩
  have e1 : sqSetIx (qVar 0) (qP (gC (.int 1))) (qSn (g2 modD (g2 addD (g2 mulD (g2 ixD (gVar 0) (gC (.int 1))) (gC (.int 48271))) (gC (.int 1))) (gC (.int 2147483647)))) [some (true, .loc p), some (false, .int b), none] M =
      .nx [some (true, .loc p), some (false, .int b), none] (M.set p (f || false, .list [.int s0, .int ((s1 * 48271 + 1) % 2147483647)])) := by
    refine e_qSetIx (p := (false, .int ((s1 * 48271 + 1) % 2147483647))) (c := false) (i := 1) (j := 1) (ds := [.int s0, .int s1]) ?_ rfl rfl hM rfl
    walk_at "pdr"
    rw [fu_loc hM (ii_cv s0 s1)]
    walk_at "pdr"
    exact up_off rfl
  rw [q_seq, e1, q_tnx]
  generalize hq : (s1 * 48271 + 1) % 2147483647 = q at *
  have hM1 : (M.set p (f || false, .list [.int s0, .int q]))[p]? = some (f || false, .list [.int s0, .int q]) := set_eq hp
  have hj1 : ∀ j, j ≠ p → (M.set p (f || false, .list [.int s0, .int q]))[j]? = M[j]? := fun j hj => set_ne (Ne.symm hj)
  generalize M.set p (f || false, .list [.int s0, .int q]) = M1 at *
  have n0 : b ≠ 0 := by omega
  walk_at "pdr"
  rw [fu_loc hM1 (ii_cv s0 q)]
  walk_at "pdr"
  have hz := Int.emod_nonneg s0 n0
  have hz2 := Int.emod_lt_of_pos s0 hb
  by_cases hs : (s0 == 0 || s0 == -1) = true
  · rw [if_pos hs]
    rw [fu_loc hM1 (ii_cv s0 q)]
    walk_at "pdr"
    rw [e_mul1 q q (.inl ⟨by omega, by omega⟩)]
    walk_at "pdr"
    rw [e_modI _ b hb]
    walk_at "pdr"
    rw [up_off rfl]
    walk_at "pdr"
    exact ⟨_, _, _, rfl, Int.emod_nonneg _ n0, Int.emod_lt_of_pos _ hb, ⟨_, s0, q, hM1, q0.1, by omega⟩, hj1⟩
  · rw [if_neg hs]
    rw [ixP_loc hM1 (show atI [D.int s0, D.int q] 0 = some (.int s0) from rfl)]
    walk_at "pdr"
    rw [e_modI _ b hb]
    walk_at "pdr"
    have e2 : sqSetIx (qVar 0) (qP (gC (.int 0))) (q2 fdivD (qIx (qVar 0) (qP (gC (.int 0)))) (qP (gVar 1))) [some (true, .loc p), some (false, .int b), some (false, .int (s0 % b))] M1 =
        .nx [some (true, .loc p), some (false, .int b), some (false, .int (s0 % b))] (M1.set p ((f || false) || false, .list [.int (s0 / b), .int q])) := by
      refine e_qSetIx (p := (false, .int (s0 / b))) (c := false) (i := 0) (j := 0) (ds := [.int s0, .int q]) ?_ rfl rfl hM1 rfl
      walk_at "pdr"
      rw [ixP_loc hM1 (show atI [D.int s0, D.int q] 0 = some (.int s0) from rfl)]
      walk_at "pdr"
      rw [e_fdivI _ b hb (by omega)]
      rfl
    rw [e2]
    walk_at "pdr"
    exact ⟨_, _, _, rfl, hz, hz2, ⟨_, _, q, set_eq (lt_of hM1), q0.1, by omega⟩, fun j hj => (set_ne (Ne.symm hj)).trans (hj1 j hj)⟩
/-- one sign more -/
theorem dig_inner {p : Nat} {M : Mem} (h : StOk p M) (left m : Int) (t : Nat) (kd : D) {s : Str} (hs : s.length ≤ 100) (hq : Sub allSigns s) (x : Option P) :
    ∃ M' s', B__law_digits_0 [some (false, .int left), some (false, .int m), some (true, .loc p), some (false, .str lawSigns), some (true, .loc t), some (false, kd), some (false, .str s), x] M =
      .nx [some (false, .int left), some (false, .int m), some (true, .loc p), some (false, .str lawSigns), some (true, .loc t), some (false, kd), some (false, .str s'), x] M' ∧ s'.length = s.length + 1 ∧ Sub allSigns s' ∧ StOk p M' ∧ ∀ j, j ≠ p → M'[j]? = M[j]? := by
  obtain ⟨r, fl, M', e, r0, r1, st, hj⟩ := next_at h 94 (by decide) (by decide)
  obtain ⟨q, eq, lq, sq⟩ := ix_sub lawSigns r (by decide +kernel) r0 (by rw [lawSigns_len]; exact r1)
  unfold B__law_digits_0
  walk_at "pdr"
  rw [e]
  cases fl with
  | true =>
    walk_at "pdr"
    rw [eq]
    walk_at "pdr"
    rw [e_addS s q (by omega)]
    walk_at "pdr"
    exact ⟨_, _, rfl, by rw [len_app, lq], hq.app (lawSigns_sub.trans sq), st, hj⟩
  | false =>
    walk_at "pdr"
    rw [eq]
    walk_at "pdr"
    rw [e_addS s q (by omega)]
    walk_at "pdr"
    exact ⟨_, _, rfl, by rw [len_app, lq], hq.app (lawSigns_sub.trans sq), st, hj⟩
theorem dig_loop {p : Nat} {M : Mem} (h : StOk p M) (left m : Int) {t : Nat} (ht : t ≠ p) {ts : List D} (hM : M[t]? = some (false, .list ts)) (hl : ts.length ≤ 1000) (kd : D) (x y : Option P) :
    ∃ M' x' y' s, B__law_digits_1 [some (false, .int left), some (false, .int m), some (true, .loc p), some (false, .str lawSigns), some (true, .loc t), some (false, kd), x, y] M =
      .nx [some (false, .int left), some (false, .int m), some (true, .loc p), some (false, .str lawSigns), some (true, .loc t), some (false, kd), x', y'] M' ∧ M'[t]? = some (false, .list (ts ++ [.str s])) ∧ TextOk s ∧ StOk p M' := by
  unfold B__law_digits_1
  obtain ⟨r, fl, M1, e, r0, r1, st, hj⟩ := next_at h 61 (by decide) (by decide)
  obtain ⟨n, rfl⟩ := Int.eq_ofNat_of_zero_le r0
  walk_at "pdr"
  rw [e_sqForI (items := rngL 0 n) (M1 := M1) (by
    walk_at "pdr"
    rw [e]
    walk_at "pdr"
    rw [rngP_int _ _ (small_ok (by omega) (by omega)), Int.toNat_natCast])]
  generalize hL : forLQ _ _ _ _ _ = q
  obtain ⟨ρ', M', rfl, ⟨s, z, rfl, ls, ss, st', hk⟩⟩ := forLQ_out hL (fun i ρ M' => ∃ s z, ρ = [some (false, .int left), some (false, .int m), some (true, .loc p), some (false, .str lawSigns), some (true, .loc t), some (false, kd), some (false, .str s), z] ∧ s.length = i ∧ Sub allSigns s ∧ StOk p M' ∧ M'[t]? = some (false, .list ts)) ⟨"", y, rfl, by decide +kernel, Sub.emp _, st, (hj t ht).trans hM⟩ (by
    rintro i q ρ M2 hq ⟨s, z, rfl, ls, ss, st', hk⟩
    obtain ⟨hi, rfl⟩ := rng_items hq
    refine ⟨_, rfl, ?_⟩
    obtain ⟨M3, s', e', l', q', st3, hj3⟩ := dig_inner st' left m t kd (s := s) (by omega) ss (some (false, .int (i : Int)))
    exact ⟨_, _, e', s', _, rfl, by omega, q', st3, (hj3 t ht).trans hk⟩)
  rw [List.length_map, rng_len] at ls
  walk_at "pdr"
  rw [e_qApp (k := t) (b := false) (b0 := false) (ds := ts) (ds0 := ts) (p := (false, .str s)) (M1 := M') rfl hk rfl hk (by rw [sizeLine_eq]; omega)]
  obtain ⟨f, s0, s1, g1, g2, g3⟩ := st'
  exact ⟨_, _, _, s, rfl, set_eq (lt_of hk), ⟨by omega, ss⟩, ⟨f, s0, s1, (set_ne ht).trans g1, g2, g3⟩⟩
theorem digits_at (left : Int) (n : Nat) (hn : n ≤ 36) : ∃ ts, FQ__law_digits.down [.int left, .int (n : Int)] = .ok (.list ts) ∧ ts.length = n ∧ textsOk ts := by
  show ∃ ts, (endQ (SQ__law_digits [some (false, .int left), some (false, .int (n : Int)), none, none, none, none, none, none] [])).down = .ok (.list ts) ∧ _
  unfold SQ__law_digits
  walk_at "pdr"
  rw [law_signs]
  walk_at "pdr"
  rw [e_sqFor (items := rngL 0 n) (by
    walk_at "pdr"
    rw [e_rng1 (n : Int) (small_ok (by omega) (by omega)), Int.toNat_natCast])]
  have b0 := Int.emod_nonneg left (show (2147483629 : Int) ≠ 0 by decide)
  have b1 := Int.emod_lt_of_pos left (show (0 : Int) < 2147483629 by decide)
  generalize hL : forLQ _ _ _ _ _ = q
  obtain ⟨ρ', M', rfl, ⟨ts, x, y, z, rfl, hk, lt, ht, st⟩⟩ := forLQ_out hL (fun i ρ M' => ∃ ts x y z, ρ = [some (false, .int left), some (false, .int (n : Int)), some (true, .loc 0), some (false, .str lawSigns), some (true, .loc 1), x, y, z] ∧ M'[1]? = some (false, .list ts) ∧ ts.length = i ∧ textsOk ts ∧ StOk 0 M') ⟨[], none, none, none, rfl, rfl, rfl, (fun d hd => nomatch hd), ⟨false, left, left % 2147483629 + 17, rfl, by omega, by omega⟩⟩ (by
    rintro i q ρ M2 hq ⟨ts, x, y, z, rfl, hk, lt, ht, st⟩
    obtain ⟨hi, rfl⟩ := rng_items hq
    refine ⟨_, rfl, ?_⟩
    obtain ⟨M3, x', y', s, e, hk', hs, st'⟩ := dig_loop st left (n : Int) (t := 1) (by decide) hk (by omega) (.int (i : Int)) y z
    exact ⟨_, _, e, _, _, _, _, rfl, hk', by rw [List.length_append, lt]; rfl, fun d hd => by
      rcases List.mem_append.mp hd with h | h
      · exact ht d h
      · simp only [List.mem_cons, List.not_mem_nil, or_false] at h
        exact ⟨s, h, hs⟩, st'⟩)
  rw [List.length_map, rng_len] at lt
  walk_at "pdr"
  refine ⟨ts, ?_, lt, ht⟩
  have hcv : cvD true 1 (.list ts) = true := by
    show (true && ts.all (cvD true 0)) = true
    rw [Bool.true_and]
    exact List.all_eq_true.mpr fun d hd => by
      obtain ⟨s, rfl, hs⟩ := ht d hd
      exact hs.sh 0
  show (match P.full M' (true, .loc 1) with
    | some d => R.ok d
    | none => .st) = _
  rw [fu_loc hk hcv]

end Pd

set_option maxHeartbeats 4000000
namespace Pd
open PySem PySem.Spec PyProof.Rows L2
local macro_rules | `(tactic| walk_at "pd") => `(tactic| try simp -implicitDefEqProofs only [e_seq, e_thn, e_trt, e_trn, e_tex, e_if, e_pick, e_pickx, e_ret, e_retN, e_set, e_drop, e_for, e_ofR, e_ofRx, e_ofI, e_nil, e_asg, endS_rt, endS_rn, endS_nx, endS_ex, endN_rn, endN_ex, gC, g1, g2, g3, gA, aNil, aCons, gAnd, gOr, gNot, gB, gTru, bAnd, bOr, bNot, gIf, iA, iSeq, gSl, pNone, pSome, ok_bind, ex_bind, st_bind, gVar, List.getElem?_cons_zero, List.getElem?_cons_succ, List.set_cons_zero, List.set_cons_succ, if_true, if_false, Bool.not_true, Bool.not_false, Bool.false_eq_true, ↓reduceIte, e_asB, e_lt, e_gt, e_le, e_ge, e_ltS, e_gtS, e_eqI, e_eqS, e_eqB, e_neI, e_neS, e_neB, e_addI, e_iaddI, e_subI, e_negI, e_andI, e_orI, e_xorI, e_lenL, e_lenT, e_ord, e_intB, e_intI, e_inS, e_ninS, e_itL, e_itT, e_itS, e_zip, e_enum, e_slL, e_slT, e_asI, e_isN1, e_isN2, e_notN1, e_notN2, e_truB, e_truI, e_truL, e_isi_int_non, e_isi_int_bl, e_isi_int_int, e_isi_int_str, e_isi_int_list, e_isi_int_tup, e_isi_int_dict, e_isi_int_dictT, e_isi_bool_non, e_isi_bool_bl, e_isi_bool_int, e_isi_bool_str, e_isi_bool_list, e_isi_bool_tup, e_isi_bool_dict, e_isi_bool_dictT, e_isi_str_non, e_isi_str_bl, e_isi_str_int, e_isi_str_str, e_isi_str_list, e_isi_str_tup, e_isi_str_dict, e_isi_str_dictT, e_isi_list_non, e_isi_list_bl, e_isi_list_int, e_isi_list_str, e_isi_list_list, e_isi_list_tup, e_isi_list_dict, e_isi_list_dictT, e_isi_tuple_non, e_isi_tuple_bl, e_isi_tuple_int, e_isi_tuple_str, e_isi_tuple_list, e_isi_tuple_tup, e_isi_tuple_dict, e_isi_tuple_dictT, e_isi_dict_non, e_isi_dict_bl, e_isi_dict_int, e_isi_dict_str, e_isi_dict_list, e_isi_dict_tup, e_isi_dict_dict, e_isi_dict_dictT, e_iteAnd, e_iteOr, e_iteAndD, e_iteOrD, e_then_ite, e_endS_ite, e_endN_ite, e_ofR_ite, e_pick_ite, e_bind_ite, e_modI, e_fdivI, e_mul1, e_pow10, e_pow2, e_shl1, e_shrI, e_addS, e_iaddS, e_addL, e_addT, e_lenS, e_lst, e_strLit, String.reduceBEq, e_ixL0, e_ixL1, e_ixL2, e_ixL3, e_ixL4, e_ixL5, e_ixL6, e_ixL7, e_ixL8, e_ixT0, e_ixT1, e_ixT2, e_ixT3, e_ixT4, e_ixT5, e_tupleL, e_listT, e_tupleT, eqX_int, neX_int, eqX_S, neX_S, eqX_t0, neX_t0, e_catL, e_tup, e_inT, e_ninT, e_inL, e_ninL, e_slS, Int.reduceLT, Int.reduceLE, Int.reduceMul, Int.reduceAdd, Int.reduceSub, Int.reducePow, Int.reduceNeg, Int.reduceToNat, List.length_cons, List.length_nil, List.length_append, Nat.reduceAdd, Nat.reduceLeDiff, flD, List.all_cons, List.all_nil, Bool.and_true, Bool.true_and, Bool.and_self, decide_true, decide_false, or_true, true_or, and_true, true_and, eq_self])
local macro_rules | `(tactic| walk_at "pdh") => `(tactic| try simp -implicitDefEqProofs only [e_seq, e_thn, e_trt, e_trn, e_tex, e_if, e_pick, e_pickx, e_ret, e_retN, e_set, e_drop, e_for, e_ofR, e_ofRx, e_ofI, e_nil, e_asg, endS_rt, endS_rn, endS_nx, endS_ex, endN_rn, endN_ex, gC, g1, g2, g3, gA, aNil, aCons, gAnd, gOr, gNot, gB, gTru, bAnd, bOr, bNot, gIf, iA, iSeq, gSl, pNone, pSome, ok_bind, ex_bind, st_bind, gVar, List.getElem?_cons_zero, List.getElem?_cons_succ, List.set_cons_zero, List.set_cons_succ, if_true, if_false, Bool.not_true, Bool.not_false, Bool.false_eq_true, ↓reduceIte, e_asB, e_lt, e_gt, e_le, e_ge, e_ltS, e_gtS, e_eqI, e_eqS, e_eqB, e_neI, e_neS, e_neB, e_addI, e_iaddI, e_subI, e_negI, e_andI, e_orI, e_xorI, e_lenL, e_lenT, e_ord, e_intB, e_intI, e_inS, e_ninS, e_itL, e_itT, e_itS, e_zip, e_enum, e_slL, e_slT, e_asI, e_isN1, e_isN2, e_notN1, e_notN2, e_truB, e_truI, e_truL, e_isi_int_non, e_isi_int_bl, e_isi_int_int, e_isi_int_str, e_isi_int_list, e_isi_int_tup, e_isi_int_dict, e_isi_int_dictT, e_isi_bool_non, e_isi_bool_bl, e_isi_bool_int, e_isi_bool_str, e_isi_bool_list, e_isi_bool_tup, e_isi_bool_dict, e_isi_bool_dictT, e_isi_str_non, e_isi_str_bl, e_isi_str_int, e_isi_str_str, e_isi_str_list, e_isi_str_tup, e_isi_str_dict, e_isi_str_dictT, e_isi_list_non, e_isi_list_bl, e_isi_list_int, e_isi_list_str, e_isi_list_list, e_isi_list_tup, e_isi_list_dict, e_isi_list_dictT, e_isi_tuple_non, e_isi_tuple_bl, e_isi_tuple_int, e_isi_tuple_str, e_isi_tuple_list, e_isi_tuple_tup, e_isi_tuple_dict, e_isi_tuple_dictT, e_isi_dict_non, e_isi_dict_bl, e_isi_dict_int, e_isi_dict_str, e_isi_dict_list, e_isi_dict_tup, e_isi_dict_dict, e_isi_dict_dictT, e_iteAnd, e_iteOr, e_iteAndD, e_iteOrD, e_then_ite, e_endS_ite, e_endN_ite, e_ofR_ite, e_pick_ite, e_bind_ite, e_modI, e_fdivI, e_mul1, e_pow10, e_pow2, e_shl1, e_shrI, e_addS, e_iaddS, e_addL, e_addT, e_lenS, e_lst, e_strLit, String.reduceBEq, e_ixL0, e_ixL1, e_ixL2, e_ixL3, e_ixL4, e_ixL5, e_ixL6, e_ixL7, e_ixL8, e_ixT0, e_ixT1, e_ixT2, e_ixT3, e_ixT4, e_ixT5, e_tupleL, e_listT, e_tupleT, eqX_int, neX_int, eqX_S, neX_S, eqX_t0, neX_t0, e_catL, e_tup, e_inT, e_ninT, e_inL, e_ninL, e_slS, Int.reduceLT, Int.reduceLE, Int.reduceMul, Int.reduceAdd, Int.reduceSub, Int.reducePow, Int.reduceNeg, Int.reduceToNat, List.length_cons, List.length_nil, List.length_append, Nat.reduceAdd, Nat.reduceLeDiff, flD, List.all_cons, List.all_nil, Bool.and_true, Bool.true_and, Bool.and_self, decide_true, decide_false, or_true, true_or, and_true, true_and, eq_self, *])
local macro_rules | `(tactic| walk_at "pdu") => `(tactic| try simp -implicitDefEqProofs only [e_seq, e_forN, e_for0, e_nxn, e_nct, e_nbk, e_nrt, e_nrn, e_nex, e_next_ite, e_thn, e_trt, e_trn, e_tex, e_if, e_pick, e_pickx, e_ret, e_retN, e_set, e_drop, e_for, e_ofR, e_ofRx, e_ofI, e_nil, e_asg, endS_rt, endS_rn, endS_nx, endS_ex, endN_rn, endN_ex, gC, g1, g2, g3, gA, aNil, aCons, gAnd, gOr, gNot, gB, gTru, bAnd, bOr, bNot, gIf, iA, iSeq, gSl, pNone, pSome, ok_bind, ex_bind, st_bind, gVar, List.getElem?_cons_zero, List.getElem?_cons_succ, List.set_cons_zero, List.set_cons_succ, if_true, if_false, Bool.not_true, Bool.not_false, Bool.false_eq_true, ↓reduceIte, e_asB, e_lt, e_gt, e_le, e_ge, e_ltS, e_gtS, e_eqI, e_eqS, e_eqB, e_neI, e_neS, e_neB, e_addI, e_iaddI, e_subI, e_negI, e_andI, e_orI, e_xorI, e_lenL, e_lenT, e_ord, e_intB, e_intI, e_inS, e_ninS, e_itL, e_itT, e_itS, e_zip, e_enum, e_slL, e_slT, e_asI, e_isN1, e_isN2, e_notN1, e_notN2, e_truB, e_truI, e_truL, e_isi_int_non, e_isi_int_bl, e_isi_int_int, e_isi_int_str, e_isi_int_list, e_isi_int_tup, e_isi_int_dict, e_isi_int_dictT, e_isi_bool_non, e_isi_bool_bl, e_isi_bool_int, e_isi_bool_str, e_isi_bool_list, e_isi_bool_tup, e_isi_bool_dict, e_isi_bool_dictT, e_isi_str_non, e_isi_str_bl, e_isi_str_int, e_isi_str_str, e_isi_str_list, e_isi_str_tup, e_isi_str_dict, e_isi_str_dictT, e_isi_list_non, e_isi_list_bl, e_isi_list_int, e_isi_list_str, e_isi_list_list, e_isi_list_tup, e_isi_list_dict, e_isi_list_dictT, e_isi_tuple_non, e_isi_tuple_bl, e_isi_tuple_int, e_isi_tuple_str, e_isi_tuple_list, e_isi_tuple_tup, e_isi_tuple_dict, e_isi_tuple_dictT, e_isi_dict_non, e_isi_dict_bl, e_isi_dict_int, e_isi_dict_str, e_isi_dict_list, e_isi_dict_tup, e_isi_dict_dict, e_isi_dict_dictT, e_iteAnd, e_iteOr, e_iteAndD, e_iteOrD, e_then_ite, e_endS_ite, e_endN_ite, e_ofR_ite, e_pick_ite, e_bind_ite, e_modI, e_fdivI, e_mul1, e_pow10, e_pow2, e_shl1, e_shrI, e_addS, e_iaddS, e_addL, e_addT, e_lenS, e_lst, e_strLit, String.reduceBEq, e_ixL0, e_ixL1, e_ixL2, e_ixL3, e_ixL4, e_ixL5, e_ixL6, e_ixL7, e_ixL8, e_ixT0, e_ixT1, e_ixT2, e_ixT3, e_ixT4, e_ixT5, e_tupleL, e_listT, e_tupleT, eqX_int, neX_int, eqX_S, neX_S, eqX_t0, neX_t0, e_catL, e_tup, e_inT, e_ninT, e_inL, e_ninL, e_slS, Int.reduceLT, Int.reduceLE, Int.reduceMul, Int.reduceAdd, Int.reduceSub, Int.reducePow, Int.reduceNeg, Int.reduceToNat, List.length_cons, List.length_nil, List.length_append, Nat.reduceAdd, Nat.reduceLeDiff, flD, List.all_cons, List.all_nil, Bool.and_true, Bool.true_and, Bool.and_self, decide_true, decide_false, or_true, true_or, and_true, true_and, eq_self])
local macro_rules | `(tactic| walk_at "pdq") => `(tactic| try simp -implicitDefEqProofs only [e_seq, q_seq, q_tnx, q_tex, q_trt, q_then_ite, q_if, q_pick, q_pickx, q_pick_ite, q_nil, q_raise, cl_nil, cl_f, cl_t, cl_n, e_thn, e_trt, e_trn, e_tex, e_if, e_pick, e_pickx, e_ret, e_retN, e_set, e_drop, e_for, e_ofR, e_ofRx, e_ofI, e_nil, e_asg, endS_rt, endS_rn, endS_nx, endS_ex, endN_rn, endN_ex, gC, g1, g2, g3, gA, aNil, aCons, gAnd, gOr, gNot, gB, gTru, bAnd, bOr, bNot, gIf, iA, iSeq, gSl, pNone, pSome, ok_bind, ex_bind, st_bind, gVar, List.getElem?_cons_zero, List.getElem?_cons_succ, List.set_cons_zero, List.set_cons_succ, if_true, if_false, Bool.not_true, Bool.not_false, Bool.false_eq_true, ↓reduceIte, e_asB, e_lt, e_gt, e_le, e_ge, e_ltS, e_gtS, e_eqI, e_eqS, e_eqB, e_neI, e_neS, e_neB, e_addI, e_iaddI, e_subI, e_negI, e_andI, e_orI, e_xorI, e_lenL, e_lenT, e_ord, e_intB, e_intI, e_inS, e_ninS, e_itL, e_itT, e_itS, e_zip, e_enum, e_slL, e_slT, e_asI, e_isN1, e_isN2, e_notN1, e_notN2, e_truB, e_truI, e_truL, e_isi_int_non, e_isi_int_bl, e_isi_int_int, e_isi_int_str, e_isi_int_list, e_isi_int_tup, e_isi_int_dict, e_isi_int_dictT, e_isi_bool_non, e_isi_bool_bl, e_isi_bool_int, e_isi_bool_str, e_isi_bool_list, e_isi_bool_tup, e_isi_bool_dict, e_isi_bool_dictT, e_isi_str_non, e_isi_str_bl, e_isi_str_int, e_isi_str_str, e_isi_str_list, e_isi_str_tup, e_isi_str_dict, e_isi_str_dictT, e_isi_list_non, e_isi_list_bl, e_isi_list_int, e_isi_list_str, e_isi_list_list, e_isi_list_tup, e_isi_list_dict, e_isi_list_dictT, e_isi_tuple_non, e_isi_tuple_bl, e_isi_tuple_int, e_isi_tuple_str, e_isi_tuple_list, e_isi_tuple_tup, e_isi_tuple_dict, e_isi_tuple_dictT, e_isi_dict_non, e_isi_dict_bl, e_isi_dict_int, e_isi_dict_str, e_isi_dict_list, e_isi_dict_tup, e_isi_dict_dict, e_isi_dict_dictT, e_iteAnd, e_iteOr, e_iteAndD, e_iteOrD, e_then_ite, e_endS_ite, e_endN_ite, e_ofR_ite, e_pick_ite, e_bind_ite, e_modI, e_fdivI, e_mul1, e_pow10, e_pow2, e_shl1, e_shrI, e_addS, e_iaddS, e_addL, e_addT, e_lenS, e_lst, e_strLit, String.reduceBEq, e_ixL0, e_ixL1, e_ixL2, e_ixL3, e_ixL4, e_ixL5, e_ixL6, e_ixL7, e_ixL8, e_ixT0, e_ixT1, e_ixT2, e_ixT3, e_ixT4, e_ixT5, e_tupleL, e_listT, e_tupleT, eqX_int, neX_int, eqX_S, neX_S, eqX_t0, neX_t0, e_catL, e_tup, e_inT, e_ninT, e_inL, e_ninL, e_slS, Int.reduceLT, Int.reduceLE, Int.reduceMul, Int.reduceAdd, Int.reduceSub, Int.reducePow, Int.reduceNeg, Int.reduceToNat, List.length_cons, List.length_nil, List.length_append, Nat.reduceAdd, Nat.reduceLeDiff, flD, List.all_cons, List.all_nil, Bool.and_true, Bool.true_and, Bool.and_self, decide_true, decide_false, or_true, true_or, and_true, true_and, eq_self])
local macro_rules | `(tactic| walk_at "pdr") => `(tactic| try simp -implicitDefEqProofs only [e_seq, q_seq, q_tnx, q_tex, q_trt, q_then_ite, q_nil, q_raise, cl_nil, cl_f, cl_t, cl_n, s_ok, s_ex, e_sqRet, e_sqSet, e_sqExpr, e_sqAsg, asg_some, e_tqName, e_tqTup2, e_qP, e_upok, e_upex, e_qVar, e_varok, e_qNew, e_newok, rq_ok, rq_ex, e_aqN, e_aqC, e_qPA, e_qCall, e_qTup, e_tupP2, e_qSn, e_qSnT, e_tok, e_qT, e_up_ite, pk_ite, s_ite, tst_ite, e_end_ite, q_ifS, pk_ok, e_q2, op2_ii, op2_ss, op2_si, e_qLst, lstP1, e_iqR,  sn_nil, sn_s, sn_n, fu_f, e_qIx, e_endrt, e_endnx, List.map_cons, List.map_nil, Bool.or_false, Bool.or_true, Bool.true_or, Bool.false_or, e_thn, e_trt, e_trn, e_tex, e_if, e_pick, e_pickx, e_ret, e_retN, e_set, e_drop, e_for, e_ofR, e_ofRx, e_ofI, e_nil, e_asg, endS_rt, endS_rn, endS_nx, endS_ex, endN_rn, endN_ex, gC, g1, g2, g3, gA, aNil, aCons, gAnd, gOr, gNot, gB, gTru, bAnd, bOr, bNot, gIf, iA, iSeq, gSl, pNone, pSome, ok_bind, ex_bind, st_bind, gVar, List.getElem?_cons_zero, List.getElem?_cons_succ, List.set_cons_zero, List.set_cons_succ, if_true, if_false, Bool.not_true, Bool.not_false, Bool.false_eq_true, ↓reduceIte, e_asB, e_lt, e_gt, e_le, e_ge, e_ltS, e_gtS, e_eqI, e_eqS, e_eqB, e_neI, e_neS, e_neB, e_addI, e_iaddI, e_subI, e_negI, e_andI, e_orI, e_xorI, e_lenL, e_lenT, e_ord, e_intB, e_intI, e_inS, e_ninS, e_itL, e_itT, e_itS, e_zip, e_enum, e_slL, e_slT, e_asI, e_isN1, e_isN2, e_notN1, e_notN2, e_truB, e_truI, e_truL, e_isi_int_non, e_isi_int_bl, e_isi_int_int, e_isi_int_str, e_isi_int_list, e_isi_int_tup, e_isi_int_dict, e_isi_int_dictT, e_isi_bool_non, e_isi_bool_bl, e_isi_bool_int, e_isi_bool_str, e_isi_bool_list, e_isi_bool_tup, e_isi_bool_dict, e_isi_bool_dictT, e_isi_str_non, e_isi_str_bl, e_isi_str_int, e_isi_str_str, e_isi_str_list, e_isi_str_tup, e_isi_str_dict, e_isi_str_dictT, e_isi_list_non, e_isi_list_bl, e_isi_list_int, e_isi_list_str, e_isi_list_list, e_isi_list_tup, e_isi_list_dict, e_isi_list_dictT, e_isi_tuple_non, e_isi_tuple_bl, e_isi_tuple_int, e_isi_tuple_str, e_isi_tuple_list, e_isi_tuple_tup, e_isi_tuple_dict, e_isi_tuple_dictT, e_isi_dict_non, e_isi_dict_bl, e_isi_dict_int, e_isi_dict_str, e_isi_dict_list, e_isi_dict_tup, e_isi_dict_dict, e_isi_dict_dictT, e_iteAnd, e_iteOr, e_iteAndD, e_iteOrD, e_then_ite, e_endS_ite, e_endN_ite, e_ofR_ite, e_pick_ite, e_bind_ite, e_modI, e_fdivI, e_mul1, e_pow10, e_pow2, e_shl1, e_shrI, e_addS, e_iaddS, e_addL, e_addT, e_lenS, e_lst, e_strLit, String.reduceBEq, e_ixL0, e_ixL1, e_ixL2, e_ixL3, e_ixL4, e_ixL5, e_ixL6, e_ixL7, e_ixL8, e_ixT0, e_ixT1, e_ixT2, e_ixT3, e_ixT4, e_ixT5, e_tupleL, e_listT, e_tupleT, eqX_int, neX_int, eqX_S, neX_S, eqX_t0, neX_t0, e_catL, e_tup, e_inT, e_ninT, e_inL, e_ninL, e_slS, Int.reduceLT, Int.reduceLE, Int.reduceMul, Int.reduceAdd, Int.reduceSub, Int.reducePow, Int.reduceNeg, Int.reduceToNat, List.length_cons, List.length_nil, List.length_append, Nat.reduceAdd, Nat.reduceLeDiff, flD, List.all_cons, List.all_nil, Bool.and_true, Bool.true_and, Bool.and_self, decide_true, decide_false, or_true, true_or, and_true, true_and, eq_self])
local macro_rules | `(tactic| walk_at "pdv") => `(tactic| try simp -implicitDefEqProofs only [e_seq, Int.reduceBEq, Int.cast_ofNat_Int, e_thn, e_trt, e_trn, e_tex, e_if, e_pick, e_pickx, e_ret, e_retN, e_set, e_drop, e_for, e_ofR, e_ofRx, e_ofI, e_nil, e_asg, endS_rt, endS_rn, endS_nx, endS_ex, endN_rn, endN_ex, gC, g1, g2, g3, gA, aNil, aCons, gAnd, gOr, gNot, gB, gTru, bAnd, bOr, bNot, gIf, iA, iSeq, gSl, pNone, pSome, ok_bind, ex_bind, st_bind, gVar, List.getElem?_cons_zero, List.getElem?_cons_succ, List.set_cons_zero, List.set_cons_succ, if_true, if_false, Bool.not_true, Bool.not_false, Bool.false_eq_true, ↓reduceIte, e_asB, e_lt, e_gt, e_le, e_ge, e_ltS, e_gtS, e_eqI, e_eqS, e_eqB, e_neI, e_neS, e_neB, e_addI, e_iaddI, e_subI, e_negI, e_andI, e_orI, e_xorI, e_lenL, e_lenT, e_ord, e_intB, e_intI, e_inS, e_ninS, e_itL, e_itT, e_itS, e_zip, e_enum, e_slL, e_slT, e_asI, e_isN1, e_isN2, e_notN1, e_notN2, e_truB, e_truI, e_truL, e_isi_int_non, e_isi_int_bl, e_isi_int_int, e_isi_int_str, e_isi_int_list, e_isi_int_tup, e_isi_int_dict, e_isi_int_dictT, e_isi_bool_non, e_isi_bool_bl, e_isi_bool_int, e_isi_bool_str, e_isi_bool_list, e_isi_bool_tup, e_isi_bool_dict, e_isi_bool_dictT, e_isi_str_non, e_isi_str_bl, e_isi_str_int, e_isi_str_str, e_isi_str_list, e_isi_str_tup, e_isi_str_dict, e_isi_str_dictT, e_isi_list_non, e_isi_list_bl, e_isi_list_int, e_isi_list_str, e_isi_list_list, e_isi_list_tup, e_isi_list_dict, e_isi_list_dictT, e_isi_tuple_non, e_isi_tuple_bl, e_isi_tuple_int, e_isi_tuple_str, e_isi_tuple_list, e_isi_tuple_tup, e_isi_tuple_dict, e_isi_tuple_dictT, e_isi_dict_non, e_isi_dict_bl, e_isi_dict_int, e_isi_dict_str, e_isi_dict_list, e_isi_dict_tup, e_isi_dict_dict, e_isi_dict_dictT, e_iteAnd, e_iteOr, e_iteAndD, e_iteOrD, e_then_ite, e_endS_ite, e_endN_ite, e_ofR_ite, e_pick_ite, e_bind_ite, e_modI, e_fdivI, e_mul1, e_pow10, e_pow2, e_shl1, e_shrI, e_addS, e_iaddS, e_addL, e_addT, e_lenS, e_lst, e_strLit, String.reduceBEq, e_ixL0, e_ixL1, e_ixL2, e_ixL3, e_ixL4, e_ixL5, e_ixL6, e_ixL7, e_ixL8, e_ixT0, e_ixT1, e_ixT2, e_ixT3, e_ixT4, e_ixT5, e_tupleL, e_listT, e_tupleT, eqX_int, neX_int, eqX_S, neX_S, eqX_t0, neX_t0, e_catL, e_tup, e_inT, e_ninT, e_inL, e_ninL, e_slS, Int.reduceLT, Int.reduceLE, Int.reduceMul, Int.reduceAdd, Int.reduceSub, Int.reducePow, Int.reduceNeg, Int.reduceToNat, List.length_cons, List.length_nil, List.length_append, Nat.reduceAdd, Nat.reduceLeDiff, flD, List.all_cons, List.all_nil, Bool.and_true, Bool.true_and, Bool.and_self, decide_true, decide_false, or_true, true_or, and_true, true_and, eq_self])
/-! ### contents -/
def ContOk (t : Bool) (d : D) : Prop := match t with
  | true => TableOk d
  | false => ∃ s, d = .str s ∧ TextOk s
inductive KO : Str → Bool → D → Prop
  | chapter : KO "chapter" false (.obj "Chapter" [])
  | para : KO "para" false (.obj "Para" [])
  | table : KO "table" true (.obj "Table" [])
theorem kow_at {k : Str} {t : Bool} {K : D} (h : KO k t K) : F_kind_of_word [.str k] = .ok K := by
  cases h <;> rfl
theorem cutD_two {α : Type} (xs : List α) (a w : Nat) (h : a + w ≤ xs.length) : (cutD xs (some (a : Int)) (some ((a : Int) + (w : Int)))).length = w := by
  unfold cutD
  rw [show (a : Int) + (w : Int) = ((a + w : Nat) : Int) from rfl, HT.sIx_nat, HT.sIx_nat, Nat.min_eq_left h, Nat.min_eq_left (by omega), List.length_take, List.length_drop]
  omega
theorem mem_cut {ds : List D} {lo hi : Option Int} {d : D} (h : d ∈ cutD ds lo hi) : d ∈ ds := List.mem_of_mem_drop (List.mem_of_mem_take h)
theorem content_at {k : Str} {t : Bool} {K : D} (h : KO k t K) (c : Int) : ∃ d, F__law_content [.str k, .int c] = .ok d ∧ ContOk t d := by
  show ∃ d, endS (S__law_content [some (.str k), some (.int c), none, none, none, none]) = .ok d ∧ _
  unfold S__law_content
  obtain ⟨s, es, hs⟩ := text_at (c / 2)
  obtain ⟨d, et, ht⟩ := table_at (c / 2)
  have tx : (c % 2 == 1) = true → ∃ z, ((FQ__law_digits.down [.int (c / 2), .int 1]).bind fun d => ixD d (.int 0)) = .ok (.str z) ∧ TextOk z := fun _ => by
    obtain ⟨ts, e, l, ok⟩ := digits_at (c / 2) 1 (by decide)
    rw [show FQ__law_digits.down [.int (c / 2), .int 1] = .ok (.list ts) from e]
    match ts, l, ok with
    | [x], _, ok =>
      obtain ⟨z, rfl, hz⟩ := ok x List.mem_cons_self
      rw [ok_bind]
      exact ⟨z, (e_ixL0 _ _), hz⟩
  walk_at "pd"
  by_cases q : (c % 2 == 1) = true
  · rw [q]
    obtain ⟨z, ez, hz⟩ := tx q
    walk_at "pd"
    cases h with
    | chapter => walk_at "pd"; rw [ez]; exact ⟨_, rfl, z, rfl, hz⟩
    | para => walk_at "pd"; rw [ez]; exact ⟨_, rfl, z, rfl, hz⟩
    | table =>
      walk_at "pd"
      obtain ⟨m, hm, m0, m1⟩ : ∃ m : Nat, 1 + c / 2 % 6 = (m : Int) ∧ 1 ≤ m ∧ m ≤ 6 := ⟨(1 + c / 2 % 6).toNat, by omega, by omega, by omega⟩
      obtain ⟨w, hw, w0, w1⟩ : ∃ w : Nat, 1 + c / 12 % 6 = (w : Int) ∧ 1 ≤ w ∧ w ≤ 6 := ⟨(1 + c / 12 % 6).toNat, by omega, by omega, by omega⟩
      have mw : m * w ≤ 6 * 6 := Nat.mul_le_mul m1 w1
      obtain ⟨ts, e, l, ok⟩ := digits_at (c / 72) (m * w) (by omega)
      rw [hm, hw, e_mul1 (m : Int) (w : Int) (.inl ⟨by omega, by omega⟩)]
      walk_at "pd"
      rw [show FQ__law_digits.down [.int (c / 72), .int ((m : Int) * (w : Int))] = .ok (.list ts) from e]
      walk_at "pd"
      generalize hG : gLc _ _ _ _ _ _ = G
      obtain ⟨ys, rfl, ly, hy⟩ := gLc_out hG (RowOk w) (items := rngL 0 m) (by
        walk_at "pd"
        rw [e_rng1 (m : Int) (small_ok (by omega) (by omega)), Int.toNat_natCast]) (by rw [rng_len]; omega) (by
        intro d hd
        obtain ⟨i, hi, rfl⟩ := mem_rng hd
        rw [Int.zero_add]
        show ∃ y, gA tupleD _ [some (.str "table"), some (.int c), some (.int (m : Int)), some (.int (w : Int)), some (.list ts), some (.int (i : Int))] = .ok y ∧ _
        have iw : i * w + w ≤ m * w := by
          have : (i + 1) * w ≤ m * w := Nat.mul_le_mul_right w hi
          rw [Nat.add_mul, Nat.one_mul] at this
          exact this
        walk_at "pd"
        rw [e_mul1 (i : Int) (w : Int) (.inl ⟨by omega, by omega⟩)]
        walk_at "pd"
        refine ⟨_, rfl, _, rfl, ?_, fun d hd => ok d (mem_cut hd)⟩
        exact cutD_two ts (i * w) w (by omega))
      rw [rng_len] at ly
      walk_at "pd"
      exact ⟨_, rfl, ys, w, rfl, by omega, by omega, w0, w1, hy⟩
  · rw [show (c % 2 == 1) = false by simpa using q]
    walk_at "pd"
    rw [es, et]
    cases h with
    | chapter => walk_at "pd"; exact ⟨_, rfl, s, rfl, hs⟩
    | para => walk_at "pd"; exact ⟨_, rfl, s, rfl, hs⟩
    | table => walk_at "pd"; exact ⟨_, rfl, ht⟩

end Pd

set_option maxHeartbeats 4000000
namespace Pd
open PySem PySem.Spec PyProof.Rows L2
local macro_rules | `(tactic| walk_at "pd") => `(tactic| try simp -implicitDefEqProofs only [e_seq, e_thn, e_trt, e_trn, e_tex, e_if, e_pick, e_pickx, e_ret, e_retN, e_set, e_drop, e_for, e_ofR, e_ofRx, e_ofI, e_nil, e_asg, endS_rt, endS_rn, endS_nx, endS_ex, endN_rn, endN_ex, gC, g1, g2, g3, gA, aNil, aCons, gAnd, gOr, gNot, gB, gTru, bAnd, bOr, bNot, gIf, iA, iSeq, gSl, pNone, pSome, ok_bind, ex_bind, st_bind, gVar, List.getElem?_cons_zero, List.getElem?_cons_succ, List.set_cons_zero, List.set_cons_succ, if_true, if_false, Bool.not_true, Bool.not_false, Bool.false_eq_true, ↓reduceIte, e_asB, e_lt, e_gt, e_le, e_ge, e_ltS, e_gtS, e_eqI, e_eqS, e_eqB, e_neI, e_neS, e_neB, e_addI, e_iaddI, e_subI, e_negI, e_andI, e_orI, e_xorI, e_lenL, e_lenT, e_ord, e_intB, e_intI, e_inS, e_ninS, e_itL, e_itT, e_itS, e_zip, e_enum, e_slL, e_slT, e_asI, e_isN1, e_isN2, e_notN1, e_notN2, e_truB, e_truI, e_truL, e_isi_int_non, e_isi_int_bl, e_isi_int_int, e_isi_int_str, e_isi_int_list, e_isi_int_tup, e_isi_int_dict, e_isi_int_dictT, e_isi_bool_non, e_isi_bool_bl, e_isi_bool_int, e_isi_bool_str, e_isi_bool_list, e_isi_bool_tup, e_isi_bool_dict, e_isi_bool_dictT, e_isi_str_non, e_isi_str_bl, e_isi_str_int, e_isi_str_str, e_isi_str_list, e_isi_str_tup, e_isi_str_dict, e_isi_str_dictT, e_isi_list_non, e_isi_list_bl, e_isi_list_int, e_isi_list_str, e_isi_list_list, e_isi_list_tup, e_isi_list_dict, e_isi_list_dictT, e_isi_tuple_non, e_isi_tuple_bl, e_isi_tuple_int, e_isi_tuple_str, e_isi_tuple_list, e_isi_tuple_tup, e_isi_tuple_dict, e_isi_tuple_dictT, e_isi_dict_non, e_isi_dict_bl, e_isi_dict_int, e_isi_dict_str, e_isi_dict_list, e_isi_dict_tup, e_isi_dict_dict, e_isi_dict_dictT, e_iteAnd, e_iteOr, e_iteAndD, e_iteOrD, e_then_ite, e_endS_ite, e_endN_ite, e_ofR_ite, e_pick_ite, e_bind_ite, e_modI, e_fdivI, e_mul1, e_pow10, e_pow2, e_shl1, e_shrI, e_addS, e_iaddS, e_addL, e_addT, e_lenS, e_lst, e_strLit, String.reduceBEq, e_ixL0, e_ixL1, e_ixL2, e_ixL3, e_ixL4, e_ixL5, e_ixL6, e_ixL7, e_ixL8, e_ixT0, e_ixT1, e_ixT2, e_ixT3, e_ixT4, e_ixT5, e_tupleL, e_listT, e_tupleT, eqX_int, neX_int, eqX_S, neX_S, eqX_t0, neX_t0, e_catL, e_tup, e_inT, e_ninT, e_inL, e_ninL, e_slS, Int.reduceLT, Int.reduceLE, Int.reduceMul, Int.reduceAdd, Int.reduceSub, Int.reducePow, Int.reduceNeg, Int.reduceToNat, List.length_cons, List.length_nil, List.length_append, Nat.reduceAdd, Nat.reduceLeDiff, flD, List.all_cons, List.all_nil, Bool.and_true, Bool.true_and, Bool.and_self, decide_true, decide_false, or_true, true_or, and_true, true_and, eq_self])
local macro_rules | `(tactic| walk_at "pdh") => `(tactic| try simp -implicitDefEqProofs only [e_seq, e_thn, e_trt, e_trn, e_tex, e_if, e_pick, e_pickx, e_ret, e_retN, e_set, e_drop, e_for, e_ofR, e_ofRx, e_ofI, e_nil, e_asg, endS_rt, endS_rn, endS_nx, endS_ex, endN_rn, endN_ex, gC, g1, g2, g3, gA, aNil, aCons, gAnd, gOr, gNot, gB, gTru, bAnd, bOr, bNot, gIf, iA, iSeq, gSl, pNone, pSome, ok_bind, ex_bind, st_bind, gVar, List.getElem?_cons_zero, List.getElem?_cons_succ, List.set_cons_zero, List.set_cons_succ, if_true, if_false, Bool.not_true, Bool.not_false, Bool.false_eq_true, ↓reduceIte, e_asB, e_lt, e_gt, e_le, e_ge, e_ltS, e_gtS, e_eqI, e_eqS, e_eqB, e_neI, e_neS, e_neB, e_addI, e_iaddI, e_subI, e_negI, e_andI, e_orI, e_xorI, e_lenL, e_lenT, e_ord, e_intB, e_intI, e_inS, e_ninS, e_itL, e_itT, e_itS, e_zip, e_enum, e_slL, e_slT, e_asI, e_isN1, e_isN2, e_notN1, e_notN2, e_truB, e_truI, e_truL, e_isi_int_non, e_isi_int_bl, e_isi_int_int, e_isi_int_str, e_isi_int_list, e_isi_int_tup, e_isi_int_dict, e_isi_int_dictT, e_isi_bool_non, e_isi_bool_bl, e_isi_bool_int, e_isi_bool_str, e_isi_bool_list, e_isi_bool_tup, e_isi_bool_dict, e_isi_bool_dictT, e_isi_str_non, e_isi_str_bl, e_isi_str_int, e_isi_str_str, e_isi_str_list, e_isi_str_tup, e_isi_str_dict, e_isi_str_dictT, e_isi_list_non, e_isi_list_bl, e_isi_list_int, e_isi_list_str, e_isi_list_list, e_isi_list_tup, e_isi_list_dict, e_isi_list_dictT, e_isi_tuple_non, e_isi_tuple_bl, e_isi_tuple_int, e_isi_tuple_str, e_isi_tuple_list, e_isi_tuple_tup, e_isi_tuple_dict, e_isi_tuple_dictT, e_isi_dict_non, e_isi_dict_bl, e_isi_dict_int, e_isi_dict_str, e_isi_dict_list, e_isi_dict_tup, e_isi_dict_dict, e_isi_dict_dictT, e_iteAnd, e_iteOr, e_iteAndD, e_iteOrD, e_then_ite, e_endS_ite, e_endN_ite, e_ofR_ite, e_pick_ite, e_bind_ite, e_modI, e_fdivI, e_mul1, e_pow10, e_pow2, e_shl1, e_shrI, e_addS, e_iaddS, e_addL, e_addT, e_lenS, e_lst, e_strLit, String.reduceBEq, e_ixL0, e_ixL1, e_ixL2, e_ixL3, e_ixL4, e_ixL5, e_ixL6, e_ixL7, e_ixL8, e_ixT0, e_ixT1, e_ixT2, e_ixT3, e_ixT4, e_ixT5, e_tupleL, e_listT, e_tupleT, eqX_int, neX_int, eqX_S, neX_S, eqX_t0, neX_t0, e_catL, e_tup, e_inT, e_ninT, e_inL, e_ninL, e_slS, Int.reduceLT, Int.reduceLE, Int.reduceMul, Int.reduceAdd, Int.reduceSub, Int.reducePow, Int.reduceNeg, Int.reduceToNat, List.length_cons, List.length_nil, List.length_append, Nat.reduceAdd, Nat.reduceLeDiff, flD, List.all_cons, List.all_nil, Bool.and_true, Bool.true_and, Bool.and_self, decide_true, decide_false, or_true, true_or, and_true, true_and, eq_self, *])
local macro_rules | `(tactic| walk_at "pdu") => `(tactic| try simp -implicitDefEqProofs only [e_seq, e_forN, e_for0, e_nxn, e_nct, e_nbk, e_nrt, e_nrn, e_nex, e_next_ite, e_thn, e_trt, e_trn, e_tex, e_if, e_pick, e_pickx, e_ret, e_retN, e_set, e_drop, e_for, e_ofR, e_ofRx, e_ofI, e_nil, e_asg, endS_rt, endS_rn, endS_nx, endS_ex, endN_rn, endN_ex, gC, g1, g2, g3, gA, aNil, aCons, gAnd, gOr, gNot, gB, gTru, bAnd, bOr, bNot, gIf, iA, iSeq, gSl, pNone, pSome, ok_bind, ex_bind, st_bind, gVar, List.getElem?_cons_zero, List.getElem?_cons_succ, List.set_cons_zero, List.set_cons_succ, if_true, if_false, Bool.not_true, Bool.not_false, Bool.false_eq_true, ↓reduceIte, e_asB, e_lt, e_gt, e_le, e_ge, e_ltS, e_gtS, e_eqI, e_eqS, e_eqB, e_neI, e_neS, e_neB, e_addI, e_iaddI, e_subI, e_negI, e_andI, e_orI, e_xorI, e_lenL, e_lenT, e_ord, e_intB, e_intI, e_inS, e_ninS, e_itL, e_itT, e_itS, e_zip, e_enum, e_slL, e_slT, e_asI, e_isN1, e_isN2, e_notN1, e_notN2, e_truB, e_truI, e_truL, e_isi_int_non, e_isi_int_bl, e_isi_int_int, e_isi_int_str, e_isi_int_list, e_isi_int_tup, e_isi_int_dict, e_isi_int_dictT, e_isi_bool_non, e_isi_bool_bl, e_isi_bool_int, e_isi_bool_str, e_isi_bool_list, e_isi_bool_tup, e_isi_bool_dict, e_isi_bool_dictT, e_isi_str_non, e_isi_str_bl, e_isi_str_int, e_isi_str_str, e_isi_str_list, e_isi_str_tup, e_isi_str_dict, e_isi_str_dictT, e_isi_list_non, e_isi_list_bl, e_isi_list_int, e_isi_list_str, e_isi_list_list, e_isi_list_tup, e_isi_list_dict, e_isi_list_dictT, e_isi_tuple_non, e_isi_tuple_bl, e_isi_tuple_int, e_isi_tuple_str, e_isi_tuple_list, e_isi_tuple_tup, e_isi_tuple_dict, e_isi_tuple_dictT, e_isi_dict_non, e_isi_dict_bl, e_isi_dict_int, e_isi_dict_str, e_isi_dict_list, e_isi_dict_tup, e_isi_dict_dict, e_isi_dict_dictT, e_iteAnd, e_iteOr, e_iteAndD, e_iteOrD, e_then_ite, e_endS_ite, e_endN_ite, e_ofR_ite, e_pick_ite, e_bind_ite, e_modI, e_fdivI, e_mul1, e_pow10, e_pow2, e_shl1, e_shrI, e_addS, e_iaddS, e_addL, e_addT, e_lenS, e_lst, e_strLit, String.reduceBEq, e_ixL0, e_ixL1, e_ixL2, e_ixL3, e_ixL4, e_ixL5, e_ixL6, e_ixL7, e_ixL8, e_ixT0, e_ixT1, e_ixT2, e_ixT3, e_ixT4, e_ixT5, e_tupleL, e_listT, e_tupleT, eqX_int, neX_int, eqX_S, neX_S, eqX_t0, neX_t0, e_catL, e_tup, e_inT, e_ninT, e_inL, e_ninL, e_slS, Int.reduceLT, Int.reduceLE, Int.reduceMul, Int.reduceAdd, Int.reduceSub, Int.reducePow, Int.reduceNeg, Int.reduceToNat, List.length_cons, List.length_nil, List.length_append, Nat.reduceAdd, Nat.reduceLeDiff, flD, List.all_cons, List.all_nil, Bool.and_true, Bool.true_and, Bool.and_self, decide_true, decide_false, or_true, true_or, and_true, true_and, eq_self])
local macro_rules | `(tactic| walk_at "pdq") => `(tactic| try simp -implicitDefEqProofs only [e_seq, q_seq, q_tnx, q_tex, q_trt, q_then_ite, q_if, q_pick, q_pickx, q_pick_ite, q_nil, q_raise, cl_nil, cl_f, cl_t, cl_n, e_thn, e_trt, e_trn, e_tex, e_if, e_pick, e_pickx, e_ret, e_retN, e_set, e_drop, e_for, e_ofR, e_ofRx, e_ofI, e_nil, e_asg, endS_rt, endS_rn, endS_nx, endS_ex, endN_rn, endN_ex, gC, g1, g2, g3, gA, aNil, aCons, gAnd, gOr, gNot, gB, gTru, bAnd, bOr, bNot, gIf, iA, iSeq, gSl, pNone, pSome, ok_bind, ex_bind, st_bind, gVar, List.getElem?_cons_zero, List.getElem?_cons_succ, List.set_cons_zero, List.set_cons_succ, if_true, if_false, Bool.not_true, Bool.not_false, Bool.false_eq_true, ↓reduceIte, e_asB, e_lt, e_gt, e_le, e_ge, e_ltS, e_gtS, e_eqI, e_eqS, e_eqB, e_neI, e_neS, e_neB, e_addI, e_iaddI, e_subI, e_negI, e_andI, e_orI, e_xorI, e_lenL, e_lenT, e_ord, e_intB, e_intI, e_inS, e_ninS, e_itL, e_itT, e_itS, e_zip, e_enum, e_slL, e_slT, e_asI, e_isN1, e_isN2, e_notN1, e_notN2, e_truB, e_truI, e_truL, e_isi_int_non, e_isi_int_bl, e_isi_int_int, e_isi_int_str, e_isi_int_list, e_isi_int_tup, e_isi_int_dict, e_isi_int_dictT, e_isi_bool_non, e_isi_bool_bl, e_isi_bool_int, e_isi_bool_str, e_isi_bool_list, e_isi_bool_tup, e_isi_bool_dict, e_isi_bool_dictT, e_isi_str_non, e_isi_str_bl, e_isi_str_int, e_isi_str_str, e_isi_str_list, e_isi_str_tup, e_isi_str_dict, e_isi_str_dictT, e_isi_list_non, e_isi_list_bl, e_isi_list_int, e_isi_list_str, e_isi_list_list, e_isi_list_tup, e_isi_list_dict, e_isi_list_dictT, e_isi_tuple_non, e_isi_tuple_bl, e_isi_tuple_int, e_isi_tuple_str, e_isi_tuple_list, e_isi_tuple_tup, e_isi_tuple_dict, e_isi_tuple_dictT, e_isi_dict_non, e_isi_dict_bl, e_isi_dict_int, e_isi_dict_str, e_isi_dict_list, e_isi_dict_tup, e_isi_dict_dict, e_isi_dict_dictT, e_iteAnd, e_iteOr, e_iteAndD, e_iteOrD, e_then_ite, e_endS_ite, e_endN_ite, e_ofR_ite, e_pick_ite, e_bind_ite, e_modI, e_fdivI, e_mul1, e_pow10, e_pow2, e_shl1, e_shrI, e_addS, e_iaddS, e_addL, e_addT, e_lenS, e_lst, e_strLit, String.reduceBEq, e_ixL0, e_ixL1, e_ixL2, e_ixL3, e_ixL4, e_ixL5, e_ixL6, e_ixL7, e_ixL8, e_ixT0, e_ixT1, e_ixT2, e_ixT3, e_ixT4, e_ixT5, e_tupleL, e_listT, e_tupleT, eqX_int, neX_int, eqX_S, neX_S, eqX_t0, neX_t0, e_catL, e_tup, e_inT, e_ninT, e_inL, e_ninL, e_slS, Int.reduceLT, Int.reduceLE, Int.reduceMul, Int.reduceAdd, Int.reduceSub, Int.reducePow, Int.reduceNeg, Int.reduceToNat, List.length_cons, List.length_nil, List.length_append, Nat.reduceAdd, Nat.reduceLeDiff, flD, List.all_cons, List.all_nil, Bool.and_true, Bool.true_and, Bool.and_self, decide_true, decide_false, or_true, true_or, and_true, true_and, eq_self])
local macro_rules | `(tactic| walk_at "pdr") => `(tactic| try simp -implicitDefEqProofs only [e_seq, q_seq, q_tnx, q_tex, q_trt, q_then_ite, q_nil, q_raise, cl_nil, cl_f, cl_t, cl_n, s_ok, s_ex, e_sqRet, e_sqSet, e_sqExpr, e_sqAsg, asg_some, e_tqName, e_tqTup2, e_qP, e_upok, e_upex, e_qVar, e_varok, e_qNew, e_newok, rq_ok, rq_ex, e_aqN, e_aqC, e_qPA, e_qCall, e_qTup, e_tupP2, e_qSn, e_qSnT, e_tok, e_qT, e_up_ite, pk_ite, s_ite, tst_ite, e_end_ite, q_ifS, pk_ok, e_q2, op2_ii, op2_ss, op2_si, e_qLst, lstP1, e_iqR,  sn_nil, sn_s, sn_n, fu_f, e_qIx, e_endrt, e_endnx, List.map_cons, List.map_nil, Bool.or_false, Bool.or_true, Bool.true_or, Bool.false_or, e_thn, e_trt, e_trn, e_tex, e_if, e_pick, e_pickx, e_ret, e_retN, e_set, e_drop, e_for, e_ofR, e_ofRx, e_ofI, e_nil, e_asg, endS_rt, endS_rn, endS_nx, endS_ex, endN_rn, endN_ex, gC, g1, g2, g3, gA, aNil, aCons, gAnd, gOr, gNot, gB, gTru, bAnd, bOr, bNot, gIf, iA, iSeq, gSl, pNone, pSome, ok_bind, ex_bind, st_bind, gVar, List.getElem?_cons_zero, List.getElem?_cons_succ, List.set_cons_zero, List.set_cons_succ, if_true, if_false, Bool.not_true, Bool.not_false, Bool.false_eq_true, ↓reduceIte, e_asB, e_lt, e_gt, e_le, e_ge, e_ltS, e_gtS, e_eqI, e_eqS, e_eqB, e_neI, e_neS, e_neB, e_addI, e_iaddI, e_subI, e_negI, e_andI, e_orI, e_xorI, e_lenL, e_lenT, e_ord, e_intB, e_intI, e_inS, e_ninS, e_itL, e_itT, e_itS, e_zip, e_enum, e_slL, e_slT, e_asI, e_isN1, e_isN2, e_notN1, e_notN2, e_truB, e_truI, e_truL, e_isi_int_non, e_isi_int_bl, e_isi_int_int, e_isi_int_str, e_isi_int_list, e_isi_int_tup, e_isi_int_dict, e_isi_int_dictT, e_isi_bool_non, e_isi_bool_bl, e_isi_bool_int, e_isi_bool_str, e_isi_bool_list, e_isi_bool_tup, e_isi_bool_dict, e_isi_bool_dictT, e_isi_str_non, e_isi_str_bl, e_isi_str_int, e_isi_str_str, e_isi_str_list, e_isi_str_tup, e_isi_str_dict, e_isi_str_dictT, e_isi_list_non, e_isi_list_bl, e_isi_list_int, e_isi_list_str, e_isi_list_list, e_isi_list_tup, e_isi_list_dict, e_isi_list_dictT, e_isi_tuple_non, e_isi_tuple_bl, e_isi_tuple_int, e_isi_tuple_str, e_isi_tuple_list, e_isi_tuple_tup, e_isi_tuple_dict, e_isi_tuple_dictT, e_isi_dict_non, e_isi_dict_bl, e_isi_dict_int, e_isi_dict_str, e_isi_dict_list, e_isi_dict_tup, e_isi_dict_dict, e_isi_dict_dictT, e_iteAnd, e_iteOr, e_iteAndD, e_iteOrD, e_then_ite, e_endS_ite, e_endN_ite, e_ofR_ite, e_pick_ite, e_bind_ite, e_modI, e_fdivI, e_mul1, e_pow10, e_pow2, e_shl1, e_shrI, e_addS, e_iaddS, e_addL, e_addT, e_lenS, e_lst, e_strLit, String.reduceBEq, e_ixL0, e_ixL1, e_ixL2, e_ixL3, e_ixL4, e_ixL5, e_ixL6, e_ixL7, e_ixL8, e_ixT0, e_ixT1, e_ixT2, e_ixT3, e_ixT4, e_ixT5, e_tupleL, e_listT, e_tupleT, eqX_int, neX_int, eqX_S, neX_S, eqX_t0, neX_t0, e_catL, e_tup, e_inT, e_ninT, e_inL, e_ninL, e_slS, Int.reduceLT, Int.reduceLE, Int.reduceMul, Int.reduceAdd, Int.reduceSub, Int.reducePow, Int.reduceNeg, Int.reduceToNat, List.length_cons, List.length_nil, List.length_append, Nat.reduceAdd, Nat.reduceLeDiff, flD, List.all_cons, List.all_nil, Bool.and_true, Bool.true_and, Bool.and_self, decide_true, decide_false, or_true, true_or, and_true, true_and, eq_self])
local macro_rules | `(tactic| walk_at "pdv") => `(tactic| try simp -implicitDefEqProofs only [e_seq, Int.reduceBEq, Int.cast_ofNat_Int, e_thn, e_trt, e_trn, e_tex, e_if, e_pick, e_pickx, e_ret, e_retN, e_set, e_drop, e_for, e_ofR, e_ofRx, e_ofI, e_nil, e_asg, endS_rt, endS_rn, endS_nx, endS_ex, endN_rn, endN_ex, gC, g1, g2, g3, gA, aNil, aCons, gAnd, gOr, gNot, gB, gTru, bAnd, bOr, bNot, gIf, iA, iSeq, gSl, pNone, pSome, ok_bind, ex_bind, st_bind, gVar, List.getElem?_cons_zero, List.getElem?_cons_succ, List.set_cons_zero, List.set_cons_succ, if_true, if_false, Bool.not_true, Bool.not_false, Bool.false_eq_true, ↓reduceIte, e_asB, e_lt, e_gt, e_le, e_ge, e_ltS, e_gtS, e_eqI, e_eqS, e_eqB, e_neI, e_neS, e_neB, e_addI, e_iaddI, e_subI, e_negI, e_andI, e_orI, e_xorI, e_lenL, e_lenT, e_ord, e_intB, e_intI, e_inS, e_ninS, e_itL, e_itT, e_itS, e_zip, e_enum, e_slL, e_slT, e_asI, e_isN1, e_isN2, e_notN1, e_notN2, e_truB, e_truI, e_truL, e_isi_int_non, e_isi_int_bl, e_isi_int_int, e_isi_int_str, e_isi_int_list, e_isi_int_tup, e_isi_int_dict, e_isi_int_dictT, e_isi_bool_non, e_isi_bool_bl, e_isi_bool_int, e_isi_bool_str, e_isi_bool_list, e_isi_bool_tup, e_isi_bool_dict, e_isi_bool_dictT, e_isi_str_non, e_isi_str_bl, e_isi_str_int, e_isi_str_str, e_isi_str_list, e_isi_str_tup, e_isi_str_dict, e_isi_str_dictT, e_isi_list_non, e_isi_list_bl, e_isi_list_int, e_isi_list_str, e_isi_list_list, e_isi_list_tup, e_isi_list_dict, e_isi_list_dictT, e_isi_tuple_non, e_isi_tuple_bl, e_isi_tuple_int, e_isi_tuple_str, e_isi_tuple_list, e_isi_tuple_tup, e_isi_tuple_dict, e_isi_tuple_dictT, e_isi_dict_non, e_isi_dict_bl, e_isi_dict_int, e_isi_dict_str, e_isi_dict_list, e_isi_dict_tup, e_isi_dict_dict, e_isi_dict_dictT, e_iteAnd, e_iteOr, e_iteAndD, e_iteOrD, e_then_ite, e_endS_ite, e_endN_ite, e_ofR_ite, e_pick_ite, e_bind_ite, e_modI, e_fdivI, e_mul1, e_pow10, e_pow2, e_shl1, e_shrI, e_addS, e_iaddS, e_addL, e_addT, e_lenS, e_lst, e_strLit, String.reduceBEq, e_ixL0, e_ixL1, e_ixL2, e_ixL3, e_ixL4, e_ixL5, e_ixL6, e_ixL7, e_ixL8, e_ixT0, e_ixT1, e_ixT2, e_ixT3, e_ixT4, e_ixT5, e_tupleL, e_listT, e_tupleT, eqX_int, neX_int, eqX_S, neX_S, eqX_t0, neX_t0, e_catL, e_tup, e_inT, e_ninT, e_inL, e_ninL, e_slS, Int.reduceLT, Int.reduceLE, Int.reduceMul, Int.reduceAdd, Int.reduceSub, Int.reducePow, Int.reduceNeg, Int.reduceToNat, List.length_cons, List.length_nil, List.length_append, Nat.reduceAdd, Nat.reduceLeDiff, flD, List.all_cons, List.all_nil, Bool.and_true, Bool.true_and, Bool.and_self, decide_true, decide_false, or_true, true_or, and_true, true_and, eq_self])
/-! ### shown -/
abbrev TS (l : List Nat) : Str := ⟨l.toArray⟩
theorem TS_cps (x : Str) : TS (cps x) = x := SX.S_tl x
theorem TS_len (a : List Nat) : (TS a).length = a.length := SX.S_len a
theorem TS_cat (a b : List Nat) : TS a ++ TS b = TS (a ++ b) := SX.S_cat a b
def spB (x : Nat) : Bool := decide (x = 92) || (decide (x = 124) || decide (x = 47))
def esc : List Nat → List Nat
  | [] => []
  | x :: r => (if spB x = true then [92, x] else [x]) ++ esc r
theorem esc_len : ∀ l : List Nat, (esc l).length ≤ 2 * l.length
  | [] => Nat.le_refl _
  | x :: r => by
    have := esc_len r
    unfold esc
    rw [List.length_append, List.length_cons]
    split
    · show 2 + _ ≤ _; omega
    · show 1 + _ ≤ _; omega
theorem esc_app : ∀ a b : List Nat, esc (a ++ b) = esc a ++ esc b
  | [], b => rfl
  | x :: a, b => by
    show (if spB x = true then [92, x] else [x]) ++ esc (a ++ b) = ((if spB x = true then [92, x] else [x]) ++ esc a) ++ esc b
    rw [esc_app a b, List.append_assoc]
theorem sp_in (c : Nat) : hasSub (Str.ofString "\\|/") (TS [c]) = spB c := by
  rw [show TS [c] = ⟨#[c]⟩ from rfl, hasSub_one]
  unfold spB
  by_cases h : c < 130
  · have key : ∀ c : Nat, c < 130 → decide (c ∈ (Str.ofString "\\|/").cps.toList) = (decide (c = 92) || (decide (c = 124) || decide (c = 47))) := by decide +kernel
    exact key c h
  · have k2 : ∀ x ∈ (Str.ofString "\\|/").cps.toList, x < 130 := by decide +kernel
    rw [decide_eq_false fun z => h (k2 c z), decide_eq_false (by omega), decide_eq_false (by omega), decide_eq_false (by omega)]
    rfl
theorem one_eq (c n : Nat) : ((TS [c] : Str) == TS [n]) = decide (c = n) := by
  rw [SX.S_beq_eq]
  by_cases h : c = n
  · subst h
    rw [decide_eq_true rfl, decide_eq_true rfl]
  · rw [decide_eq_false h, decide_eq_false fun z => h (List.cons.inj z).1]
theorem lit92 : Str.ofString "\\" = TS [92] := by decide +kernel
theorem lit124 : Str.ofString "|" = TS [124] := by decide +kernel
theorem lit47 : Str.ofString "/" = TS [47] := by decide +kernel
theorem lit0 : Str.ofString "" = TS [] := by decide +kernel
theorem e_iaddS' (a b : Str) (h : a.length + b.length ≤ 16777216) : iaddD (.str a) (.str b) = .ok (.str (a ++ b)) := e_iaddS a b h
theorem e_aug {i : Nat} {f : D → D → R D} {g : Rho → R D} {ρ : Rho} {d e z : D} (h : ρ[i]? = some (some d)) (hg : g ρ = .ok e) (hf : f d e = .ok z) : sAug i f g ρ = .nx (ρ.set i (some z)) := by
  unfold sAug
  rw [h]
  show sE g _ ρ = _
  rw [e_E, hg, e_ofR, hf]
theorem aug_TS {i : Nat} {g : Rho → R D} {ρ : Rho} {a b : List Nat} (h : ρ[i]? = some (some (.str (TS a)))) (hg : g ρ = .ok (.str (TS b))) (hl : a.length + b.length ≤ 16777216) : sAug i iaddD g ρ = .nx (ρ.set i (some (.str (TS (a ++ b))))) :=
  e_aug h hg (by rw [e_iaddS _ _ (by rw [TS_len, TS_len]; exact hl), TS_cat])
theorem sign_at {l : List Nat} {j : Nat} {d : D} (hd : (signs (TS l))[j]? = some d) : ∃ c, l[j]? = some c ∧ d = D.str (TS [c]) := by
  unfold signs at hd
  rw [List.getElem?_map] at hd
  obtain ⟨c, h1, rfl⟩ := Option.map_eq_some_iff.mp hd
  exact ⟨c, h1, rfl⟩
theorem signs_TS (l : List Nat) : (signs (TS l)).length = l.length := by rw [signs_len, TS_len]
theorem shown_cell (l : List Nat) (hl : l.length ≤ 1000) : F_cell_shown [.str (TS l)] = .ok (.str (TS (esc l))) := by
  show endS (S_cell_shown [some (.str (TS l)), none, none]) = _
  unfold S_cell_shown
  walk_at "pd"
  generalize hM : forL _ _ _ _ = q
  obtain ⟨ρ', rfl, o, rfl⟩ := forL_out hM (fun i ρ => ∃ o, ρ = [some (.str (TS l)), some (.str (TS (esc (l.take i)))), o]) ⟨none, by rw [List.take_zero, lit0]; rfl⟩ (by
    rintro i d ρ hd ⟨o, rfl⟩
    obtain ⟨c, hc, rfl⟩ := sign_at hd
    refine ⟨_, rfl, ?_⟩
    show ∃ ρ2, B_cell_shown_0 [some (.str (TS l)), some (.str (TS (esc (l.take i)))), some (.str (TS [c]))] = .nx ρ2 ∧ _
    have ll := esc_len (l.take i)
    have lt : (l.take i).length ≤ l.length := by rw [List.length_take]; omega
    have et : l.take (i + 1) = l.take i ++ [c] := by rw [List.take_succ, hc]; rfl
    rw [et, esc_app]
    generalize esc (l.take i) = E at *
    have e92 : TS E ++ TS [92] = TS (E ++ [92]) := TS_cat _ _
    unfold B_cell_shown_0
    walk_at "pd"
    rw [sp_in, lit92]
    cases hs : spB c with
    | true =>
      have e0 : esc [c] = [92, c] := by unfold esc esc; rw [if_pos hs]; rfl
      rw [e0]
      rw [if_pos rfl, aug_TS (i := 1) (a := E) (b := [92]) rfl rfl (by show _ + 1 ≤ _; omega)]
      walk_at "pd"
      rw [aug_TS (i := 1) (a := E ++ [92]) (b := [c]) rfl rfl (by rw [List.length_append]; show _ + 1 + 1 ≤ _; omega), List.append_assoc]
      exact ⟨_, rfl, _, rfl⟩
    | false =>
      have e0 : esc [c] = [c] := by unfold esc esc; rw [if_neg (by rw [hs]; decide)]; rfl
      rw [e0, if_neg (by decide)]
      walk_at "pd"
      rw [aug_TS (i := 1) (a := E) (b := [c]) rfl rfl (by show _ + 1 ≤ _; omega)]
      exact ⟨_, rfl, _, rfl⟩)
  rw [signs_TS, List.take_length]
  walk_at "pd"
theorem spB_law (c : Nat) : (((TS [c] : Str) == TS [124]) || (((TS [c] : Str) == TS [47]) || ((TS [c] : Str) == TS [92]))) = spB c := by
  rw [one_eq, one_eq, one_eq]
  unfold spB
  cases decide (c = 92) <;> cases decide (c = 124) <;> cases decide (c = 47) <;> rfl
theorem shown_law_cell (l : List Nat) (hl : l.length ≤ 1000) : F__law_cell_shown [.str (TS l)] = .ok (.str (TS (esc l))) := by
  show endS (S__law_cell_shown [some (.str (TS l)), none, none]) = _
  unfold S__law_cell_shown
  walk_at "pd"
  generalize hM : forL _ _ _ _ = q
  obtain ⟨ρ', rfl, o, rfl⟩ := forL_out hM (fun i ρ => ∃ o, ρ = [some (.str (TS l)), some (.str (TS (esc (l.take i)))), o]) ⟨none, by rw [List.take_zero, lit0]; rfl⟩ (by
    rintro i d ρ hd ⟨o, rfl⟩
    obtain ⟨c, hc, rfl⟩ := sign_at hd
    refine ⟨_, rfl, ?_⟩
    show ∃ ρ2, B__law_cell_shown_0 [some (.str (TS l)), some (.str (TS (esc (l.take i)))), some (.str (TS [c]))] = .nx ρ2 ∧ _
    have ll := esc_len (l.take i)
    have lt : (l.take i).length ≤ l.length := by rw [List.length_take]; omega
    have et : l.take (i + 1) = l.take i ++ [c] := by rw [List.take_succ, hc]; rfl
    rw [et, esc_app]
    generalize esc (l.take i) = E at *
    have e92 : TS E ++ TS [92] = TS (E ++ [92]) := TS_cat _ _
    unfold B__law_cell_shown_0
    walk_at "pd"
    rw [lit92, lit124, lit47, spB_law]
    cases hs : spB c with
    | true =>
      have e0 : esc [c] = [92, c] := by unfold esc esc; rw [if_pos hs]; rfl
      rw [e0]
      rw [if_pos rfl, e_addS (TS E) (TS [92]) (by rw [TS_len, TS_len]; show _ + 1 ≤ _; omega), e92]
      walk_at "pd"
      rw [e_addS _ (TS [c]) (by rw [TS_len, TS_len, List.length_append]; show _ + 1 + 1 ≤ _; omega), TS_cat, List.append_assoc]
      exact ⟨_, rfl, _, rfl⟩
    | false =>
      have e0 : esc [c] = [c] := by unfold esc esc; rw [if_neg (by rw [hs]; decide)]; rfl
      rw [e0, if_neg (by decide)]
      walk_at "pd"
      rw [e_addS (TS E) (TS [c]) (by rw [TS_len, TS_len]; show _ + 1 ≤ _; omega), TS_cat]
      exact ⟨_, rfl, _, rfl⟩)
  rw [signs_TS, List.take_length]
  walk_at "pd"

end Pd

set_option maxHeartbeats 4000000
namespace Pd
open PySem PySem.Spec PyProof.Rows L2
local macro_rules | `(tactic| walk_at "pd") => `(tactic| try simp -implicitDefEqProofs only [e_seq, e_thn, e_trt, e_trn, e_tex, e_if, e_pick, e_pickx, e_ret, e_retN, e_set, e_drop, e_for, e_ofR, e_ofRx, e_ofI, e_nil, e_asg, endS_rt, endS_rn, endS_nx, endS_ex, endN_rn, endN_ex, gC, g1, g2, g3, gA, aNil, aCons, gAnd, gOr, gNot, gB, gTru, bAnd, bOr, bNot, gIf, iA, iSeq, gSl, pNone, pSome, ok_bind, ex_bind, st_bind, gVar, List.getElem?_cons_zero, List.getElem?_cons_succ, List.set_cons_zero, List.set_cons_succ, if_true, if_false, Bool.not_true, Bool.not_false, Bool.false_eq_true, ↓reduceIte, e_asB, e_lt, e_gt, e_le, e_ge, e_ltS, e_gtS, e_eqI, e_eqS, e_eqB, e_neI, e_neS, e_neB, e_addI, e_iaddI, e_subI, e_negI, e_andI, e_orI, e_xorI, e_lenL, e_lenT, e_ord, e_intB, e_intI, e_inS, e_ninS, e_itL, e_itT, e_itS, e_zip, e_enum, e_slL, e_slT, e_asI, e_isN1, e_isN2, e_notN1, e_notN2, e_truB, e_truI, e_truL, e_isi_int_non, e_isi_int_bl, e_isi_int_int, e_isi_int_str, e_isi_int_list, e_isi_int_tup, e_isi_int_dict, e_isi_int_dictT, e_isi_bool_non, e_isi_bool_bl, e_isi_bool_int, e_isi_bool_str, e_isi_bool_list, e_isi_bool_tup, e_isi_bool_dict, e_isi_bool_dictT, e_isi_str_non, e_isi_str_bl, e_isi_str_int, e_isi_str_str, e_isi_str_list, e_isi_str_tup, e_isi_str_dict, e_isi_str_dictT, e_isi_list_non, e_isi_list_bl, e_isi_list_int, e_isi_list_str, e_isi_list_list, e_isi_list_tup, e_isi_list_dict, e_isi_list_dictT, e_isi_tuple_non, e_isi_tuple_bl, e_isi_tuple_int, e_isi_tuple_str, e_isi_tuple_list, e_isi_tuple_tup, e_isi_tuple_dict, e_isi_tuple_dictT, e_isi_dict_non, e_isi_dict_bl, e_isi_dict_int, e_isi_dict_str, e_isi_dict_list, e_isi_dict_tup, e_isi_dict_dict, e_isi_dict_dictT, e_iteAnd, e_iteOr, e_iteAndD, e_iteOrD, e_then_ite, e_endS_ite, e_endN_ite, e_ofR_ite, e_pick_ite, e_bind_ite, e_modI, e_fdivI, e_mul1, e_pow10, e_pow2, e_shl1, e_shrI, e_addS, e_iaddS, e_addL, e_addT, e_lenS, e_lst, e_strLit, String.reduceBEq, e_ixL0, e_ixL1, e_ixL2, e_ixL3, e_ixL4, e_ixL5, e_ixL6, e_ixL7, e_ixL8, e_ixT0, e_ixT1, e_ixT2, e_ixT3, e_ixT4, e_ixT5, e_tupleL, e_listT, e_tupleT, eqX_int, neX_int, eqX_S, neX_S, eqX_t0, neX_t0, e_catL, e_tup, e_inT, e_ninT, e_inL, e_ninL, e_slS, Int.reduceLT, Int.reduceLE, Int.reduceMul, Int.reduceAdd, Int.reduceSub, Int.reducePow, Int.reduceNeg, Int.reduceToNat, List.length_cons, List.length_nil, List.length_append, Nat.reduceAdd, Nat.reduceLeDiff, flD, List.all_cons, List.all_nil, Bool.and_true, Bool.true_and, Bool.and_self, decide_true, decide_false, or_true, true_or, and_true, true_and, eq_self])
local macro_rules | `(tactic| walk_at "pdh") => `(tactic| try simp -implicitDefEqProofs only [e_seq, e_thn, e_trt, e_trn, e_tex, e_if, e_pick, e_pickx, e_ret, e_retN, e_set, e_drop, e_for, e_ofR, e_ofRx, e_ofI, e_nil, e_asg, endS_rt, endS_rn, endS_nx, endS_ex, endN_rn, endN_ex, gC, g1, g2, g3, gA, aNil, aCons, gAnd, gOr, gNot, gB, gTru, bAnd, bOr, bNot, gIf, iA, iSeq, gSl, pNone, pSome, ok_bind, ex_bind, st_bind, gVar, List.getElem?_cons_zero, List.getElem?_cons_succ, List.set_cons_zero, List.set_cons_succ, if_true, if_false, Bool.not_true, Bool.not_false, Bool.false_eq_true, ↓reduceIte, e_asB, e_lt, e_gt, e_le, e_ge, e_ltS, e_gtS, e_eqI, e_eqS, e_eqB, e_neI, e_neS, e_neB, e_addI, e_iaddI, e_subI, e_negI, e_andI, e_orI, e_xorI, e_lenL, e_lenT, e_ord, e_intB, e_intI, e_inS, e_ninS, e_itL, e_itT, e_itS, e_zip, e_enum, e_slL, e_slT, e_asI, e_isN1, e_isN2, e_notN1, e_notN2, e_truB, e_truI, e_truL, e_isi_int_non, e_isi_int_bl, e_isi_int_int, e_isi_int_str, e_isi_int_list, e_isi_int_tup, e_isi_int_dict, e_isi_int_dictT, e_isi_bool_non, e_isi_bool_bl, e_isi_bool_int, e_isi_bool_str, e_isi_bool_list, e_isi_bool_tup, e_isi_bool_dict, e_isi_bool_dictT, e_isi_str_non, e_isi_str_bl, e_isi_str_int, e_isi_str_str, e_isi_str_list, e_isi_str_tup, e_isi_str_dict, e_isi_str_dictT, e_isi_list_non, e_isi_list_bl, e_isi_list_int, e_isi_list_str, e_isi_list_list, e_isi_list_tup, e_isi_list_dict, e_isi_list_dictT, e_isi_tuple_non, e_isi_tuple_bl, e_isi_tuple_int, e_isi_tuple_str, e_isi_tuple_list, e_isi_tuple_tup, e_isi_tuple_dict, e_isi_tuple_dictT, e_isi_dict_non, e_isi_dict_bl, e_isi_dict_int, e_isi_dict_str, e_isi_dict_list, e_isi_dict_tup, e_isi_dict_dict, e_isi_dict_dictT, e_iteAnd, e_iteOr, e_iteAndD, e_iteOrD, e_then_ite, e_endS_ite, e_endN_ite, e_ofR_ite, e_pick_ite, e_bind_ite, e_modI, e_fdivI, e_mul1, e_pow10, e_pow2, e_shl1, e_shrI, e_addS, e_iaddS, e_addL, e_addT, e_lenS, e_lst, e_strLit, String.reduceBEq, e_ixL0, e_ixL1, e_ixL2, e_ixL3, e_ixL4, e_ixL5, e_ixL6, e_ixL7, e_ixL8, e_ixT0, e_ixT1, e_ixT2, e_ixT3, e_ixT4, e_ixT5, e_tupleL, e_listT, e_tupleT, eqX_int, neX_int, eqX_S, neX_S, eqX_t0, neX_t0, e_catL, e_tup, e_inT, e_ninT, e_inL, e_ninL, e_slS, Int.reduceLT, Int.reduceLE, Int.reduceMul, Int.reduceAdd, Int.reduceSub, Int.reducePow, Int.reduceNeg, Int.reduceToNat, List.length_cons, List.length_nil, List.length_append, Nat.reduceAdd, Nat.reduceLeDiff, flD, List.all_cons, List.all_nil, Bool.and_true, Bool.true_and, Bool.and_self, decide_true, decide_false, or_true, true_or, and_true, true_and, eq_self, *])
local macro_rules | `(tactic| walk_at "pdu") => `(tactic| try simp -implicitDefEqProofs only [e_seq, e_forN, e_for0, e_nxn, e_nct, e_nbk, e_nrt, e_nrn, e_nex, e_next_ite, e_thn, e_trt, e_trn, e_tex, e_if, e_pick, e_pickx, e_ret, e_retN, e_set, e_drop, e_for, e_ofR, e_ofRx, e_ofI, e_nil, e_asg, endS_rt, endS_rn, endS_nx, endS_ex, endN_rn, endN_ex, gC, g1, g2, g3, gA, aNil, aCons, gAnd, gOr, gNot, gB, gTru, bAnd, bOr, bNot, gIf, iA, iSeq, gSl, pNone, pSome, ok_bind, ex_bind, st_bind, gVar, List.getElem?_cons_zero, List.getElem?_cons_succ, List.set_cons_zero, List.set_cons_succ, if_true, if_false, Bool.not_true, Bool.not_false, Bool.false_eq_true, ↓reduceIte, e_asB, e_lt, e_gt, e_le, e_ge, e_ltS, e_gtS, e_eqI, e_eqS, e_eqB, e_neI, e_neS, e_neB, e_addI, e_iaddI, e_subI, e_negI, e_andI, e_orI, e_xorI, e_lenL, e_lenT, e_ord, e_intB, e_intI, e_inS, e_ninS, e_itL, e_itT, e_itS, e_zip, e_enum, e_slL, e_slT, e_asI, e_isN1, e_isN2, e_notN1, e_notN2, e_truB, e_truI, e_truL, e_isi_int_non, e_isi_int_bl, e_isi_int_int, e_isi_int_str, e_isi_int_list, e_isi_int_tup, e_isi_int_dict, e_isi_int_dictT, e_isi_bool_non, e_isi_bool_bl, e_isi_bool_int, e_isi_bool_str, e_isi_bool_list, e_isi_bool_tup, e_isi_bool_dict, e_isi_bool_dictT, e_isi_str_non, e_isi_str_bl, e_isi_str_int, e_isi_str_str, e_isi_str_list, e_isi_str_tup, e_isi_str_dict, e_isi_str_dictT, e_isi_list_non, e_isi_list_bl, e_isi_list_int, e_isi_list_str, e_isi_list_list, e_isi_list_tup, e_isi_list_dict, e_isi_list_dictT, e_isi_tuple_non, e_isi_tuple_bl, e_isi_tuple_int, e_isi_tuple_str, e_isi_tuple_list, e_isi_tuple_tup, e_isi_tuple_dict, e_isi_tuple_dictT, e_isi_dict_non, e_isi_dict_bl, e_isi_dict_int, e_isi_dict_str, e_isi_dict_list, e_isi_dict_tup, e_isi_dict_dict, e_isi_dict_dictT, e_iteAnd, e_iteOr, e_iteAndD, e_iteOrD, e_then_ite, e_endS_ite, e_endN_ite, e_ofR_ite, e_pick_ite, e_bind_ite, e_modI, e_fdivI, e_mul1, e_pow10, e_pow2, e_shl1, e_shrI, e_addS, e_iaddS, e_addL, e_addT, e_lenS, e_lst, e_strLit, String.reduceBEq, e_ixL0, e_ixL1, e_ixL2, e_ixL3, e_ixL4, e_ixL5, e_ixL6, e_ixL7, e_ixL8, e_ixT0, e_ixT1, e_ixT2, e_ixT3, e_ixT4, e_ixT5, e_tupleL, e_listT, e_tupleT, eqX_int, neX_int, eqX_S, neX_S, eqX_t0, neX_t0, e_catL, e_tup, e_inT, e_ninT, e_inL, e_ninL, e_slS, Int.reduceLT, Int.reduceLE, Int.reduceMul, Int.reduceAdd, Int.reduceSub, Int.reducePow, Int.reduceNeg, Int.reduceToNat, List.length_cons, List.length_nil, List.length_append, Nat.reduceAdd, Nat.reduceLeDiff, flD, List.all_cons, List.all_nil, Bool.and_true, Bool.true_and, Bool.and_self, decide_true, decide_false, or_true, true_or, and_true, true_and, eq_self])
local macro_rules | `(tactic| walk_at "pdq") => `(tactic| try simp -implicitDefEqProofs only [e_seq, q_seq, q_tnx, q_tex, q_trt, q_then_ite, q_if, q_pick, q_pickx, q_pick_ite, q_nil, q_raise, cl_nil, cl_f, cl_t, cl_n, e_thn, e_trt, e_trn, e_tex, e_if, e_pick, e_pickx, e_ret, e_retN, e_set, e_drop, e_for, e_ofR, e_ofRx, e_ofI, e_nil, e_asg, endS_rt, endS_rn, endS_nx, endS_ex, endN_rn, endN_ex, gC, g1, g2, g3, gA, aNil, aCons, gAnd, gOr, gNot, gB, gTru, bAnd, bOr, bNot, gIf, iA, iSeq, gSl, pNone, pSome, ok_bind, ex_bind, st_bind, gVar, List.getElem?_cons_zero, List.getElem?_cons_succ, List.set_cons_zero, List.set_cons_succ, if_true, if_false, Bool.not_true, Bool.not_false, Bool.false_eq_true, ↓reduceIte, e_asB, e_lt, e_gt, e_le, e_ge, e_ltS, e_gtS, e_eqI, e_eqS, e_eqB, e_neI, e_neS, e_neB, e_addI, e_iaddI, e_subI, e_negI, e_andI, e_orI, e_xorI, e_lenL, e_lenT, e_ord, e_intB, e_intI, e_inS, e_ninS, e_itL, e_itT, e_itS, e_zip, e_enum, e_slL, e_slT, e_asI, e_isN1, e_isN2, e_notN1, e_notN2, e_truB, e_truI, e_truL, e_isi_int_non, e_isi_int_bl, e_isi_int_int, e_isi_int_str, e_isi_int_list, e_isi_int_tup, e_isi_int_dict, e_isi_int_dictT, e_isi_bool_non, e_isi_bool_bl, e_isi_bool_int, e_isi_bool_str, e_isi_bool_list, e_isi_bool_tup, e_isi_bool_dict, e_isi_bool_dictT, e_isi_str_non, e_isi_str_bl, e_isi_str_int, e_isi_str_str, e_isi_str_list, e_isi_str_tup, e_isi_str_dict, e_isi_str_dictT, e_isi_list_non, e_isi_list_bl, e_isi_list_int, e_isi_list_str, e_isi_list_list, e_isi_list_tup, e_isi_list_dict, e_isi_list_dictT, e_isi_tuple_non, e_isi_tuple_bl, e_isi_tuple_int, e_isi_tuple_str, e_isi_tuple_list, e_isi_tuple_tup, e_isi_tuple_dict, e_isi_tuple_dictT, e_isi_dict_non, e_isi_dict_bl, e_isi_dict_int, e_isi_dict_str, e_isi_dict_list, e_isi_dict_tup, e_isi_dict_dict, e_isi_dict_dictT, e_iteAnd, e_iteOr, e_iteAndD, e_iteOrD, e_then_ite, e_endS_ite, e_endN_ite, e_ofR_ite, e_pick_ite, e_bind_ite, e_modI, e_fdivI, e_mul1, e_pow10, e_pow2, e_shl1, e_shrI, e_addS, e_iaddS, e_addL, e_addT, e_lenS, e_lst, e_strLit, String.reduceBEq, e_ixL0, e_ixL1, e_ixL2, e_ixL3, e_ixL4, e_ixL5, e_ixL6, e_ixL7, e_ixL8, e_ixT0, e_ixT1, e_ixT2, e_ixT3, e_ixT4, e_ixT5, e_tupleL, e_listT, e_tupleT, eqX_int, neX_int, eqX_S, neX_S, eqX_t0, neX_t0, e_catL, e_tup, e_inT, e_ninT, e_inL, e_ninL, e_slS, Int.reduceLT, Int.reduceLE, Int.reduceMul, Int.reduceAdd, Int.reduceSub, Int.reducePow, Int.reduceNeg, Int.reduceToNat, List.length_cons, List.length_nil, List.length_append, Nat.reduceAdd, Nat.reduceLeDiff, flD, List.all_cons, List.all_nil, Bool.and_true, Bool.true_and, Bool.and_self, decide_true, decide_false, or_true, true_or, and_true, true_and, eq_self])
local macro_rules | `(tactic| walk_at "pdr") => `(tactic| try simp -implicitDefEqProofs only [e_seq, q_seq, q_tnx, q_tex, q_trt, q_then_ite, q_nil, q_raise, cl_nil, cl_f, cl_t, cl_n, s_ok, s_ex, e_sqRet, e_sqSet, e_sqExpr, e_sqAsg, asg_some, e_tqName, e_tqTup2, e_qP, e_upok, e_upex, e_qVar, e_varok, e_qNew, e_newok, rq_ok, rq_ex, e_aqN, e_aqC, e_qPA, e_qCall, e_qTup, e_tupP2, e_qSn, e_qSnT, e_tok, e_qT, e_up_ite, pk_ite, s_ite, tst_ite, e_end_ite, q_ifS, pk_ok, e_q2, op2_ii, op2_ss, op2_si, e_qLst, lstP1, e_iqR,  sn_nil, sn_s, sn_n, fu_f, e_qIx, e_endrt, e_endnx, List.map_cons, List.map_nil, Bool.or_false, Bool.or_true, Bool.true_or, Bool.false_or, e_thn, e_trt, e_trn, e_tex, e_if, e_pick, e_pickx, e_ret, e_retN, e_set, e_drop, e_for, e_ofR, e_ofRx, e_ofI, e_nil, e_asg, endS_rt, endS_rn, endS_nx, endS_ex, endN_rn, endN_ex, gC, g1, g2, g3, gA, aNil, aCons, gAnd, gOr, gNot, gB, gTru, bAnd, bOr, bNot, gIf, iA, iSeq, gSl, pNone, pSome, ok_bind, ex_bind, st_bind, gVar, List.getElem?_cons_zero, List.getElem?_cons_succ, List.set_cons_zero, List.set_cons_succ, if_true, if_false, Bool.not_true, Bool.not_false, Bool.false_eq_true, ↓reduceIte, e_asB, e_lt, e_gt, e_le, e_ge, e_ltS, e_gtS, e_eqI, e_eqS, e_eqB, e_neI, e_neS, e_neB, e_addI, e_iaddI, e_subI, e_negI, e_andI, e_orI, e_xorI, e_lenL, e_lenT, e_ord, e_intB, e_intI, e_inS, e_ninS, e_itL, e_itT, e_itS, e_zip, e_enum, e_slL, e_slT, e_asI, e_isN1, e_isN2, e_notN1, e_notN2, e_truB, e_truI, e_truL, e_isi_int_non, e_isi_int_bl, e_isi_int_int, e_isi_int_str, e_isi_int_list, e_isi_int_tup, e_isi_int_dict, e_isi_int_dictT, e_isi_bool_non, e_isi_bool_bl, e_isi_bool_int, e_isi_bool_str, e_isi_bool_list, e_isi_bool_tup, e_isi_bool_dict, e_isi_bool_dictT, e_isi_str_non, e_isi_str_bl, e_isi_str_int, e_isi_str_str, e_isi_str_list, e_isi_str_tup, e_isi_str_dict, e_isi_str_dictT, e_isi_list_non, e_isi_list_bl, e_isi_list_int, e_isi_list_str, e_isi_list_list, e_isi_list_tup, e_isi_list_dict, e_isi_list_dictT, e_isi_tuple_non, e_isi_tuple_bl, e_isi_tuple_int, e_isi_tuple_str, e_isi_tuple_list, e_isi_tuple_tup, e_isi_tuple_dict, e_isi_tuple_dictT, e_isi_dict_non, e_isi_dict_bl, e_isi_dict_int, e_isi_dict_str, e_isi_dict_list, e_isi_dict_tup, e_isi_dict_dict, e_isi_dict_dictT, e_iteAnd, e_iteOr, e_iteAndD, e_iteOrD, e_then_ite, e_endS_ite, e_endN_ite, e_ofR_ite, e_pick_ite, e_bind_ite, e_modI, e_fdivI, e_mul1, e_pow10, e_pow2, e_shl1, e_shrI, e_addS, e_iaddS, e_addL, e_addT, e_lenS, e_lst, e_strLit, String.reduceBEq, e_ixL0, e_ixL1, e_ixL2, e_ixL3, e_ixL4, e_ixL5, e_ixL6, e_ixL7, e_ixL8, e_ixT0, e_ixT1, e_ixT2, e_ixT3, e_ixT4, e_ixT5, e_tupleL, e_listT, e_tupleT, eqX_int, neX_int, eqX_S, neX_S, eqX_t0, neX_t0, e_catL, e_tup, e_inT, e_ninT, e_inL, e_ninL, e_slS, Int.reduceLT, Int.reduceLE, Int.reduceMul, Int.reduceAdd, Int.reduceSub, Int.reducePow, Int.reduceNeg, Int.reduceToNat, List.length_cons, List.length_nil, List.length_append, Nat.reduceAdd, Nat.reduceLeDiff, flD, List.all_cons, List.all_nil, Bool.and_true, Bool.true_and, Bool.and_self, decide_true, decide_false, or_true, true_or, and_true, true_and, eq_self])
local macro_rules | `(tactic| walk_at "pdv") => `(tactic| try simp -implicitDefEqProofs only [e_seq, Int.reduceBEq, Int.cast_ofNat_Int, e_thn, e_trt, e_trn, e_tex, e_if, e_pick, e_pickx, e_ret, e_retN, e_set, e_drop, e_for, e_ofR, e_ofRx, e_ofI, e_nil, e_asg, endS_rt, endS_rn, endS_nx, endS_ex, endN_rn, endN_ex, gC, g1, g2, g3, gA, aNil, aCons, gAnd, gOr, gNot, gB, gTru, bAnd, bOr, bNot, gIf, iA, iSeq, gSl, pNone, pSome, ok_bind, ex_bind, st_bind, gVar, List.getElem?_cons_zero, List.getElem?_cons_succ, List.set_cons_zero, List.set_cons_succ, if_true, if_false, Bool.not_true, Bool.not_false, Bool.false_eq_true, ↓reduceIte, e_asB, e_lt, e_gt, e_le, e_ge, e_ltS, e_gtS, e_eqI, e_eqS, e_eqB, e_neI, e_neS, e_neB, e_addI, e_iaddI, e_subI, e_negI, e_andI, e_orI, e_xorI, e_lenL, e_lenT, e_ord, e_intB, e_intI, e_inS, e_ninS, e_itL, e_itT, e_itS, e_zip, e_enum, e_slL, e_slT, e_asI, e_isN1, e_isN2, e_notN1, e_notN2, e_truB, e_truI, e_truL, e_isi_int_non, e_isi_int_bl, e_isi_int_int, e_isi_int_str, e_isi_int_list, e_isi_int_tup, e_isi_int_dict, e_isi_int_dictT, e_isi_bool_non, e_isi_bool_bl, e_isi_bool_int, e_isi_bool_str, e_isi_bool_list, e_isi_bool_tup, e_isi_bool_dict, e_isi_bool_dictT, e_isi_str_non, e_isi_str_bl, e_isi_str_int, e_isi_str_str, e_isi_str_list, e_isi_str_tup, e_isi_str_dict, e_isi_str_dictT, e_isi_list_non, e_isi_list_bl, e_isi_list_int, e_isi_list_str, e_isi_list_list, e_isi_list_tup, e_isi_list_dict, e_isi_list_dictT, e_isi_tuple_non, e_isi_tuple_bl, e_isi_tuple_int, e_isi_tuple_str, e_isi_tuple_list, e_isi_tuple_tup, e_isi_tuple_dict, e_isi_tuple_dictT, e_isi_dict_non, e_isi_dict_bl, e_isi_dict_int, e_isi_dict_str, e_isi_dict_list, e_isi_dict_tup, e_isi_dict_dict, e_isi_dict_dictT, e_iteAnd, e_iteOr, e_iteAndD, e_iteOrD, e_then_ite, e_endS_ite, e_endN_ite, e_ofR_ite, e_pick_ite, e_bind_ite, e_modI, e_fdivI, e_mul1, e_pow10, e_pow2, e_shl1, e_shrI, e_addS, e_iaddS, e_addL, e_addT, e_lenS, e_lst, e_strLit, String.reduceBEq, e_ixL0, e_ixL1, e_ixL2, e_ixL3, e_ixL4, e_ixL5, e_ixL6, e_ixL7, e_ixL8, e_ixT0, e_ixT1, e_ixT2, e_ixT3, e_ixT4, e_ixT5, e_tupleL, e_listT, e_tupleT, eqX_int, neX_int, eqX_S, neX_S, eqX_t0, neX_t0, e_catL, e_tup, e_inT, e_ninT, e_inL, e_ninL, e_slS, Int.reduceLT, Int.reduceLE, Int.reduceMul, Int.reduceAdd, Int.reduceSub, Int.reducePow, Int.reduceNeg, Int.reduceToNat, List.length_cons, List.length_nil, List.length_append, Nat.reduceAdd, Nat.reduceLeDiff, flD, List.all_cons, List.all_nil, Bool.and_true, Bool.true_and, Bool.and_self, decide_true, decide_false, or_true, true_or, and_true, true_and, eq_self])
/-! ### tables as lists -/
abbrev Tab := List (List (List Nat))
def rowT (r : List (List Nat)) : List D := r.map fun c => D.str (TS c)
def tabD (R : Tab) : D := .tup (R.map fun r => D.tup (rowT r))
structure TabOk (R : Tab) (n : Nat) : Prop where
  l1 : 1 ≤ R.length
  l2 : R.length ≤ 6
  n1 : 1 ≤ n
  n2 : n ≤ 6
  ln : ∀ r ∈ R, r.length = n
  ok : ∀ r ∈ R, ∀ c ∈ r, TextOk (TS c)
theorem row_of {ds : List D} (h : textsOk ds) : ∃ r, ds = rowT r ∧ r.length = ds.length ∧ ∀ c ∈ r, TextOk (TS c) := by
  induction ds with
  | nil => exact ⟨[], rfl, rfl, fun c hc => by cases hc⟩
  | cons d ds ih =>
    obtain ⟨s, rfl, hs⟩ := h d List.mem_cons_self
    obtain ⟨r, e, l, ok⟩ := ih fun x hx => h x (List.mem_cons_of_mem _ hx)
    refine ⟨cps s :: r, ?_, by rw [List.length_cons, List.length_cons, l], fun c hc => ?_⟩
    · rw [e]
      show _ = D.str (TS (cps s)) :: rowT r
      rw [TS_cps]
    · rcases List.mem_cons.mp hc with rfl | h
      · rw [TS_cps]; exact hs
      · exact ok c h
theorem tab_of {d : D} (h : TableOk d) : ∃ R n, d = tabD R ∧ TabOk R n := by
  obtain ⟨rows, n, rfl, h1, h2, h3, h4, hr⟩ := h
  have key : ∀ rows : List D, (∀ r ∈ rows, RowOk n r) → ∃ R : Tab, rows = R.map (fun r => D.tup (rowT r)) ∧ (∀ r ∈ R, r.length = n) ∧ ∀ r ∈ R, ∀ c ∈ r, TextOk (TS c) := fun rows => by
    induction rows with
    | nil => exact fun _ => ⟨[], rfl, (fun r hr => by cases hr), fun r hr => by cases hr⟩
    | cons d ds ih =>
      intro h
      obtain ⟨cs, rfl, l, ok⟩ := h d List.mem_cons_self
      obtain ⟨r, e, lr, okr⟩ := row_of ok
      obtain ⟨R, e2, l2, ok2⟩ := ih fun x hx => h x (List.mem_cons_of_mem _ hx)
      refine ⟨r :: R, by rw [e, e2]; rfl, fun x hx => ?_, fun x hx => ?_⟩
      · rcases List.mem_cons.mp hx with rfl | h
        · omega
        · exact l2 x h
      · rcases List.mem_cons.mp hx with rfl | h
        · exact okr
        · exact ok2 x h
  obtain ⟨R, rfl, a, b⟩ := key rows hr
  rw [List.length_map] at h1 h2
  exact ⟨R, n, rfl, h1, h2, h3, h4, a, b⟩
def rowS (r : List (List Nat)) : List Nat := TL.joinL [124] (r.map esc)
def tabS (R : Tab) : List Nat := TL.joinL [47] (R.map rowS)
theorem joinL_len (s : Nat) : ∀ ps : List (List Nat), (TL.joinL [s] ps).length ≤ (ps.map (·.length)).sum + ps.length
  | [] => Nat.le_refl _
  | [p] => by
    show p.length ≤ (p.length + 0) + 1
    omega
  | p :: q :: r => by
    have ih := joinL_len s (q :: r)
    show (p ++ ([s] ++ TL.joinL [s] (q :: r))).length ≤ _
    rw [List.length_append, List.length_append, List.map_cons, List.sum_cons, List.length_cons (a := p)]
    show p.length + (1 + _) ≤ _
    omega
theorem sum_le {α : Type} (f : α → Nat) (b : Nat) : ∀ l : List α, (∀ x ∈ l, f x ≤ b) → (l.map f).sum ≤ l.length * b
  | [], _ => Nat.zero_le _
  | x :: l, h => by
    have ih := sum_le f b l fun y hy => h y (List.mem_cons_of_mem _ hy)
    have := h x List.mem_cons_self
    rw [List.map_cons, List.sum_cons, List.length_cons, Nat.add_mul]
    omega
theorem cell_len {c : List Nat} (h : TextOk (TS c)) : c.length ≤ 60 := by have := h.1; rw [TS_len] at this; exact this
theorem rowS_len {r : List (List Nat)} (h : ∀ c ∈ r, TextOk (TS c)) (hl : r.length ≤ 6) : (rowS r).length ≤ 1000 := by
  unfold rowS
  have h1 := joinL_len 124 (r.map esc)
  have h2 := sum_le (fun c : List Nat => (esc c).length) 120 r fun c hc => by
    have := esc_len c
    have := cell_len (h c hc)
    omega
  rw [List.map_map, List.length_map] at h1
  have h3 : ((fun x : List Nat => x.length) ∘ esc) = fun c => (esc c).length := rfl
  rw [h3] at h1
  have : r.length * 120 ≤ 6 * 120 := Nat.mul_le_mul_right _ hl
  omega
theorem tabS_len {R : Tab} {n : Nat} (h : TabOk R n) : (tabS R).length ≤ 10000 := by
  unfold tabS
  have h1 := joinL_len 47 (R.map rowS)
  have h2 := sum_le (fun r : List (List Nat) => (rowS r).length) 1000 R fun r hr => rowS_len (h.ok r hr) (by have := h.ln r hr; have := h.n2; omega)
  rw [List.map_map, List.length_map] at h1
  have h3 : ((fun x : List Nat => x.length) ∘ rowS) = fun r => (rowS r).length := rfl
  rw [h3] at h1
  have : R.length * 1000 ≤ 6 * 1000 := Nat.mul_le_mul_right _ h.l2
  have := h.l2
  omega
theorem e_joinTS (s : Nat) (ps : List (List Nat)) (h : (ps.map (·.length)).sum + ps.length ≤ 16777216) : joinD (.str (TS [s])) [.list (ps.map fun p => D.str (TS p))] = .ok (.str (TS (TL.joinL [s] ps))) := by
  have e : (ps.map fun p => D.str (TS p)) = (ps.map TS).map D.str := by rw [List.map_map]; rfl
  rw [e, e_join (TS [s]) (ps.map TS) (by
    unfold joinOk
    refine decide_eq_true ?_
    rw [show (ps.map TS).map (·.length) = ps.map (·.length) from SX.lens ps, List.length_map, TS_len]
    show _ + _ * 1 ≤ _
    omega)]
  rw [show Txt.join (TS [s]) (ps.map TS) = TS (TL.joinL [s] ps) from SX.join_S [s] ps]
/-- rows of cells, put together -/
theorem row_shown {F : List D → R D} (hF : ∀ l : List Nat, l.length ≤ 1000 → F [.str (TS l)] = .ok (.str (TS (esc l)))) {r : List (List Nat)} (h : ∀ c ∈ r, TextOk (TS c)) (hl : r.length ≤ 6) {ρ : Rho} (i j : Nat) (h2 : ρ[i]? = some (some (.tup (rowT r)))) (hj : j < ρ.length) :
    gLc (iSeq (gVar i)) [j] (τName j) bYes (gA F (aCons (gVar j) aNil)) ρ = .ok (.list ((r.map esc).map fun c => D.str (TS c))) := by
  generalize hG : gLc _ _ _ _ _ _ = G
  have e := gLc_map hG (fun d => match d with | .str s => .str (TS (esc (cps s))) | _ => .non) (items := rowT r) (by
    show (gVar i ρ).bind itemsD = _
    unfold gVar
    rw [h2]
    rfl) (by unfold rowT; rw [List.length_map]; omega) (fun d hd => by
    unfold rowT at hd
    obtain ⟨c, hc, rfl⟩ := List.mem_map.mp hd
    have cl := cell_len (h c hc)
    show ((gVar j _).bind fun d => (R.ok []).bind fun ds => R.ok (d :: ds)).bind F = _
    have hv : gVar j ((wipeR ρ [j]).set j (some (D.str (TS c)))) = .ok (.str (TS c)) := by
      unfold gVar
      rw [List.getElem?_set, if_pos rfl, if_pos (by show j < (ρ.set j none).length; rw [List.length_set]; exact hj)]
    rw [hv]
    show F [.str (TS c)] = _
    rw [hF c (by omega)])
  rw [e]
  unfold rowT
  rw [List.map_map, List.map_map]
  rfl
theorem row_join {F : List D → R D} (hF : ∀ l : List Nat, l.length ≤ 1000 → F [.str (TS l)] = .ok (.str (TS (esc l)))) {r : List (List Nat)} (h : ∀ c ∈ r, TextOk (TS c)) (hl : r.length ≤ 6) {ρ : Rho} (i j : Nat) (h2 : ρ[i]? = some (some (.tup (rowT r)))) (hj : j < ρ.length) :
    gMt "str" joinD (gC (.str "|")) (aCons (gLc (iSeq (gVar i)) [j] (τName j) bYes (gA F (aCons (gVar j) aNil))) aNil) ρ = .ok (.str (TS (rowS r))) := by
  rw [e_mtS joinD _ _ _ "|" rfl]
  show ((gLc _ _ _ _ _ ρ).bind fun d => (R.ok []).bind fun ds => R.ok (d :: ds)).bind (fun ds => joinD (.str "|") ds) = _
  rw [row_shown hF h hl i j h2 hj]
  show joinD (.str "|") [.list ((r.map esc).map fun c => D.str (TS c))] = _
  rw [show D.str "|" = D.str (TS [124]) from congrArg D.str lit124, e_joinTS]
  · rfl
  · rw [List.map_map, List.length_map]
    have h2 := sum_le (fun c : List Nat => (esc c).length) 120 r fun c hc => by
      have := esc_len c
      have := cell_len (h c hc)
      omega
    have : r.length * 120 ≤ 6 * 120 := Nat.mul_le_mul_right _ hl
    show (r.map fun c => (esc c).length).sum + _ ≤ _
    omega
def txt : D → List Nat
  | .str s => cps s
  | _ => []
theorem rowT_txt (r : List (List Nat)) : (rowT r).map txt = r := by
  unfold rowT
  rw [List.map_map]
  exact (List.map_congr_left fun c _ => rfl).trans (List.map_id r)
theorem tab_join {F : List D → R D} (hF : ∀ l : List Nat, l.length ≤ 1000 → F [.str (TS l)] = .ok (.str (TS (esc l)))) {R' : Tab} {n : Nat} (h : TabOk R' n) (x : D) :
    gMt "str" joinD (gC (.str "/")) (aCons (gLc (iSeq (gVar 1)) [2] (τName 2) bYes (gMt "str" joinD (gC (.str "|")) (aCons (gLc (iSeq (gVar 2)) [3] (τName 3) bYes (gA F (aCons (gVar 3) aNil))) aNil))) aNil) [some x, some (tabD R'), none, none] = .ok (.str (TS (tabS R'))) := by
  rw [e_mtS joinD _ _ _ "/" rfl]
  show ((gLc _ _ _ _ _ _).bind fun d => (R.ok []).bind fun ds => R.ok (d :: ds)).bind (fun ds => joinD (.str "/") ds) = _
  generalize hG : gLc _ _ _ _ _ _ = G
  have rlen : ∀ r ∈ R', r.length ≤ 6 := fun r hr => by have := h.ln r hr; have := h.n2; omega
  have e := gLc_map hG (fun d => match d with | .tup ds => .str (TS (rowS (ds.map txt))) | _ => .non) (items := R'.map fun r => D.tup (rowT r)) rfl (by rw [List.length_map]; have := h.l2; omega) (fun d hd => by
    obtain ⟨r, hr, rfl⟩ := List.mem_map.mp hd
    show gMt "str" joinD (gC (.str "|")) (aCons (gLc (iSeq (gVar 2)) [3] (τName 3) bYes (gA F (aCons (gVar 3) aNil))) aNil) [some x, some (tabD R'), some (.tup (rowT r)), none] = .ok (.str (TS (rowS ((rowT r).map txt))))
    rw [row_join hF (h.ok r hr) (rlen r hr) 2 3 rfl (by show 3 < 4; omega), rowT_txt])
  have e' : G = .ok (.list ((R'.map rowS).map fun c => D.str (TS c))) := by
    rw [e, List.map_map, List.map_map]
    congr 3
    funext r
    show D.str (TS (rowS ((rowT r).map txt))) = _
    rw [rowT_txt]
    rfl
  clear e
  rw [e']
  show joinD (.str "/") [.list ((R'.map rowS).map fun c => D.str (TS c))] = _
  rw [show D.str "/" = D.str (TS [47]) from congrArg D.str lit47, e_joinTS]
  · rfl
  · rw [List.map_map, List.length_map]
    have h2 := sum_le (fun r : List (List Nat) => (rowS r).length) 1000 R' fun r hr => rowS_len (h.ok r hr) (rlen r hr)
    have : R'.length * 1000 ≤ 6 * 1000 := Nat.mul_le_mul_right _ h.l2
    have := h.l2
    show (R'.map fun r => (rowS r).length).sum + _ ≤ _
    omega
theorem shown_tab {R' : Tab} {n : Nat} (h : TabOk R' n) (x : D) : F_Table_shown [x, tabD R'] = .ok (.str (TS (tabS R'))) := by
  show endS (S_Table_shown [some x, some (tabD R'), none, none]) = _
  unfold S_Table_shown
  show endS (S.ofR (gMt "str" joinD (gC (.str "/")) (aCons (gLc (iSeq (gVar 1)) [2] (τName 2) bYes (gMt "str" joinD (gC (.str "|")) (aCons (gLc (iSeq (gVar 2)) [3] (τName 3) bYes (gA F_cell_shown (aCons (gVar 3) aNil))) aNil))) aNil) [some x, some (tabD R'), none, none]) _ _) = _
  rw [tab_join shown_cell h x]
  rfl
theorem shown_law_tab {R' : Tab} {n : Nat} (h : TabOk R' n) : F__law_shown [.str "table", tabD R'] = .ok (.str (TS (tabS R'))) := by
  show endS (S__law_shown [some (.str "table"), some (tabD R'), none, none]) = _
  unfold S__law_shown
  walk_at "pd"
  show endS ((S.ofR (gMt "str" joinD (gC (.str "/")) (aCons (gLc (iSeq (gVar 1)) [2] (τName 2) bYes (gMt "str" joinD (gC (.str "|")) (aCons (gLc (iSeq (gVar 2)) [3] (τName 3) bYes (gA F__law_cell_shown (aCons (gVar 3) aNil))) aNil))) aNil) [some (.str "table"), some (tabD R'), none, none]) _ _).then _) = _
  rw [tab_join shown_law_cell h (.str "table")]
  rfl

end Pd

set_option maxHeartbeats 4000000
namespace Pd
open PySem PySem.Spec PyProof.Rows L2
local macro_rules | `(tactic| walk_at "pd") => `(tactic| try simp -implicitDefEqProofs only [e_seq, e_thn, e_trt, e_trn, e_tex, e_if, e_pick, e_pickx, e_ret, e_retN, e_set, e_drop, e_for, e_ofR, e_ofRx, e_ofI, e_nil, e_asg, endS_rt, endS_rn, endS_nx, endS_ex, endN_rn, endN_ex, gC, g1, g2, g3, gA, aNil, aCons, gAnd, gOr, gNot, gB, gTru, bAnd, bOr, bNot, gIf, iA, iSeq, gSl, pNone, pSome, ok_bind, ex_bind, st_bind, gVar, List.getElem?_cons_zero, List.getElem?_cons_succ, List.set_cons_zero, List.set_cons_succ, if_true, if_false, Bool.not_true, Bool.not_false, Bool.false_eq_true, ↓reduceIte, e_asB, e_lt, e_gt, e_le, e_ge, e_ltS, e_gtS, e_eqI, e_eqS, e_eqB, e_neI, e_neS, e_neB, e_addI, e_iaddI, e_subI, e_negI, e_andI, e_orI, e_xorI, e_lenL, e_lenT, e_ord, e_intB, e_intI, e_inS, e_ninS, e_itL, e_itT, e_itS, e_zip, e_enum, e_slL, e_slT, e_asI, e_isN1, e_isN2, e_notN1, e_notN2, e_truB, e_truI, e_truL, e_isi_int_non, e_isi_int_bl, e_isi_int_int, e_isi_int_str, e_isi_int_list, e_isi_int_tup, e_isi_int_dict, e_isi_int_dictT, e_isi_bool_non, e_isi_bool_bl, e_isi_bool_int, e_isi_bool_str, e_isi_bool_list, e_isi_bool_tup, e_isi_bool_dict, e_isi_bool_dictT, e_isi_str_non, e_isi_str_bl, e_isi_str_int, e_isi_str_str, e_isi_str_list, e_isi_str_tup, e_isi_str_dict, e_isi_str_dictT, e_isi_list_non, e_isi_list_bl, e_isi_list_int, e_isi_list_str, e_isi_list_list, e_isi_list_tup, e_isi_list_dict, e_isi_list_dictT, e_isi_tuple_non, e_isi_tuple_bl, e_isi_tuple_int, e_isi_tuple_str, e_isi_tuple_list, e_isi_tuple_tup, e_isi_tuple_dict, e_isi_tuple_dictT, e_isi_dict_non, e_isi_dict_bl, e_isi_dict_int, e_isi_dict_str, e_isi_dict_list, e_isi_dict_tup, e_isi_dict_dict, e_isi_dict_dictT, e_iteAnd, e_iteOr, e_iteAndD, e_iteOrD, e_then_ite, e_endS_ite, e_endN_ite, e_ofR_ite, e_pick_ite, e_bind_ite, e_modI, e_fdivI, e_mul1, e_pow10, e_pow2, e_shl1, e_shrI, e_addS, e_iaddS, e_addL, e_addT, e_lenS, e_lst, e_strLit, String.reduceBEq, e_ixL0, e_ixL1, e_ixL2, e_ixL3, e_ixL4, e_ixL5, e_ixL6, e_ixL7, e_ixL8, e_ixT0, e_ixT1, e_ixT2, e_ixT3, e_ixT4, e_ixT5, e_tupleL, e_listT, e_tupleT, eqX_int, neX_int, eqX_S, neX_S, eqX_t0, neX_t0, e_catL, e_tup, e_inT, e_ninT, e_inL, e_ninL, e_slS, Int.reduceLT, Int.reduceLE, Int.reduceMul, Int.reduceAdd, Int.reduceSub, Int.reducePow, Int.reduceNeg, Int.reduceToNat, List.length_cons, List.length_nil, List.length_append, Nat.reduceAdd, Nat.reduceLeDiff, flD, List.all_cons, List.all_nil, Bool.and_true, Bool.true_and, Bool.and_self, decide_true, decide_false, or_true, true_or, and_true, true_and, eq_self])
local macro_rules | `(tactic| walk_at "pdh") => `(tactic| try simp -implicitDefEqProofs only [e_seq, e_thn, e_trt, e_trn, e_tex, e_if, e_pick, e_pickx, e_ret, e_retN, e_set, e_drop, e_for, e_ofR, e_ofRx, e_ofI, e_nil, e_asg, endS_rt, endS_rn, endS_nx, endS_ex, endN_rn, endN_ex, gC, g1, g2, g3, gA, aNil, aCons, gAnd, gOr, gNot, gB, gTru, bAnd, bOr, bNot, gIf, iA, iSeq, gSl, pNone, pSome, ok_bind, ex_bind, st_bind, gVar, List.getElem?_cons_zero, List.getElem?_cons_succ, List.set_cons_zero, List.set_cons_succ, if_true, if_false, Bool.not_true, Bool.not_false, Bool.false_eq_true, ↓reduceIte, e_asB, e_lt, e_gt, e_le, e_ge, e_ltS, e_gtS, e_eqI, e_eqS, e_eqB, e_neI, e_neS, e_neB, e_addI, e_iaddI, e_subI, e_negI, e_andI, e_orI, e_xorI, e_lenL, e_lenT, e_ord, e_intB, e_intI, e_inS, e_ninS, e_itL, e_itT, e_itS, e_zip, e_enum, e_slL, e_slT, e_asI, e_isN1, e_isN2, e_notN1, e_notN2, e_truB, e_truI, e_truL, e_isi_int_non, e_isi_int_bl, e_isi_int_int, e_isi_int_str, e_isi_int_list, e_isi_int_tup, e_isi_int_dict, e_isi_int_dictT, e_isi_bool_non, e_isi_bool_bl, e_isi_bool_int, e_isi_bool_str, e_isi_bool_list, e_isi_bool_tup, e_isi_bool_dict, e_isi_bool_dictT, e_isi_str_non, e_isi_str_bl, e_isi_str_int, e_isi_str_str, e_isi_str_list, e_isi_str_tup, e_isi_str_dict, e_isi_str_dictT, e_isi_list_non, e_isi_list_bl, e_isi_list_int, e_isi_list_str, e_isi_list_list, e_isi_list_tup, e_isi_list_dict, e_isi_list_dictT, e_isi_tuple_non, e_isi_tuple_bl, e_isi_tuple_int, e_isi_tuple_str, e_isi_tuple_list, e_isi_tuple_tup, e_isi_tuple_dict, e_isi_tuple_dictT, e_isi_dict_non, e_isi_dict_bl, e_isi_dict_int, e_isi_dict_str, e_isi_dict_list, e_isi_dict_tup, e_isi_dict_dict, e_isi_dict_dictT, e_iteAnd, e_iteOr, e_iteAndD, e_iteOrD, e_then_ite, e_endS_ite, e_endN_ite, e_ofR_ite, e_pick_ite, e_bind_ite, e_modI, e_fdivI, e_mul1, e_pow10, e_pow2, e_shl1, e_shrI, e_addS, e_iaddS, e_addL, e_addT, e_lenS, e_lst, e_strLit, String.reduceBEq, e_ixL0, e_ixL1, e_ixL2, e_ixL3, e_ixL4, e_ixL5, e_ixL6, e_ixL7, e_ixL8, e_ixT0, e_ixT1, e_ixT2, e_ixT3, e_ixT4, e_ixT5, e_tupleL, e_listT, e_tupleT, eqX_int, neX_int, eqX_S, neX_S, eqX_t0, neX_t0, e_catL, e_tup, e_inT, e_ninT, e_inL, e_ninL, e_slS, Int.reduceLT, Int.reduceLE, Int.reduceMul, Int.reduceAdd, Int.reduceSub, Int.reducePow, Int.reduceNeg, Int.reduceToNat, List.length_cons, List.length_nil, List.length_append, Nat.reduceAdd, Nat.reduceLeDiff, flD, List.all_cons, List.all_nil, Bool.and_true, Bool.true_and, Bool.and_self, decide_true, decide_false, or_true, true_or, and_true, true_and, eq_self, *])
local macro_rules | `(tactic| walk_at "pdu") => `(tactic| try simp -implicitDefEqProofs only [e_seq, e_forN, e_for0, e_nxn, e_nct, e_nbk, e_nrt, e_nrn, e_nex, e_next_ite, e_thn, e_trt, e_trn, e_tex, e_if, e_pick, e_pickx, e_ret, e_retN, e_set, e_drop, e_for, e_ofR, e_ofRx, e_ofI, e_nil, e_asg, endS_rt, endS_rn, endS_nx, endS_ex, endN_rn, endN_ex, gC, g1, g2, g3, gA, aNil, aCons, gAnd, gOr, gNot, gB, gTru, bAnd, bOr, bNot, gIf, iA, iSeq, gSl, pNone, pSome, ok_bind, ex_bind, st_bind, gVar, List.getElem?_cons_zero, List.getElem?_cons_succ, List.set_cons_zero, List.set_cons_succ, if_true, if_false, Bool.not_true, Bool.not_false, Bool.false_eq_true, ↓reduceIte, e_asB, e_lt, e_gt, e_le, e_ge, e_ltS, e_gtS, e_eqI, e_eqS, e_eqB, e_neI, e_neS, e_neB, e_addI, e_iaddI, e_subI, e_negI, e_andI, e_orI, e_xorI, e_lenL, e_lenT, e_ord, e_intB, e_intI, e_inS, e_ninS, e_itL, e_itT, e_itS, e_zip, e_enum, e_slL, e_slT, e_asI, e_isN1, e_isN2, e_notN1, e_notN2, e_truB, e_truI, e_truL, e_isi_int_non, e_isi_int_bl, e_isi_int_int, e_isi_int_str, e_isi_int_list, e_isi_int_tup, e_isi_int_dict, e_isi_int_dictT, e_isi_bool_non, e_isi_bool_bl, e_isi_bool_int, e_isi_bool_str, e_isi_bool_list, e_isi_bool_tup, e_isi_bool_dict, e_isi_bool_dictT, e_isi_str_non, e_isi_str_bl, e_isi_str_int, e_isi_str_str, e_isi_str_list, e_isi_str_tup, e_isi_str_dict, e_isi_str_dictT, e_isi_list_non, e_isi_list_bl, e_isi_list_int, e_isi_list_str, e_isi_list_list, e_isi_list_tup, e_isi_list_dict, e_isi_list_dictT, e_isi_tuple_non, e_isi_tuple_bl, e_isi_tuple_int, e_isi_tuple_str, e_isi_tuple_list, e_isi_tuple_tup, e_isi_tuple_dict, e_isi_tuple_dictT, e_isi_dict_non, e_isi_dict_bl, e_isi_dict_int, e_isi_dict_str, e_isi_dict_list, e_isi_dict_tup, e_isi_dict_dict, e_isi_dict_dictT, e_iteAnd, e_iteOr, e_iteAndD, e_iteOrD, e_then_ite, e_endS_ite, e_endN_ite, e_ofR_ite, e_pick_ite, e_bind_ite, e_modI, e_fdivI, e_mul1, e_pow10, e_pow2, e_shl1, e_shrI, e_addS, e_iaddS, e_addL, e_addT, e_lenS, e_lst, e_strLit, String.reduceBEq, e_ixL0, e_ixL1, e_ixL2, e_ixL3, e_ixL4, e_ixL5, e_ixL6, e_ixL7, e_ixL8, e_ixT0, e_ixT1, e_ixT2, e_ixT3, e_ixT4, e_ixT5, e_tupleL, e_listT, e_tupleT, eqX_int, neX_int, eqX_S, neX_S, eqX_t0, neX_t0, e_catL, e_tup, e_inT, e_ninT, e_inL, e_ninL, e_slS, Int.reduceLT, Int.reduceLE, Int.reduceMul, Int.reduceAdd, Int.reduceSub, Int.reducePow, Int.reduceNeg, Int.reduceToNat, List.length_cons, List.length_nil, List.length_append, Nat.reduceAdd, Nat.reduceLeDiff, flD, List.all_cons, List.all_nil, Bool.and_true, Bool.true_and, Bool.and_self, decide_true, decide_false, or_true, true_or, and_true, true_and, eq_self])
local macro_rules | `(tactic| walk_at "pdq") => `(tactic| try simp -implicitDefEqProofs only [e_seq, q_seq, q_tnx, q_tex, q_trt, q_then_ite, q_if, q_pick, q_pickx, q_pick_ite, q_nil, q_raise, cl_nil, cl_f, cl_t, cl_n, e_thn, e_trt, e_trn, e_tex, e_if, e_pick, e_pickx, e_ret, e_retN, e_set, e_drop, e_for, e_ofR, e_ofRx, e_ofI, e_nil, e_asg, endS_rt, endS_rn, endS_nx, endS_ex, endN_rn, endN_ex, gC, g1, g2, g3, gA, aNil, aCons, gAnd, gOr, gNot, gB, gTru, bAnd, bOr, bNot, gIf, iA, iSeq, gSl, pNone, pSome, ok_bind, ex_bind, st_bind, gVar, List.getElem?_cons_zero, List.getElem?_cons_succ, List.set_cons_zero, List.set_cons_succ, if_true, if_false, Bool.not_true, Bool.not_false, Bool.false_eq_true, ↓reduceIte, e_asB, e_lt, e_gt, e_le, e_ge, e_ltS, e_gtS, e_eqI, e_eqS, e_eqB, e_neI, e_neS, e_neB, e_addI, e_iaddI, e_subI, e_negI, e_andI, e_orI, e_xorI, e_lenL, e_lenT, e_ord, e_intB, e_intI, e_inS, e_ninS, e_itL, e_itT, e_itS, e_zip, e_enum, e_slL, e_slT, e_asI, e_isN1, e_isN2, e_notN1, e_notN2, e_truB, e_truI, e_truL, e_isi_int_non, e_isi_int_bl, e_isi_int_int, e_isi_int_str, e_isi_int_list, e_isi_int_tup, e_isi_int_dict, e_isi_int_dictT, e_isi_bool_non, e_isi_bool_bl, e_isi_bool_int, e_isi_bool_str, e_isi_bool_list, e_isi_bool_tup, e_isi_bool_dict, e_isi_bool_dictT, e_isi_str_non, e_isi_str_bl, e_isi_str_int, e_isi_str_str, e_isi_str_list, e_isi_str_tup, e_isi_str_dict, e_isi_str_dictT, e_isi_list_non, e_isi_list_bl, e_isi_list_int, e_isi_list_str, e_isi_list_list, e_isi_list_tup, e_isi_list_dict, e_isi_list_dictT, e_isi_tuple_non, e_isi_tuple_bl, e_isi_tuple_int, e_isi_tuple_str, e_isi_tuple_list, e_isi_tuple_tup, e_isi_tuple_dict, e_isi_tuple_dictT, e_isi_dict_non, e_isi_dict_bl, e_isi_dict_int, e_isi_dict_str, e_isi_dict_list, e_isi_dict_tup, e_isi_dict_dict, e_isi_dict_dictT, e_iteAnd, e_iteOr, e_iteAndD, e_iteOrD, e_then_ite, e_endS_ite, e_endN_ite, e_ofR_ite, e_pick_ite, e_bind_ite, e_modI, e_fdivI, e_mul1, e_pow10, e_pow2, e_shl1, e_shrI, e_addS, e_iaddS, e_addL, e_addT, e_lenS, e_lst, e_strLit, String.reduceBEq, e_ixL0, e_ixL1, e_ixL2, e_ixL3, e_ixL4, e_ixL5, e_ixL6, e_ixL7, e_ixL8, e_ixT0, e_ixT1, e_ixT2, e_ixT3, e_ixT4, e_ixT5, e_tupleL, e_listT, e_tupleT, eqX_int, neX_int, eqX_S, neX_S, eqX_t0, neX_t0, e_catL, e_tup, e_inT, e_ninT, e_inL, e_ninL, e_slS, Int.reduceLT, Int.reduceLE, Int.reduceMul, Int.reduceAdd, Int.reduceSub, Int.reducePow, Int.reduceNeg, Int.reduceToNat, List.length_cons, List.length_nil, List.length_append, Nat.reduceAdd, Nat.reduceLeDiff, flD, List.all_cons, List.all_nil, Bool.and_true, Bool.true_and, Bool.and_self, decide_true, decide_false, or_true, true_or, and_true, true_and, eq_self])
local macro_rules | `(tactic| walk_at "pdr") => `(tactic| try simp -implicitDefEqProofs only [e_seq, q_seq, q_tnx, q_tex, q_trt, q_then_ite, q_nil, q_raise, cl_nil, cl_f, cl_t, cl_n, s_ok, s_ex, e_sqRet, e_sqSet, e_sqExpr, e_sqAsg, asg_some, e_tqName, e_tqTup2, e_qP, e_upok, e_upex, e_qVar, e_varok, e_qNew, e_newok, rq_ok, rq_ex, e_aqN, e_aqC, e_qPA, e_qCall, e_qTup, e_tupP2, e_qSn, e_qSnT, e_tok, e_qT, e_up_ite, pk_ite, s_ite, tst_ite, e_end_ite, q_ifS, pk_ok, e_q2, op2_ii, op2_ss, op2_si, e_qLst, lstP1, e_iqR,  sn_nil, sn_s, sn_n, fu_f, e_qIx, e_endrt, e_endnx, List.map_cons, List.map_nil, Bool.or_false, Bool.or_true, Bool.true_or, Bool.false_or, e_thn, e_trt, e_trn, e_tex, e_if, e_pick, e_pickx, e_ret, e_retN, e_set, e_drop, e_for, e_ofR, e_ofRx, e_ofI, e_nil, e_asg, endS_rt, endS_rn, endS_nx, endS_ex, endN_rn, endN_ex, gC, g1, g2, g3, gA, aNil, aCons, gAnd, gOr, gNot, gB, gTru, bAnd, bOr, bNot, gIf, iA, iSeq, gSl, pNone, pSome, ok_bind, ex_bind, st_bind, gVar, List.getElem?_cons_zero, List.getElem?_cons_succ, List.set_cons_zero, List.set_cons_succ, if_true, if_false, Bool.not_true, Bool.not_false, Bool.false_eq_true, ↓reduceIte, e_asB, e_lt, e_gt, e_le, e_ge, e_ltS, e_gtS, e_eqI, e_eqS, e_eqB, e_neI, e_neS, e_neB, e_addI, e_iaddI, e_subI, e_negI, e_andI, e_orI, e_xorI, e_lenL, e_lenT, e_ord, e_intB, e_intI, e_inS, e_ninS, e_itL, e_itT, e_itS, e_zip, e_enum, e_slL, e_slT, e_asI, e_isN1, e_isN2, e_notN1, e_notN2, e_truB, e_truI, e_truL, e_isi_int_non, e_isi_int_bl, e_isi_int_int, e_isi_int_str, e_isi_int_list, e_isi_int_tup, e_isi_int_dict, e_isi_int_dictT, e_isi_bool_non, e_isi_bool_bl, e_isi_bool_int, e_isi_bool_str, e_isi_bool_list, e_isi_bool_tup, e_isi_bool_dict, e_isi_bool_dictT, e_isi_str_non, e_isi_str_bl, e_isi_str_int, e_isi_str_str, e_isi_str_list, e_isi_str_tup, e_isi_str_dict, e_isi_str_dictT, e_isi_list_non, e_isi_list_bl, e_isi_list_int, e_isi_list_str, e_isi_list_list, e_isi_list_tup, e_isi_list_dict, e_isi_list_dictT, e_isi_tuple_non, e_isi_tuple_bl, e_isi_tuple_int, e_isi_tuple_str, e_isi_tuple_list, e_isi_tuple_tup, e_isi_tuple_dict, e_isi_tuple_dictT, e_isi_dict_non, e_isi_dict_bl, e_isi_dict_int, e_isi_dict_str, e_isi_dict_list, e_isi_dict_tup, e_isi_dict_dict, e_isi_dict_dictT, e_iteAnd, e_iteOr, e_iteAndD, e_iteOrD, e_then_ite, e_endS_ite, e_endN_ite, e_ofR_ite, e_pick_ite, e_bind_ite, e_modI, e_fdivI, e_mul1, e_pow10, e_pow2, e_shl1, e_shrI, e_addS, e_iaddS, e_addL, e_addT, e_lenS, e_lst, e_strLit, String.reduceBEq, e_ixL0, e_ixL1, e_ixL2, e_ixL3, e_ixL4, e_ixL5, e_ixL6, e_ixL7, e_ixL8, e_ixT0, e_ixT1, e_ixT2, e_ixT3, e_ixT4, e_ixT5, e_tupleL, e_listT, e_tupleT, eqX_int, neX_int, eqX_S, neX_S, eqX_t0, neX_t0, e_catL, e_tup, e_inT, e_ninT, e_inL, e_ninL, e_slS, Int.reduceLT, Int.reduceLE, Int.reduceMul, Int.reduceAdd, Int.reduceSub, Int.reducePow, Int.reduceNeg, Int.reduceToNat, List.length_cons, List.length_nil, List.length_append, Nat.reduceAdd, Nat.reduceLeDiff, flD, List.all_cons, List.all_nil, Bool.and_true, Bool.true_and, Bool.and_self, decide_true, decide_false, or_true, true_or, and_true, true_and, eq_self])
local macro_rules | `(tactic| walk_at "pdv") => `(tactic| try simp -implicitDefEqProofs only [e_seq, Int.reduceBEq, Int.cast_ofNat_Int, e_thn, e_trt, e_trn, e_tex, e_if, e_pick, e_pickx, e_ret, e_retN, e_set, e_drop, e_for, e_ofR, e_ofRx, e_ofI, e_nil, e_asg, endS_rt, endS_rn, endS_nx, endS_ex, endN_rn, endN_ex, gC, g1, g2, g3, gA, aNil, aCons, gAnd, gOr, gNot, gB, gTru, bAnd, bOr, bNot, gIf, iA, iSeq, gSl, pNone, pSome, ok_bind, ex_bind, st_bind, gVar, List.getElem?_cons_zero, List.getElem?_cons_succ, List.set_cons_zero, List.set_cons_succ, if_true, if_false, Bool.not_true, Bool.not_false, Bool.false_eq_true, ↓reduceIte, e_asB, e_lt, e_gt, e_le, e_ge, e_ltS, e_gtS, e_eqI, e_eqS, e_eqB, e_neI, e_neS, e_neB, e_addI, e_iaddI, e_subI, e_negI, e_andI, e_orI, e_xorI, e_lenL, e_lenT, e_ord, e_intB, e_intI, e_inS, e_ninS, e_itL, e_itT, e_itS, e_zip, e_enum, e_slL, e_slT, e_asI, e_isN1, e_isN2, e_notN1, e_notN2, e_truB, e_truI, e_truL, e_isi_int_non, e_isi_int_bl, e_isi_int_int, e_isi_int_str, e_isi_int_list, e_isi_int_tup, e_isi_int_dict, e_isi_int_dictT, e_isi_bool_non, e_isi_bool_bl, e_isi_bool_int, e_isi_bool_str, e_isi_bool_list, e_isi_bool_tup, e_isi_bool_dict, e_isi_bool_dictT, e_isi_str_non, e_isi_str_bl, e_isi_str_int, e_isi_str_str, e_isi_str_list, e_isi_str_tup, e_isi_str_dict, e_isi_str_dictT, e_isi_list_non, e_isi_list_bl, e_isi_list_int, e_isi_list_str, e_isi_list_list, e_isi_list_tup, e_isi_list_dict, e_isi_list_dictT, e_isi_tuple_non, e_isi_tuple_bl, e_isi_tuple_int, e_isi_tuple_str, e_isi_tuple_list, e_isi_tuple_tup, e_isi_tuple_dict, e_isi_tuple_dictT, e_isi_dict_non, e_isi_dict_bl, e_isi_dict_int, e_isi_dict_str, e_isi_dict_list, e_isi_dict_tup, e_isi_dict_dict, e_isi_dict_dictT, e_iteAnd, e_iteOr, e_iteAndD, e_iteOrD, e_then_ite, e_endS_ite, e_endN_ite, e_ofR_ite, e_pick_ite, e_bind_ite, e_modI, e_fdivI, e_mul1, e_pow10, e_pow2, e_shl1, e_shrI, e_addS, e_iaddS, e_addL, e_addT, e_lenS, e_lst, e_strLit, String.reduceBEq, e_ixL0, e_ixL1, e_ixL2, e_ixL3, e_ixL4, e_ixL5, e_ixL6, e_ixL7, e_ixL8, e_ixT0, e_ixT1, e_ixT2, e_ixT3, e_ixT4, e_ixT5, e_tupleL, e_listT, e_tupleT, eqX_int, neX_int, eqX_S, neX_S, eqX_t0, neX_t0, e_catL, e_tup, e_inT, e_ninT, e_inL, e_ninL, e_slS, Int.reduceLT, Int.reduceLE, Int.reduceMul, Int.reduceAdd, Int.reduceSub, Int.reducePow, Int.reduceNeg, Int.reduceToNat, List.length_cons, List.length_nil, List.length_append, Nat.reduceAdd, Nat.reduceLeDiff, flD, List.all_cons, List.all_nil, Bool.and_true, Bool.true_and, Bool.and_self, decide_true, decide_false, or_true, true_or, and_true, true_and, eq_self])
/-! ### read, by hand -/
def runM : List Nat → Tab → List (List Nat) → List Nat → Bool → Option Tab
  | [], R, C, c, ap => if ap = true then none else some (R ++ [C ++ [c]])
  | x :: l, R, C, c, ap => if ap = true then (if spB x = true then runM l R C (c ++ [x]) false else none) else if x = 92 then runM l R C c true else if x = 124 then runM l R (C ++ [c]) [] false else if x = 47 then runM l (R ++ [C ++ [c]]) [] [] false else runM l R C (c ++ [x]) false
def rowsD (R : Tab) : List D := R.map fun r => D.tup (rowT r)
theorem rowT_snoc (C : List (List Nat)) (c : List Nat) : rowT C ++ [D.str (TS c)] = rowT (C ++ [c]) := by
  unfold rowT
  rw [List.map_append]
  rfl
theorem rowsD_snoc (R : Tab) (r : List (List Nat)) : rowsD R ++ [D.tup (rowT r)] = rowsD (R ++ [r]) := by
  unfold rowsD
  rw [List.map_append]
  rfl
theorem two_in (c : Nat) : hasSub (Str.ofString "|/") (TS [c]) = (decide (c = 124) || decide (c = 47)) := by
  rw [show TS [c] = ⟨#[c]⟩ from rfl, hasSub_one]
  by_cases h : c < 130
  · have key : ∀ c : Nat, c < 130 → decide (c ∈ (Str.ofString "|/").cps.toList) = (decide (c = 124) || decide (c = 47)) := by decide +kernel
    exact key c h
  · have k2 : ∀ x ∈ (Str.ofString "|/").cps.toList, x < 130 := by decide +kernel
    rw [decide_eq_false fun z => h (k2 c z), decide_eq_false (by omega), decide_eq_false (by omega)]
    rfl
def Bd (R : Tab) (C : List (List Nat)) (c : List Nat) (n : Nat) : Prop := R.length + n ≤ 1000000 ∧ C.length + n ≤ 1000000 ∧ c.length + n ≤ 1000000
/-- what one sign does -/
theorem rr_step (T : D) (x : Nat) (n : Nat) (R : Tab) (C : List (List Nat)) (c : List Nat) (ap : Bool) (h : Bd R C c (n + 1)) :
    (ap = true → spB x = false → B_rows_read_0 [some T, some (.list (rowsD R)), some (.list (rowT C)), some (.str (TS c)), some (.bl ap), some (.str (TS [x]))] = .rt .non) ∧
    (ap = true → spB x = true → B_rows_read_0 [some T, some (.list (rowsD R)), some (.list (rowT C)), some (.str (TS c)), some (.bl ap), some (.str (TS [x]))] = .nx [some T, some (.list (rowsD R)), some (.list (rowT C)), some (.str (TS (c ++ [x]))), some (.bl false), some (.str (TS [x]))]) ∧
    (ap = false → x = 92 → B_rows_read_0 [some T, some (.list (rowsD R)), some (.list (rowT C)), some (.str (TS c)), some (.bl ap), some (.str (TS [x]))] = .nx [some T, some (.list (rowsD R)), some (.list (rowT C)), some (.str (TS c)), some (.bl true), some (.str (TS [x]))]) ∧
    (ap = false → x = 124 → B_rows_read_0 [some T, some (.list (rowsD R)), some (.list (rowT C)), some (.str (TS c)), some (.bl ap), some (.str (TS [x]))] = .nx [some T, some (.list (rowsD R)), some (.list (rowT (C ++ [c]))), some (.str (TS [])), some (.bl false), some (.str (TS [x]))]) ∧
    (ap = false → x = 47 → B_rows_read_0 [some T, some (.list (rowsD R)), some (.list (rowT C)), some (.str (TS c)), some (.bl ap), some (.str (TS [x]))] = .nx [some T, some (.list (rowsD (R ++ [C ++ [c]]))), some (.list []), some (.str (TS [])), some (.bl false), some (.str (TS [x]))]) ∧
    (ap = false → x ≠ 92 → x ≠ 124 → x ≠ 47 → B_rows_read_0 [some T, some (.list (rowsD R)), some (.list (rowT C)), some (.str (TS c)), some (.bl ap), some (.str (TS [x]))] = .nx [some T, some (.list (rowsD R)), some (.list (rowT C)), some (.str (TS (c ++ [x]))), some (.bl false), some (.str (TS [x]))]) := by
  obtain ⟨b1, b2, b3⟩ := h
  have z : 1000000 < sizeLine := by rw [sizeLine_eq]; decide
  have lR : (rowsD R).length = R.length := by unfold rowsD; rw [List.length_map]
  have lC : (rowT C).length = C.length := by unfold rowT; rw [List.length_map]
  have lC1 : (rowT (C ++ [c])).length = C.length + 1 := by unfold rowT; rw [List.length_map, List.length_append]; rfl
  have aug : sAug 3 iaddD (gVar 5) [some T, some (.list (rowsD R)), some (.list (rowT C)), some (.str (TS c)), some (.bl ap), some (.str (TS [x]))] = .nx [some T, some (.list (rowsD R)), some (.list (rowT C)), some (.str (TS (c ++ [x]))), some (.bl ap), some (.str (TS [x]))] := aug_TS (i := 3) (a := c) (b := [x]) rfl rfl (by show _ + 1 ≤ _; omega)
  have app : sAppend 2 (gVar 3) [some T, some (.list (rowsD R)), some (.list (rowT C)), some (.str (TS c)), some (.bl ap), some (.str (TS [x]))] = .nx [some T, some (.list (rowsD R)), some (.list (rowT (C ++ [c]))), some (.str (TS c)), some (.bl ap), some (.str (TS [x]))] := by
    rw [e_append (rowT C) rfl]
    walk_at "pd"
    rw [if_pos (by omega), rowT_snoc]
  unfold B_rows_read_0
  refine ⟨?_, ?_, ?_, ?_, ?_, ?_⟩
  · rintro rfl hs
    walk_at "pd"
    rw [sp_in, hs]
    walk_at "pd"
  · rintro rfl hs
    walk_at "pd"
    rw [sp_in, hs]
    walk_at "pd"
    rw [aug]
    walk_at "pd"
  · rintro rfl rfl
    walk_at "pd"
    rw [lit92, one_eq, decide_eq_true rfl]
    walk_at "pd"
  · rintro rfl rfl
    walk_at "pd"
    rw [lit92, one_eq, decide_eq_false (by decide), two_in, show (decide (124 = 124) || decide (124 = 47)) = true from rfl]
    walk_at "pd"
    rw [app]
    walk_at "pd"
    rw [lit47, one_eq, decide_eq_false (by decide), lit0]
    walk_at "pd"
  · rintro rfl rfl
    walk_at "pd"
    rw [lit92, one_eq, decide_eq_false (by decide), two_in, show (decide (47 = 124) || decide (47 = 47)) = true from rfl]
    walk_at "pd"
    rw [app]
    walk_at "pd"
    rw [lit47, one_eq, decide_eq_true rfl, lit0]
    walk_at "pd"
    rw [e_append (rowsD R) rfl]
    walk_at "pd"
    rw [if_pos (by omega), rowsD_snoc]
  · rintro rfl h1 h2 h3
    walk_at "pd"
    rw [lit92, one_eq, decide_eq_false h1, two_in, decide_eq_false h2, decide_eq_false h3, Bool.or_self]
    walk_at "pd"
    rw [aug]
def rrTail : Rho → S := (sSeq (sIf (gTru (gVar 4)) (sRet (gC .non)) sNil) (sSeq (sAppend 2 (gVar 3)) (sSeq (sAppend 1 (gA tupleD (aCons (gVar 2) aNil))) (sRet (gA tupleD (aCons (gVar 1) aNil))))))
def outD : Option Tab → D
  | some R => tabD R
  | none => .non
theorem rr_loop (T : D) : ∀ (l : List Nat) (R : Tab) (C : List (List Nat)) (c : List Nat) (ap : Bool) (o : Option D), Bd R C c (l.length + 1) →
    endS ((forL (τName 5) B_rows_read_0 (signs (TS l)) [some T, some (.list (rowsD R)), some (.list (rowT C)), some (.str (TS c)), some (.bl ap), o]).then rrTail) = .ok (outD (runM l R C c ap))
  | [], R, C, c, ap, o, h => by
    obtain ⟨b1, b2, b3⟩ := h
    have z : 1000000 < sizeLine := by rw [sizeLine_eq]; decide
    have lR : (rowsD R).length = R.length := by unfold rowsD; rw [List.length_map]
    have lC : (rowT C).length = C.length := by unfold rowT; rw [List.length_map]
    show endS (rrTail [some T, some (.list (rowsD R)), some (.list (rowT C)), some (.str (TS c)), some (.bl ap), o]) = _
    unfold rrTail runM
    cases ap with
    | true => rfl
    | false =>
      walk_at "pd"
      rw [e_append (rowT C) rfl]
      walk_at "pd"
      rw [if_pos (by rw [List.length_nil] at *; omega), rowT_snoc]
      walk_at "pd"
      rw [e_append (rowsD R) rfl]
      walk_at "pd"
      rw [if_pos (by rw [List.length_nil] at *; omega), rowsD_snoc]
      walk_at "pd"
      rfl
  | x :: l, R, C, c, ap, o, h => by
    obtain ⟨s1, s2, s3, s4, s5, s6⟩ := rr_step T x l.length R C c ap (by obtain ⟨b1, b2, b3⟩ := h; rw [List.length_cons] at *; exact ⟨by omega, by omega, by omega⟩)
    obtain ⟨b1, b2, b3⟩ := h
    rw [List.length_cons] at b1 b2 b3
    have key : ∀ ρ2, B_rows_read_0 [some T, some (.list (rowsD R)), some (.list (rowT C)), some (.str (TS c)), some (.bl ap), some (.str (TS [x]))] = .nx ρ2 → forL (τName 5) B_rows_read_0 (signs (TS (x :: l))) [some T, some (.list (rowsD R)), some (.list (rowT C)), some (.str (TS c)), some (.bl ap), o] = forL (τName 5) B_rows_read_0 (signs (TS l)) ρ2 := fun ρ2 e => by
      show (B_rows_read_0 [some T, some (.list (rowsD R)), some (.list (rowT C)), some (.str (TS c)), some (.bl ap), some (.str (TS [x]))]).next (forL (τName 5) B_rows_read_0 (signs (TS l))) = _
      rw [e]
      rfl
    unfold runM
    cases ap with
    | true =>
      rw [if_pos rfl]
      by_cases hs : spB x = true
      · rw [if_pos hs, key _ (s2 rfl hs)]
        exact rr_loop T l R C (c ++ [x]) false _ ⟨by omega, by omega, by rw [List.length_append]; show _ + 1 + _ ≤ _; omega⟩
      · rw [if_neg hs]
        show endS (((B_rows_read_0 [some T, some (.list (rowsD R)), some (.list (rowT C)), some (.str (TS c)), some (.bl true), some (.str (TS [x]))]).next (forL (τName 5) B_rows_read_0 (signs (TS l)))).then _) = _
        rw [s1 rfl (by simpa using hs)]
        rfl
    | false =>
      rw [if_neg (by decide)]
      by_cases h1 : x = 92
      · rw [if_pos h1, key _ (s3 rfl h1)]
        exact rr_loop T l R C c true _ ⟨by omega, by omega, by omega⟩
      rw [if_neg h1]
      by_cases h2 : x = 124
      · rw [if_pos h2, key _ (s4 rfl h2)]
        exact rr_loop T l R (C ++ [c]) [] false _ ⟨by omega, by rw [List.length_append]; show _ + 1 + _ ≤ _; omega, by show 0 + _ ≤ _; omega⟩
      rw [if_neg h2]
      by_cases h3 : x = 47
      · rw [if_pos h3, key _ (s5 rfl h3)]
        exact rr_loop T l (R ++ [C ++ [c]]) [] [] false _ ⟨by rw [List.length_append]; show _ + 1 + _ ≤ _; omega, by show 0 + _ ≤ _; omega, by show 0 + _ ≤ _; omega⟩
      rw [if_neg h3, key _ (s6 rfl h1 h2 h3)]
      exact rr_loop T l R C (c ++ [x]) false _ ⟨by omega, by omega, by rw [List.length_append]; show _ + 1 + _ ≤ _; omega⟩
theorem rows_read_at (l : List Nat) (hl : l.length ≤ 100000) : F_rows_read [.str (TS l)] = .ok (outD (runM l [] [] [] false)) := by
  show endS (S_rows_read [some (.str (TS l)), none, none, none, none, none]) = _
  unfold S_rows_read
  walk_at "pd"
  rw [lit0]
  exact rr_loop (.str (TS l)) l [] [] [] false none ⟨by show 0 + _ ≤ _; omega, by show 0 + _ ≤ _; omega, by show 0 + _ ≤ _; omega⟩

end Pd

set_option maxHeartbeats 4000000
namespace Pd
open PySem PySem.Spec PyProof.Rows L2
local macro_rules | `(tactic| walk_at "pd") => `(tactic| try simp -implicitDefEqProofs only [e_seq, e_thn, e_trt, e_trn, e_tex, e_if, e_pick, e_pickx, e_ret, e_retN, e_set, e_drop, e_for, e_ofR, e_ofRx, e_ofI, e_nil, e_asg, endS_rt, endS_rn, endS_nx, endS_ex, endN_rn, endN_ex, gC, g1, g2, g3, gA, aNil, aCons, gAnd, gOr, gNot, gB, gTru, bAnd, bOr, bNot, gIf, iA, iSeq, gSl, pNone, pSome, ok_bind, ex_bind, st_bind, gVar, List.getElem?_cons_zero, List.getElem?_cons_succ, List.set_cons_zero, List.set_cons_succ, if_true, if_false, Bool.not_true, Bool.not_false, Bool.false_eq_true, ↓reduceIte, e_asB, e_lt, e_gt, e_le, e_ge, e_ltS, e_gtS, e_eqI, e_eqS, e_eqB, e_neI, e_neS, e_neB, e_addI, e_iaddI, e_subI, e_negI, e_andI, e_orI, e_xorI, e_lenL, e_lenT, e_ord, e_intB, e_intI, e_inS, e_ninS, e_itL, e_itT, e_itS, e_zip, e_enum, e_slL, e_slT, e_asI, e_isN1, e_isN2, e_notN1, e_notN2, e_truB, e_truI, e_truL, e_isi_int_non, e_isi_int_bl, e_isi_int_int, e_isi_int_str, e_isi_int_list, e_isi_int_tup, e_isi_int_dict, e_isi_int_dictT, e_isi_bool_non, e_isi_bool_bl, e_isi_bool_int, e_isi_bool_str, e_isi_bool_list, e_isi_bool_tup, e_isi_bool_dict, e_isi_bool_dictT, e_isi_str_non, e_isi_str_bl, e_isi_str_int, e_isi_str_str, e_isi_str_list, e_isi_str_tup, e_isi_str_dict, e_isi_str_dictT, e_isi_list_non, e_isi_list_bl, e_isi_list_int, e_isi_list_str, e_isi_list_list, e_isi_list_tup, e_isi_list_dict, e_isi_list_dictT, e_isi_tuple_non, e_isi_tuple_bl, e_isi_tuple_int, e_isi_tuple_str, e_isi_tuple_list, e_isi_tuple_tup, e_isi_tuple_dict, e_isi_tuple_dictT, e_isi_dict_non, e_isi_dict_bl, e_isi_dict_int, e_isi_dict_str, e_isi_dict_list, e_isi_dict_tup, e_isi_dict_dict, e_isi_dict_dictT, e_iteAnd, e_iteOr, e_iteAndD, e_iteOrD, e_then_ite, e_endS_ite, e_endN_ite, e_ofR_ite, e_pick_ite, e_bind_ite, e_modI, e_fdivI, e_mul1, e_pow10, e_pow2, e_shl1, e_shrI, e_addS, e_iaddS, e_addL, e_addT, e_lenS, e_lst, e_strLit, String.reduceBEq, e_ixL0, e_ixL1, e_ixL2, e_ixL3, e_ixL4, e_ixL5, e_ixL6, e_ixL7, e_ixL8, e_ixT0, e_ixT1, e_ixT2, e_ixT3, e_ixT4, e_ixT5, e_tupleL, e_listT, e_tupleT, eqX_int, neX_int, eqX_S, neX_S, eqX_t0, neX_t0, e_catL, e_tup, e_inT, e_ninT, e_inL, e_ninL, e_slS, Int.reduceLT, Int.reduceLE, Int.reduceMul, Int.reduceAdd, Int.reduceSub, Int.reducePow, Int.reduceNeg, Int.reduceToNat, List.length_cons, List.length_nil, List.length_append, Nat.reduceAdd, Nat.reduceLeDiff, flD, List.all_cons, List.all_nil, Bool.and_true, Bool.true_and, Bool.and_self, decide_true, decide_false, or_true, true_or, and_true, true_and, eq_self])
local macro_rules | `(tactic| walk_at "pdh") => `(tactic| try simp -implicitDefEqProofs only [e_seq, e_thn, e_trt, e_trn, e_tex, e_if, e_pick, e_pickx, e_ret, e_retN, e_set, e_drop, e_for, e_ofR, e_ofRx, e_ofI, e_nil, e_asg, endS_rt, endS_rn, endS_nx, endS_ex, endN_rn, endN_ex, gC, g1, g2, g3, gA, aNil, aCons, gAnd, gOr, gNot, gB, gTru, bAnd, bOr, bNot, gIf, iA, iSeq, gSl, pNone, pSome, ok_bind, ex_bind, st_bind, gVar, List.getElem?_cons_zero, List.getElem?_cons_succ, List.set_cons_zero, List.set_cons_succ, if_true, if_false, Bool.not_true, Bool.not_false, Bool.false_eq_true, ↓reduceIte, e_asB, e_lt, e_gt, e_le, e_ge, e_ltS, e_gtS, e_eqI, e_eqS, e_eqB, e_neI, e_neS, e_neB, e_addI, e_iaddI, e_subI, e_negI, e_andI, e_orI, e_xorI, e_lenL, e_lenT, e_ord, e_intB, e_intI, e_inS, e_ninS, e_itL, e_itT, e_itS, e_zip, e_enum, e_slL, e_slT, e_asI, e_isN1, e_isN2, e_notN1, e_notN2, e_truB, e_truI, e_truL, e_isi_int_non, e_isi_int_bl, e_isi_int_int, e_isi_int_str, e_isi_int_list, e_isi_int_tup, e_isi_int_dict, e_isi_int_dictT, e_isi_bool_non, e_isi_bool_bl, e_isi_bool_int, e_isi_bool_str, e_isi_bool_list, e_isi_bool_tup, e_isi_bool_dict, e_isi_bool_dictT, e_isi_str_non, e_isi_str_bl, e_isi_str_int, e_isi_str_str, e_isi_str_list, e_isi_str_tup, e_isi_str_dict, e_isi_str_dictT, e_isi_list_non, e_isi_list_bl, e_isi_list_int, e_isi_list_str, e_isi_list_list, e_isi_list_tup, e_isi_list_dict, e_isi_list_dictT, e_isi_tuple_non, e_isi_tuple_bl, e_isi_tuple_int, e_isi_tuple_str, e_isi_tuple_list, e_isi_tuple_tup, e_isi_tuple_dict, e_isi_tuple_dictT, e_isi_dict_non, e_isi_dict_bl, e_isi_dict_int, e_isi_dict_str, e_isi_dict_list, e_isi_dict_tup, e_isi_dict_dict, e_isi_dict_dictT, e_iteAnd, e_iteOr, e_iteAndD, e_iteOrD, e_then_ite, e_endS_ite, e_endN_ite, e_ofR_ite, e_pick_ite, e_bind_ite, e_modI, e_fdivI, e_mul1, e_pow10, e_pow2, e_shl1, e_shrI, e_addS, e_iaddS, e_addL, e_addT, e_lenS, e_lst, e_strLit, String.reduceBEq, e_ixL0, e_ixL1, e_ixL2, e_ixL3, e_ixL4, e_ixL5, e_ixL6, e_ixL7, e_ixL8, e_ixT0, e_ixT1, e_ixT2, e_ixT3, e_ixT4, e_ixT5, e_tupleL, e_listT, e_tupleT, eqX_int, neX_int, eqX_S, neX_S, eqX_t0, neX_t0, e_catL, e_tup, e_inT, e_ninT, e_inL, e_ninL, e_slS, Int.reduceLT, Int.reduceLE, Int.reduceMul, Int.reduceAdd, Int.reduceSub, Int.reducePow, Int.reduceNeg, Int.reduceToNat, List.length_cons, List.length_nil, List.length_append, Nat.reduceAdd, Nat.reduceLeDiff, flD, List.all_cons, List.all_nil, Bool.and_true, Bool.true_and, Bool.and_self, decide_true, decide_false, or_true, true_or, and_true, true_and, eq_self, *])
local macro_rules | `(tactic| walk_at "pdu") => `(tactic| try simp -implicitDefEqProofs only [e_seq, e_forN, e_for0, e_nxn, e_nct, e_nbk, e_nrt, e_nrn, e_nex, e_next_ite, e_thn, e_trt, e_trn, e_tex, e_if, e_pick, e_pickx, e_ret, e_retN, e_set, e_drop, e_for, e_ofR, e_ofRx, e_ofI, e_nil, e_asg, endS_rt, endS_rn, endS_nx, endS_ex, endN_rn, endN_ex, gC, g1, g2, g3, gA, aNil, aCons, gAnd, gOr, gNot, gB, gTru, bAnd, bOr, bNot, gIf, iA, iSeq, gSl, pNone, pSome, ok_bind, ex_bind, st_bind, gVar, List.getElem?_cons_zero, List.getElem?_cons_succ, List.set_cons_zero, List.set_cons_succ, if_true, if_false, Bool.not_true, Bool.not_false, Bool.false_eq_true, ↓reduceIte, e_asB, e_lt, e_gt, e_le, e_ge, e_ltS, e_gtS, e_eqI, e_eqS, e_eqB, e_neI, e_neS, e_neB, e_addI, e_iaddI, e_subI, e_negI, e_andI, e_orI, e_xorI, e_lenL, e_lenT, e_ord, e_intB, e_intI, e_inS, e_ninS, e_itL, e_itT, e_itS, e_zip, e_enum, e_slL, e_slT, e_asI, e_isN1, e_isN2, e_notN1, e_notN2, e_truB, e_truI, e_truL, e_isi_int_non, e_isi_int_bl, e_isi_int_int, e_isi_int_str, e_isi_int_list, e_isi_int_tup, e_isi_int_dict, e_isi_int_dictT, e_isi_bool_non, e_isi_bool_bl, e_isi_bool_int, e_isi_bool_str, e_isi_bool_list, e_isi_bool_tup, e_isi_bool_dict, e_isi_bool_dictT, e_isi_str_non, e_isi_str_bl, e_isi_str_int, e_isi_str_str, e_isi_str_list, e_isi_str_tup, e_isi_str_dict, e_isi_str_dictT, e_isi_list_non, e_isi_list_bl, e_isi_list_int, e_isi_list_str, e_isi_list_list, e_isi_list_tup, e_isi_list_dict, e_isi_list_dictT, e_isi_tuple_non, e_isi_tuple_bl, e_isi_tuple_int, e_isi_tuple_str, e_isi_tuple_list, e_isi_tuple_tup, e_isi_tuple_dict, e_isi_tuple_dictT, e_isi_dict_non, e_isi_dict_bl, e_isi_dict_int, e_isi_dict_str, e_isi_dict_list, e_isi_dict_tup, e_isi_dict_dict, e_isi_dict_dictT, e_iteAnd, e_iteOr, e_iteAndD, e_iteOrD, e_then_ite, e_endS_ite, e_endN_ite, e_ofR_ite, e_pick_ite, e_bind_ite, e_modI, e_fdivI, e_mul1, e_pow10, e_pow2, e_shl1, e_shrI, e_addS, e_iaddS, e_addL, e_addT, e_lenS, e_lst, e_strLit, String.reduceBEq, e_ixL0, e_ixL1, e_ixL2, e_ixL3, e_ixL4, e_ixL5, e_ixL6, e_ixL7, e_ixL8, e_ixT0, e_ixT1, e_ixT2, e_ixT3, e_ixT4, e_ixT5, e_tupleL, e_listT, e_tupleT, eqX_int, neX_int, eqX_S, neX_S, eqX_t0, neX_t0, e_catL, e_tup, e_inT, e_ninT, e_inL, e_ninL, e_slS, Int.reduceLT, Int.reduceLE, Int.reduceMul, Int.reduceAdd, Int.reduceSub, Int.reducePow, Int.reduceNeg, Int.reduceToNat, List.length_cons, List.length_nil, List.length_append, Nat.reduceAdd, Nat.reduceLeDiff, flD, List.all_cons, List.all_nil, Bool.and_true, Bool.true_and, Bool.and_self, decide_true, decide_false, or_true, true_or, and_true, true_and, eq_self])
local macro_rules | `(tactic| walk_at "pdq") => `(tactic| try simp -implicitDefEqProofs only [e_seq, q_seq, q_tnx, q_tex, q_trt, q_then_ite, q_if, q_pick, q_pickx, q_pick_ite, q_nil, q_raise, cl_nil, cl_f, cl_t, cl_n, e_thn, e_trt, e_trn, e_tex, e_if, e_pick, e_pickx, e_ret, e_retN, e_set, e_drop, e_for, e_ofR, e_ofRx, e_ofI, e_nil, e_asg, endS_rt, endS_rn, endS_nx, endS_ex, endN_rn, endN_ex, gC, g1, g2, g3, gA, aNil, aCons, gAnd, gOr, gNot, gB, gTru, bAnd, bOr, bNot, gIf, iA, iSeq, gSl, pNone, pSome, ok_bind, ex_bind, st_bind, gVar, List.getElem?_cons_zero, List.getElem?_cons_succ, List.set_cons_zero, List.set_cons_succ, if_true, if_false, Bool.not_true, Bool.not_false, Bool.false_eq_true, ↓reduceIte, e_asB, e_lt, e_gt, e_le, e_ge, e_ltS, e_gtS, e_eqI, e_eqS, e_eqB, e_neI, e_neS, e_neB, e_addI, e_iaddI, e_subI, e_negI, e_andI, e_orI, e_xorI, e_lenL, e_lenT, e_ord, e_intB, e_intI, e_inS, e_ninS, e_itL, e_itT, e_itS, e_zip, e_enum, e_slL, e_slT, e_asI, e_isN1, e_isN2, e_notN1, e_notN2, e_truB, e_truI, e_truL, e_isi_int_non, e_isi_int_bl, e_isi_int_int, e_isi_int_str, e_isi_int_list, e_isi_int_tup, e_isi_int_dict, e_isi_int_dictT, e_isi_bool_non, e_isi_bool_bl, e_isi_bool_int, e_isi_bool_str, e_isi_bool_list, e_isi_bool_tup, e_isi_bool_dict, e_isi_bool_dictT, e_isi_str_non, e_isi_str_bl, e_isi_str_int, e_isi_str_str, e_isi_str_list, e_isi_str_tup, e_isi_str_dict, e_isi_str_dictT, e_isi_list_non, e_isi_list_bl, e_isi_list_int, e_isi_list_str, e_isi_list_list, e_isi_list_tup, e_isi_list_dict, e_isi_list_dictT, e_isi_tuple_non, e_isi_tuple_bl, e_isi_tuple_int, e_isi_tuple_str, e_isi_tuple_list, e_isi_tuple_tup, e_isi_tuple_dict, e_isi_tuple_dictT, e_isi_dict_non, e_isi_dict_bl, e_isi_dict_int, e_isi_dict_str, e_isi_dict_list, e_isi_dict_tup, e_isi_dict_dict, e_isi_dict_dictT, e_iteAnd, e_iteOr, e_iteAndD, e_iteOrD, e_then_ite, e_endS_ite, e_endN_ite, e_ofR_ite, e_pick_ite, e_bind_ite, e_modI, e_fdivI, e_mul1, e_pow10, e_pow2, e_shl1, e_shrI, e_addS, e_iaddS, e_addL, e_addT, e_lenS, e_lst, e_strLit, String.reduceBEq, e_ixL0, e_ixL1, e_ixL2, e_ixL3, e_ixL4, e_ixL5, e_ixL6, e_ixL7, e_ixL8, e_ixT0, e_ixT1, e_ixT2, e_ixT3, e_ixT4, e_ixT5, e_tupleL, e_listT, e_tupleT, eqX_int, neX_int, eqX_S, neX_S, eqX_t0, neX_t0, e_catL, e_tup, e_inT, e_ninT, e_inL, e_ninL, e_slS, Int.reduceLT, Int.reduceLE, Int.reduceMul, Int.reduceAdd, Int.reduceSub, Int.reducePow, Int.reduceNeg, Int.reduceToNat, List.length_cons, List.length_nil, List.length_append, Nat.reduceAdd, Nat.reduceLeDiff, flD, List.all_cons, List.all_nil, Bool.and_true, Bool.true_and, Bool.and_self, decide_true, decide_false, or_true, true_or, and_true, true_and, eq_self])
local macro_rules | `(tactic| walk_at "pdr") => `(tactic| try simp -implicitDefEqProofs only [e_seq, q_seq, q_tnx, q_tex, q_trt, q_then_ite, q_nil, q_raise, cl_nil, cl_f, cl_t, cl_n, s_ok, s_ex, e_sqRet, e_sqSet, e_sqExpr, e_sqAsg, asg_some, e_tqName, e_tqTup2, e_qP, e_upok, e_upex, e_qVar, e_varok, e_qNew, e_newok, rq_ok, rq_ex, e_aqN, e_aqC, e_qPA, e_qCall, e_qTup, e_tupP2, e_qSn, e_qSnT, e_tok, e_qT, e_up_ite, pk_ite, s_ite, tst_ite, e_end_ite, q_ifS, pk_ok, e_q2, op2_ii, op2_ss, op2_si, e_qLst, lstP1, e_iqR,  sn_nil, sn_s, sn_n, fu_f, e_qIx, e_endrt, e_endnx, List.map_cons, List.map_nil, Bool.or_false, Bool.or_true, Bool.true_or, Bool.false_or, e_thn, e_trt, e_trn, e_tex, e_if, e_pick, e_pickx, e_ret, e_retN, e_set, e_drop, e_for, e_ofR, e_ofRx, e_ofI, e_nil, e_asg, endS_rt, endS_rn, endS_nx, endS_ex, endN_rn, endN_ex, gC, g1, g2, g3, gA, aNil, aCons, gAnd, gOr, gNot, gB, gTru, bAnd, bOr, bNot, gIf, iA, iSeq, gSl, pNone, pSome, ok_bind, ex_bind, st_bind, gVar, List.getElem?_cons_zero, List.getElem?_cons_succ, List.set_cons_zero, List.set_cons_succ, if_true, if_false, Bool.not_true, Bool.not_false, Bool.false_eq_true, ↓reduceIte, e_asB, e_lt, e_gt, e_le, e_ge, e_ltS, e_gtS, e_eqI, e_eqS, e_eqB, e_neI, e_neS, e_neB, e_addI, e_iaddI, e_subI, e_negI, e_andI, e_orI, e_xorI, e_lenL, e_lenT, e_ord, e_intB, e_intI, e_inS, e_ninS, e_itL, e_itT, e_itS, e_zip, e_enum, e_slL, e_slT, e_asI, e_isN1, e_isN2, e_notN1, e_notN2, e_truB, e_truI, e_truL, e_isi_int_non, e_isi_int_bl, e_isi_int_int, e_isi_int_str, e_isi_int_list, e_isi_int_tup, e_isi_int_dict, e_isi_int_dictT, e_isi_bool_non, e_isi_bool_bl, e_isi_bool_int, e_isi_bool_str, e_isi_bool_list, e_isi_bool_tup, e_isi_bool_dict, e_isi_bool_dictT, e_isi_str_non, e_isi_str_bl, e_isi_str_int, e_isi_str_str, e_isi_str_list, e_isi_str_tup, e_isi_str_dict, e_isi_str_dictT, e_isi_list_non, e_isi_list_bl, e_isi_list_int, e_isi_list_str, e_isi_list_list, e_isi_list_tup, e_isi_list_dict, e_isi_list_dictT, e_isi_tuple_non, e_isi_tuple_bl, e_isi_tuple_int, e_isi_tuple_str, e_isi_tuple_list, e_isi_tuple_tup, e_isi_tuple_dict, e_isi_tuple_dictT, e_isi_dict_non, e_isi_dict_bl, e_isi_dict_int, e_isi_dict_str, e_isi_dict_list, e_isi_dict_tup, e_isi_dict_dict, e_isi_dict_dictT, e_iteAnd, e_iteOr, e_iteAndD, e_iteOrD, e_then_ite, e_endS_ite, e_endN_ite, e_ofR_ite, e_pick_ite, e_bind_ite, e_modI, e_fdivI, e_mul1, e_pow10, e_pow2, e_shl1, e_shrI, e_addS, e_iaddS, e_addL, e_addT, e_lenS, e_lst, e_strLit, String.reduceBEq, e_ixL0, e_ixL1, e_ixL2, e_ixL3, e_ixL4, e_ixL5, e_ixL6, e_ixL7, e_ixL8, e_ixT0, e_ixT1, e_ixT2, e_ixT3, e_ixT4, e_ixT5, e_tupleL, e_listT, e_tupleT, eqX_int, neX_int, eqX_S, neX_S, eqX_t0, neX_t0, e_catL, e_tup, e_inT, e_ninT, e_inL, e_ninL, e_slS, Int.reduceLT, Int.reduceLE, Int.reduceMul, Int.reduceAdd, Int.reduceSub, Int.reducePow, Int.reduceNeg, Int.reduceToNat, List.length_cons, List.length_nil, List.length_append, Nat.reduceAdd, Nat.reduceLeDiff, flD, List.all_cons, List.all_nil, Bool.and_true, Bool.true_and, Bool.and_self, decide_true, decide_false, or_true, true_or, and_true, true_and, eq_self])
local macro_rules | `(tactic| walk_at "pdv") => `(tactic| try simp -implicitDefEqProofs only [e_seq, Int.reduceBEq, Int.cast_ofNat_Int, e_thn, e_trt, e_trn, e_tex, e_if, e_pick, e_pickx, e_ret, e_retN, e_set, e_drop, e_for, e_ofR, e_ofRx, e_ofI, e_nil, e_asg, endS_rt, endS_rn, endS_nx, endS_ex, endN_rn, endN_ex, gC, g1, g2, g3, gA, aNil, aCons, gAnd, gOr, gNot, gB, gTru, bAnd, bOr, bNot, gIf, iA, iSeq, gSl, pNone, pSome, ok_bind, ex_bind, st_bind, gVar, List.getElem?_cons_zero, List.getElem?_cons_succ, List.set_cons_zero, List.set_cons_succ, if_true, if_false, Bool.not_true, Bool.not_false, Bool.false_eq_true, ↓reduceIte, e_asB, e_lt, e_gt, e_le, e_ge, e_ltS, e_gtS, e_eqI, e_eqS, e_eqB, e_neI, e_neS, e_neB, e_addI, e_iaddI, e_subI, e_negI, e_andI, e_orI, e_xorI, e_lenL, e_lenT, e_ord, e_intB, e_intI, e_inS, e_ninS, e_itL, e_itT, e_itS, e_zip, e_enum, e_slL, e_slT, e_asI, e_isN1, e_isN2, e_notN1, e_notN2, e_truB, e_truI, e_truL, e_isi_int_non, e_isi_int_bl, e_isi_int_int, e_isi_int_str, e_isi_int_list, e_isi_int_tup, e_isi_int_dict, e_isi_int_dictT, e_isi_bool_non, e_isi_bool_bl, e_isi_bool_int, e_isi_bool_str, e_isi_bool_list, e_isi_bool_tup, e_isi_bool_dict, e_isi_bool_dictT, e_isi_str_non, e_isi_str_bl, e_isi_str_int, e_isi_str_str, e_isi_str_list, e_isi_str_tup, e_isi_str_dict, e_isi_str_dictT, e_isi_list_non, e_isi_list_bl, e_isi_list_int, e_isi_list_str, e_isi_list_list, e_isi_list_tup, e_isi_list_dict, e_isi_list_dictT, e_isi_tuple_non, e_isi_tuple_bl, e_isi_tuple_int, e_isi_tuple_str, e_isi_tuple_list, e_isi_tuple_tup, e_isi_tuple_dict, e_isi_tuple_dictT, e_isi_dict_non, e_isi_dict_bl, e_isi_dict_int, e_isi_dict_str, e_isi_dict_list, e_isi_dict_tup, e_isi_dict_dict, e_isi_dict_dictT, e_iteAnd, e_iteOr, e_iteAndD, e_iteOrD, e_then_ite, e_endS_ite, e_endN_ite, e_ofR_ite, e_pick_ite, e_bind_ite, e_modI, e_fdivI, e_mul1, e_pow10, e_pow2, e_shl1, e_shrI, e_addS, e_iaddS, e_addL, e_addT, e_lenS, e_lst, e_strLit, String.reduceBEq, e_ixL0, e_ixL1, e_ixL2, e_ixL3, e_ixL4, e_ixL5, e_ixL6, e_ixL7, e_ixL8, e_ixT0, e_ixT1, e_ixT2, e_ixT3, e_ixT4, e_ixT5, e_tupleL, e_listT, e_tupleT, eqX_int, neX_int, eqX_S, neX_S, eqX_t0, neX_t0, e_catL, e_tup, e_inT, e_ninT, e_inL, e_ninL, e_slS, Int.reduceLT, Int.reduceLE, Int.reduceMul, Int.reduceAdd, Int.reduceSub, Int.reducePow, Int.reduceNeg, Int.reduceToNat, List.length_cons, List.length_nil, List.length_append, Nat.reduceAdd, Nat.reduceLeDiff, flD, List.all_cons, List.all_nil, Bool.and_true, Bool.true_and, Bool.and_self, decide_true, decide_false, or_true, true_or, and_true, true_and, eq_self])
/-! ### read by the law -/
structure RI (M : Mem) (ks : List Nat) (W : Tab) : Prop where
  m1 : M[1]? = some (true, .list (ks.map D.loc))
  ln : ks.length = W.length
  nd : ks.Nodup
  n1 : ∀ k ∈ ks, k ≠ 1
  at_ : ∀ (i k : Nat) (r : List (List Nat)), ks[i]? = some k → W[i]? = some r → ∃ f, M[k]? = some (f, .list (rowT r))
theorem RI.last {M : Mem} {ks : List Nat} {W : Tab} {r : List (List Nat)} (h : RI M ks (W ++ [r])) : ∃ ks' k f, ks = ks' ++ [k] ∧ ks'.length = W.length ∧ M[k]? = some (f, .list (rowT r)) ∧ k ≠ 1 ∧ k ∉ ks' := by
  have hl := h.ln
  rw [List.length_append, List.length_cons, List.length_nil] at hl
  have hne : ks ≠ [] := fun e => by rw [e, List.length_nil] at hl; omega
  obtain ⟨ks', k, rfl⟩ : ∃ ks' k, ks = ks' ++ [k] := ⟨ks.dropLast, ks.getLast hne, (List.dropLast_concat_getLast hne).symm⟩
  rw [List.length_append, List.length_cons, List.length_nil] at hl
  have hk' : ks'.length = W.length := by omega
  obtain ⟨f, e⟩ := h.at_ W.length k r (by rw [← hk', List.getElem?_append_right (Nat.le_refl _), Nat.sub_self]; rfl) (by rw [List.getElem?_append_right (Nat.le_refl _), Nat.sub_self]; rfl)
  refine ⟨ks', k, f, rfl, hk', e, h.n1 k (by simp), fun m => ?_⟩
  have := (List.nodup_append.mp h.nd).2.2 k m k (by simp)
  exact this rfl
/-- the last row changed -/
theorem RI.put {M : Mem} {ks' : List Nat} {k : Nat} {W : Tab} {r r2 : List (List Nat)} {f : Bool} (h : RI M (ks' ++ [k]) (W ++ [r])) (hk : ks'.length = W.length) (k1 : k ≠ 1) (kn : k ∉ ks') (hM : k < M.length) : RI (M.set k (f, .list (rowT r2))) (ks' ++ [k]) (W ++ [r2]) where
  m1 := (set_ne k1).trans h.m1
  ln := by rw [List.length_append, List.length_append, hk]; rfl
  nd := h.nd
  n1 := h.n1
  at_ := fun i j r' hi hr => by
    by_cases hlt : i < ks'.length
    · rw [List.getElem?_append_left hlt] at hi
      rw [List.getElem?_append_left (by omega)] at hr
      obtain ⟨f', e⟩ := h.at_ i j r' (by rw [List.getElem?_append_left hlt]; exact hi) (by rw [List.getElem?_append_left (by omega)]; exact hr)
      exact ⟨f', (set_ne fun z => kn (by rw [z]; exact List.mem_of_getElem? hi)).trans e⟩
    · have hi2 : i = ks'.length := by
        have := (List.getElem?_eq_some_iff.mp hi).1
        rw [List.length_append, List.length_cons, List.length_nil] at this
        omega
      subst hi2
      rw [List.getElem?_append_right (Nat.le_refl _), Nat.sub_self] at hi
      rw [hk, List.getElem?_append_right (Nat.le_refl _), Nat.sub_self] at hr
      cases hi
      cases hr
      exact ⟨f, set_eq hM⟩
/-- a row more -/
theorem RI.more {M : Mem} {ks : List Nat} {W : Tab} {r : List (List Nat)} {f : Bool} (h : RI M ks W) : RI ((M ++ [((f, D.list (rowT r)) : P)]).set 1 (true, D.list ((ks ++ [M.length]).map D.loc))) (ks ++ [M.length]) (W ++ [r]) := by
  have h1 := lt_of h.m1
  have hks : ∀ k ∈ ks, k < M.length := fun k hk => by
    obtain ⟨i, hi⟩ := List.getElem?_of_mem hk
    have hi' : i < W.length := by rw [← h.ln]; exact (List.getElem?_eq_some_iff.mp hi).1
    obtain ⟨f', e⟩ := h.at_ i k W[i] hi (List.getElem?_eq_getElem hi')
    exact lt_of e
  refine ⟨set_eq (by rw [List.length_append]; omega), by rw [List.length_append, List.length_append, h.ln]; rfl, ?_, fun k hk => ?_, fun i k r' hi hr => ?_⟩
  · rw [List.nodup_append]
    refine ⟨h.nd, by simp, fun a ha b hb => ?_⟩
    simp only [List.mem_cons, List.not_mem_nil, or_false] at hb
    have := hks a ha
    omega
  · rcases List.mem_append.mp hk with z | z
    · exact h.n1 k z
    · simp only [List.mem_cons, List.not_mem_nil, or_false] at z
      omega
  · by_cases hlt : i < ks.length
    · rw [List.getElem?_append_left hlt] at hi
      rw [List.getElem?_append_left (by rw [← h.ln]; exact hlt)] at hr
      obtain ⟨f', e⟩ := h.at_ i k r' hi hr
      exact ⟨f', (set_ne (Ne.symm (h.n1 k (List.mem_of_getElem? hi)))).trans (app_l e)⟩
    · have hi2 : i = ks.length := by
        have := (List.getElem?_eq_some_iff.mp hi).1
        rw [List.length_append, List.length_cons, List.length_nil] at this
        omega
      subst hi2
      rw [List.getElem?_append_right (Nat.le_refl _), Nat.sub_self] at hi
      rw [h.ln, List.getElem?_append_right (Nat.le_refl _), Nat.sub_self] at hr
      cases hi
      cases hr
      exact ⟨f, (set_ne (by omega)).trans app_n⟩
section
variable {M : Mem} {ks' : List Nat} {k : Nat} {W : Tab} {C : List (List Nat)} {c : List Nat} {f : Bool} {a b d : Option P}
theorem lr_last (h : RI M (ks' ++ [k]) (W ++ [C ++ [c]])) : qIx (qVar 1) (qP (g1 negD (gC (.int 1)))) [a, some (true, .loc 1), b, d] M = .ok (true, .loc k) M := by
  have e : atI ((ks' ++ [k]).map D.loc) (-1) = some (.loc k) := by
    rw [List.map_append]
    exact atI_last _ _
  show ixP M (true, .loc 1) (false, .int (-1)) = _
  exact ixP_loc h.m1 e
theorem lr_set (h : RI M (ks' ++ [k]) (W ++ [C ++ [c]])) (hk : M[k]? = some (f, .list (rowT (C ++ [c])))) (hc : c.length ≤ 1000000) {y : Rho → R D} {x : Nat} (hy : y (clR [a, some (true, .loc 1), b, d]) = .ok (.str (TS [x]))) :
    sqSetIx (qIx (qVar 1) (qP (g1 negD (gC (.int 1))))) (qP (g1 negD (gC (.int 1)))) (q2 addD (qIx (qIx (qVar 1) (qP (g1 negD (gC (.int 1))))) (qP (g1 negD (gC (.int 1))))) (qP y)) [a, some (true, .loc 1), b, d] M =
      .nx [a, some (true, .loc 1), b, d] (M.set k (f || false, .list (rowT (C ++ [c ++ [x]])))) := by
  have e1 : qIx (qIx (qVar 1) (qP (g1 negD (gC (.int 1))))) (qP (g1 negD (gC (.int 1)))) [a, some (true, .loc 1), b, d] M = .ok (f, .str (TS c)) M := by
    rw [e_qIx, lr_last h, rq_ok]
    show ixP M (true, .loc k) (false, .int (-1)) = _
    exact ixP_loc hk (by rw [← rowT_snoc]; exact atI_last _ _)
  rw [e_qSetIx (p := (false, .str (TS (c ++ [x])))) (M1 := M) (M2 := M) (M3 := M) (n := k) (c := false) (i := -1) (j := (rowT C).length + 1 - 1) (b := f) (ds := rowT (C ++ [c])) (by
    rw [e_q2, e1, rq_ok, e_qP, hy, e_upok, rq_ok, op2_ss, e_addS _ _ (by rw [TS_len, TS_len]; show _ + 1 ≤ _; omega), TS_cat]
    rfl) (lr_last h) rfl hk (by
    rw [show (rowT (C ++ [c])).length = (rowT C).length + 1 by rw [← rowT_snoc, List.length_append]; rfl]
    exact ixN_last (by omega))]
  rw [← rowT_snoc, set_last, rowT_snoc]
theorem lr_cell (h : RI M (ks' ++ [k]) (W ++ [C ++ [c]])) (hk : M[k]? = some (f, .list (rowT (C ++ [c])))) (hc : C.length ≤ 1000000) :
    sqAppend (qIx (qVar 1) (qP (g1 negD (gC (.int 1))))) (qP (gC (.str ""))) [a, some (true, .loc 1), b, d] M = .nx [a, some (true, .loc 1), b, d] (M.set k (f || false, .list (rowT (C ++ [c] ++ [[]])))) := by
  rw [e_qApp (k := k) (b := f) (b0 := f) (ds := rowT (C ++ [c])) (ds0 := rowT (C ++ [c])) (p := (false, .str "")) (M1 := M) (lr_last h) hk rfl hk (by
    unfold rowT
    rw [List.length_map, List.length_append, sizeLine_eq]
    show _ + 1 < _
    omega)]
  rw [show D.str "" = D.str (TS []) from congrArg D.str lit0, rowT_snoc]
theorem lr_row {ks : List Nat} (h : RI M ks W) (hc : W.length ≤ 1000000) :
    sqAppend (qVar 1) (qNew (gA lstD (aCons (gC (.str "")) aNil))) [a, some (true, .loc 1), b, d] M = .nx [a, some (true, .loc 1), b, d] ((M ++ [((false, D.list (rowT [[]])) : P)]).set 1 (true, D.list ((ks ++ [M.length]).map D.loc))) := by
  rw [e_qApp (k := 1) (b := true) (b0 := true) (ds := ks.map D.loc) (ds0 := ks.map D.loc) (p := (true, .loc M.length)) (M1 := M ++ [((false, D.list [D.str ""]) : P)]) rfl h.m1 (by
    walk_at "pdr") (app_l h.m1) (by rw [List.length_map, h.ln, sizeLine_eq]; omega)]
  rw [show (true || (true, D.loc M.length).1) = true from rfl, List.map_append, show [D.str ""] = rowT [[]] from by rw [show D.str "" = D.str (TS []) from congrArg D.str lit0]; rfl]
  rfl
end

end Pd

set_option maxHeartbeats 4000000
namespace Pd
open PySem PySem.Spec PyProof.Rows L2
local macro_rules | `(tactic| walk_at "pd") => `(tactic| try simp -implicitDefEqProofs only [e_seq, e_thn, e_trt, e_trn, e_tex, e_if, e_pick, e_pickx, e_ret, e_retN, e_set, e_drop, e_for, e_ofR, e_ofRx, e_ofI, e_nil, e_asg, endS_rt, endS_rn, endS_nx, endS_ex, endN_rn, endN_ex, gC, g1, g2, g3, gA, aNil, aCons, gAnd, gOr, gNot, gB, gTru, bAnd, bOr, bNot, gIf, iA, iSeq, gSl, pNone, pSome, ok_bind, ex_bind, st_bind, gVar, List.getElem?_cons_zero, List.getElem?_cons_succ, List.set_cons_zero, List.set_cons_succ, if_true, if_false, Bool.not_true, Bool.not_false, Bool.false_eq_true, ↓reduceIte, e_asB, e_lt, e_gt, e_le, e_ge, e_ltS, e_gtS, e_eqI, e_eqS, e_eqB, e_neI, e_neS, e_neB, e_addI, e_iaddI, e_subI, e_negI, e_andI, e_orI, e_xorI, e_lenL, e_lenT, e_ord, e_intB, e_intI, e_inS, e_ninS, e_itL, e_itT, e_itS, e_zip, e_enum, e_slL, e_slT, e_asI, e_isN1, e_isN2, e_notN1, e_notN2, e_truB, e_truI, e_truL, e_isi_int_non, e_isi_int_bl, e_isi_int_int, e_isi_int_str, e_isi_int_list, e_isi_int_tup, e_isi_int_dict, e_isi_int_dictT, e_isi_bool_non, e_isi_bool_bl, e_isi_bool_int, e_isi_bool_str, e_isi_bool_list, e_isi_bool_tup, e_isi_bool_dict, e_isi_bool_dictT, e_isi_str_non, e_isi_str_bl, e_isi_str_int, e_isi_str_str, e_isi_str_list, e_isi_str_tup, e_isi_str_dict, e_isi_str_dictT, e_isi_list_non, e_isi_list_bl, e_isi_list_int, e_isi_list_str, e_isi_list_list, e_isi_list_tup, e_isi_list_dict, e_isi_list_dictT, e_isi_tuple_non, e_isi_tuple_bl, e_isi_tuple_int, e_isi_tuple_str, e_isi_tuple_list, e_isi_tuple_tup, e_isi_tuple_dict, e_isi_tuple_dictT, e_isi_dict_non, e_isi_dict_bl, e_isi_dict_int, e_isi_dict_str, e_isi_dict_list, e_isi_dict_tup, e_isi_dict_dict, e_isi_dict_dictT, e_iteAnd, e_iteOr, e_iteAndD, e_iteOrD, e_then_ite, e_endS_ite, e_endN_ite, e_ofR_ite, e_pick_ite, e_bind_ite, e_modI, e_fdivI, e_mul1, e_pow10, e_pow2, e_shl1, e_shrI, e_addS, e_iaddS, e_addL, e_addT, e_lenS, e_lst, e_strLit, String.reduceBEq, e_ixL0, e_ixL1, e_ixL2, e_ixL3, e_ixL4, e_ixL5, e_ixL6, e_ixL7, e_ixL8, e_ixT0, e_ixT1, e_ixT2, e_ixT3, e_ixT4, e_ixT5, e_tupleL, e_listT, e_tupleT, eqX_int, neX_int, eqX_S, neX_S, eqX_t0, neX_t0, e_catL, e_tup, e_inT, e_ninT, e_inL, e_ninL, e_slS, Int.reduceLT, Int.reduceLE, Int.reduceMul, Int.reduceAdd, Int.reduceSub, Int.reducePow, Int.reduceNeg, Int.reduceToNat, List.length_cons, List.length_nil, List.length_append, Nat.reduceAdd, Nat.reduceLeDiff, flD, List.all_cons, List.all_nil, Bool.and_true, Bool.true_and, Bool.and_self, decide_true, decide_false, or_true, true_or, and_true, true_and, eq_self])
local macro_rules | `(tactic| walk_at "pdh") => `(tactic| try simp -implicitDefEqProofs only [e_seq, e_thn, e_trt, e_trn, e_tex, e_if, e_pick, e_pickx, e_ret, e_retN, e_set, e_drop, e_for, e_ofR, e_ofRx, e_ofI, e_nil, e_asg, endS_rt, endS_rn, endS_nx, endS_ex, endN_rn, endN_ex, gC, g1, g2, g3, gA, aNil, aCons, gAnd, gOr, gNot, gB, gTru, bAnd, bOr, bNot, gIf, iA, iSeq, gSl, pNone, pSome, ok_bind, ex_bind, st_bind, gVar, List.getElem?_cons_zero, List.getElem?_cons_succ, List.set_cons_zero, List.set_cons_succ, if_true, if_false, Bool.not_true, Bool.not_false, Bool.false_eq_true, ↓reduceIte, e_asB, e_lt, e_gt, e_le, e_ge, e_ltS, e_gtS, e_eqI, e_eqS, e_eqB, e_neI, e_neS, e_neB, e_addI, e_iaddI, e_subI, e_negI, e_andI, e_orI, e_xorI, e_lenL, e_lenT, e_ord, e_intB, e_intI, e_inS, e_ninS, e_itL, e_itT, e_itS, e_zip, e_enum, e_slL, e_slT, e_asI, e_isN1, e_isN2, e_notN1, e_notN2, e_truB, e_truI, e_truL, e_isi_int_non, e_isi_int_bl, e_isi_int_int, e_isi_int_str, e_isi_int_list, e_isi_int_tup, e_isi_int_dict, e_isi_int_dictT, e_isi_bool_non, e_isi_bool_bl, e_isi_bool_int, e_isi_bool_str, e_isi_bool_list, e_isi_bool_tup, e_isi_bool_dict, e_isi_bool_dictT, e_isi_str_non, e_isi_str_bl, e_isi_str_int, e_isi_str_str, e_isi_str_list, e_isi_str_tup, e_isi_str_dict, e_isi_str_dictT, e_isi_list_non, e_isi_list_bl, e_isi_list_int, e_isi_list_str, e_isi_list_list, e_isi_list_tup, e_isi_list_dict, e_isi_list_dictT, e_isi_tuple_non, e_isi_tuple_bl, e_isi_tuple_int, e_isi_tuple_str, e_isi_tuple_list, e_isi_tuple_tup, e_isi_tuple_dict, e_isi_tuple_dictT, e_isi_dict_non, e_isi_dict_bl, e_isi_dict_int, e_isi_dict_str, e_isi_dict_list, e_isi_dict_tup, e_isi_dict_dict, e_isi_dict_dictT, e_iteAnd, e_iteOr, e_iteAndD, e_iteOrD, e_then_ite, e_endS_ite, e_endN_ite, e_ofR_ite, e_pick_ite, e_bind_ite, e_modI, e_fdivI, e_mul1, e_pow10, e_pow2, e_shl1, e_shrI, e_addS, e_iaddS, e_addL, e_addT, e_lenS, e_lst, e_strLit, String.reduceBEq, e_ixL0, e_ixL1, e_ixL2, e_ixL3, e_ixL4, e_ixL5, e_ixL6, e_ixL7, e_ixL8, e_ixT0, e_ixT1, e_ixT2, e_ixT3, e_ixT4, e_ixT5, e_tupleL, e_listT, e_tupleT, eqX_int, neX_int, eqX_S, neX_S, eqX_t0, neX_t0, e_catL, e_tup, e_inT, e_ninT, e_inL, e_ninL, e_slS, Int.reduceLT, Int.reduceLE, Int.reduceMul, Int.reduceAdd, Int.reduceSub, Int.reducePow, Int.reduceNeg, Int.reduceToNat, List.length_cons, List.length_nil, List.length_append, Nat.reduceAdd, Nat.reduceLeDiff, flD, List.all_cons, List.all_nil, Bool.and_true, Bool.true_and, Bool.and_self, decide_true, decide_false, or_true, true_or, and_true, true_and, eq_self, *])
local macro_rules | `(tactic| walk_at "pdu") => `(tactic| try simp -implicitDefEqProofs only [e_seq, e_forN, e_for0, e_nxn, e_nct, e_nbk, e_nrt, e_nrn, e_nex, e_next_ite, e_thn, e_trt, e_trn, e_tex, e_if, e_pick, e_pickx, e_ret, e_retN, e_set, e_drop, e_for, e_ofR, e_ofRx, e_ofI, e_nil, e_asg, endS_rt, endS_rn, endS_nx, endS_ex, endN_rn, endN_ex, gC, g1, g2, g3, gA, aNil, aCons, gAnd, gOr, gNot, gB, gTru, bAnd, bOr, bNot, gIf, iA, iSeq, gSl, pNone, pSome, ok_bind, ex_bind, st_bind, gVar, List.getElem?_cons_zero, List.getElem?_cons_succ, List.set_cons_zero, List.set_cons_succ, if_true, if_false, Bool.not_true, Bool.not_false, Bool.false_eq_true, ↓reduceIte, e_asB, e_lt, e_gt, e_le, e_ge, e_ltS, e_gtS, e_eqI, e_eqS, e_eqB, e_neI, e_neS, e_neB, e_addI, e_iaddI, e_subI, e_negI, e_andI, e_orI, e_xorI, e_lenL, e_lenT, e_ord, e_intB, e_intI, e_inS, e_ninS, e_itL, e_itT, e_itS, e_zip, e_enum, e_slL, e_slT, e_asI, e_isN1, e_isN2, e_notN1, e_notN2, e_truB, e_truI, e_truL, e_isi_int_non, e_isi_int_bl, e_isi_int_int, e_isi_int_str, e_isi_int_list, e_isi_int_tup, e_isi_int_dict, e_isi_int_dictT, e_isi_bool_non, e_isi_bool_bl, e_isi_bool_int, e_isi_bool_str, e_isi_bool_list, e_isi_bool_tup, e_isi_bool_dict, e_isi_bool_dictT, e_isi_str_non, e_isi_str_bl, e_isi_str_int, e_isi_str_str, e_isi_str_list, e_isi_str_tup, e_isi_str_dict, e_isi_str_dictT, e_isi_list_non, e_isi_list_bl, e_isi_list_int, e_isi_list_str, e_isi_list_list, e_isi_list_tup, e_isi_list_dict, e_isi_list_dictT, e_isi_tuple_non, e_isi_tuple_bl, e_isi_tuple_int, e_isi_tuple_str, e_isi_tuple_list, e_isi_tuple_tup, e_isi_tuple_dict, e_isi_tuple_dictT, e_isi_dict_non, e_isi_dict_bl, e_isi_dict_int, e_isi_dict_str, e_isi_dict_list, e_isi_dict_tup, e_isi_dict_dict, e_isi_dict_dictT, e_iteAnd, e_iteOr, e_iteAndD, e_iteOrD, e_then_ite, e_endS_ite, e_endN_ite, e_ofR_ite, e_pick_ite, e_bind_ite, e_modI, e_fdivI, e_mul1, e_pow10, e_pow2, e_shl1, e_shrI, e_addS, e_iaddS, e_addL, e_addT, e_lenS, e_lst, e_strLit, String.reduceBEq, e_ixL0, e_ixL1, e_ixL2, e_ixL3, e_ixL4, e_ixL5, e_ixL6, e_ixL7, e_ixL8, e_ixT0, e_ixT1, e_ixT2, e_ixT3, e_ixT4, e_ixT5, e_tupleL, e_listT, e_tupleT, eqX_int, neX_int, eqX_S, neX_S, eqX_t0, neX_t0, e_catL, e_tup, e_inT, e_ninT, e_inL, e_ninL, e_slS, Int.reduceLT, Int.reduceLE, Int.reduceMul, Int.reduceAdd, Int.reduceSub, Int.reducePow, Int.reduceNeg, Int.reduceToNat, List.length_cons, List.length_nil, List.length_append, Nat.reduceAdd, Nat.reduceLeDiff, flD, List.all_cons, List.all_nil, Bool.and_true, Bool.true_and, Bool.and_self, decide_true, decide_false, or_true, true_or, and_true, true_and, eq_self])
local macro_rules | `(tactic| walk_at "pdq") => `(tactic| try simp -implicitDefEqProofs only [e_seq, q_seq, q_tnx, q_tex, q_trt, q_then_ite, q_if, q_pick, q_pickx, q_pick_ite, q_nil, q_raise, cl_nil, cl_f, cl_t, cl_n, e_thn, e_trt, e_trn, e_tex, e_if, e_pick, e_pickx, e_ret, e_retN, e_set, e_drop, e_for, e_ofR, e_ofRx, e_ofI, e_nil, e_asg, endS_rt, endS_rn, endS_nx, endS_ex, endN_rn, endN_ex, gC, g1, g2, g3, gA, aNil, aCons, gAnd, gOr, gNot, gB, gTru, bAnd, bOr, bNot, gIf, iA, iSeq, gSl, pNone, pSome, ok_bind, ex_bind, st_bind, gVar, List.getElem?_cons_zero, List.getElem?_cons_succ, List.set_cons_zero, List.set_cons_succ, if_true, if_false, Bool.not_true, Bool.not_false, Bool.false_eq_true, ↓reduceIte, e_asB, e_lt, e_gt, e_le, e_ge, e_ltS, e_gtS, e_eqI, e_eqS, e_eqB, e_neI, e_neS, e_neB, e_addI, e_iaddI, e_subI, e_negI, e_andI, e_orI, e_xorI, e_lenL, e_lenT, e_ord, e_intB, e_intI, e_inS, e_ninS, e_itL, e_itT, e_itS, e_zip, e_enum, e_slL, e_slT, e_asI, e_isN1, e_isN2, e_notN1, e_notN2, e_truB, e_truI, e_truL, e_isi_int_non, e_isi_int_bl, e_isi_int_int, e_isi_int_str, e_isi_int_list, e_isi_int_tup, e_isi_int_dict, e_isi_int_dictT, e_isi_bool_non, e_isi_bool_bl, e_isi_bool_int, e_isi_bool_str, e_isi_bool_list, e_isi_bool_tup, e_isi_bool_dict, e_isi_bool_dictT, e_isi_str_non, e_isi_str_bl, e_isi_str_int, e_isi_str_str, e_isi_str_list, e_isi_str_tup, e_isi_str_dict, e_isi_str_dictT, e_isi_list_non, e_isi_list_bl, e_isi_list_int, e_isi_list_str, e_isi_list_list, e_isi_list_tup, e_isi_list_dict, e_isi_list_dictT, e_isi_tuple_non, e_isi_tuple_bl, e_isi_tuple_int, e_isi_tuple_str, e_isi_tuple_list, e_isi_tuple_tup, e_isi_tuple_dict, e_isi_tuple_dictT, e_isi_dict_non, e_isi_dict_bl, e_isi_dict_int, e_isi_dict_str, e_isi_dict_list, e_isi_dict_tup, e_isi_dict_dict, e_isi_dict_dictT, e_iteAnd, e_iteOr, e_iteAndD, e_iteOrD, e_then_ite, e_endS_ite, e_endN_ite, e_ofR_ite, e_pick_ite, e_bind_ite, e_modI, e_fdivI, e_mul1, e_pow10, e_pow2, e_shl1, e_shrI, e_addS, e_iaddS, e_addL, e_addT, e_lenS, e_lst, e_strLit, String.reduceBEq, e_ixL0, e_ixL1, e_ixL2, e_ixL3, e_ixL4, e_ixL5, e_ixL6, e_ixL7, e_ixL8, e_ixT0, e_ixT1, e_ixT2, e_ixT3, e_ixT4, e_ixT5, e_tupleL, e_listT, e_tupleT, eqX_int, neX_int, eqX_S, neX_S, eqX_t0, neX_t0, e_catL, e_tup, e_inT, e_ninT, e_inL, e_ninL, e_slS, Int.reduceLT, Int.reduceLE, Int.reduceMul, Int.reduceAdd, Int.reduceSub, Int.reducePow, Int.reduceNeg, Int.reduceToNat, List.length_cons, List.length_nil, List.length_append, Nat.reduceAdd, Nat.reduceLeDiff, flD, List.all_cons, List.all_nil, Bool.and_true, Bool.true_and, Bool.and_self, decide_true, decide_false, or_true, true_or, and_true, true_and, eq_self])
local macro_rules | `(tactic| walk_at "pdr") => `(tactic| try simp -implicitDefEqProofs only [e_seq, q_seq, q_tnx, q_tex, q_trt, q_then_ite, q_nil, q_raise, cl_nil, cl_f, cl_t, cl_n, s_ok, s_ex, e_sqRet, e_sqSet, e_sqExpr, e_sqAsg, asg_some, e_tqName, e_tqTup2, e_qP, e_upok, e_upex, e_qVar, e_varok, e_qNew, e_newok, rq_ok, rq_ex, e_aqN, e_aqC, e_qPA, e_qCall, e_qTup, e_tupP2, e_qSn, e_qSnT, e_tok, e_qT, e_up_ite, pk_ite, s_ite, tst_ite, e_end_ite, q_ifS, pk_ok, e_q2, op2_ii, op2_ss, op2_si, e_qLst, lstP1, e_iqR,  sn_nil, sn_s, sn_n, fu_f, e_qIx, e_endrt, e_endnx, List.map_cons, List.map_nil, Bool.or_false, Bool.or_true, Bool.true_or, Bool.false_or, e_thn, e_trt, e_trn, e_tex, e_if, e_pick, e_pickx, e_ret, e_retN, e_set, e_drop, e_for, e_ofR, e_ofRx, e_ofI, e_nil, e_asg, endS_rt, endS_rn, endS_nx, endS_ex, endN_rn, endN_ex, gC, g1, g2, g3, gA, aNil, aCons, gAnd, gOr, gNot, gB, gTru, bAnd, bOr, bNot, gIf, iA, iSeq, gSl, pNone, pSome, ok_bind, ex_bind, st_bind, gVar, List.getElem?_cons_zero, List.getElem?_cons_succ, List.set_cons_zero, List.set_cons_succ, if_true, if_false, Bool.not_true, Bool.not_false, Bool.false_eq_true, ↓reduceIte, e_asB, e_lt, e_gt, e_le, e_ge, e_ltS, e_gtS, e_eqI, e_eqS, e_eqB, e_neI, e_neS, e_neB, e_addI, e_iaddI, e_subI, e_negI, e_andI, e_orI, e_xorI, e_lenL, e_lenT, e_ord, e_intB, e_intI, e_inS, e_ninS, e_itL, e_itT, e_itS, e_zip, e_enum, e_slL, e_slT, e_asI, e_isN1, e_isN2, e_notN1, e_notN2, e_truB, e_truI, e_truL, e_isi_int_non, e_isi_int_bl, e_isi_int_int, e_isi_int_str, e_isi_int_list, e_isi_int_tup, e_isi_int_dict, e_isi_int_dictT, e_isi_bool_non, e_isi_bool_bl, e_isi_bool_int, e_isi_bool_str, e_isi_bool_list, e_isi_bool_tup, e_isi_bool_dict, e_isi_bool_dictT, e_isi_str_non, e_isi_str_bl, e_isi_str_int, e_isi_str_str, e_isi_str_list, e_isi_str_tup, e_isi_str_dict, e_isi_str_dictT, e_isi_list_non, e_isi_list_bl, e_isi_list_int, e_isi_list_str, e_isi_list_list, e_isi_list_tup, e_isi_list_dict, e_isi_list_dictT, e_isi_tuple_non, e_isi_tuple_bl, e_isi_tuple_int, e_isi_tuple_str, e_isi_tuple_list, e_isi_tuple_tup, e_isi_tuple_dict, e_isi_tuple_dictT, e_isi_dict_non, e_isi_dict_bl, e_isi_dict_int, e_isi_dict_str, e_isi_dict_list, e_isi_dict_tup, e_isi_dict_dict, e_isi_dict_dictT, e_iteAnd, e_iteOr, e_iteAndD, e_iteOrD, e_then_ite, e_endS_ite, e_endN_ite, e_ofR_ite, e_pick_ite, e_bind_ite, e_modI, e_fdivI, e_mul1, e_pow10, e_pow2, e_shl1, e_shrI, e_addS, e_iaddS, e_addL, e_addT, e_lenS, e_lst, e_strLit, String.reduceBEq, e_ixL0, e_ixL1, e_ixL2, e_ixL3, e_ixL4, e_ixL5, e_ixL6, e_ixL7, e_ixL8, e_ixT0, e_ixT1, e_ixT2, e_ixT3, e_ixT4, e_ixT5, e_tupleL, e_listT, e_tupleT, eqX_int, neX_int, eqX_S, neX_S, eqX_t0, neX_t0, e_catL, e_tup, e_inT, e_ninT, e_inL, e_ninL, e_slS, Int.reduceLT, Int.reduceLE, Int.reduceMul, Int.reduceAdd, Int.reduceSub, Int.reducePow, Int.reduceNeg, Int.reduceToNat, List.length_cons, List.length_nil, List.length_append, Nat.reduceAdd, Nat.reduceLeDiff, flD, List.all_cons, List.all_nil, Bool.and_true, Bool.true_and, Bool.and_self, decide_true, decide_false, or_true, true_or, and_true, true_and, eq_self])
local macro_rules | `(tactic| walk_at "pdv") => `(tactic| try simp -implicitDefEqProofs only [e_seq, Int.reduceBEq, Int.cast_ofNat_Int, e_thn, e_trt, e_trn, e_tex, e_if, e_pick, e_pickx, e_ret, e_retN, e_set, e_drop, e_for, e_ofR, e_ofRx, e_ofI, e_nil, e_asg, endS_rt, endS_rn, endS_nx, endS_ex, endN_rn, endN_ex, gC, g1, g2, g3, gA, aNil, aCons, gAnd, gOr, gNot, gB, gTru, bAnd, bOr, bNot, gIf, iA, iSeq, gSl, pNone, pSome, ok_bind, ex_bind, st_bind, gVar, List.getElem?_cons_zero, List.getElem?_cons_succ, List.set_cons_zero, List.set_cons_succ, if_true, if_false, Bool.not_true, Bool.not_false, Bool.false_eq_true, ↓reduceIte, e_asB, e_lt, e_gt, e_le, e_ge, e_ltS, e_gtS, e_eqI, e_eqS, e_eqB, e_neI, e_neS, e_neB, e_addI, e_iaddI, e_subI, e_negI, e_andI, e_orI, e_xorI, e_lenL, e_lenT, e_ord, e_intB, e_intI, e_inS, e_ninS, e_itL, e_itT, e_itS, e_zip, e_enum, e_slL, e_slT, e_asI, e_isN1, e_isN2, e_notN1, e_notN2, e_truB, e_truI, e_truL, e_isi_int_non, e_isi_int_bl, e_isi_int_int, e_isi_int_str, e_isi_int_list, e_isi_int_tup, e_isi_int_dict, e_isi_int_dictT, e_isi_bool_non, e_isi_bool_bl, e_isi_bool_int, e_isi_bool_str, e_isi_bool_list, e_isi_bool_tup, e_isi_bool_dict, e_isi_bool_dictT, e_isi_str_non, e_isi_str_bl, e_isi_str_int, e_isi_str_str, e_isi_str_list, e_isi_str_tup, e_isi_str_dict, e_isi_str_dictT, e_isi_list_non, e_isi_list_bl, e_isi_list_int, e_isi_list_str, e_isi_list_list, e_isi_list_tup, e_isi_list_dict, e_isi_list_dictT, e_isi_tuple_non, e_isi_tuple_bl, e_isi_tuple_int, e_isi_tuple_str, e_isi_tuple_list, e_isi_tuple_tup, e_isi_tuple_dict, e_isi_tuple_dictT, e_isi_dict_non, e_isi_dict_bl, e_isi_dict_int, e_isi_dict_str, e_isi_dict_list, e_isi_dict_tup, e_isi_dict_dict, e_isi_dict_dictT, e_iteAnd, e_iteOr, e_iteAndD, e_iteOrD, e_then_ite, e_endS_ite, e_endN_ite, e_ofR_ite, e_pick_ite, e_bind_ite, e_modI, e_fdivI, e_mul1, e_pow10, e_pow2, e_shl1, e_shrI, e_addS, e_iaddS, e_addL, e_addT, e_lenS, e_lst, e_strLit, String.reduceBEq, e_ixL0, e_ixL1, e_ixL2, e_ixL3, e_ixL4, e_ixL5, e_ixL6, e_ixL7, e_ixL8, e_ixT0, e_ixT1, e_ixT2, e_ixT3, e_ixT4, e_ixT5, e_tupleL, e_listT, e_tupleT, eqX_int, neX_int, eqX_S, neX_S, eqX_t0, neX_t0, e_catL, e_tup, e_inT, e_ninT, e_inL, e_ninL, e_slS, Int.reduceLT, Int.reduceLE, Int.reduceMul, Int.reduceAdd, Int.reduceSub, Int.reducePow, Int.reduceNeg, Int.reduceToNat, List.length_cons, List.length_nil, List.length_append, Nat.reduceAdd, Nat.reduceLeDiff, flD, List.all_cons, List.all_nil, Bool.and_true, Bool.true_and, Bool.and_self, decide_true, decide_false, or_true, true_or, and_true, true_and, eq_self])
theorem any3 (y : Nat) : ([D.str "|", D.str "/", D.str "\\"].any fun z => eqvD z (.str (TS [y]))) = spB y := by
  show (((Str.ofString "|") == TS [y]) || (((Str.ofString "/") == TS [y]) || (((Str.ofString "\\") == TS [y]) || false))) = _
  rw [lit124, lit47, lit92, one_eq, one_eq, one_eq]
  have c : ∀ a b : Nat, decide (a = b) = decide (b = a) := fun a b => by
    rw [decide_eq_decide]
    exact ⟨Eq.symm, Eq.symm⟩
  rw [c 124 y, c 47 y, c 92 y]
  unfold spB
  cases decide (y = 92) <;> cases decide (y = 124) <;> cases decide (y = 47) <;> rfl
def pW : RhoQ → Mem → RQ Bool := qT (gB (g2 ltD (gVar 2) (gA lenD (aCons (gVar 0) aNil))))
theorem ix_TS {L pre r : List Nat} {x : Nat} (h : L = pre ++ x :: r) (hL : L.length ≤ 100000) : ixD (.str (TS L)) (.int (pre.length : Int)) = .ok (.str (TS [x])) :=
  e_ixS _ _ x (by rw [TS_len]; omega) (atI_nat (by
    show L[pre.length]? = _
    rw [h, List.getElem?_append_right (Nat.le_refl _), Nat.sub_self]
    rfl))
theorem lr_loop (L : List Nat) (hL : L.length ≤ 50000) : ∀ (n : Nat) (rem pre : List Nat), L = pre ++ rem → rem.length ≤ n → ∀ (R : Tab) (C : List (List Nat)) (c : List Nat) (M : Mem) (ks : List Nat) (x : Option P) (fuel : Nat), rem.length < fuel → RI M ks (R ++ [C ++ [c]]) → Bd R C c rem.length →
    (∀ W', runM rem R C c false = some W' → ∃ r2 r3 M' ks', whileLQ pW B__law_read_rows_0 fuel [some (false, .str (TS L)), some (true, .loc 1), some (false, .int (pre.length : Int)), x] M = .nx [some (false, .str (TS L)), some (true, .loc 1), r2, r3] M' ∧ RI M' ks' W') ∧
    (runM rem R C c false = none → ∃ M', whileLQ pW B__law_read_rows_0 fuel [some (false, .str (TS L)), some (true, .loc 1), some (false, .int (pre.length : Int)), x] M = .rt (false, .non) M')
  | n, [], pre, hE, hn, R, C, c, M, ks, x, fuel, hf, h, hb => by
    have hlen : L.length = pre.length := by rw [hE, List.append_nil]
    obtain ⟨m, rfl⟩ : ∃ m, fuel = m + 1 := ⟨fuel - 1, by rw [List.length_nil] at hf; omega⟩
    have e : whileLQ pW B__law_read_rows_0 (m + 1) [some (false, .str (TS L)), some (true, .loc 1), some (false, .int (pre.length : Int)), x] M = .nx [some (false, .str (TS L)), some (true, .loc 1), some (false, .int (pre.length : Int)), x] M := by
      have ep : pW [some (false, .str (TS L)), some (true, .loc 1), some (false, .int (pre.length : Int)), x] M = .ok false M := by
        unfold pW
        walk_at "pdr"
        rw [e_lenS (TS L) (by rw [TS_len]; omega), TS_len, hlen]
        walk_at "pdr"
        rw [decide_eq_false (by omega)]
      rw [whileLQ_succ, ep]
      rfl
    rw [e]
    unfold runM
    refine ⟨fun W' hW => ?_, fun hW => by rw [if_neg (by decide)] at hW; cases hW⟩
    rw [if_neg (by decide)] at hW
    cases hW
    exact ⟨_, _, _, _, rfl, h⟩
  | 0, x :: l, pre, hE, hn, R, C, c, M, ks, y, fuel, hf, h, hb => by
    rw [List.length_cons] at hn
    omega
  | n + 1, x :: l, pre, hE, hn, R, C, c, M, ks, o, fuel, hf, h, hb => by
    obtain ⟨b1, b2, b3⟩ := hb
    rw [List.length_cons] at hn hf b1 b2 b3
    have hlen : L.length = pre.length + (l.length + 1) := by rw [hE, List.length_append, List.length_cons]
    obtain ⟨m, rfl⟩ : ∃ m, fuel = m + 1 := ⟨fuel - 1, by omega⟩
    have ep : pW [some (false, .str (TS L)), some (true, .loc 1), some (false, .int (pre.length : Int)), o] M = .ok true M := by
      unfold pW
      walk_at "pdr"
      rw [e_lenS (TS L) (by rw [TS_len]; omega), TS_len]
      walk_at "pdr"
      rw [decide_eq_true (by omega)]
    have ix := ix_TS hE (by omega)
    obtain ⟨ks', k, f, rfl, hk', hM, k1, kn⟩ := h.last
    have one : ∀ (r2 : Option P) (M2 : Mem), B__law_read_rows_0 [some (false, .str (TS L)), some (true, .loc 1), some (false, .int (pre.length : Int)), o] M = .nx [some (false, .str (TS L)), some (true, .loc 1), some (false, .int ((pre ++ [x]).length : Int)), r2] M2 →
        whileLQ pW B__law_read_rows_0 (m + 1) [some (false, .str (TS L)), some (true, .loc 1), some (false, .int (pre.length : Int)), o] M = whileLQ pW B__law_read_rows_0 m [some (false, .str (TS L)), some (true, .loc 1), some (false, .int ((pre ++ [x]).length : Int)), r2] M2 := fun r2 M2 e => by
      rw [whileLQ_succ, ep]
      show (match B__law_read_rows_0 [some (false, .str (TS L)), some (true, .loc 1), some (false, .int (pre.length : Int)), o] M with
        | .nx ρ2 M2 => whileLQ pW B__law_read_rows_0 m ρ2 M2
        | .ct ρ2 M2 => whileLQ pW B__law_read_rows_0 m ρ2 M2
        | .bk ρ2 M2 => .nx ρ2 M2
        | r => r) = _
      rw [e]
    have hE1 : L = (pre ++ [x]) ++ l := by rw [hE, List.append_assoc]; rfl
    have len1 : ((pre ++ [x]).length : Int) = (pre.length : Int) + 1 := by rw [List.length_append]; rfl
    unfold runM
    rw [if_neg (by decide)]
    by_cases h92 : x = 92
    · rw [if_pos h92]
      have back : ∀ M2 : Mem, B__law_read_rows_0 [some (false, .str (TS L)), some (true, .loc 1), some (false, .int (pre.length : Int)), o] M = .rt (false, .non) M2 → ∃ M', whileLQ pW B__law_read_rows_0 (m + 1) [some (false, .str (TS L)), some (true, .loc 1), some (false, .int (pre.length : Int)), o] M = .rt (false, .non) M' := fun M2 e => by
        refine ⟨M2, ?_⟩
        rw [whileLQ_succ, ep]
        show (match B__law_read_rows_0 [some (false, .str (TS L)), some (true, .loc 1), some (false, .int (pre.length : Int)), o] M with
          | .nx ρ2 M2 => whileLQ pW B__law_read_rows_0 m ρ2 M2
          | .ct ρ2 M2 => whileLQ pW B__law_read_rows_0 m ρ2 M2
          | .bk ρ2 M2 => .nx ρ2 M2
          | r => r) = _
        rw [e]
      cases l with
      | nil =>
        unfold runM
        refine ⟨fun W' hW => (by rw [if_pos rfl] at hW; cases hW), fun _ => back M ?_⟩
        unfold B__law_read_rows_0
        walk_at "pdr"
        rw [ix]
        walk_at "pdr"
        rw [lit92, one_eq, decide_eq_true h92]
        walk_at "pdr"
        rw [e_lenS (TS L) (by rw [TS_len]; omega), TS_len, hlen]
        walk_at "pdr"
        rw [show ((pre.length : Int) + 1 == ((pre.length + 1 : Nat) : Int)) = true from beq_iff_eq.mpr rfl]
        walk_at "pdr"
      | cons y r =>
        have hE2 : L = (pre ++ [x]) ++ y :: r := hE1
        have ix2 := ix_TS hE2 (by omega)
        rw [len1] at ix2
        rw [List.length_cons] at hlen hn hf b1 b2 b3
        have hne : ((pre.length : Int) + 1 == (L.length : Int)) = false := beq_eq_false_iff_ne.mpr (by omega)
        unfold runM
        rw [if_pos rfl]
        by_cases hs : spB y = true
        · rw [if_pos hs]
          have e : B__law_read_rows_0 [some (false, .str (TS L)), some (true, .loc 1), some (false, .int (pre.length : Int)), o] M = .nx [some (false, .str (TS L)), some (true, .loc 1), some (false, .int ((pre ++ [x] ++ [y]).length : Int)), some (false, .str (TS [x]))] (M.set k (f || false, .list (rowT (C ++ [c ++ [y]])))) := by
            have ll : ((pre ++ [x] ++ [y]).length : Int) = (pre.length : Int) + 1 + 1 := by rw [List.length_append, List.length_append]; rfl
            rw [ll]
            unfold B__law_read_rows_0
            walk_at "pdr"
            rw [ix]
            walk_at "pdr"
            rw [lit92, one_eq, decide_eq_true h92]
            walk_at "pdr"
            rw [e_lenS (TS L) (by rw [TS_len]; omega), TS_len]
            walk_at "pdr"
            rw [hne, ix2]
            walk_at "pdr"
            rw [← lit92, any3, hs]
            walk_at "pdr"
            rw [lr_set h hM (by omega) (y := g2 ixD (gVar 0) (gVar 2)) (x := y) (by
              walk_at "pdr"
              exact ix2)]
            walk_at "pdr"
          have two : whileLQ pW B__law_read_rows_0 (m + 1) [some (false, .str (TS L)), some (true, .loc 1), some (false, .int (pre.length : Int)), o] M = whileLQ pW B__law_read_rows_0 m [some (false, .str (TS L)), some (true, .loc 1), some (false, .int ((pre ++ [x] ++ [y]).length : Int)), some (false, .str (TS [x]))] (M.set k (f || false, .list (rowT (C ++ [c ++ [y]])))) := by
            rw [whileLQ_succ, ep]
            show (match B__law_read_rows_0 [some (false, .str (TS L)), some (true, .loc 1), some (false, .int (pre.length : Int)), o] M with
              | .nx ρ2 M2 => whileLQ pW B__law_read_rows_0 m ρ2 M2
              | .ct ρ2 M2 => whileLQ pW B__law_read_rows_0 m ρ2 M2
              | .bk ρ2 M2 => .nx ρ2 M2
              | r => r) = _
            rw [e]
          rw [two]
          have h2 := h.put (r2 := C ++ [c ++ [y]]) (f := f || false) hk' k1 kn (lt_of hM)
          exact lr_loop L hL n r (pre ++ [x] ++ [y]) (by rw [hE2, List.append_assoc (pre ++ [x]) [y] r]; rfl) (by omega) R C (c ++ [y]) _ _ _ m (by omega) h2 ⟨by omega, by omega, by rw [List.length_append]; show _ + 1 + _ ≤ _; omega⟩
        · rw [if_neg hs]
          refine ⟨fun W' hW => (by cases hW), fun _ => back M ?_⟩
          unfold B__law_read_rows_0
          walk_at "pdr"
          rw [ix]
          walk_at "pdr"
          rw [lit92, one_eq, decide_eq_true h92]
          walk_at "pdr"
          rw [e_lenS (TS L) (by rw [TS_len]; omega), TS_len]
          walk_at "pdr"
          rw [hne, ix2]
          walk_at "pdr"
          rw [← lit92, any3, show spB y = false by simpa using hs]
          walk_at "pdr"
    rw [if_neg h92]
    by_cases h124 : x = 124
    · rw [if_pos h124]
      have e : B__law_read_rows_0 [some (false, .str (TS L)), some (true, .loc 1), some (false, .int (pre.length : Int)), o] M = .nx [some (false, .str (TS L)), some (true, .loc 1), some (false, .int ((pre ++ [x]).length : Int)), some (false, .str (TS [x]))] (M.set k (f || false, .list (rowT (C ++ [c] ++ [[]])))) := by
        unfold B__law_read_rows_0
        walk_at "pdr"
        rw [ix]
        walk_at "pdr"
        rw [lit92, one_eq, decide_eq_false h92, lit124, one_eq, decide_eq_true h124]
        walk_at "pdr"
        rw [lr_cell h hM (by omega)]
        walk_at "pdr"
        rfl
      rw [one _ _ e]
      have h2 := h.put (r2 := C ++ [c] ++ [[]]) (f := f || false) hk' k1 kn (lt_of hM)
      exact lr_loop L hL n l (pre ++ [x]) hE1 (by omega) R (C ++ [c]) [] _ _ _ m (by omega) h2 ⟨by omega, by rw [List.length_append]; show _ + 1 + _ ≤ _; omega, by show 0 + _ ≤ _; omega⟩
    rw [if_neg h124]
    by_cases h47 : x = 47
    · rw [if_pos h47]
      have e : B__law_read_rows_0 [some (false, .str (TS L)), some (true, .loc 1), some (false, .int (pre.length : Int)), o] M = .nx [some (false, .str (TS L)), some (true, .loc 1), some (false, .int ((pre ++ [x]).length : Int)), some (false, .str (TS [x]))] ((M ++ [((false, D.list (rowT [[]])) : P)]).set 1 (true, D.list ((ks' ++ [k] ++ [M.length]).map D.loc))) := by
        unfold B__law_read_rows_0
        walk_at "pdr"
        rw [ix]
        walk_at "pdr"
        rw [lit92, one_eq, decide_eq_false h92, lit124, one_eq, decide_eq_false h124, lit47, one_eq, decide_eq_true h47]
        walk_at "pdr"
        rw [lr_row h (by rw [List.length_append]; show _ + 1 ≤ _; omega)]
        walk_at "pdr"
        rfl
      rw [one _ _ e]
      have h2 : RI _ _ (R ++ [C ++ [c]] ++ [[] ++ [[]]]) := h.more (r := [[]]) (f := false)
      exact lr_loop L hL n l (pre ++ [x]) hE1 (by omega) (R ++ [C ++ [c]]) [] [] _ _ _ m (by omega) h2 ⟨by rw [List.length_append]; show _ + 1 + _ ≤ _; omega, by show 0 + _ ≤ _; omega, by show 0 + _ ≤ _; omega⟩
    rw [if_neg h47]
    have e : B__law_read_rows_0 [some (false, .str (TS L)), some (true, .loc 1), some (false, .int (pre.length : Int)), o] M = .nx [some (false, .str (TS L)), some (true, .loc 1), some (false, .int ((pre ++ [x]).length : Int)), some (false, .str (TS [x]))] (M.set k (f || false, .list (rowT (C ++ [c ++ [x]])))) := by
      unfold B__law_read_rows_0
      walk_at "pdr"
      rw [ix]
      walk_at "pdr"
      rw [lit92, one_eq, decide_eq_false h92, lit124, one_eq, decide_eq_false h124, lit47, one_eq, decide_eq_false h47]
      walk_at "pdr"
      rw [lr_set h hM (by omega) (y := gVar 3) (x := x) rfl]
      walk_at "pdr"
      rfl
    rw [one _ _ e]
    have h2 := h.put (r2 := C ++ [c ++ [x]]) (f := f || false) hk' k1 kn (lt_of hM)
    exact lr_loop L hL n l (pre ++ [x]) hE1 (by omega) R C (c ++ [x]) _ _ _ m (by omega) h2 ⟨by omega, by omega, by rw [List.length_append]; show _ + 1 + _ ≤ _; omega⟩
theorem puts_str (f : Nat → Option D) : ∀ r : List (List Nat), D.putAll f (rowT r) = some (rowT r)
  | [] => rfl
  | c :: r => by
    show (D.put f (.str (TS c))).bind (fun e => (D.putAll f (rowT r)).map (e :: ·)) = _
    rw [puts_str f r]
    rfl
def lstT (R : Tab) : D := .list (R.map fun r => D.list (rowT r))
theorem RI.full {M : Mem} {ks : List Nat} {W : Tab} (h : RI M ks W) : P.full M (true, .loc 1) = some (lstT W) := by
  have hl := lt_of h.m1
  obtain ⟨m, hm⟩ : ∃ m, M.length = m + 2 := ⟨M.length - 2, by omega⟩
  show memD M M.length 1 = _
  rw [hm]
  show (match M[1]? with
    | some (false, d) => some d
    | some (true, d) => d.put (memD M (m + 1))
    | none => none) = _
  rw [h.m1]
  show (D.putAll (memD M (m + 1)) (ks.map D.loc)).map D.list = _
  have key : ∀ (ks : List Nat) (W : Tab), ks.length = W.length → (∀ (i k : Nat) (r : List (List Nat)), ks[i]? = some k → W[i]? = some r → ∃ f, M[k]? = some (f, .list (rowT r))) → D.putAll (memD M (m + 1)) (ks.map D.loc) = some (W.map fun r => D.list (rowT r)) := fun ks => by
    induction ks with
    | nil =>
      intro W hl _
      cases W with
      | nil => rfl
      | cons _ _ => cases hl
    | cons k ks ih =>
      intro W hl ha
      cases W with
      | nil => cases hl
      | cons r W =>
        obtain ⟨f, e⟩ := ha 0 k r rfl rfl
        have e2 : memD M (m + 1) k = some (.list (rowT r)) := by
          show (match M[k]? with
            | some (false, d) => some d
            | some (true, d) => d.put (memD M m)
            | none => none) = _
          rw [e]
          cases f with
          | false => rfl
          | true =>
            show (D.putAll (memD M m) (rowT r)).map D.list = _
            rw [puts_str]
            rfl
        show (D.put (memD M (m + 1)) (.loc k)).bind (fun e => (D.putAll (memD M (m + 1)) (ks.map D.loc)).map (e :: ·)) = _
        rw [show D.put (memD M (m + 1)) (.loc k) = memD M (m + 1) k from rfl, e2, ih W (by simpa using hl) fun i j r' hi hr => ha (i + 1) j r' hi hr]
        rfl
  rw [key ks W h.ln h.at_]
  rfl
def outL : Option Tab → D
  | some R => lstT R
  | none => .non
theorem law_rows_at (L : List Nat) (hL : L.length ≤ 50000) : FQ__law_read_rows.down [.str (TS L)] = .ok (outL (runM L [] [] [] false)) := by
  show (endQ (SQ__law_read_rows [some (false, .str (TS L)), none, none, none] [])).down = _
  unfold SQ__law_read_rows
  walk_at "pdr"
  rw [e_sqWhile]
  have h : RI [(false, D.list (rowT [[]])), (true, D.list ([0].map D.loc))] [0] ([] ++ [[] ++ [[]]]) := by
    refine ⟨rfl, rfl, by simp, (fun k hk => ?_), fun i k r hi hr => ?_⟩
    · simp only [List.mem_cons, List.not_mem_nil, or_false] at hk
      omega
    · cases i with
      | zero =>
        cases hi
        cases hr
        exact ⟨false, rfl⟩
      | succ i => simp at hi
  obtain ⟨l1, l2⟩ := lr_loop L hL L.length L [] rfl (Nat.le_refl _) [] [] [] _ [0] none 100000 (by omega) h ⟨by show 0 + _ ≤ _; omega, by show 0 + _ ≤ _; omega, by show 0 + _ ≤ _; omega⟩
  have em : ([] ++ [((false, D.list [D.str (Str.ofString "")]) : P)] ++ [((true, D.list [D.loc 0]) : P)] : Mem) = [(false, D.list (rowT [[]])), (true, D.list ([0].map D.loc))] := by
    rw [lit0]
    rfl
  rw [em]
  show (endQ ((whileLQ pW B__law_read_rows_0 100000 [some (false, .str (TS L)), some (true, .loc 1), some (false, .int (([] : List Nat).length : Int)), none] [(false, D.list (rowT [[]])), (true, D.list ([0].map D.loc))]).then (sqRet (qVar 1)))).down = _
  cases hr : runM L [] [] [] false with
  | none =>
    obtain ⟨M', e⟩ := l2 hr
    rw [e]
    rfl
  | some W =>
    obtain ⟨r2, r3, M', ks', e, h'⟩ := l1 W hr
    rw [e]
    show (match P.full M' (true, .loc 1) with
      | some d => R.ok d
      | none => .st) = _
    rw [h'.full]
    rfl

end Pd

set_option maxHeartbeats 4000000
namespace Pd
open PySem PySem.Spec PyProof.Rows L2
local macro_rules | `(tactic| walk_at "pd") => `(tactic| try simp -implicitDefEqProofs only [e_seq, e_thn, e_trt, e_trn, e_tex, e_if, e_pick, e_pickx, e_ret, e_retN, e_set, e_drop, e_for, e_ofR, e_ofRx, e_ofI, e_nil, e_asg, endS_rt, endS_rn, endS_nx, endS_ex, endN_rn, endN_ex, gC, g1, g2, g3, gA, aNil, aCons, gAnd, gOr, gNot, gB, gTru, bAnd, bOr, bNot, gIf, iA, iSeq, gSl, pNone, pSome, ok_bind, ex_bind, st_bind, gVar, List.getElem?_cons_zero, List.getElem?_cons_succ, List.set_cons_zero, List.set_cons_succ, if_true, if_false, Bool.not_true, Bool.not_false, Bool.false_eq_true, ↓reduceIte, e_asB, e_lt, e_gt, e_le, e_ge, e_ltS, e_gtS, e_eqI, e_eqS, e_eqB, e_neI, e_neS, e_neB, e_addI, e_iaddI, e_subI, e_negI, e_andI, e_orI, e_xorI, e_lenL, e_lenT, e_ord, e_intB, e_intI, e_inS, e_ninS, e_itL, e_itT, e_itS, e_zip, e_enum, e_slL, e_slT, e_asI, e_isN1, e_isN2, e_notN1, e_notN2, e_truB, e_truI, e_truL, e_isi_int_non, e_isi_int_bl, e_isi_int_int, e_isi_int_str, e_isi_int_list, e_isi_int_tup, e_isi_int_dict, e_isi_int_dictT, e_isi_bool_non, e_isi_bool_bl, e_isi_bool_int, e_isi_bool_str, e_isi_bool_list, e_isi_bool_tup, e_isi_bool_dict, e_isi_bool_dictT, e_isi_str_non, e_isi_str_bl, e_isi_str_int, e_isi_str_str, e_isi_str_list, e_isi_str_tup, e_isi_str_dict, e_isi_str_dictT, e_isi_list_non, e_isi_list_bl, e_isi_list_int, e_isi_list_str, e_isi_list_list, e_isi_list_tup, e_isi_list_dict, e_isi_list_dictT, e_isi_tuple_non, e_isi_tuple_bl, e_isi_tuple_int, e_isi_tuple_str, e_isi_tuple_list, e_isi_tuple_tup, e_isi_tuple_dict, e_isi_tuple_dictT, e_isi_dict_non, e_isi_dict_bl, e_isi_dict_int, e_isi_dict_str, e_isi_dict_list, e_isi_dict_tup, e_isi_dict_dict, e_isi_dict_dictT, e_iteAnd, e_iteOr, e_iteAndD, e_iteOrD, e_then_ite, e_endS_ite, e_endN_ite, e_ofR_ite, e_pick_ite, e_bind_ite, e_modI, e_fdivI, e_mul1, e_pow10, e_pow2, e_shl1, e_shrI, e_addS, e_iaddS, e_addL, e_addT, e_lenS, e_lst, e_strLit, String.reduceBEq, e_ixL0, e_ixL1, e_ixL2, e_ixL3, e_ixL4, e_ixL5, e_ixL6, e_ixL7, e_ixL8, e_ixT0, e_ixT1, e_ixT2, e_ixT3, e_ixT4, e_ixT5, e_tupleL, e_listT, e_tupleT, eqX_int, neX_int, eqX_S, neX_S, eqX_t0, neX_t0, e_catL, e_tup, e_inT, e_ninT, e_inL, e_ninL, e_slS, Int.reduceLT, Int.reduceLE, Int.reduceMul, Int.reduceAdd, Int.reduceSub, Int.reducePow, Int.reduceNeg, Int.reduceToNat, List.length_cons, List.length_nil, List.length_append, Nat.reduceAdd, Nat.reduceLeDiff, flD, List.all_cons, List.all_nil, Bool.and_true, Bool.true_and, Bool.and_self, decide_true, decide_false, or_true, true_or, and_true, true_and, eq_self])
local macro_rules | `(tactic| walk_at "pdh") => `(tactic| try simp -implicitDefEqProofs only [e_seq, e_thn, e_trt, e_trn, e_tex, e_if, e_pick, e_pickx, e_ret, e_retN, e_set, e_drop, e_for, e_ofR, e_ofRx, e_ofI, e_nil, e_asg, endS_rt, endS_rn, endS_nx, endS_ex, endN_rn, endN_ex, gC, g1, g2, g3, gA, aNil, aCons, gAnd, gOr, gNot, gB, gTru, bAnd, bOr, bNot, gIf, iA, iSeq, gSl, pNone, pSome, ok_bind, ex_bind, st_bind, gVar, List.getElem?_cons_zero, List.getElem?_cons_succ, List.set_cons_zero, List.set_cons_succ, if_true, if_false, Bool.not_true, Bool.not_false, Bool.false_eq_true, ↓reduceIte, e_asB, e_lt, e_gt, e_le, e_ge, e_ltS, e_gtS, e_eqI, e_eqS, e_eqB, e_neI, e_neS, e_neB, e_addI, e_iaddI, e_subI, e_negI, e_andI, e_orI, e_xorI, e_lenL, e_lenT, e_ord, e_intB, e_intI, e_inS, e_ninS, e_itL, e_itT, e_itS, e_zip, e_enum, e_slL, e_slT, e_asI, e_isN1, e_isN2, e_notN1, e_notN2, e_truB, e_truI, e_truL, e_isi_int_non, e_isi_int_bl, e_isi_int_int, e_isi_int_str, e_isi_int_list, e_isi_int_tup, e_isi_int_dict, e_isi_int_dictT, e_isi_bool_non, e_isi_bool_bl, e_isi_bool_int, e_isi_bool_str, e_isi_bool_list, e_isi_bool_tup, e_isi_bool_dict, e_isi_bool_dictT, e_isi_str_non, e_isi_str_bl, e_isi_str_int, e_isi_str_str, e_isi_str_list, e_isi_str_tup, e_isi_str_dict, e_isi_str_dictT, e_isi_list_non, e_isi_list_bl, e_isi_list_int, e_isi_list_str, e_isi_list_list, e_isi_list_tup, e_isi_list_dict, e_isi_list_dictT, e_isi_tuple_non, e_isi_tuple_bl, e_isi_tuple_int, e_isi_tuple_str, e_isi_tuple_list, e_isi_tuple_tup, e_isi_tuple_dict, e_isi_tuple_dictT, e_isi_dict_non, e_isi_dict_bl, e_isi_dict_int, e_isi_dict_str, e_isi_dict_list, e_isi_dict_tup, e_isi_dict_dict, e_isi_dict_dictT, e_iteAnd, e_iteOr, e_iteAndD, e_iteOrD, e_then_ite, e_endS_ite, e_endN_ite, e_ofR_ite, e_pick_ite, e_bind_ite, e_modI, e_fdivI, e_mul1, e_pow10, e_pow2, e_shl1, e_shrI, e_addS, e_iaddS, e_addL, e_addT, e_lenS, e_lst, e_strLit, String.reduceBEq, e_ixL0, e_ixL1, e_ixL2, e_ixL3, e_ixL4, e_ixL5, e_ixL6, e_ixL7, e_ixL8, e_ixT0, e_ixT1, e_ixT2, e_ixT3, e_ixT4, e_ixT5, e_tupleL, e_listT, e_tupleT, eqX_int, neX_int, eqX_S, neX_S, eqX_t0, neX_t0, e_catL, e_tup, e_inT, e_ninT, e_inL, e_ninL, e_slS, Int.reduceLT, Int.reduceLE, Int.reduceMul, Int.reduceAdd, Int.reduceSub, Int.reducePow, Int.reduceNeg, Int.reduceToNat, List.length_cons, List.length_nil, List.length_append, Nat.reduceAdd, Nat.reduceLeDiff, flD, List.all_cons, List.all_nil, Bool.and_true, Bool.true_and, Bool.and_self, decide_true, decide_false, or_true, true_or, and_true, true_and, eq_self, *])
local macro_rules | `(tactic| walk_at "pdu") => `(tactic| try simp -implicitDefEqProofs only [e_seq, e_forN, e_for0, e_nxn, e_nct, e_nbk, e_nrt, e_nrn, e_nex, e_next_ite, e_thn, e_trt, e_trn, e_tex, e_if, e_pick, e_pickx, e_ret, e_retN, e_set, e_drop, e_for, e_ofR, e_ofRx, e_ofI, e_nil, e_asg, endS_rt, endS_rn, endS_nx, endS_ex, endN_rn, endN_ex, gC, g1, g2, g3, gA, aNil, aCons, gAnd, gOr, gNot, gB, gTru, bAnd, bOr, bNot, gIf, iA, iSeq, gSl, pNone, pSome, ok_bind, ex_bind, st_bind, gVar, List.getElem?_cons_zero, List.getElem?_cons_succ, List.set_cons_zero, List.set_cons_succ, if_true, if_false, Bool.not_true, Bool.not_false, Bool.false_eq_true, ↓reduceIte, e_asB, e_lt, e_gt, e_le, e_ge, e_ltS, e_gtS, e_eqI, e_eqS, e_eqB, e_neI, e_neS, e_neB, e_addI, e_iaddI, e_subI, e_negI, e_andI, e_orI, e_xorI, e_lenL, e_lenT, e_ord, e_intB, e_intI, e_inS, e_ninS, e_itL, e_itT, e_itS, e_zip, e_enum, e_slL, e_slT, e_asI, e_isN1, e_isN2, e_notN1, e_notN2, e_truB, e_truI, e_truL, e_isi_int_non, e_isi_int_bl, e_isi_int_int, e_isi_int_str, e_isi_int_list, e_isi_int_tup, e_isi_int_dict, e_isi_int_dictT, e_isi_bool_non, e_isi_bool_bl, e_isi_bool_int, e_isi_bool_str, e_isi_bool_list, e_isi_bool_tup, e_isi_bool_dict, e_isi_bool_dictT, e_isi_str_non, e_isi_str_bl, e_isi_str_int, e_isi_str_str, e_isi_str_list, e_isi_str_tup, e_isi_str_dict, e_isi_str_dictT, e_isi_list_non, e_isi_list_bl, e_isi_list_int, e_isi_list_str, e_isi_list_list, e_isi_list_tup, e_isi_list_dict, e_isi_list_dictT, e_isi_tuple_non, e_isi_tuple_bl, e_isi_tuple_int, e_isi_tuple_str, e_isi_tuple_list, e_isi_tuple_tup, e_isi_tuple_dict, e_isi_tuple_dictT, e_isi_dict_non, e_isi_dict_bl, e_isi_dict_int, e_isi_dict_str, e_isi_dict_list, e_isi_dict_tup, e_isi_dict_dict, e_isi_dict_dictT, e_iteAnd, e_iteOr, e_iteAndD, e_iteOrD, e_then_ite, e_endS_ite, e_endN_ite, e_ofR_ite, e_pick_ite, e_bind_ite, e_modI, e_fdivI, e_mul1, e_pow10, e_pow2, e_shl1, e_shrI, e_addS, e_iaddS, e_addL, e_addT, e_lenS, e_lst, e_strLit, String.reduceBEq, e_ixL0, e_ixL1, e_ixL2, e_ixL3, e_ixL4, e_ixL5, e_ixL6, e_ixL7, e_ixL8, e_ixT0, e_ixT1, e_ixT2, e_ixT3, e_ixT4, e_ixT5, e_tupleL, e_listT, e_tupleT, eqX_int, neX_int, eqX_S, neX_S, eqX_t0, neX_t0, e_catL, e_tup, e_inT, e_ninT, e_inL, e_ninL, e_slS, Int.reduceLT, Int.reduceLE, Int.reduceMul, Int.reduceAdd, Int.reduceSub, Int.reducePow, Int.reduceNeg, Int.reduceToNat, List.length_cons, List.length_nil, List.length_append, Nat.reduceAdd, Nat.reduceLeDiff, flD, List.all_cons, List.all_nil, Bool.and_true, Bool.true_and, Bool.and_self, decide_true, decide_false, or_true, true_or, and_true, true_and, eq_self])
local macro_rules | `(tactic| walk_at "pdq") => `(tactic| try simp -implicitDefEqProofs only [e_seq, q_seq, q_tnx, q_tex, q_trt, q_then_ite, q_if, q_pick, q_pickx, q_pick_ite, q_nil, q_raise, cl_nil, cl_f, cl_t, cl_n, e_thn, e_trt, e_trn, e_tex, e_if, e_pick, e_pickx, e_ret, e_retN, e_set, e_drop, e_for, e_ofR, e_ofRx, e_ofI, e_nil, e_asg, endS_rt, endS_rn, endS_nx, endS_ex, endN_rn, endN_ex, gC, g1, g2, g3, gA, aNil, aCons, gAnd, gOr, gNot, gB, gTru, bAnd, bOr, bNot, gIf, iA, iSeq, gSl, pNone, pSome, ok_bind, ex_bind, st_bind, gVar, List.getElem?_cons_zero, List.getElem?_cons_succ, List.set_cons_zero, List.set_cons_succ, if_true, if_false, Bool.not_true, Bool.not_false, Bool.false_eq_true, ↓reduceIte, e_asB, e_lt, e_gt, e_le, e_ge, e_ltS, e_gtS, e_eqI, e_eqS, e_eqB, e_neI, e_neS, e_neB, e_addI, e_iaddI, e_subI, e_negI, e_andI, e_orI, e_xorI, e_lenL, e_lenT, e_ord, e_intB, e_intI, e_inS, e_ninS, e_itL, e_itT, e_itS, e_zip, e_enum, e_slL, e_slT, e_asI, e_isN1, e_isN2, e_notN1, e_notN2, e_truB, e_truI, e_truL, e_isi_int_non, e_isi_int_bl, e_isi_int_int, e_isi_int_str, e_isi_int_list, e_isi_int_tup, e_isi_int_dict, e_isi_int_dictT, e_isi_bool_non, e_isi_bool_bl, e_isi_bool_int, e_isi_bool_str, e_isi_bool_list, e_isi_bool_tup, e_isi_bool_dict, e_isi_bool_dictT, e_isi_str_non, e_isi_str_bl, e_isi_str_int, e_isi_str_str, e_isi_str_list, e_isi_str_tup, e_isi_str_dict, e_isi_str_dictT, e_isi_list_non, e_isi_list_bl, e_isi_list_int, e_isi_list_str, e_isi_list_list, e_isi_list_tup, e_isi_list_dict, e_isi_list_dictT, e_isi_tuple_non, e_isi_tuple_bl, e_isi_tuple_int, e_isi_tuple_str, e_isi_tuple_list, e_isi_tuple_tup, e_isi_tuple_dict, e_isi_tuple_dictT, e_isi_dict_non, e_isi_dict_bl, e_isi_dict_int, e_isi_dict_str, e_isi_dict_list, e_isi_dict_tup, e_isi_dict_dict, e_isi_dict_dictT, e_iteAnd, e_iteOr, e_iteAndD, e_iteOrD, e_then_ite, e_endS_ite, e_endN_ite, e_ofR_ite, e_pick_ite, e_bind_ite, e_modI, e_fdivI, e_mul1, e_pow10, e_pow2, e_shl1, e_shrI, e_addS, e_iaddS, e_addL, e_addT, e_lenS, e_lst, e_strLit, String.reduceBEq, e_ixL0, e_ixL1, e_ixL2, e_ixL3, e_ixL4, e_ixL5, e_ixL6, e_ixL7, e_ixL8, e_ixT0, e_ixT1, e_ixT2, e_ixT3, e_ixT4, e_ixT5, e_tupleL, e_listT, e_tupleT, eqX_int, neX_int, eqX_S, neX_S, eqX_t0, neX_t0, e_catL, e_tup, e_inT, e_ninT, e_inL, e_ninL, e_slS, Int.reduceLT, Int.reduceLE, Int.reduceMul, Int.reduceAdd, Int.reduceSub, Int.reducePow, Int.reduceNeg, Int.reduceToNat, List.length_cons, List.length_nil, List.length_append, Nat.reduceAdd, Nat.reduceLeDiff, flD, List.all_cons, List.all_nil, Bool.and_true, Bool.true_and, Bool.and_self, decide_true, decide_false, or_true, true_or, and_true, true_and, eq_self])
local macro_rules | `(tactic| walk_at "pdr") => `(tactic| try simp -implicitDefEqProofs only [e_seq, q_seq, q_tnx, q_tex, q_trt, q_then_ite, q_nil, q_raise, cl_nil, cl_f, cl_t, cl_n, s_ok, s_ex, e_sqRet, e_sqSet, e_sqExpr, e_sqAsg, asg_some, e_tqName, e_tqTup2, e_qP, e_upok, e_upex, e_qVar, e_varok, e_qNew, e_newok, rq_ok, rq_ex, e_aqN, e_aqC, e_qPA, e_qCall, e_qTup, e_tupP2, e_qSn, e_qSnT, e_tok, e_qT, e_up_ite, pk_ite, s_ite, tst_ite, e_end_ite, q_ifS, pk_ok, e_q2, op2_ii, op2_ss, op2_si, e_qLst, lstP1, e_iqR,  sn_nil, sn_s, sn_n, fu_f, e_qIx, e_endrt, e_endnx, List.map_cons, List.map_nil, Bool.or_false, Bool.or_true, Bool.true_or, Bool.false_or, e_thn, e_trt, e_trn, e_tex, e_if, e_pick, e_pickx, e_ret, e_retN, e_set, e_drop, e_for, e_ofR, e_ofRx, e_ofI, e_nil, e_asg, endS_rt, endS_rn, endS_nx, endS_ex, endN_rn, endN_ex, gC, g1, g2, g3, gA, aNil, aCons, gAnd, gOr, gNot, gB, gTru, bAnd, bOr, bNot, gIf, iA, iSeq, gSl, pNone, pSome, ok_bind, ex_bind, st_bind, gVar, List.getElem?_cons_zero, List.getElem?_cons_succ, List.set_cons_zero, List.set_cons_succ, if_true, if_false, Bool.not_true, Bool.not_false, Bool.false_eq_true, ↓reduceIte, e_asB, e_lt, e_gt, e_le, e_ge, e_ltS, e_gtS, e_eqI, e_eqS, e_eqB, e_neI, e_neS, e_neB, e_addI, e_iaddI, e_subI, e_negI, e_andI, e_orI, e_xorI, e_lenL, e_lenT, e_ord, e_intB, e_intI, e_inS, e_ninS, e_itL, e_itT, e_itS, e_zip, e_enum, e_slL, e_slT, e_asI, e_isN1, e_isN2, e_notN1, e_notN2, e_truB, e_truI, e_truL, e_isi_int_non, e_isi_int_bl, e_isi_int_int, e_isi_int_str, e_isi_int_list, e_isi_int_tup, e_isi_int_dict, e_isi_int_dictT, e_isi_bool_non, e_isi_bool_bl, e_isi_bool_int, e_isi_bool_str, e_isi_bool_list, e_isi_bool_tup, e_isi_bool_dict, e_isi_bool_dictT, e_isi_str_non, e_isi_str_bl, e_isi_str_int, e_isi_str_str, e_isi_str_list, e_isi_str_tup, e_isi_str_dict, e_isi_str_dictT, e_isi_list_non, e_isi_list_bl, e_isi_list_int, e_isi_list_str, e_isi_list_list, e_isi_list_tup, e_isi_list_dict, e_isi_list_dictT, e_isi_tuple_non, e_isi_tuple_bl, e_isi_tuple_int, e_isi_tuple_str, e_isi_tuple_list, e_isi_tuple_tup, e_isi_tuple_dict, e_isi_tuple_dictT, e_isi_dict_non, e_isi_dict_bl, e_isi_dict_int, e_isi_dict_str, e_isi_dict_list, e_isi_dict_tup, e_isi_dict_dict, e_isi_dict_dictT, e_iteAnd, e_iteOr, e_iteAndD, e_iteOrD, e_then_ite, e_endS_ite, e_endN_ite, e_ofR_ite, e_pick_ite, e_bind_ite, e_modI, e_fdivI, e_mul1, e_pow10, e_pow2, e_shl1, e_shrI, e_addS, e_iaddS, e_addL, e_addT, e_lenS, e_lst, e_strLit, String.reduceBEq, e_ixL0, e_ixL1, e_ixL2, e_ixL3, e_ixL4, e_ixL5, e_ixL6, e_ixL7, e_ixL8, e_ixT0, e_ixT1, e_ixT2, e_ixT3, e_ixT4, e_ixT5, e_tupleL, e_listT, e_tupleT, eqX_int, neX_int, eqX_S, neX_S, eqX_t0, neX_t0, e_catL, e_tup, e_inT, e_ninT, e_inL, e_ninL, e_slS, Int.reduceLT, Int.reduceLE, Int.reduceMul, Int.reduceAdd, Int.reduceSub, Int.reducePow, Int.reduceNeg, Int.reduceToNat, List.length_cons, List.length_nil, List.length_append, Nat.reduceAdd, Nat.reduceLeDiff, flD, List.all_cons, List.all_nil, Bool.and_true, Bool.true_and, Bool.and_self, decide_true, decide_false, or_true, true_or, and_true, true_and, eq_self])
local macro_rules | `(tactic| walk_at "pdv") => `(tactic| try simp -implicitDefEqProofs only [e_seq, Int.reduceBEq, Int.cast_ofNat_Int, e_thn, e_trt, e_trn, e_tex, e_if, e_pick, e_pickx, e_ret, e_retN, e_set, e_drop, e_for, e_ofR, e_ofRx, e_ofI, e_nil, e_asg, endS_rt, endS_rn, endS_nx, endS_ex, endN_rn, endN_ex, gC, g1, g2, g3, gA, aNil, aCons, gAnd, gOr, gNot, gB, gTru, bAnd, bOr, bNot, gIf, iA, iSeq, gSl, pNone, pSome, ok_bind, ex_bind, st_bind, gVar, List.getElem?_cons_zero, List.getElem?_cons_succ, List.set_cons_zero, List.set_cons_succ, if_true, if_false, Bool.not_true, Bool.not_false, Bool.false_eq_true, ↓reduceIte, e_asB, e_lt, e_gt, e_le, e_ge, e_ltS, e_gtS, e_eqI, e_eqS, e_eqB, e_neI, e_neS, e_neB, e_addI, e_iaddI, e_subI, e_negI, e_andI, e_orI, e_xorI, e_lenL, e_lenT, e_ord, e_intB, e_intI, e_inS, e_ninS, e_itL, e_itT, e_itS, e_zip, e_enum, e_slL, e_slT, e_asI, e_isN1, e_isN2, e_notN1, e_notN2, e_truB, e_truI, e_truL, e_isi_int_non, e_isi_int_bl, e_isi_int_int, e_isi_int_str, e_isi_int_list, e_isi_int_tup, e_isi_int_dict, e_isi_int_dictT, e_isi_bool_non, e_isi_bool_bl, e_isi_bool_int, e_isi_bool_str, e_isi_bool_list, e_isi_bool_tup, e_isi_bool_dict, e_isi_bool_dictT, e_isi_str_non, e_isi_str_bl, e_isi_str_int, e_isi_str_str, e_isi_str_list, e_isi_str_tup, e_isi_str_dict, e_isi_str_dictT, e_isi_list_non, e_isi_list_bl, e_isi_list_int, e_isi_list_str, e_isi_list_list, e_isi_list_tup, e_isi_list_dict, e_isi_list_dictT, e_isi_tuple_non, e_isi_tuple_bl, e_isi_tuple_int, e_isi_tuple_str, e_isi_tuple_list, e_isi_tuple_tup, e_isi_tuple_dict, e_isi_tuple_dictT, e_isi_dict_non, e_isi_dict_bl, e_isi_dict_int, e_isi_dict_str, e_isi_dict_list, e_isi_dict_tup, e_isi_dict_dict, e_isi_dict_dictT, e_iteAnd, e_iteOr, e_iteAndD, e_iteOrD, e_then_ite, e_endS_ite, e_endN_ite, e_ofR_ite, e_pick_ite, e_bind_ite, e_modI, e_fdivI, e_mul1, e_pow10, e_pow2, e_shl1, e_shrI, e_addS, e_iaddS, e_addL, e_addT, e_lenS, e_lst, e_strLit, String.reduceBEq, e_ixL0, e_ixL1, e_ixL2, e_ixL3, e_ixL4, e_ixL5, e_ixL6, e_ixL7, e_ixL8, e_ixT0, e_ixT1, e_ixT2, e_ixT3, e_ixT4, e_ixT5, e_tupleL, e_listT, e_tupleT, eqX_int, neX_int, eqX_S, neX_S, eqX_t0, neX_t0, e_catL, e_tup, e_inT, e_ninT, e_inL, e_ninL, e_slS, Int.reduceLT, Int.reduceLE, Int.reduceMul, Int.reduceAdd, Int.reduceSub, Int.reducePow, Int.reduceNeg, Int.reduceToNat, List.length_cons, List.length_nil, List.length_append, Nat.reduceAdd, Nat.reduceLeDiff, flD, List.all_cons, List.all_nil, Bool.and_true, Bool.true_and, Bool.and_self, decide_true, decide_false, or_true, true_or, and_true, true_and, eq_self])
/-! ### what is read: its sizes; what was shown is read back -/
def RowBd (B : Nat) (r : List (List Nat)) : Prop := r ≠ [] ∧ r.length ≤ B ∧ ∀ x ∈ r, x.length ≤ B
theorem RowBd.snoc {B : Nat} {C : List (List Nat)} {c : List Nat} (h1 : C.length + 1 ≤ B) (h2 : ∀ x ∈ C, x.length ≤ B) (h3 : c.length ≤ B) : RowBd B (C ++ [c]) := by
  refine ⟨by simp, by rw [List.length_append]; exact h1, fun x hx => ?_⟩
  rcases List.mem_append.mp hx with h | h
  · exact h2 x h
  · simp only [List.mem_cons, List.not_mem_nil, or_false] at h
    rw [h]
    exact h3
theorem mem_snoc {α : Type} {p : α → Prop} {l : List α} {a : α} (h : ∀ x ∈ l, p x) (ha : p a) : ∀ x ∈ l ++ [a], p x := fun x hx => by
  rcases List.mem_append.mp hx with z | z
  · exact h x z
  · simp only [List.mem_cons, List.not_mem_nil, or_false] at z
    rw [z]
    exact ha
theorem run_bd {B : Nat} : ∀ (l : List Nat) (R : Tab) (C : List (List Nat)) (c : List Nat) (ap : Bool) (W : Tab), runM l R C c ap = some W → (∀ r ∈ R, RowBd B r) → R.length + l.length + 1 ≤ B → C.length + l.length + 1 ≤ B → (∀ x ∈ C, x.length ≤ B) → c.length + l.length ≤ B → W ≠ [] ∧ W.length ≤ B ∧ ∀ r ∈ W, RowBd B r
  | [], R, C, c, ap, W, h, hR, b1, b2, hC, b3 => by
    unfold runM at h
    rw [List.length_nil] at b1 b2 b3
    split at h
    · cases h
    · cases h
      exact ⟨by simp, by rw [List.length_append]; show _ + 1 ≤ _; omega, mem_snoc hR (.snoc (by omega) hC (by omega))⟩
  | x :: l, R, C, c, ap, W, h, hR, b1, b2, hC, b3 => by
    unfold runM at h
    rw [List.length_cons] at b1 b2 b3
    have c1 : (c ++ [x]).length + l.length ≤ B := by rw [List.length_append]; show _ + 1 + _ ≤ _; omega
    split at h
    · split at h
      · exact run_bd l R C (c ++ [x]) false W h hR (by omega) (by omega) hC c1
      · cases h
    split at h
    · exact run_bd l R C c true W h hR (by omega) (by omega) hC (by omega)
    split at h
    · exact run_bd l R (C ++ [c]) [] false W h hR (by omega) (by rw [List.length_append]; show _ + 1 + _ + _ ≤ _; omega) (mem_snoc hC (by omega)) (by show 0 + _ ≤ _; omega)
    split at h
    · exact run_bd l (R ++ [C ++ [c]]) [] [] false W h (mem_snoc hR (.snoc (by omega) hC (by omega))) (by rw [List.length_append]; show _ + 1 + _ + _ ≤ _; omega) (by show 0 + _ + _ ≤ _; omega) (fun x hx => by cases hx) (by show 0 + _ ≤ _; omega)
    · exact run_bd l R C (c ++ [x]) false W h hR (by omega) (by omega) hC c1
theorem run_esc (rest : List Nat) (R : Tab) (C : List (List Nat)) : ∀ (e c : List Nat), runM (esc e ++ rest) R C c false = runM rest R C (c ++ e) false
  | [], c => by rw [List.append_nil]; rfl
  | x :: e, c => by
    have ih := run_esc rest R C e (c ++ [x])
    rw [List.append_assoc] at ih
    show runM ((if spB x = true then [92, x] else [x]) ++ esc e ++ rest) R C c false = runM rest R C (c ++ ([x] ++ e)) false
    by_cases hs : spB x = true
    · rw [if_pos hs, ← ih]
      show runM (92 :: x :: (esc e ++ rest)) R C c false = _
      have e1 : runM (92 :: x :: (esc e ++ rest)) R C c false = runM (x :: (esc e ++ rest)) R C c true := by
        rw [runM, if_neg (by decide), if_pos rfl]
      rw [e1, runM, if_pos rfl, if_pos hs]
    · rw [if_neg hs, ← ih]
      show runM (x :: (esc e ++ rest)) R C c false = _
      have hs' : spB x = false := by simpa using hs
      unfold spB at hs'
      simp only [Bool.or_eq_false_iff, decide_eq_false_iff_not] at hs'
      rw [runM, if_neg (by decide), if_neg hs'.1, if_neg hs'.2.1, if_neg hs'.2.2]
theorem run_row (rest : List Nat) (R : Tab) : ∀ (ps : List (List Nat)) (p : List Nat) (C : List (List Nat)) (c : List Nat), ∃ C' c', runM (TL.joinL [124] ((p :: ps).map esc) ++ rest) R C c false = runM rest R C' c' false ∧ C' ++ [c'] = C ++ ((c ++ p) :: ps)
  | [], p, C, c => ⟨C, c ++ p, run_esc rest R C p c, rfl⟩
  | q :: ps, p, C, c => by
    obtain ⟨C', c', e, h⟩ := run_row rest R ps q (C ++ [c ++ p]) []
    refine ⟨C', c', ?_, ?_⟩
    · rw [← e]
      show runM ((esc p ++ ([124] ++ TL.joinL [124] ((q :: ps).map esc))) ++ rest) R C c false = _
      rw [List.append_assoc, List.append_assoc, run_esc]
      show runM (124 :: (TL.joinL [124] ((q :: ps).map esc) ++ rest)) R C (c ++ p) false = _
      rw [runM, if_neg (by decide), if_neg (by decide), if_pos rfl]
    · rw [h, List.nil_append, List.append_assoc]
      rfl
theorem run_tab : ∀ (rs : Tab) (r : List (List Nat)) (R : Tab), r ≠ [] → (∀ x ∈ rs, x ≠ []) → runM (TL.joinL [47] ((r :: rs).map rowS)) R [] [] false = some (R ++ r :: rs)
  | [], r, R, hr, _ => by
    cases r with
    | nil => exact absurd rfl hr
    | cons p ps =>
      obtain ⟨C', c', e, h⟩ := run_row [] R ps p [] []
      rw [List.append_nil] at e
      show runM (TL.joinL [124] ((p :: ps).map esc)) R [] [] false = _
      rw [e, runM, if_neg (by decide), h]
      rfl
  | q :: rs, r, R, hr, hrs => by
    cases r with
    | nil => exact absurd rfl hr
    | cons p ps =>
      have ih := run_tab rs q (R ++ [p :: ps]) (hrs q List.mem_cons_self) fun x hx => hrs x (List.mem_cons_of_mem _ hx)
      obtain ⟨C', c', e, h⟩ := run_row (47 :: TL.joinL [47] ((q :: rs).map rowS)) R ps p [] []
      show runM (rowS (p :: ps) ++ ([47] ++ TL.joinL [47] ((q :: rs).map rowS))) R [] [] false = _
      have e2 : runM (rowS (p :: ps) ++ ([47] ++ TL.joinL [47] ((q :: rs).map rowS))) R [] [] false = _ := e
      rw [e2, runM, if_neg (by decide), if_neg (by decide), if_neg (by decide), if_pos rfl, h]
      show runM _ (R ++ [p :: ps]) [] [] false = _
      rw [ih, List.append_assoc]
      rfl
theorem TabOk.back {R : Tab} {n : Nat} (h : TabOk R n) : runM (tabS R) [] [] [] false = some R := by
  have ne : ∀ r ∈ R, r ≠ [] := fun r hr e => by
    have := h.ln r hr
    rw [e, List.length_nil] at this
    have := h.n1
    omega
  cases R with
  | nil => exact absurd h.l1 (by decide)
  | cons r rs => exact run_tab rs r [] (ne r List.mem_cons_self) fun x hx => ne x (List.mem_cons_of_mem _ hx)

end Pd

set_option maxHeartbeats 4000000
namespace Pd
open PySem PySem.Spec PyProof.Rows L2
local macro_rules | `(tactic| walk_at "pd") => `(tactic| try simp -implicitDefEqProofs only [e_seq, e_thn, e_trt, e_trn, e_tex, e_if, e_pick, e_pickx, e_ret, e_retN, e_set, e_drop, e_for, e_ofR, e_ofRx, e_ofI, e_nil, e_asg, endS_rt, endS_rn, endS_nx, endS_ex, endN_rn, endN_ex, gC, g1, g2, g3, gA, aNil, aCons, gAnd, gOr, gNot, gB, gTru, bAnd, bOr, bNot, gIf, iA, iSeq, gSl, pNone, pSome, ok_bind, ex_bind, st_bind, gVar, List.getElem?_cons_zero, List.getElem?_cons_succ, List.set_cons_zero, List.set_cons_succ, if_true, if_false, Bool.not_true, Bool.not_false, Bool.false_eq_true, ↓reduceIte, e_asB, e_lt, e_gt, e_le, e_ge, e_ltS, e_gtS, e_eqI, e_eqS, e_eqB, e_neI, e_neS, e_neB, e_addI, e_iaddI, e_subI, e_negI, e_andI, e_orI, e_xorI, e_lenL, e_lenT, e_ord, e_intB, e_intI, e_inS, e_ninS, e_itL, e_itT, e_itS, e_zip, e_enum, e_slL, e_slT, e_asI, e_isN1, e_isN2, e_notN1, e_notN2, e_truB, e_truI, e_truL, e_isi_int_non, e_isi_int_bl, e_isi_int_int, e_isi_int_str, e_isi_int_list, e_isi_int_tup, e_isi_int_dict, e_isi_int_dictT, e_isi_bool_non, e_isi_bool_bl, e_isi_bool_int, e_isi_bool_str, e_isi_bool_list, e_isi_bool_tup, e_isi_bool_dict, e_isi_bool_dictT, e_isi_str_non, e_isi_str_bl, e_isi_str_int, e_isi_str_str, e_isi_str_list, e_isi_str_tup, e_isi_str_dict, e_isi_str_dictT, e_isi_list_non, e_isi_list_bl, e_isi_list_int, e_isi_list_str, e_isi_list_list, e_isi_list_tup, e_isi_list_dict, e_isi_list_dictT, e_isi_tuple_non, e_isi_tuple_bl, e_isi_tuple_int, e_isi_tuple_str, e_isi_tuple_list, e_isi_tuple_tup, e_isi_tuple_dict, e_isi_tuple_dictT, e_isi_dict_non, e_isi_dict_bl, e_isi_dict_int, e_isi_dict_str, e_isi_dict_list, e_isi_dict_tup, e_isi_dict_dict, e_isi_dict_dictT, e_iteAnd, e_iteOr, e_iteAndD, e_iteOrD, e_then_ite, e_endS_ite, e_endN_ite, e_ofR_ite, e_pick_ite, e_bind_ite, e_modI, e_fdivI, e_mul1, e_pow10, e_pow2, e_shl1, e_shrI, e_addS, e_iaddS, e_addL, e_addT, e_lenS, e_lst, e_strLit, String.reduceBEq, e_ixL0, e_ixL1, e_ixL2, e_ixL3, e_ixL4, e_ixL5, e_ixL6, e_ixL7, e_ixL8, e_ixT0, e_ixT1, e_ixT2, e_ixT3, e_ixT4, e_ixT5, e_tupleL, e_listT, e_tupleT, eqX_int, neX_int, eqX_S, neX_S, eqX_t0, neX_t0, e_catL, e_tup, e_inT, e_ninT, e_inL, e_ninL, e_slS, Int.reduceLT, Int.reduceLE, Int.reduceMul, Int.reduceAdd, Int.reduceSub, Int.reducePow, Int.reduceNeg, Int.reduceToNat, List.length_cons, List.length_nil, List.length_append, Nat.reduceAdd, Nat.reduceLeDiff, flD, List.all_cons, List.all_nil, Bool.and_true, Bool.true_and, Bool.and_self, decide_true, decide_false, or_true, true_or, and_true, true_and, eq_self])
local macro_rules | `(tactic| walk_at "pdh") => `(tactic| try simp -implicitDefEqProofs only [e_seq, e_thn, e_trt, e_trn, e_tex, e_if, e_pick, e_pickx, e_ret, e_retN, e_set, e_drop, e_for, e_ofR, e_ofRx, e_ofI, e_nil, e_asg, endS_rt, endS_rn, endS_nx, endS_ex, endN_rn, endN_ex, gC, g1, g2, g3, gA, aNil, aCons, gAnd, gOr, gNot, gB, gTru, bAnd, bOr, bNot, gIf, iA, iSeq, gSl, pNone, pSome, ok_bind, ex_bind, st_bind, gVar, List.getElem?_cons_zero, List.getElem?_cons_succ, List.set_cons_zero, List.set_cons_succ, if_true, if_false, Bool.not_true, Bool.not_false, Bool.false_eq_true, ↓reduceIte, e_asB, e_lt, e_gt, e_le, e_ge, e_ltS, e_gtS, e_eqI, e_eqS, e_eqB, e_neI, e_neS, e_neB, e_addI, e_iaddI, e_subI, e_negI, e_andI, e_orI, e_xorI, e_lenL, e_lenT, e_ord, e_intB, e_intI, e_inS, e_ninS, e_itL, e_itT, e_itS, e_zip, e_enum, e_slL, e_slT, e_asI, e_isN1, e_isN2, e_notN1, e_notN2, e_truB, e_truI, e_truL, e_isi_int_non, e_isi_int_bl, e_isi_int_int, e_isi_int_str, e_isi_int_list, e_isi_int_tup, e_isi_int_dict, e_isi_int_dictT, e_isi_bool_non, e_isi_bool_bl, e_isi_bool_int, e_isi_bool_str, e_isi_bool_list, e_isi_bool_tup, e_isi_bool_dict, e_isi_bool_dictT, e_isi_str_non, e_isi_str_bl, e_isi_str_int, e_isi_str_str, e_isi_str_list, e_isi_str_tup, e_isi_str_dict, e_isi_str_dictT, e_isi_list_non, e_isi_list_bl, e_isi_list_int, e_isi_list_str, e_isi_list_list, e_isi_list_tup, e_isi_list_dict, e_isi_list_dictT, e_isi_tuple_non, e_isi_tuple_bl, e_isi_tuple_int, e_isi_tuple_str, e_isi_tuple_list, e_isi_tuple_tup, e_isi_tuple_dict, e_isi_tuple_dictT, e_isi_dict_non, e_isi_dict_bl, e_isi_dict_int, e_isi_dict_str, e_isi_dict_list, e_isi_dict_tup, e_isi_dict_dict, e_isi_dict_dictT, e_iteAnd, e_iteOr, e_iteAndD, e_iteOrD, e_then_ite, e_endS_ite, e_endN_ite, e_ofR_ite, e_pick_ite, e_bind_ite, e_modI, e_fdivI, e_mul1, e_pow10, e_pow2, e_shl1, e_shrI, e_addS, e_iaddS, e_addL, e_addT, e_lenS, e_lst, e_strLit, String.reduceBEq, e_ixL0, e_ixL1, e_ixL2, e_ixL3, e_ixL4, e_ixL5, e_ixL6, e_ixL7, e_ixL8, e_ixT0, e_ixT1, e_ixT2, e_ixT3, e_ixT4, e_ixT5, e_tupleL, e_listT, e_tupleT, eqX_int, neX_int, eqX_S, neX_S, eqX_t0, neX_t0, e_catL, e_tup, e_inT, e_ninT, e_inL, e_ninL, e_slS, Int.reduceLT, Int.reduceLE, Int.reduceMul, Int.reduceAdd, Int.reduceSub, Int.reducePow, Int.reduceNeg, Int.reduceToNat, List.length_cons, List.length_nil, List.length_append, Nat.reduceAdd, Nat.reduceLeDiff, flD, List.all_cons, List.all_nil, Bool.and_true, Bool.true_and, Bool.and_self, decide_true, decide_false, or_true, true_or, and_true, true_and, eq_self, *])
local macro_rules | `(tactic| walk_at "pdu") => `(tactic| try simp -implicitDefEqProofs only [e_seq, e_forN, e_for0, e_nxn, e_nct, e_nbk, e_nrt, e_nrn, e_nex, e_next_ite, e_thn, e_trt, e_trn, e_tex, e_if, e_pick, e_pickx, e_ret, e_retN, e_set, e_drop, e_for, e_ofR, e_ofRx, e_ofI, e_nil, e_asg, endS_rt, endS_rn, endS_nx, endS_ex, endN_rn, endN_ex, gC, g1, g2, g3, gA, aNil, aCons, gAnd, gOr, gNot, gB, gTru, bAnd, bOr, bNot, gIf, iA, iSeq, gSl, pNone, pSome, ok_bind, ex_bind, st_bind, gVar, List.getElem?_cons_zero, List.getElem?_cons_succ, List.set_cons_zero, List.set_cons_succ, if_true, if_false, Bool.not_true, Bool.not_false, Bool.false_eq_true, ↓reduceIte, e_asB, e_lt, e_gt, e_le, e_ge, e_ltS, e_gtS, e_eqI, e_eqS, e_eqB, e_neI, e_neS, e_neB, e_addI, e_iaddI, e_subI, e_negI, e_andI, e_orI, e_xorI, e_lenL, e_lenT, e_ord, e_intB, e_intI, e_inS, e_ninS, e_itL, e_itT, e_itS, e_zip, e_enum, e_slL, e_slT, e_asI, e_isN1, e_isN2, e_notN1, e_notN2, e_truB, e_truI, e_truL, e_isi_int_non, e_isi_int_bl, e_isi_int_int, e_isi_int_str, e_isi_int_list, e_isi_int_tup, e_isi_int_dict, e_isi_int_dictT, e_isi_bool_non, e_isi_bool_bl, e_isi_bool_int, e_isi_bool_str, e_isi_bool_list, e_isi_bool_tup, e_isi_bool_dict, e_isi_bool_dictT, e_isi_str_non, e_isi_str_bl, e_isi_str_int, e_isi_str_str, e_isi_str_list, e_isi_str_tup, e_isi_str_dict, e_isi_str_dictT, e_isi_list_non, e_isi_list_bl, e_isi_list_int, e_isi_list_str, e_isi_list_list, e_isi_list_tup, e_isi_list_dict, e_isi_list_dictT, e_isi_tuple_non, e_isi_tuple_bl, e_isi_tuple_int, e_isi_tuple_str, e_isi_tuple_list, e_isi_tuple_tup, e_isi_tuple_dict, e_isi_tuple_dictT, e_isi_dict_non, e_isi_dict_bl, e_isi_dict_int, e_isi_dict_str, e_isi_dict_list, e_isi_dict_tup, e_isi_dict_dict, e_isi_dict_dictT, e_iteAnd, e_iteOr, e_iteAndD, e_iteOrD, e_then_ite, e_endS_ite, e_endN_ite, e_ofR_ite, e_pick_ite, e_bind_ite, e_modI, e_fdivI, e_mul1, e_pow10, e_pow2, e_shl1, e_shrI, e_addS, e_iaddS, e_addL, e_addT, e_lenS, e_lst, e_strLit, String.reduceBEq, e_ixL0, e_ixL1, e_ixL2, e_ixL3, e_ixL4, e_ixL5, e_ixL6, e_ixL7, e_ixL8, e_ixT0, e_ixT1, e_ixT2, e_ixT3, e_ixT4, e_ixT5, e_tupleL, e_listT, e_tupleT, eqX_int, neX_int, eqX_S, neX_S, eqX_t0, neX_t0, e_catL, e_tup, e_inT, e_ninT, e_inL, e_ninL, e_slS, Int.reduceLT, Int.reduceLE, Int.reduceMul, Int.reduceAdd, Int.reduceSub, Int.reducePow, Int.reduceNeg, Int.reduceToNat, List.length_cons, List.length_nil, List.length_append, Nat.reduceAdd, Nat.reduceLeDiff, flD, List.all_cons, List.all_nil, Bool.and_true, Bool.true_and, Bool.and_self, decide_true, decide_false, or_true, true_or, and_true, true_and, eq_self])
local macro_rules | `(tactic| walk_at "pdq") => `(tactic| try simp -implicitDefEqProofs only [e_seq, q_seq, q_tnx, q_tex, q_trt, q_then_ite, q_if, q_pick, q_pickx, q_pick_ite, q_nil, q_raise, cl_nil, cl_f, cl_t, cl_n, e_thn, e_trt, e_trn, e_tex, e_if, e_pick, e_pickx, e_ret, e_retN, e_set, e_drop, e_for, e_ofR, e_ofRx, e_ofI, e_nil, e_asg, endS_rt, endS_rn, endS_nx, endS_ex, endN_rn, endN_ex, gC, g1, g2, g3, gA, aNil, aCons, gAnd, gOr, gNot, gB, gTru, bAnd, bOr, bNot, gIf, iA, iSeq, gSl, pNone, pSome, ok_bind, ex_bind, st_bind, gVar, List.getElem?_cons_zero, List.getElem?_cons_succ, List.set_cons_zero, List.set_cons_succ, if_true, if_false, Bool.not_true, Bool.not_false, Bool.false_eq_true, ↓reduceIte, e_asB, e_lt, e_gt, e_le, e_ge, e_ltS, e_gtS, e_eqI, e_eqS, e_eqB, e_neI, e_neS, e_neB, e_addI, e_iaddI, e_subI, e_negI, e_andI, e_orI, e_xorI, e_lenL, e_lenT, e_ord, e_intB, e_intI, e_inS, e_ninS, e_itL, e_itT, e_itS, e_zip, e_enum, e_slL, e_slT, e_asI, e_isN1, e_isN2, e_notN1, e_notN2, e_truB, e_truI, e_truL, e_isi_int_non, e_isi_int_bl, e_isi_int_int, e_isi_int_str, e_isi_int_list, e_isi_int_tup, e_isi_int_dict, e_isi_int_dictT, e_isi_bool_non, e_isi_bool_bl, e_isi_bool_int, e_isi_bool_str, e_isi_bool_list, e_isi_bool_tup, e_isi_bool_dict, e_isi_bool_dictT, e_isi_str_non, e_isi_str_bl, e_isi_str_int, e_isi_str_str, e_isi_str_list, e_isi_str_tup, e_isi_str_dict, e_isi_str_dictT, e_isi_list_non, e_isi_list_bl, e_isi_list_int, e_isi_list_str, e_isi_list_list, e_isi_list_tup, e_isi_list_dict, e_isi_list_dictT, e_isi_tuple_non, e_isi_tuple_bl, e_isi_tuple_int, e_isi_tuple_str, e_isi_tuple_list, e_isi_tuple_tup, e_isi_tuple_dict, e_isi_tuple_dictT, e_isi_dict_non, e_isi_dict_bl, e_isi_dict_int, e_isi_dict_str, e_isi_dict_list, e_isi_dict_tup, e_isi_dict_dict, e_isi_dict_dictT, e_iteAnd, e_iteOr, e_iteAndD, e_iteOrD, e_then_ite, e_endS_ite, e_endN_ite, e_ofR_ite, e_pick_ite, e_bind_ite, e_modI, e_fdivI, e_mul1, e_pow10, e_pow2, e_shl1, e_shrI, e_addS, e_iaddS, e_addL, e_addT, e_lenS, e_lst, e_strLit, String.reduceBEq, e_ixL0, e_ixL1, e_ixL2, e_ixL3, e_ixL4, e_ixL5, e_ixL6, e_ixL7, e_ixL8, e_ixT0, e_ixT1, e_ixT2, e_ixT3, e_ixT4, e_ixT5, e_tupleL, e_listT, e_tupleT, eqX_int, neX_int, eqX_S, neX_S, eqX_t0, neX_t0, e_catL, e_tup, e_inT, e_ninT, e_inL, e_ninL, e_slS, Int.reduceLT, Int.reduceLE, Int.reduceMul, Int.reduceAdd, Int.reduceSub, Int.reducePow, Int.reduceNeg, Int.reduceToNat, List.length_cons, List.length_nil, List.length_append, Nat.reduceAdd, Nat.reduceLeDiff, flD, List.all_cons, List.all_nil, Bool.and_true, Bool.true_and, Bool.and_self, decide_true, decide_false, or_true, true_or, and_true, true_and, eq_self])
local macro_rules | `(tactic| walk_at "pdr") => `(tactic| try simp -implicitDefEqProofs only [e_seq, q_seq, q_tnx, q_tex, q_trt, q_then_ite, q_nil, q_raise, cl_nil, cl_f, cl_t, cl_n, s_ok, s_ex, e_sqRet, e_sqSet, e_sqExpr, e_sqAsg, asg_some, e_tqName, e_tqTup2, e_qP, e_upok, e_upex, e_qVar, e_varok, e_qNew, e_newok, rq_ok, rq_ex, e_aqN, e_aqC, e_qPA, e_qCall, e_qTup, e_tupP2, e_qSn, e_qSnT, e_tok, e_qT, e_up_ite, pk_ite, s_ite, tst_ite, e_end_ite, q_ifS, pk_ok, e_q2, op2_ii, op2_ss, op2_si, e_qLst, lstP1, e_iqR,  sn_nil, sn_s, sn_n, fu_f, e_qIx, e_endrt, e_endnx, List.map_cons, List.map_nil, Bool.or_false, Bool.or_true, Bool.true_or, Bool.false_or, e_thn, e_trt, e_trn, e_tex, e_if, e_pick, e_pickx, e_ret, e_retN, e_set, e_drop, e_for, e_ofR, e_ofRx, e_ofI, e_nil, e_asg, endS_rt, endS_rn, endS_nx, endS_ex, endN_rn, endN_ex, gC, g1, g2, g3, gA, aNil, aCons, gAnd, gOr, gNot, gB, gTru, bAnd, bOr, bNot, gIf, iA, iSeq, gSl, pNone, pSome, ok_bind, ex_bind, st_bind, gVar, List.getElem?_cons_zero, List.getElem?_cons_succ, List.set_cons_zero, List.set_cons_succ, if_true, if_false, Bool.not_true, Bool.not_false, Bool.false_eq_true, ↓reduceIte, e_asB, e_lt, e_gt, e_le, e_ge, e_ltS, e_gtS, e_eqI, e_eqS, e_eqB, e_neI, e_neS, e_neB, e_addI, e_iaddI, e_subI, e_negI, e_andI, e_orI, e_xorI, e_lenL, e_lenT, e_ord, e_intB, e_intI, e_inS, e_ninS, e_itL, e_itT, e_itS, e_zip, e_enum, e_slL, e_slT, e_asI, e_isN1, e_isN2, e_notN1, e_notN2, e_truB, e_truI, e_truL, e_isi_int_non, e_isi_int_bl, e_isi_int_int, e_isi_int_str, e_isi_int_list, e_isi_int_tup, e_isi_int_dict, e_isi_int_dictT, e_isi_bool_non, e_isi_bool_bl, e_isi_bool_int, e_isi_bool_str, e_isi_bool_list, e_isi_bool_tup, e_isi_bool_dict, e_isi_bool_dictT, e_isi_str_non, e_isi_str_bl, e_isi_str_int, e_isi_str_str, e_isi_str_list, e_isi_str_tup, e_isi_str_dict, e_isi_str_dictT, e_isi_list_non, e_isi_list_bl, e_isi_list_int, e_isi_list_str, e_isi_list_list, e_isi_list_tup, e_isi_list_dict, e_isi_list_dictT, e_isi_tuple_non, e_isi_tuple_bl, e_isi_tuple_int, e_isi_tuple_str, e_isi_tuple_list, e_isi_tuple_tup, e_isi_tuple_dict, e_isi_tuple_dictT, e_isi_dict_non, e_isi_dict_bl, e_isi_dict_int, e_isi_dict_str, e_isi_dict_list, e_isi_dict_tup, e_isi_dict_dict, e_isi_dict_dictT, e_iteAnd, e_iteOr, e_iteAndD, e_iteOrD, e_then_ite, e_endS_ite, e_endN_ite, e_ofR_ite, e_pick_ite, e_bind_ite, e_modI, e_fdivI, e_mul1, e_pow10, e_pow2, e_shl1, e_shrI, e_addS, e_iaddS, e_addL, e_addT, e_lenS, e_lst, e_strLit, String.reduceBEq, e_ixL0, e_ixL1, e_ixL2, e_ixL3, e_ixL4, e_ixL5, e_ixL6, e_ixL7, e_ixL8, e_ixT0, e_ixT1, e_ixT2, e_ixT3, e_ixT4, e_ixT5, e_tupleL, e_listT, e_tupleT, eqX_int, neX_int, eqX_S, neX_S, eqX_t0, neX_t0, e_catL, e_tup, e_inT, e_ninT, e_inL, e_ninL, e_slS, Int.reduceLT, Int.reduceLE, Int.reduceMul, Int.reduceAdd, Int.reduceSub, Int.reducePow, Int.reduceNeg, Int.reduceToNat, List.length_cons, List.length_nil, List.length_append, Nat.reduceAdd, Nat.reduceLeDiff, flD, List.all_cons, List.all_nil, Bool.and_true, Bool.true_and, Bool.and_self, decide_true, decide_false, or_true, true_or, and_true, true_and, eq_self])
local macro_rules | `(tactic| walk_at "pdv") => `(tactic| try simp -implicitDefEqProofs only [e_seq, Int.reduceBEq, Int.cast_ofNat_Int, e_thn, e_trt, e_trn, e_tex, e_if, e_pick, e_pickx, e_ret, e_retN, e_set, e_drop, e_for, e_ofR, e_ofRx, e_ofI, e_nil, e_asg, endS_rt, endS_rn, endS_nx, endS_ex, endN_rn, endN_ex, gC, g1, g2, g3, gA, aNil, aCons, gAnd, gOr, gNot, gB, gTru, bAnd, bOr, bNot, gIf, iA, iSeq, gSl, pNone, pSome, ok_bind, ex_bind, st_bind, gVar, List.getElem?_cons_zero, List.getElem?_cons_succ, List.set_cons_zero, List.set_cons_succ, if_true, if_false, Bool.not_true, Bool.not_false, Bool.false_eq_true, ↓reduceIte, e_asB, e_lt, e_gt, e_le, e_ge, e_ltS, e_gtS, e_eqI, e_eqS, e_eqB, e_neI, e_neS, e_neB, e_addI, e_iaddI, e_subI, e_negI, e_andI, e_orI, e_xorI, e_lenL, e_lenT, e_ord, e_intB, e_intI, e_inS, e_ninS, e_itL, e_itT, e_itS, e_zip, e_enum, e_slL, e_slT, e_asI, e_isN1, e_isN2, e_notN1, e_notN2, e_truB, e_truI, e_truL, e_isi_int_non, e_isi_int_bl, e_isi_int_int, e_isi_int_str, e_isi_int_list, e_isi_int_tup, e_isi_int_dict, e_isi_int_dictT, e_isi_bool_non, e_isi_bool_bl, e_isi_bool_int, e_isi_bool_str, e_isi_bool_list, e_isi_bool_tup, e_isi_bool_dict, e_isi_bool_dictT, e_isi_str_non, e_isi_str_bl, e_isi_str_int, e_isi_str_str, e_isi_str_list, e_isi_str_tup, e_isi_str_dict, e_isi_str_dictT, e_isi_list_non, e_isi_list_bl, e_isi_list_int, e_isi_list_str, e_isi_list_list, e_isi_list_tup, e_isi_list_dict, e_isi_list_dictT, e_isi_tuple_non, e_isi_tuple_bl, e_isi_tuple_int, e_isi_tuple_str, e_isi_tuple_list, e_isi_tuple_tup, e_isi_tuple_dict, e_isi_tuple_dictT, e_isi_dict_non, e_isi_dict_bl, e_isi_dict_int, e_isi_dict_str, e_isi_dict_list, e_isi_dict_tup, e_isi_dict_dict, e_isi_dict_dictT, e_iteAnd, e_iteOr, e_iteAndD, e_iteOrD, e_then_ite, e_endS_ite, e_endN_ite, e_ofR_ite, e_pick_ite, e_bind_ite, e_modI, e_fdivI, e_mul1, e_pow10, e_pow2, e_shl1, e_shrI, e_addS, e_iaddS, e_addL, e_addT, e_lenS, e_lst, e_strLit, String.reduceBEq, e_ixL0, e_ixL1, e_ixL2, e_ixL3, e_ixL4, e_ixL5, e_ixL6, e_ixL7, e_ixL8, e_ixT0, e_ixT1, e_ixT2, e_ixT3, e_ixT4, e_ixT5, e_tupleL, e_listT, e_tupleT, eqX_int, neX_int, eqX_S, neX_S, eqX_t0, neX_t0, e_catL, e_tup, e_inT, e_ninT, e_inL, e_ninL, e_slS, Int.reduceLT, Int.reduceLE, Int.reduceMul, Int.reduceAdd, Int.reduceSub, Int.reducePow, Int.reduceNeg, Int.reduceToNat, List.length_cons, List.length_nil, List.length_append, Nat.reduceAdd, Nat.reduceLeDiff, flD, List.all_cons, List.all_nil, Bool.and_true, Bool.true_and, Bool.and_self, decide_true, decide_false, or_true, true_or, and_true, true_and, eq_self])
/-! ### read, by both -/
theorem lfit_at (s : Str) (hs : s.length ≤ 16777216) : F__law_texts_fit [.str s] = .ok (.bl (textB (.str s))) := by
  show endS (S__law_texts_fit [some (.str s), none]) = .ok (.bl (ofS s allSigns 0 60))
  unfold S__law_texts_fit ofS
  walk_at "pd"
  rw [e_lenS s hs]
  walk_at "pd"
  rw [decide_eq_true (show (0 : Int) ≤ (s.length : Int) by omega), Bool.true_and]
  by_cases h2 : (s.length : Int) ≤ 60
  · rw [decide_eq_true h2, decide_eq_false (show ¬ (60 : Int) < (s.length : Int) by omega)]
    walk_at "pd"
    obtain ⟨ρ', hρ, e⟩ := forL_all (i := 1) (b := B__law_texts_fit_0) (inStr allSigns) (.rt (.bl false)) (.inl ⟨_, rfl⟩) [some (.str s), none] (signs s) _ (.inl rfl) (fun d hd => by
      obtain ⟨c, hc, rfl⟩ := mem_signs hd
      unfold B__law_texts_fit_0
      walk_at "pd"
      have e4 : inStr allSigns (.str ⟨#[c]⟩) = decide (c ∈ allSigns.cps.toList) := hasSub_one allSigns c
      rw [e4, sign_in c]
      have e1 : decide ((32 : Int) ≤ (c : Int)) = !decide (c < 32) := by
        by_cases q : c < 32
        · rw [decide_eq_true q, decide_eq_false (by omega)]; rfl
        · rw [decide_eq_false q, decide_eq_true (by omega)]; rfl
      have e2 : decide ((c : Int) ≤ (126 : Int)) = !decide (126 < c) := by
        by_cases q : 126 < c
        · rw [decide_eq_true q, decide_eq_false (by omega)]; rfl
        · rw [decide_eq_false q, decide_eq_true (by omega)]; rfl
      have e3 : ((c : Int) == 37) = decide ((c : Int) = 37) := rfl
      rw [e1, e2, e3]
      cases decide (c < 32) <;> cases decide (126 < c) <;> cases decide ((c : Int) = 37) <;> rfl)
    rw [e, inStr_all]
    cases hb : s.cps.toList.all fun c => decide (c ∈ allSigns.cps.toList) <;> rfl
  · rw [decide_eq_false h2, decide_eq_true (show (60 : Int) < (s.length : Int) by omega)]
    rfl
def due0 (s : Str) : D := if textB (.str s) = true then .str s else .non
theorem lread0 {k : Str} (hk : (k == Str.ofString "table") = false) (s : Str) (hs : s.length ≤ 16777216) : F__law_read [.str k, .str s] = .ok (due0 s) := by
  show endS (S__law_read [some (.str k), some (.str s), none, none, none]) = _
  unfold S__law_read due0
  walk_at "pd"
  rw [hk]
  walk_at "pd"
  rw [lfit_at s hs]
  walk_at "pd"
  cases textB (.str s) with
  | true =>
    walk_at "pd"
  | false =>
    walk_at "pd"
def gdT (d : D) : Prop := gdL 0 d = true
theorem kfits_at {t : Bool} {k : Str} {K : D} (h : KO k t K) {c : D} (hc : Tq 3 c) {go : Rho → R D} {as : Rho → R (List D)} {ρ : Rho} (h1 : go ρ = .ok K) (h2 : as ρ = .ok [c]) : gMeth [("Chapter", F_Kind_fits), ("Para", F_Kind_fits), ("Table", F_Table_fits)] "fits" go as ρ = .ok (.bl (if t = true then tableB c else textB c)) := by
  have e1 : gMeth [("Chapter", F_Kind_fits), ("Para", F_Kind_fits), ("Table", F_Table_fits)] "fits" go as ρ = metD [("Chapter", F_Kind_fits), ("Para", F_Kind_fits), ("Table", F_Table_fits)] "fits" K fun G => G [c] := by
    unfold gMeth
    rw [h1, ok_bind, h2]
    rfl
  rw [e1]
  cases h with
  | chapter => exact (f_chapter c).trans (f_txt hc)
  | para => exact (f_para c).trans (f_txt hc)
  | table => exact f_table (m := 1) hc
theorem kread0 {k : Str} {K : D} (h : KO k false K) (s : Str) (hs : s.length ≤ 16777216) : F_Kind_read_shown [K, .str s] = .ok (due0 s) := by
  show endS (S_Kind_read_shown [some K, some (.str s)]) = _
  unfold S_Kind_read_shown due0
  walk_at "pd"
  rw [kfits_at h (c := .str s) (.of (decide_eq_true hs)) rfl rfl]
  walk_at "pd"
  cases textB (.str s) <;> rfl
theorem tab_gd {W : Tab} (h : ∀ r ∈ W, RowBd 16777216 r) : gdL 3 (tabD W) = true := by
  refine List.all_eq_true.mpr fun d hd => ?_
  obtain ⟨r, hr, rfl⟩ := List.mem_map.mp hd
  refine List.all_eq_true.mpr fun d hd => ?_
  unfold rowT at hd
  obtain ⟨c, hc, rfl⟩ := List.mem_map.mp hd
  have := (h r hr).2.2 c hc
  exact decide_eq_true (by rw [TS_len]; exact this)
def dueW : Option Tab → D
  | some W => if tableB (tabD W) = true then tabD W else .non
  | none => .non
theorem run_ok {L : List Nat} (hL : L.length ≤ 50000) {W : Tab} (h : runM L [] [] [] false = some W) : W ≠ [] ∧ W.length ≤ 16777216 ∧ ∀ r ∈ W, RowBd 16777216 r :=
  run_bd L [] [] [] false W h (fun r hr => by cases hr) (by show 0 + _ + 1 ≤ _; omega) (by show 0 + _ + 1 ≤ _; omega) (fun x hx => by cases hx) (by show 0 + _ ≤ _; omega)
theorem tread_at (L : List Nat) (hL : L.length ≤ 50000) : F_Table_read_shown [.obj "Table" [], .str (TS L)] = .ok (dueW (runM L [] [] [] false)) := by
  show endS (S_Table_read_shown [some (.obj "Table" []), some (.str (TS L)), none]) = _
  unfold S_Table_read_shown
  walk_at "pd"
  rw [rows_read_at L (by omega)]
  walk_at "pd"
  cases hr : runM L [] [] [] false with
  | none => rfl
  | some W =>
    obtain ⟨w1, w2, w3⟩ := run_ok hL hr
    show endS (((S.pick (((isND (tabD W) .non).bind asB).bind fun k => if k = true then R.ok true else _) _ _ _)).then _) = _
    rw [show isND (tabD W) .non = .ok (.bl false) from rfl]
    walk_at "pd"
    rw [kfits_at KO.table (c := tabD W) (.of (tab_gd w3)) rfl rfl]
    walk_at "pd"
    show (if (!tableB (tabD W)) = true then R.ok D.non else R.ok (tabD W)) = R.ok (if tableB (tabD W) = true then tabD W else .non)
    cases tableB (tabD W) <;> rfl
def rowOkB (n : Nat) : D → Bool
  | .list ds => ((ds.length : Int) == (n : Int)) && ds.all textB
  | _ => false
theorem any_false {α : Type} (f : α → Bool) (l : List α) : ((l.map fun x => D.bl (f x)).any fun z => eqvD z (.bl false)) = !l.all f := by
  induction l with
  | nil => rfl
  | cons a l ih =>
    rw [List.map_cons, List.any_cons, List.all_cons, ih]
    have : eqvD (.bl (f a)) (.bl false) = !f a := by
      show (f a == false) = _
      cases f a <;> rfl
    rw [this]
    cases f a <;> rfl
theorem flds {α : Type} (f : α → Bool) (l : List α) : (flD (.bl false) && (l.map fun x => D.bl (f x)).all flD) = true := by
  rw [show flD (.bl false) = true from rfl, Bool.true_and]
  exact List.all_eq_true.mpr fun d hd => by
    obtain ⟨x, _, rfl⟩ := List.mem_map.mp hd
    rfl
theorem lread_row {T : D} {W : Tab} {r0 r : List (List Nat)} (rs : Tab) (hW : W = r0 :: rs) (hr : ∀ x ∈ r, x.length ≤ 16777216) (hl : r.length ≤ 16777216) (o : Option D) : B__law_read_0 [some (.str "table"), some T, some (lstT W), some (.list (rowT r)), o] =
    if rowOkB r0.length (.list (rowT r)) = true then .nx [some (.str "table"), some T, some (lstT W), some (.list (rowT r)), o] else .rt .non := by
  have e0 : ixD (lstT W) (.int 0) = .ok (.list (rowT r0)) := by
    rw [hW]
    exact e_ixL0 _ _
  have l0 : (rowT r0).length = r0.length := by unfold rowT; rw [List.length_map]
  have lr : (rowT r).length = r.length := by unfold rowT; rw [List.length_map]
  unfold B__law_read_0
  walk_at "pd"
  rw [e0]
  walk_at "pd"
  rw [lr, l0]
  show _ = if (((rowT r).length : Int) == (r0.length : Int) && (rowT r).all textB) = true then _ else _
  rw [lr]
  by_cases h1 : ((r.length : Int) == (r0.length : Int)) = true
  · rw [h1, Bool.true_and]
    walk_at "pd"
    generalize hG : gLc _ _ _ _ _ _ = G
    have e := gLc_map hG (fun d => .bl (textB d)) (items := rowT r) (by walk_at "pd") (by rw [lr]; exact hl) (fun d hd => by
      unfold rowT at hd
      obtain ⟨c, hc, rfl⟩ := List.mem_map.mp hd
      show gA F__law_texts_fit _ [some (.str "table"), some T, some (lstT W), some (.list (rowT r)), some (.str (TS c))] = _
      walk_at "pd"
      rw [lfit_at _ (by rw [TS_len]; exact hr c hc)])
    rw [e]
    walk_at "pd"
    rw [e_inL _ _ (flds _ _), any_false]
    walk_at "pd"
    cases (rowT r).all textB <;> rfl
  · rw [show ((r.length : Int) == (r0.length : Int)) = false by simpa using h1]
    walk_at "pd"
    rfl
theorem lread_tab (L : List Nat) (hL : L.length ≤ 50000) : F__law_read [.str "table", .str (TS L)] = .ok (dueW (runM L [] [] [] false)) := by
  show endS (S__law_read [some (.str "table"), some (.str (TS L)), none, none, none]) = _
  unfold S__law_read
  walk_at "pd"
  rw [law_rows_at L hL]
  walk_at "pd"
  cases hr : runM L [] [] [] false with
  | none => rfl
  | some W =>
    obtain ⟨w1, w2, w3⟩ := run_ok hL hr
    cases W with
    | nil => exact absurd rfl w1
    | cons r0 rs =>
      have e0 : ixD (lstT (r0 :: rs)) (.int 0) = .ok (.list (rowT r0)) := e_ixL0 _ _
      have l0 : (rowT r0).length = r0.length := by unfold rowT; rw [List.length_map]
      have ll : ((r0 :: rs).map fun r => D.list (rowT r)).length = (r0 :: rs).length := by rw [List.length_map]
      have n0 : r0.length ≠ 0 := fun e => (w3 r0 List.mem_cons_self).1 (List.length_eq_zero_iff.mp e)
      show endS (((S.pick (((isND (outL (some (r0 :: rs))) .non).bind asB).bind fun k => if k = true then R.ok true else _) _ _ _)).then _) = _
      rw [show outL (some (r0 :: rs)) = lstT (r0 :: rs) from rfl, show isND (lstT (r0 :: rs)) .non = .ok (.bl false) from rfl]
      walk_at "pd"
      rw [show lenD [lstT (r0 :: rs)] = .ok (.int (((r0 :: rs).length : Nat) : Int)) from by
        show R.ok (D.int ((((r0 :: rs).map fun r => D.list (rowT r)).length : Nat) : Int)) = _
        rw [ll]]
      walk_at "pd"
      rw [e0]
      walk_at "pd"
      rw [l0]
      have allE : ((r0 :: rs).map fun r => D.tup (rowT r)).all (rowB r0.length) = ((r0 :: rs).map fun r => D.list (rowT r)).all (rowOkB r0.length) := by
        rw [List.all_map, List.all_map]
        rfl
      have tb : tableB (tabD (r0 :: rs)) = (few (rs.length + 1) && ((few r0.length && (rowT r0).all textB) && ((r0 :: rs).map fun r => D.list (rowT r)).all (rowOkB r0.length))) := by
        rw [← allE]
        show (few (((r0 :: rs).map fun r => D.tup (rowT r)).length) && ((few (rowT r0).length && (rowT r0).all textB) && ((r0 :: rs).map fun r => D.tup (rowT r)).all (rowB (rowT r0).length))) = _
        rw [List.length_map, l0]
        rfl
      show _ = R.ok (if tableB (tabD (r0 :: rs)) = true then tabD (r0 :: rs) else .non)
      by_cases h6 : 6 < rs.length + 1
      · rw [if_pos (decide_eq_true (by omega)), tb, show few (rs.length + 1) = false by unfold few; rw [decide_eq_false (show ¬ (((rs.length + 1 : Nat) : Int) ≤ 6) by omega), Bool.and_false]]
        rfl
      rw [if_neg (by rw [decide_eq_true_eq]; omega)]
      by_cases h7 : 6 < r0.length
      · rw [if_pos (decide_eq_true (by omega)), tb, show few r0.length = false by unfold few; rw [decide_eq_false (show ¬ ((r0.length : Int) ≤ 6) by omega), Bool.and_false]]
        rw [Bool.false_and, Bool.false_and, Bool.and_false]
        rfl
      rw [if_neg (by rw [decide_eq_true_eq]; omega)]
      rw [show itemsD (lstT (r0 :: rs)) = .ok ((r0 :: rs).map fun r => D.list (rowT r)) from rfl]
      obtain ⟨ρ', hρ, e⟩ := forL_all (i := 3) (b := B__law_read_0) (rowOkB r0.length) (.rt .non) (.inl ⟨_, rfl⟩) [some (.str "table"), some (.str (TS L)), some (lstT (r0 :: rs)), none, none] ((r0 :: rs).map fun r => D.list (rowT r)) _ (.inl rfl) (fun d hd => by
        obtain ⟨r, hr', rfl⟩ := List.mem_map.mp hd
        obtain ⟨_, g2, g3⟩ := w3 r hr'
        exact lread_row rs rfl g3 g2 none)
      walk_at "pd"
      rw [e]
      have ff : few (rs.length + 1) = true := few_of (by omega) (by omega)
      have f0 : few r0.length = true := few_of (by omega) (by omega)
      rw [tb, ff, f0, Bool.true_and, Bool.true_and]
      cases hA : ((r0 :: rs).map fun r => D.list (rowT r)).all (rowOkB r0.length) with
      | false =>
        rw [Bool.and_false]
        rfl
      | true =>
        have a0 : (rowT r0).all textB = true := by
          have := List.all_eq_true.mp hA (.list (rowT r0)) (List.mem_map.mpr ⟨r0, List.mem_cons_self, rfl⟩)
          exact (Bool.and_eq_true_iff.mp (show (((rowT r0).length : Int) == (r0.length : Int) && (rowT r0).all textB) = true from this)).2
        rw [a0, if_pos rfl, Bool.and_self, if_pos rfl]
        have fin : ∀ o : Option D, endS ((S.nx [some (.str "table"), some (.str (TS L)), some (lstT (r0 :: rs)), o, none]).then (sRet (gA tupleD (aCons (gLc (iSeq (gVar 2)) [3] (τName 3) bYes (gA tupleD (aCons (gVar 3) aNil))) aNil)))) = .ok (tabD (r0 :: rs)) := fun o => by
          walk_at "pd"
          generalize hG : gLc _ _ _ _ _ _ = G
          have eG := gLc_map hG (fun d => match d with | .list ds => .tup ds | _ => .non) (items := (r0 :: rs).map fun r => D.list (rowT r)) rfl (by rw [ll]; exact w2) (fun d hd => by
            obtain ⟨r, hr', rfl⟩ := List.mem_map.mp hd
            rfl)
          rw [eG]
          walk_at "pd"
          rw [List.map_map]
          rfl
        rcases hρ with rfl | ⟨d, rfl⟩
        · exact fin none
        · exact fin (some d)

end Pd

set_option maxHeartbeats 4000000
namespace Pd
open PySem PySem.Spec PyProof.Rows L2
local macro_rules | `(tactic| walk_at "pd") => `(tactic| try simp -implicitDefEqProofs only [e_seq, e_thn, e_trt, e_trn, e_tex, e_if, e_pick, e_pickx, e_ret, e_retN, e_set, e_drop, e_for, e_ofR, e_ofRx, e_ofI, e_nil, e_asg, endS_rt, endS_rn, endS_nx, endS_ex, endN_rn, endN_ex, gC, g1, g2, g3, gA, aNil, aCons, gAnd, gOr, gNot, gB, gTru, bAnd, bOr, bNot, gIf, iA, iSeq, gSl, pNone, pSome, ok_bind, ex_bind, st_bind, gVar, List.getElem?_cons_zero, List.getElem?_cons_succ, List.set_cons_zero, List.set_cons_succ, if_true, if_false, Bool.not_true, Bool.not_false, Bool.false_eq_true, ↓reduceIte, e_asB, e_lt, e_gt, e_le, e_ge, e_ltS, e_gtS, e_eqI, e_eqS, e_eqB, e_neI, e_neS, e_neB, e_addI, e_iaddI, e_subI, e_negI, e_andI, e_orI, e_xorI, e_lenL, e_lenT, e_ord, e_intB, e_intI, e_inS, e_ninS, e_itL, e_itT, e_itS, e_zip, e_enum, e_slL, e_slT, e_asI, e_isN1, e_isN2, e_notN1, e_notN2, e_truB, e_truI, e_truL, e_isi_int_non, e_isi_int_bl, e_isi_int_int, e_isi_int_str, e_isi_int_list, e_isi_int_tup, e_isi_int_dict, e_isi_int_dictT, e_isi_bool_non, e_isi_bool_bl, e_isi_bool_int, e_isi_bool_str, e_isi_bool_list, e_isi_bool_tup, e_isi_bool_dict, e_isi_bool_dictT, e_isi_str_non, e_isi_str_bl, e_isi_str_int, e_isi_str_str, e_isi_str_list, e_isi_str_tup, e_isi_str_dict, e_isi_str_dictT, e_isi_list_non, e_isi_list_bl, e_isi_list_int, e_isi_list_str, e_isi_list_list, e_isi_list_tup, e_isi_list_dict, e_isi_list_dictT, e_isi_tuple_non, e_isi_tuple_bl, e_isi_tuple_int, e_isi_tuple_str, e_isi_tuple_list, e_isi_tuple_tup, e_isi_tuple_dict, e_isi_tuple_dictT, e_isi_dict_non, e_isi_dict_bl, e_isi_dict_int, e_isi_dict_str, e_isi_dict_list, e_isi_dict_tup, e_isi_dict_dict, e_isi_dict_dictT, e_iteAnd, e_iteOr, e_iteAndD, e_iteOrD, e_then_ite, e_endS_ite, e_endN_ite, e_ofR_ite, e_pick_ite, e_bind_ite, e_modI, e_fdivI, e_mul1, e_pow10, e_pow2, e_shl1, e_shrI, e_addS, e_iaddS, e_addL, e_addT, e_lenS, e_lst, e_strLit, String.reduceBEq, e_ixL0, e_ixL1, e_ixL2, e_ixL3, e_ixL4, e_ixL5, e_ixL6, e_ixL7, e_ixL8, e_ixT0, e_ixT1, e_ixT2, e_ixT3, e_ixT4, e_ixT5, e_tupleL, e_listT, e_tupleT, eqX_int, neX_int, eqX_S, neX_S, eqX_t0, neX_t0, e_catL, e_tup, e_inT, e_ninT, e_inL, e_ninL, e_slS, Int.reduceLT, Int.reduceLE, Int.reduceMul, Int.reduceAdd, Int.reduceSub, Int.reducePow, Int.reduceNeg, Int.reduceToNat, List.length_cons, List.length_nil, List.length_append, Nat.reduceAdd, Nat.reduceLeDiff, flD, List.all_cons, List.all_nil, Bool.and_true, Bool.true_and, Bool.and_self, decide_true, decide_false, or_true, true_or, and_true, true_and, eq_self])
local macro_rules | `(tactic| walk_at "pdh") => `(tactic| try simp -implicitDefEqProofs only [e_seq, e_thn, e_trt, e_trn, e_tex, e_if, e_pick, e_pickx, e_ret, e_retN, e_set, e_drop, e_for, e_ofR, e_ofRx, e_ofI, e_nil, e_asg, endS_rt, endS_rn, endS_nx, endS_ex, endN_rn, endN_ex, gC, g1, g2, g3, gA, aNil, aCons, gAnd, gOr, gNot, gB, gTru, bAnd, bOr, bNot, gIf, iA, iSeq, gSl, pNone, pSome, ok_bind, ex_bind, st_bind, gVar, List.getElem?_cons_zero, List.getElem?_cons_succ, List.set_cons_zero, List.set_cons_succ, if_true, if_false, Bool.not_true, Bool.not_false, Bool.false_eq_true, ↓reduceIte, e_asB, e_lt, e_gt, e_le, e_ge, e_ltS, e_gtS, e_eqI, e_eqS, e_eqB, e_neI, e_neS, e_neB, e_addI, e_iaddI, e_subI, e_negI, e_andI, e_orI, e_xorI, e_lenL, e_lenT, e_ord, e_intB, e_intI, e_inS, e_ninS, e_itL, e_itT, e_itS, e_zip, e_enum, e_slL, e_slT, e_asI, e_isN1, e_isN2, e_notN1, e_notN2, e_truB, e_truI, e_truL, e_isi_int_non, e_isi_int_bl, e_isi_int_int, e_isi_int_str, e_isi_int_list, e_isi_int_tup, e_isi_int_dict, e_isi_int_dictT, e_isi_bool_non, e_isi_bool_bl, e_isi_bool_int, e_isi_bool_str, e_isi_bool_list, e_isi_bool_tup, e_isi_bool_dict, e_isi_bool_dictT, e_isi_str_non, e_isi_str_bl, e_isi_str_int, e_isi_str_str, e_isi_str_list, e_isi_str_tup, e_isi_str_dict, e_isi_str_dictT, e_isi_list_non, e_isi_list_bl, e_isi_list_int, e_isi_list_str, e_isi_list_list, e_isi_list_tup, e_isi_list_dict, e_isi_list_dictT, e_isi_tuple_non, e_isi_tuple_bl, e_isi_tuple_int, e_isi_tuple_str, e_isi_tuple_list, e_isi_tuple_tup, e_isi_tuple_dict, e_isi_tuple_dictT, e_isi_dict_non, e_isi_dict_bl, e_isi_dict_int, e_isi_dict_str, e_isi_dict_list, e_isi_dict_tup, e_isi_dict_dict, e_isi_dict_dictT, e_iteAnd, e_iteOr, e_iteAndD, e_iteOrD, e_then_ite, e_endS_ite, e_endN_ite, e_ofR_ite, e_pick_ite, e_bind_ite, e_modI, e_fdivI, e_mul1, e_pow10, e_pow2, e_shl1, e_shrI, e_addS, e_iaddS, e_addL, e_addT, e_lenS, e_lst, e_strLit, String.reduceBEq, e_ixL0, e_ixL1, e_ixL2, e_ixL3, e_ixL4, e_ixL5, e_ixL6, e_ixL7, e_ixL8, e_ixT0, e_ixT1, e_ixT2, e_ixT3, e_ixT4, e_ixT5, e_tupleL, e_listT, e_tupleT, eqX_int, neX_int, eqX_S, neX_S, eqX_t0, neX_t0, e_catL, e_tup, e_inT, e_ninT, e_inL, e_ninL, e_slS, Int.reduceLT, Int.reduceLE, Int.reduceMul, Int.reduceAdd, Int.reduceSub, Int.reducePow, Int.reduceNeg, Int.reduceToNat, List.length_cons, List.length_nil, List.length_append, Nat.reduceAdd, Nat.reduceLeDiff, flD, List.all_cons, List.all_nil, Bool.and_true, Bool.true_and, Bool.and_self, decide_true, decide_false, or_true, true_or, and_true, true_and, eq_self, *])
local macro_rules | `(tactic| walk_at "pdu") => `(tactic| try simp -implicitDefEqProofs only [e_seq, e_forN, e_for0, e_nxn, e_nct, e_nbk, e_nrt, e_nrn, e_nex, e_next_ite, e_thn, e_trt, e_trn, e_tex, e_if, e_pick, e_pickx, e_ret, e_retN, e_set, e_drop, e_for, e_ofR, e_ofRx, e_ofI, e_nil, e_asg, endS_rt, endS_rn, endS_nx, endS_ex, endN_rn, endN_ex, gC, g1, g2, g3, gA, aNil, aCons, gAnd, gOr, gNot, gB, gTru, bAnd, bOr, bNot, gIf, iA, iSeq, gSl, pNone, pSome, ok_bind, ex_bind, st_bind, gVar, List.getElem?_cons_zero, List.getElem?_cons_succ, List.set_cons_zero, List.set_cons_succ, if_true, if_false, Bool.not_true, Bool.not_false, Bool.false_eq_true, ↓reduceIte, e_asB, e_lt, e_gt, e_le, e_ge, e_ltS, e_gtS, e_eqI, e_eqS, e_eqB, e_neI, e_neS, e_neB, e_addI, e_iaddI, e_subI, e_negI, e_andI, e_orI, e_xorI, e_lenL, e_lenT, e_ord, e_intB, e_intI, e_inS, e_ninS, e_itL, e_itT, e_itS, e_zip, e_enum, e_slL, e_slT, e_asI, e_isN1, e_isN2, e_notN1, e_notN2, e_truB, e_truI, e_truL, e_isi_int_non, e_isi_int_bl, e_isi_int_int, e_isi_int_str, e_isi_int_list, e_isi_int_tup, e_isi_int_dict, e_isi_int_dictT, e_isi_bool_non, e_isi_bool_bl, e_isi_bool_int, e_isi_bool_str, e_isi_bool_list, e_isi_bool_tup, e_isi_bool_dict, e_isi_bool_dictT, e_isi_str_non, e_isi_str_bl, e_isi_str_int, e_isi_str_str, e_isi_str_list, e_isi_str_tup, e_isi_str_dict, e_isi_str_dictT, e_isi_list_non, e_isi_list_bl, e_isi_list_int, e_isi_list_str, e_isi_list_list, e_isi_list_tup, e_isi_list_dict, e_isi_list_dictT, e_isi_tuple_non, e_isi_tuple_bl, e_isi_tuple_int, e_isi_tuple_str, e_isi_tuple_list, e_isi_tuple_tup, e_isi_tuple_dict, e_isi_tuple_dictT, e_isi_dict_non, e_isi_dict_bl, e_isi_dict_int, e_isi_dict_str, e_isi_dict_list, e_isi_dict_tup, e_isi_dict_dict, e_isi_dict_dictT, e_iteAnd, e_iteOr, e_iteAndD, e_iteOrD, e_then_ite, e_endS_ite, e_endN_ite, e_ofR_ite, e_pick_ite, e_bind_ite, e_modI, e_fdivI, e_mul1, e_pow10, e_pow2, e_shl1, e_shrI, e_addS, e_iaddS, e_addL, e_addT, e_lenS, e_lst, e_strLit, String.reduceBEq, e_ixL0, e_ixL1, e_ixL2, e_ixL3, e_ixL4, e_ixL5, e_ixL6, e_ixL7, e_ixL8, e_ixT0, e_ixT1, e_ixT2, e_ixT3, e_ixT4, e_ixT5, e_tupleL, e_listT, e_tupleT, eqX_int, neX_int, eqX_S, neX_S, eqX_t0, neX_t0, e_catL, e_tup, e_inT, e_ninT, e_inL, e_ninL, e_slS, Int.reduceLT, Int.reduceLE, Int.reduceMul, Int.reduceAdd, Int.reduceSub, Int.reducePow, Int.reduceNeg, Int.reduceToNat, List.length_cons, List.length_nil, List.length_append, Nat.reduceAdd, Nat.reduceLeDiff, flD, List.all_cons, List.all_nil, Bool.and_true, Bool.true_and, Bool.and_self, decide_true, decide_false, or_true, true_or, and_true, true_and, eq_self])
local macro_rules | `(tactic| walk_at "pdq") => `(tactic| try simp -implicitDefEqProofs only [e_seq, q_seq, q_tnx, q_tex, q_trt, q_then_ite, q_if, q_pick, q_pickx, q_pick_ite, q_nil, q_raise, cl_nil, cl_f, cl_t, cl_n, e_thn, e_trt, e_trn, e_tex, e_if, e_pick, e_pickx, e_ret, e_retN, e_set, e_drop, e_for, e_ofR, e_ofRx, e_ofI, e_nil, e_asg, endS_rt, endS_rn, endS_nx, endS_ex, endN_rn, endN_ex, gC, g1, g2, g3, gA, aNil, aCons, gAnd, gOr, gNot, gB, gTru, bAnd, bOr, bNot, gIf, iA, iSeq, gSl, pNone, pSome, ok_bind, ex_bind, st_bind, gVar, List.getElem?_cons_zero, List.getElem?_cons_succ, List.set_cons_zero, List.set_cons_succ, if_true, if_false, Bool.not_true, Bool.not_false, Bool.false_eq_true, ↓reduceIte, e_asB, e_lt, e_gt, e_le, e_ge, e_ltS, e_gtS, e_eqI, e_eqS, e_eqB, e_neI, e_neS, e_neB, e_addI, e_iaddI, e_subI, e_negI, e_andI, e_orI, e_xorI, e_lenL, e_lenT, e_ord, e_intB, e_intI, e_inS, e_ninS, e_itL, e_itT, e_itS, e_zip, e_enum, e_slL, e_slT, e_asI, e_isN1, e_isN2, e_notN1, e_notN2, e_truB, e_truI, e_truL, e_isi_int_non, e_isi_int_bl, e_isi_int_int, e_isi_int_str, e_isi_int_list, e_isi_int_tup, e_isi_int_dict, e_isi_int_dictT, e_isi_bool_non, e_isi_bool_bl, e_isi_bool_int, e_isi_bool_str, e_isi_bool_list, e_isi_bool_tup, e_isi_bool_dict, e_isi_bool_dictT, e_isi_str_non, e_isi_str_bl, e_isi_str_int, e_isi_str_str, e_isi_str_list, e_isi_str_tup, e_isi_str_dict, e_isi_str_dictT, e_isi_list_non, e_isi_list_bl, e_isi_list_int, e_isi_list_str, e_isi_list_list, e_isi_list_tup, e_isi_list_dict, e_isi_list_dictT, e_isi_tuple_non, e_isi_tuple_bl, e_isi_tuple_int, e_isi_tuple_str, e_isi_tuple_list, e_isi_tuple_tup, e_isi_tuple_dict, e_isi_tuple_dictT, e_isi_dict_non, e_isi_dict_bl, e_isi_dict_int, e_isi_dict_str, e_isi_dict_list, e_isi_dict_tup, e_isi_dict_dict, e_isi_dict_dictT, e_iteAnd, e_iteOr, e_iteAndD, e_iteOrD, e_then_ite, e_endS_ite, e_endN_ite, e_ofR_ite, e_pick_ite, e_bind_ite, e_modI, e_fdivI, e_mul1, e_pow10, e_pow2, e_shl1, e_shrI, e_addS, e_iaddS, e_addL, e_addT, e_lenS, e_lst, e_strLit, String.reduceBEq, e_ixL0, e_ixL1, e_ixL2, e_ixL3, e_ixL4, e_ixL5, e_ixL6, e_ixL7, e_ixL8, e_ixT0, e_ixT1, e_ixT2, e_ixT3, e_ixT4, e_ixT5, e_tupleL, e_listT, e_tupleT, eqX_int, neX_int, eqX_S, neX_S, eqX_t0, neX_t0, e_catL, e_tup, e_inT, e_ninT, e_inL, e_ninL, e_slS, Int.reduceLT, Int.reduceLE, Int.reduceMul, Int.reduceAdd, Int.reduceSub, Int.reducePow, Int.reduceNeg, Int.reduceToNat, List.length_cons, List.length_nil, List.length_append, Nat.reduceAdd, Nat.reduceLeDiff, flD, List.all_cons, List.all_nil, Bool.and_true, Bool.true_and, Bool.and_self, decide_true, decide_false, or_true, true_or, and_true, true_and, eq_self])
local macro_rules | `(tactic| walk_at "pdr") => `(tactic| try simp -implicitDefEqProofs only [e_seq, q_seq, q_tnx, q_tex, q_trt, q_then_ite, q_nil, q_raise, cl_nil, cl_f, cl_t, cl_n, s_ok, s_ex, e_sqRet, e_sqSet, e_sqExpr, e_sqAsg, asg_some, e_tqName, e_tqTup2, e_qP, e_upok, e_upex, e_qVar, e_varok, e_qNew, e_newok, rq_ok, rq_ex, e_aqN, e_aqC, e_qPA, e_qCall, e_qTup, e_tupP2, e_qSn, e_qSnT, e_tok, e_qT, e_up_ite, pk_ite, s_ite, tst_ite, e_end_ite, q_ifS, pk_ok, e_q2, op2_ii, op2_ss, op2_si, e_qLst, lstP1, e_iqR,  sn_nil, sn_s, sn_n, fu_f, e_qIx, e_endrt, e_endnx, List.map_cons, List.map_nil, Bool.or_false, Bool.or_true, Bool.true_or, Bool.false_or, e_thn, e_trt, e_trn, e_tex, e_if, e_pick, e_pickx, e_ret, e_retN, e_set, e_drop, e_for, e_ofR, e_ofRx, e_ofI, e_nil, e_asg, endS_rt, endS_rn, endS_nx, endS_ex, endN_rn, endN_ex, gC, g1, g2, g3, gA, aNil, aCons, gAnd, gOr, gNot, gB, gTru, bAnd, bOr, bNot, gIf, iA, iSeq, gSl, pNone, pSome, ok_bind, ex_bind, st_bind, gVar, List.getElem?_cons_zero, List.getElem?_cons_succ, List.set_cons_zero, List.set_cons_succ, if_true, if_false, Bool.not_true, Bool.not_false, Bool.false_eq_true, ↓reduceIte, e_asB, e_lt, e_gt, e_le, e_ge, e_ltS, e_gtS, e_eqI, e_eqS, e_eqB, e_neI, e_neS, e_neB, e_addI, e_iaddI, e_subI, e_negI, e_andI, e_orI, e_xorI, e_lenL, e_lenT, e_ord, e_intB, e_intI, e_inS, e_ninS, e_itL, e_itT, e_itS, e_zip, e_enum, e_slL, e_slT, e_asI, e_isN1, e_isN2, e_notN1, e_notN2, e_truB, e_truI, e_truL, e_isi_int_non, e_isi_int_bl, e_isi_int_int, e_isi_int_str, e_isi_int_list, e_isi_int_tup, e_isi_int_dict, e_isi_int_dictT, e_isi_bool_non, e_isi_bool_bl, e_isi_bool_int, e_isi_bool_str, e_isi_bool_list, e_isi_bool_tup, e_isi_bool_dict, e_isi_bool_dictT, e_isi_str_non, e_isi_str_bl, e_isi_str_int, e_isi_str_str, e_isi_str_list, e_isi_str_tup, e_isi_str_dict, e_isi_str_dictT, e_isi_list_non, e_isi_list_bl, e_isi_list_int, e_isi_list_str, e_isi_list_list, e_isi_list_tup, e_isi_list_dict, e_isi_list_dictT, e_isi_tuple_non, e_isi_tuple_bl, e_isi_tuple_int, e_isi_tuple_str, e_isi_tuple_list, e_isi_tuple_tup, e_isi_tuple_dict, e_isi_tuple_dictT, e_isi_dict_non, e_isi_dict_bl, e_isi_dict_int, e_isi_dict_str, e_isi_dict_list, e_isi_dict_tup, e_isi_dict_dict, e_isi_dict_dictT, e_iteAnd, e_iteOr, e_iteAndD, e_iteOrD, e_then_ite, e_endS_ite, e_endN_ite, e_ofR_ite, e_pick_ite, e_bind_ite, e_modI, e_fdivI, e_mul1, e_pow10, e_pow2, e_shl1, e_shrI, e_addS, e_iaddS, e_addL, e_addT, e_lenS, e_lst, e_strLit, String.reduceBEq, e_ixL0, e_ixL1, e_ixL2, e_ixL3, e_ixL4, e_ixL5, e_ixL6, e_ixL7, e_ixL8, e_ixT0, e_ixT1, e_ixT2, e_ixT3, e_ixT4, e_ixT5, e_tupleL, e_listT, e_tupleT, eqX_int, neX_int, eqX_S, neX_S, eqX_t0, neX_t0, e_catL, e_tup, e_inT, e_ninT, e_inL, e_ninL, e_slS, Int.reduceLT, Int.reduceLE, Int.reduceMul, Int.reduceAdd, Int.reduceSub, Int.reducePow, Int.reduceNeg, Int.reduceToNat, List.length_cons, List.length_nil, List.length_append, Nat.reduceAdd, Nat.reduceLeDiff, flD, List.all_cons, List.all_nil, Bool.and_true, Bool.true_and, Bool.and_self, decide_true, decide_false, or_true, true_or, and_true, true_and, eq_self])
local macro_rules | `(tactic| walk_at "pdv") => `(tactic| try simp -implicitDefEqProofs only [e_seq, Int.reduceBEq, Int.cast_ofNat_Int, e_thn, e_trt, e_trn, e_tex, e_if, e_pick, e_pickx, e_ret, e_retN, e_set, e_drop, e_for, e_ofR, e_ofRx, e_ofI, e_nil, e_asg, endS_rt, endS_rn, endS_nx, endS_ex, endN_rn, endN_ex, gC, g1, g2, g3, gA, aNil, aCons, gAnd, gOr, gNot, gB, gTru, bAnd, bOr, bNot, gIf, iA, iSeq, gSl, pNone, pSome, ok_bind, ex_bind, st_bind, gVar, List.getElem?_cons_zero, List.getElem?_cons_succ, List.set_cons_zero, List.set_cons_succ, if_true, if_false, Bool.not_true, Bool.not_false, Bool.false_eq_true, ↓reduceIte, e_asB, e_lt, e_gt, e_le, e_ge, e_ltS, e_gtS, e_eqI, e_eqS, e_eqB, e_neI, e_neS, e_neB, e_addI, e_iaddI, e_subI, e_negI, e_andI, e_orI, e_xorI, e_lenL, e_lenT, e_ord, e_intB, e_intI, e_inS, e_ninS, e_itL, e_itT, e_itS, e_zip, e_enum, e_slL, e_slT, e_asI, e_isN1, e_isN2, e_notN1, e_notN2, e_truB, e_truI, e_truL, e_isi_int_non, e_isi_int_bl, e_isi_int_int, e_isi_int_str, e_isi_int_list, e_isi_int_tup, e_isi_int_dict, e_isi_int_dictT, e_isi_bool_non, e_isi_bool_bl, e_isi_bool_int, e_isi_bool_str, e_isi_bool_list, e_isi_bool_tup, e_isi_bool_dict, e_isi_bool_dictT, e_isi_str_non, e_isi_str_bl, e_isi_str_int, e_isi_str_str, e_isi_str_list, e_isi_str_tup, e_isi_str_dict, e_isi_str_dictT, e_isi_list_non, e_isi_list_bl, e_isi_list_int, e_isi_list_str, e_isi_list_list, e_isi_list_tup, e_isi_list_dict, e_isi_list_dictT, e_isi_tuple_non, e_isi_tuple_bl, e_isi_tuple_int, e_isi_tuple_str, e_isi_tuple_list, e_isi_tuple_tup, e_isi_tuple_dict, e_isi_tuple_dictT, e_isi_dict_non, e_isi_dict_bl, e_isi_dict_int, e_isi_dict_str, e_isi_dict_list, e_isi_dict_tup, e_isi_dict_dict, e_isi_dict_dictT, e_iteAnd, e_iteOr, e_iteAndD, e_iteOrD, e_then_ite, e_endS_ite, e_endN_ite, e_ofR_ite, e_pick_ite, e_bind_ite, e_modI, e_fdivI, e_mul1, e_pow10, e_pow2, e_shl1, e_shrI, e_addS, e_iaddS, e_addL, e_addT, e_lenS, e_lst, e_strLit, String.reduceBEq, e_ixL0, e_ixL1, e_ixL2, e_ixL3, e_ixL4, e_ixL5, e_ixL6, e_ixL7, e_ixL8, e_ixT0, e_ixT1, e_ixT2, e_ixT3, e_ixT4, e_ixT5, e_tupleL, e_listT, e_tupleT, eqX_int, neX_int, eqX_S, neX_S, eqX_t0, neX_t0, e_catL, e_tup, e_inT, e_ninT, e_inL, e_ninL, e_slS, Int.reduceLT, Int.reduceLE, Int.reduceMul, Int.reduceAdd, Int.reduceSub, Int.reducePow, Int.reduceNeg, Int.reduceToNat, List.length_cons, List.length_nil, List.length_append, Nat.reduceAdd, Nat.reduceLeDiff, flD, List.all_cons, List.all_nil, Bool.and_true, Bool.true_and, Bool.and_self, decide_true, decide_false, or_true, true_or, and_true, true_and, eq_self])
/-! ### odd things, texts spoilt -/
def oddL : List D := [.non, .int 7, .bl true, .list [.str "a"], .dict [], .tup [], .tup [.tup []], .tup [.tup [.str "a"], .tup [.str "a", .str "b"]], .tup [.list [.str "a"]], .list [.tup [.str "a"]], .tup [.tup [.str "a", .int 7]], .tup [.str "a"],
  .tup [.tup [.str ""], .tup [.str ""], .tup [.str ""], .tup [.str ""], .tup [.str ""], .tup [.str ""], .tup [.str ""]], .tup [.tup [.str "", .str "", .str "", .str "", .str "", .str "", .str ""]], .str (repS "a" 61), .str "a\n", .tup [.tup [.str "a\n"]], .tup [.tup [.str (repS "a" 61)]], .tup [.tup [.non]], .tup [.str ""]]
theorem odd_bad : ∀ d ∈ oddL, Tq 3 d ∧ textB d = false ∧ tableB d = false := by
  have key : ∀ d ∈ oddL, (((gdL 3 d || match d with | .dict [] => true | _ => false) && !textB d) && !tableB d) = true := by decide +kernel
  intro d hd
  have := key d hd
  rw [Bool.and_eq_true, Bool.and_eq_true, Bool.or_eq_true, Bool.not_eq_true', Bool.not_eq_true'] at this
  refine ⟨?_, this.1.2, this.2⟩
  rcases this.1.1 with h | h
  · exact .inl h
  · refine .inr ?_
    split at h
    · rfl
    · cases h
theorem odd_at (c : Int) : ∃ d, F__law_odd [.int c] = .ok d ∧ d ∈ oddL := by
  show ∃ d, endS (S__law_odd [some (.int c), none, none]) = .ok d ∧ d ∈ oddL
  unfold S__law_odd
  walk_at "pd"
  rw [e_mulS "a" 61 (by decide +kernel), e_mulT [.tup [.str ""]] 7 (by decide +kernel)]
  walk_at "pd"
  rw [e_mulT [.str ""] 7 (by decide +kernel)]
  walk_at "pd"
  obtain ⟨d, e, m⟩ := ix_any (ds := oddL) (i := c % 20) (by omega) (by show _ < ((20 : Nat) : Int); omega)
  refine ⟨d, ?_, m⟩
  show endS (S.ofR (ixD (.list oddL) (.int (c % 20))) _ _) = _
  rw [e]
  rfl
theorem cutS_len (z : Str) (lo hi : Option Int) : (cutS z lo hi).length ≤ z.length := by
  rw [cps_len, cps_cut, cps_len z]
  unfold cutD
  rw [List.length_take, List.length_drop]
  omega
theorem spoilt_at (s : Str) (hs : s.length ≤ 20000) (c o : Int) : ∃ z, F__law_spoilt [.str s, .int c, .int o] = .ok (.str z) ∧ z.length ≤ 50000 := by
  show ∃ z, endS (S__law_spoilt [some (.str s), some (.int c), some (.int o), none, none]) = .ok (.str z) ∧ z.length ≤ 50000
  unfold S__law_spoilt
  obtain ⟨q, eq, lq, sq⟩ := ix_sub (Str.ofString "|/\\a ~!#$") (o % 9) (by decide +kernel) (by omega) (by rw [show (Str.ofString "|/\\a ~!#$").length = 9 by decide +kernel]; omega)
  have l1 := fun lo hi => cutS_len s lo hi
  walk_at "pd"
  rw [e_lenS s (by omega)]
  walk_at "pd"
  rw [e_modI _ ((s.length : Int) + 1) (by omega)]
  walk_at "pd"
  generalize c / 5 % ((s.length : Int) + 1) = at_
  rw [show ixD (.str "|/\\a ~!#$") (.int (o % 9)) = .ok (.str q) from eq]
  walk_at "pd"
  rw [e_slS s none (some at_) (by omega), e_slS s (some at_) none (by omega), e_slS s (some (at_ + 1)) none (by omega)]
  walk_at "pd"
  have a1 := l1 none (some at_)
  have a2 := l1 (some at_) none
  have a3 := l1 (some (at_ + 1)) none
  rw [e_addS (cutS s none (some at_)) q (by omega), e_addS (cutS s none (some at_)) (cutS s (some (at_ + 1)) none) (by omega)]
  walk_at "pd"
  rw [e_addS _ (cutS s (some at_) none) (by rw [len_app]; omega), e_addS _ (cutS s (some (at_ + 1)) none) (by rw [len_app]; omega)]
  rw [e_mulS "|" 6 (by decide +kernel), e_mulS "/" 6 (by decide +kernel), e_mulS "a" 61 (by decide +kernel), e_mulS "b" 60 (by decide +kernel)]
  walk_at "pd"
  obtain ⟨d, e, m⟩ := ix_any (ds := [.str "", .str "|", .str "/", .str "\\", .str "||", .str "a/b|c", .str (repS "|" 6), .str (repS "/" 6), .str (repS "a" 61), .str (repS "b" 60)]) (i := o % 10) (by omega) (by show _ < ((10 : Nat) : Int); omega)
  rw [e]
  obtain ⟨w, rfl, lw⟩ : ∃ w : Str, d = .str w ∧ w.length ≤ 100 := by
    simp only [List.mem_cons, List.not_mem_nil, or_false] at m
    rcases m with rfl | rfl | rfl | rfl | rfl | rfl | rfl | rfl | rfl | rfl <;> exact ⟨_, rfl, by decide +kernel⟩
  walk_at "pd"
  repeat' split
  · exact ⟨_, rfl, by rw [len_app, len_app]; omega⟩
  · exact ⟨_, rfl, by rw [len_app]; omega⟩
  · exact ⟨_, rfl, by rw [len_app, len_app]; omega⟩
  · exact ⟨_, rfl, by omega⟩
  · exact ⟨_, rfl, by omega⟩
theorem kinds_ok : F__law_kinds_good [] = .ok (.bl true) := by
  rfl

end Pd

set_option maxHeartbeats 4000000
namespace Pd
open PySem PySem.Spec PyProof.Rows L2
local macro_rules | `(tactic| walk_at "pd") => `(tactic| try simp -implicitDefEqProofs only [e_seq, e_thn, e_trt, e_trn, e_tex, e_if, e_pick, e_pickx, e_ret, e_retN, e_set, e_drop, e_for, e_ofR, e_ofRx, e_ofI, e_nil, e_asg, endS_rt, endS_rn, endS_nx, endS_ex, endN_rn, endN_ex, gC, g1, g2, g3, gA, aNil, aCons, gAnd, gOr, gNot, gB, gTru, bAnd, bOr, bNot, gIf, iA, iSeq, gSl, pNone, pSome, ok_bind, ex_bind, st_bind, gVar, List.getElem?_cons_zero, List.getElem?_cons_succ, List.set_cons_zero, List.set_cons_succ, if_true, if_false, Bool.not_true, Bool.not_false, Bool.false_eq_true, ↓reduceIte, e_asB, e_lt, e_gt, e_le, e_ge, e_ltS, e_gtS, e_eqI, e_eqS, e_eqB, e_neI, e_neS, e_neB, e_addI, e_iaddI, e_subI, e_negI, e_andI, e_orI, e_xorI, e_lenL, e_lenT, e_ord, e_intB, e_intI, e_inS, e_ninS, e_itL, e_itT, e_itS, e_zip, e_enum, e_slL, e_slT, e_asI, e_isN1, e_isN2, e_notN1, e_notN2, e_truB, e_truI, e_truL, e_isi_int_non, e_isi_int_bl, e_isi_int_int, e_isi_int_str, e_isi_int_list, e_isi_int_tup, e_isi_int_dict, e_isi_int_dictT, e_isi_bool_non, e_isi_bool_bl, e_isi_bool_int, e_isi_bool_str, e_isi_bool_list, e_isi_bool_tup, e_isi_bool_dict, e_isi_bool_dictT, e_isi_str_non, e_isi_str_bl, e_isi_str_int, e_isi_str_str, e_isi_str_list, e_isi_str_tup, e_isi_str_dict, e_isi_str_dictT, e_isi_list_non, e_isi_list_bl, e_isi_list_int, e_isi_list_str, e_isi_list_list, e_isi_list_tup, e_isi_list_dict, e_isi_list_dictT, e_isi_tuple_non, e_isi_tuple_bl, e_isi_tuple_int, e_isi_tuple_str, e_isi_tuple_list, e_isi_tuple_tup, e_isi_tuple_dict, e_isi_tuple_dictT, e_isi_dict_non, e_isi_dict_bl, e_isi_dict_int, e_isi_dict_str, e_isi_dict_list, e_isi_dict_tup, e_isi_dict_dict, e_isi_dict_dictT, e_iteAnd, e_iteOr, e_iteAndD, e_iteOrD, e_then_ite, e_endS_ite, e_endN_ite, e_ofR_ite, e_pick_ite, e_bind_ite, e_modI, e_fdivI, e_mul1, e_pow10, e_pow2, e_shl1, e_shrI, e_addS, e_iaddS, e_addL, e_addT, e_lenS, e_lst, e_strLit, String.reduceBEq, e_ixL0, e_ixL1, e_ixL2, e_ixL3, e_ixL4, e_ixL5, e_ixL6, e_ixL7, e_ixL8, e_ixT0, e_ixT1, e_ixT2, e_ixT3, e_ixT4, e_ixT5, e_tupleL, e_listT, e_tupleT, eqX_int, neX_int, eqX_S, neX_S, eqX_t0, neX_t0, e_catL, e_tup, e_inT, e_ninT, e_inL, e_ninL, e_slS, Int.reduceLT, Int.reduceLE, Int.reduceMul, Int.reduceAdd, Int.reduceSub, Int.reducePow, Int.reduceNeg, Int.reduceToNat, List.length_cons, List.length_nil, List.length_append, Nat.reduceAdd, Nat.reduceLeDiff, flD, List.all_cons, List.all_nil, Bool.and_true, Bool.true_and, Bool.and_self, decide_true, decide_false, or_true, true_or, and_true, true_and, eq_self])
local macro_rules | `(tactic| walk_at "pdh") => `(tactic| try simp -implicitDefEqProofs only [e_seq, e_thn, e_trt, e_trn, e_tex, e_if, e_pick, e_pickx, e_ret, e_retN, e_set, e_drop, e_for, e_ofR, e_ofRx, e_ofI, e_nil, e_asg, endS_rt, endS_rn, endS_nx, endS_ex, endN_rn, endN_ex, gC, g1, g2, g3, gA, aNil, aCons, gAnd, gOr, gNot, gB, gTru, bAnd, bOr, bNot, gIf, iA, iSeq, gSl, pNone, pSome, ok_bind, ex_bind, st_bind, gVar, List.getElem?_cons_zero, List.getElem?_cons_succ, List.set_cons_zero, List.set_cons_succ, if_true, if_false, Bool.not_true, Bool.not_false, Bool.false_eq_true, ↓reduceIte, e_asB, e_lt, e_gt, e_le, e_ge, e_ltS, e_gtS, e_eqI, e_eqS, e_eqB, e_neI, e_neS, e_neB, e_addI, e_iaddI, e_subI, e_negI, e_andI, e_orI, e_xorI, e_lenL, e_lenT, e_ord, e_intB, e_intI, e_inS, e_ninS, e_itL, e_itT, e_itS, e_zip, e_enum, e_slL, e_slT, e_asI, e_isN1, e_isN2, e_notN1, e_notN2, e_truB, e_truI, e_truL, e_isi_int_non, e_isi_int_bl, e_isi_int_int, e_isi_int_str, e_isi_int_list, e_isi_int_tup, e_isi_int_dict, e_isi_int_dictT, e_isi_bool_non, e_isi_bool_bl, e_isi_bool_int, e_isi_bool_str, e_isi_bool_list, e_isi_bool_tup, e_isi_bool_dict, e_isi_bool_dictT, e_isi_str_non, e_isi_str_bl, e_isi_str_int, e_isi_str_str, e_isi_str_list, e_isi_str_tup, e_isi_str_dict, e_isi_str_dictT, e_isi_list_non, e_isi_list_bl, e_isi_list_int, e_isi_list_str, e_isi_list_list, e_isi_list_tup, e_isi_list_dict, e_isi_list_dictT, e_isi_tuple_non, e_isi_tuple_bl, e_isi_tuple_int, e_isi_tuple_str, e_isi_tuple_list, e_isi_tuple_tup, e_isi_tuple_dict, e_isi_tuple_dictT, e_isi_dict_non, e_isi_dict_bl, e_isi_dict_int, e_isi_dict_str, e_isi_dict_list, e_isi_dict_tup, e_isi_dict_dict, e_isi_dict_dictT, e_iteAnd, e_iteOr, e_iteAndD, e_iteOrD, e_then_ite, e_endS_ite, e_endN_ite, e_ofR_ite, e_pick_ite, e_bind_ite, e_modI, e_fdivI, e_mul1, e_pow10, e_pow2, e_shl1, e_shrI, e_addS, e_iaddS, e_addL, e_addT, e_lenS, e_lst, e_strLit, String.reduceBEq, e_ixL0, e_ixL1, e_ixL2, e_ixL3, e_ixL4, e_ixL5, e_ixL6, e_ixL7, e_ixL8, e_ixT0, e_ixT1, e_ixT2, e_ixT3, e_ixT4, e_ixT5, e_tupleL, e_listT, e_tupleT, eqX_int, neX_int, eqX_S, neX_S, eqX_t0, neX_t0, e_catL, e_tup, e_inT, e_ninT, e_inL, e_ninL, e_slS, Int.reduceLT, Int.reduceLE, Int.reduceMul, Int.reduceAdd, Int.reduceSub, Int.reducePow, Int.reduceNeg, Int.reduceToNat, List.length_cons, List.length_nil, List.length_append, Nat.reduceAdd, Nat.reduceLeDiff, flD, List.all_cons, List.all_nil, Bool.and_true, Bool.true_and, Bool.and_self, decide_true, decide_false, or_true, true_or, and_true, true_and, eq_self, *])
local macro_rules | `(tactic| walk_at "pdu") => `(tactic| try simp -implicitDefEqProofs only [e_seq, e_forN, e_for0, e_nxn, e_nct, e_nbk, e_nrt, e_nrn, e_nex, e_next_ite, e_thn, e_trt, e_trn, e_tex, e_if, e_pick, e_pickx, e_ret, e_retN, e_set, e_drop, e_for, e_ofR, e_ofRx, e_ofI, e_nil, e_asg, endS_rt, endS_rn, endS_nx, endS_ex, endN_rn, endN_ex, gC, g1, g2, g3, gA, aNil, aCons, gAnd, gOr, gNot, gB, gTru, bAnd, bOr, bNot, gIf, iA, iSeq, gSl, pNone, pSome, ok_bind, ex_bind, st_bind, gVar, List.getElem?_cons_zero, List.getElem?_cons_succ, List.set_cons_zero, List.set_cons_succ, if_true, if_false, Bool.not_true, Bool.not_false, Bool.false_eq_true, ↓reduceIte, e_asB, e_lt, e_gt, e_le, e_ge, e_ltS, e_gtS, e_eqI, e_eqS, e_eqB, e_neI, e_neS, e_neB, e_addI, e_iaddI, e_subI, e_negI, e_andI, e_orI, e_xorI, e_lenL, e_lenT, e_ord, e_intB, e_intI, e_inS, e_ninS, e_itL, e_itT, e_itS, e_zip, e_enum, e_slL, e_slT, e_asI, e_isN1, e_isN2, e_notN1, e_notN2, e_truB, e_truI, e_truL, e_isi_int_non, e_isi_int_bl, e_isi_int_int, e_isi_int_str, e_isi_int_list, e_isi_int_tup, e_isi_int_dict, e_isi_int_dictT, e_isi_bool_non, e_isi_bool_bl, e_isi_bool_int, e_isi_bool_str, e_isi_bool_list, e_isi_bool_tup, e_isi_bool_dict, e_isi_bool_dictT, e_isi_str_non, e_isi_str_bl, e_isi_str_int, e_isi_str_str, e_isi_str_list, e_isi_str_tup, e_isi_str_dict, e_isi_str_dictT, e_isi_list_non, e_isi_list_bl, e_isi_list_int, e_isi_list_str, e_isi_list_list, e_isi_list_tup, e_isi_list_dict, e_isi_list_dictT, e_isi_tuple_non, e_isi_tuple_bl, e_isi_tuple_int, e_isi_tuple_str, e_isi_tuple_list, e_isi_tuple_tup, e_isi_tuple_dict, e_isi_tuple_dictT, e_isi_dict_non, e_isi_dict_bl, e_isi_dict_int, e_isi_dict_str, e_isi_dict_list, e_isi_dict_tup, e_isi_dict_dict, e_isi_dict_dictT, e_iteAnd, e_iteOr, e_iteAndD, e_iteOrD, e_then_ite, e_endS_ite, e_endN_ite, e_ofR_ite, e_pick_ite, e_bind_ite, e_modI, e_fdivI, e_mul1, e_pow10, e_pow2, e_shl1, e_shrI, e_addS, e_iaddS, e_addL, e_addT, e_lenS, e_lst, e_strLit, String.reduceBEq, e_ixL0, e_ixL1, e_ixL2, e_ixL3, e_ixL4, e_ixL5, e_ixL6, e_ixL7, e_ixL8, e_ixT0, e_ixT1, e_ixT2, e_ixT3, e_ixT4, e_ixT5, e_tupleL, e_listT, e_tupleT, eqX_int, neX_int, eqX_S, neX_S, eqX_t0, neX_t0, e_catL, e_tup, e_inT, e_ninT, e_inL, e_ninL, e_slS, Int.reduceLT, Int.reduceLE, Int.reduceMul, Int.reduceAdd, Int.reduceSub, Int.reducePow, Int.reduceNeg, Int.reduceToNat, List.length_cons, List.length_nil, List.length_append, Nat.reduceAdd, Nat.reduceLeDiff, flD, List.all_cons, List.all_nil, Bool.and_true, Bool.true_and, Bool.and_self, decide_true, decide_false, or_true, true_or, and_true, true_and, eq_self])
local macro_rules | `(tactic| walk_at "pdq") => `(tactic| try simp -implicitDefEqProofs only [e_seq, q_seq, q_tnx, q_tex, q_trt, q_then_ite, q_if, q_pick, q_pickx, q_pick_ite, q_nil, q_raise, cl_nil, cl_f, cl_t, cl_n, e_thn, e_trt, e_trn, e_tex, e_if, e_pick, e_pickx, e_ret, e_retN, e_set, e_drop, e_for, e_ofR, e_ofRx, e_ofI, e_nil, e_asg, endS_rt, endS_rn, endS_nx, endS_ex, endN_rn, endN_ex, gC, g1, g2, g3, gA, aNil, aCons, gAnd, gOr, gNot, gB, gTru, bAnd, bOr, bNot, gIf, iA, iSeq, gSl, pNone, pSome, ok_bind, ex_bind, st_bind, gVar, List.getElem?_cons_zero, List.getElem?_cons_succ, List.set_cons_zero, List.set_cons_succ, if_true, if_false, Bool.not_true, Bool.not_false, Bool.false_eq_true, ↓reduceIte, e_asB, e_lt, e_gt, e_le, e_ge, e_ltS, e_gtS, e_eqI, e_eqS, e_eqB, e_neI, e_neS, e_neB, e_addI, e_iaddI, e_subI, e_negI, e_andI, e_orI, e_xorI, e_lenL, e_lenT, e_ord, e_intB, e_intI, e_inS, e_ninS, e_itL, e_itT, e_itS, e_zip, e_enum, e_slL, e_slT, e_asI, e_isN1, e_isN2, e_notN1, e_notN2, e_truB, e_truI, e_truL, e_isi_int_non, e_isi_int_bl, e_isi_int_int, e_isi_int_str, e_isi_int_list, e_isi_int_tup, e_isi_int_dict, e_isi_int_dictT, e_isi_bool_non, e_isi_bool_bl, e_isi_bool_int, e_isi_bool_str, e_isi_bool_list, e_isi_bool_tup, e_isi_bool_dict, e_isi_bool_dictT, e_isi_str_non, e_isi_str_bl, e_isi_str_int, e_isi_str_str, e_isi_str_list, e_isi_str_tup, e_isi_str_dict, e_isi_str_dictT, e_isi_list_non, e_isi_list_bl, e_isi_list_int, e_isi_list_str, e_isi_list_list, e_isi_list_tup, e_isi_list_dict, e_isi_list_dictT, e_isi_tuple_non, e_isi_tuple_bl, e_isi_tuple_int, e_isi_tuple_str, e_isi_tuple_list, e_isi_tuple_tup, e_isi_tuple_dict, e_isi_tuple_dictT, e_isi_dict_non, e_isi_dict_bl, e_isi_dict_int, e_isi_dict_str, e_isi_dict_list, e_isi_dict_tup, e_isi_dict_dict, e_isi_dict_dictT, e_iteAnd, e_iteOr, e_iteAndD, e_iteOrD, e_then_ite, e_endS_ite, e_endN_ite, e_ofR_ite, e_pick_ite, e_bind_ite, e_modI, e_fdivI, e_mul1, e_pow10, e_pow2, e_shl1, e_shrI, e_addS, e_iaddS, e_addL, e_addT, e_lenS, e_lst, e_strLit, String.reduceBEq, e_ixL0, e_ixL1, e_ixL2, e_ixL3, e_ixL4, e_ixL5, e_ixL6, e_ixL7, e_ixL8, e_ixT0, e_ixT1, e_ixT2, e_ixT3, e_ixT4, e_ixT5, e_tupleL, e_listT, e_tupleT, eqX_int, neX_int, eqX_S, neX_S, eqX_t0, neX_t0, e_catL, e_tup, e_inT, e_ninT, e_inL, e_ninL, e_slS, Int.reduceLT, Int.reduceLE, Int.reduceMul, Int.reduceAdd, Int.reduceSub, Int.reducePow, Int.reduceNeg, Int.reduceToNat, List.length_cons, List.length_nil, List.length_append, Nat.reduceAdd, Nat.reduceLeDiff, flD, List.all_cons, List.all_nil, Bool.and_true, Bool.true_and, Bool.and_self, decide_true, decide_false, or_true, true_or, and_true, true_and, eq_self])
local macro_rules | `(tactic| walk_at "pdr") => `(tactic| try simp -implicitDefEqProofs only [e_seq, q_seq, q_tnx, q_tex, q_trt, q_then_ite, q_nil, q_raise, cl_nil, cl_f, cl_t, cl_n, s_ok, s_ex, e_sqRet, e_sqSet, e_sqExpr, e_sqAsg, asg_some, e_tqName, e_tqTup2, e_qP, e_upok, e_upex, e_qVar, e_varok, e_qNew, e_newok, rq_ok, rq_ex, e_aqN, e_aqC, e_qPA, e_qCall, e_qTup, e_tupP2, e_qSn, e_qSnT, e_tok, e_qT, e_up_ite, pk_ite, s_ite, tst_ite, e_end_ite, q_ifS, pk_ok, e_q2, op2_ii, op2_ss, op2_si, e_qLst, lstP1, e_iqR,  sn_nil, sn_s, sn_n, fu_f, e_qIx, e_endrt, e_endnx, List.map_cons, List.map_nil, Bool.or_false, Bool.or_true, Bool.true_or, Bool.false_or, e_thn, e_trt, e_trn, e_tex, e_if, e_pick, e_pickx, e_ret, e_retN, e_set, e_drop, e_for, e_ofR, e_ofRx, e_ofI, e_nil, e_asg, endS_rt, endS_rn, endS_nx, endS_ex, endN_rn, endN_ex, gC, g1, g2, g3, gA, aNil, aCons, gAnd, gOr, gNot, gB, gTru, bAnd, bOr, bNot, gIf, iA, iSeq, gSl, pNone, pSome, ok_bind, ex_bind, st_bind, gVar, List.getElem?_cons_zero, List.getElem?_cons_succ, List.set_cons_zero, List.set_cons_succ, if_true, if_false, Bool.not_true, Bool.not_false, Bool.false_eq_true, ↓reduceIte, e_asB, e_lt, e_gt, e_le, e_ge, e_ltS, e_gtS, e_eqI, e_eqS, e_eqB, e_neI, e_neS, e_neB, e_addI, e_iaddI, e_subI, e_negI, e_andI, e_orI, e_xorI, e_lenL, e_lenT, e_ord, e_intB, e_intI, e_inS, e_ninS, e_itL, e_itT, e_itS, e_zip, e_enum, e_slL, e_slT, e_asI, e_isN1, e_isN2, e_notN1, e_notN2, e_truB, e_truI, e_truL, e_isi_int_non, e_isi_int_bl, e_isi_int_int, e_isi_int_str, e_isi_int_list, e_isi_int_tup, e_isi_int_dict, e_isi_int_dictT, e_isi_bool_non, e_isi_bool_bl, e_isi_bool_int, e_isi_bool_str, e_isi_bool_list, e_isi_bool_tup, e_isi_bool_dict, e_isi_bool_dictT, e_isi_str_non, e_isi_str_bl, e_isi_str_int, e_isi_str_str, e_isi_str_list, e_isi_str_tup, e_isi_str_dict, e_isi_str_dictT, e_isi_list_non, e_isi_list_bl, e_isi_list_int, e_isi_list_str, e_isi_list_list, e_isi_list_tup, e_isi_list_dict, e_isi_list_dictT, e_isi_tuple_non, e_isi_tuple_bl, e_isi_tuple_int, e_isi_tuple_str, e_isi_tuple_list, e_isi_tuple_tup, e_isi_tuple_dict, e_isi_tuple_dictT, e_isi_dict_non, e_isi_dict_bl, e_isi_dict_int, e_isi_dict_str, e_isi_dict_list, e_isi_dict_tup, e_isi_dict_dict, e_isi_dict_dictT, e_iteAnd, e_iteOr, e_iteAndD, e_iteOrD, e_then_ite, e_endS_ite, e_endN_ite, e_ofR_ite, e_pick_ite, e_bind_ite, e_modI, e_fdivI, e_mul1, e_pow10, e_pow2, e_shl1, e_shrI, e_addS, e_iaddS, e_addL, e_addT, e_lenS, e_lst, e_strLit, String.reduceBEq, e_ixL0, e_ixL1, e_ixL2, e_ixL3, e_ixL4, e_ixL5, e_ixL6, e_ixL7, e_ixL8, e_ixT0, e_ixT1, e_ixT2, e_ixT3, e_ixT4, e_ixT5, e_tupleL, e_listT, e_tupleT, eqX_int, neX_int, eqX_S, neX_S, eqX_t0, neX_t0, e_catL, e_tup, e_inT, e_ninT, e_inL, e_ninL, e_slS, Int.reduceLT, Int.reduceLE, Int.reduceMul, Int.reduceAdd, Int.reduceSub, Int.reducePow, Int.reduceNeg, Int.reduceToNat, List.length_cons, List.length_nil, List.length_append, Nat.reduceAdd, Nat.reduceLeDiff, flD, List.all_cons, List.all_nil, Bool.and_true, Bool.true_and, Bool.and_self, decide_true, decide_false, or_true, true_or, and_true, true_and, eq_self])
local macro_rules | `(tactic| walk_at "pdv") => `(tactic| try simp -implicitDefEqProofs only [e_seq, Int.reduceBEq, Int.cast_ofNat_Int, e_thn, e_trt, e_trn, e_tex, e_if, e_pick, e_pickx, e_ret, e_retN, e_set, e_drop, e_for, e_ofR, e_ofRx, e_ofI, e_nil, e_asg, endS_rt, endS_rn, endS_nx, endS_ex, endN_rn, endN_ex, gC, g1, g2, g3, gA, aNil, aCons, gAnd, gOr, gNot, gB, gTru, bAnd, bOr, bNot, gIf, iA, iSeq, gSl, pNone, pSome, ok_bind, ex_bind, st_bind, gVar, List.getElem?_cons_zero, List.getElem?_cons_succ, List.set_cons_zero, List.set_cons_succ, if_true, if_false, Bool.not_true, Bool.not_false, Bool.false_eq_true, ↓reduceIte, e_asB, e_lt, e_gt, e_le, e_ge, e_ltS, e_gtS, e_eqI, e_eqS, e_eqB, e_neI, e_neS, e_neB, e_addI, e_iaddI, e_subI, e_negI, e_andI, e_orI, e_xorI, e_lenL, e_lenT, e_ord, e_intB, e_intI, e_inS, e_ninS, e_itL, e_itT, e_itS, e_zip, e_enum, e_slL, e_slT, e_asI, e_isN1, e_isN2, e_notN1, e_notN2, e_truB, e_truI, e_truL, e_isi_int_non, e_isi_int_bl, e_isi_int_int, e_isi_int_str, e_isi_int_list, e_isi_int_tup, e_isi_int_dict, e_isi_int_dictT, e_isi_bool_non, e_isi_bool_bl, e_isi_bool_int, e_isi_bool_str, e_isi_bool_list, e_isi_bool_tup, e_isi_bool_dict, e_isi_bool_dictT, e_isi_str_non, e_isi_str_bl, e_isi_str_int, e_isi_str_str, e_isi_str_list, e_isi_str_tup, e_isi_str_dict, e_isi_str_dictT, e_isi_list_non, e_isi_list_bl, e_isi_list_int, e_isi_list_str, e_isi_list_list, e_isi_list_tup, e_isi_list_dict, e_isi_list_dictT, e_isi_tuple_non, e_isi_tuple_bl, e_isi_tuple_int, e_isi_tuple_str, e_isi_tuple_list, e_isi_tuple_tup, e_isi_tuple_dict, e_isi_tuple_dictT, e_isi_dict_non, e_isi_dict_bl, e_isi_dict_int, e_isi_dict_str, e_isi_dict_list, e_isi_dict_tup, e_isi_dict_dict, e_isi_dict_dictT, e_iteAnd, e_iteOr, e_iteAndD, e_iteOrD, e_then_ite, e_endS_ite, e_endN_ite, e_ofR_ite, e_pick_ite, e_bind_ite, e_modI, e_fdivI, e_mul1, e_pow10, e_pow2, e_shl1, e_shrI, e_addS, e_iaddS, e_addL, e_addT, e_lenS, e_lst, e_strLit, String.reduceBEq, e_ixL0, e_ixL1, e_ixL2, e_ixL3, e_ixL4, e_ixL5, e_ixL6, e_ixL7, e_ixL8, e_ixT0, e_ixT1, e_ixT2, e_ixT3, e_ixT4, e_ixT5, e_tupleL, e_listT, e_tupleT, eqX_int, neX_int, eqX_S, neX_S, eqX_t0, neX_t0, e_catL, e_tup, e_inT, e_ninT, e_inL, e_ninL, e_slS, Int.reduceLT, Int.reduceLE, Int.reduceMul, Int.reduceAdd, Int.reduceSub, Int.reducePow, Int.reduceNeg, Int.reduceToNat, List.length_cons, List.length_nil, List.length_append, Nat.reduceAdd, Nat.reduceLeDiff, flD, List.all_cons, List.all_nil, Bool.and_true, Bool.true_and, Bool.and_self, decide_true, decide_false, or_true, true_or, and_true, true_and, eq_self])
/-! ### the law -/
noncomputable def due (t : Bool) (X : Str) : D := if t = true then dueW (runM (cps X) [] [] [] false) else due0 X
theorem lread_at {k : Str} {t : Bool} {K : D} (h : KO k t K) (X : Str) (hX : X.length ≤ 50000) : F__law_read [.str k, .str X] = .ok (due t X) := by
  cases h with
  | chapter => exact lread0 (by decide +kernel) X (by omega)
  | para => exact lread0 (by decide +kernel) X (by omega)
  | table =>
    have := lread_tab (cps X) (by rw [← cps_len]; exact hX)
    rw [TS_cps] at this
    exact this
theorem kread_at {k : Str} {t : Bool} {K : D} (h : KO k t K) (X : Str) (hX : X.length ≤ 50000) {go : Rho → R D} {as : Rho → R (List D)} {ρ : Rho} (h1 : go ρ = .ok K) (h2 : as ρ = .ok [.str X]) : gMeth [("Chapter", F_Kind_read_shown), ("Para", F_Kind_read_shown), ("Table", F_Table_read_shown)] "read_shown" go as ρ = .ok (due t X) := by
  have e1 : gMeth [("Chapter", F_Kind_read_shown), ("Para", F_Kind_read_shown), ("Table", F_Table_read_shown)] "read_shown" go as ρ = metD [("Chapter", F_Kind_read_shown), ("Para", F_Kind_read_shown), ("Table", F_Table_read_shown)] "read_shown" K fun G => G [.str X] := by
    unfold gMeth
    rw [h1, ok_bind, h2]
    rfl
  rw [e1]
  cases h with
  | chapter => exact kread0 .chapter X (by omega)
  | para => exact kread0 .para X (by omega)
  | table =>
    have := tread_at (cps X) (by rw [← cps_len]; exact hX)
    rw [TS_cps] at this
    exact this
theorem textB_ok {s : Str} (h : textB (.str s) = true) : TextOk s := by
  have h' : ((decide ((0 : Int) ≤ (s.length : Int)) && decide ((s.length : Int) ≤ 60)) && s.cps.toList.all fun c => decide (c ∈ allSigns.cps.toList)) = true := h
  rw [Bool.and_eq_true, Bool.and_eq_true, decide_eq_true_eq] at h'
  refine ⟨by have := h'.1.2; rw [decide_eq_true_eq] at this; omega, fun c hc => ?_⟩
  exact of_decide_eq_true (List.all_eq_true.mp h'.2 c hc)
theorem text_cv {s : Str} (h : TextOk s) (n : Nat) : cvD false n (.str s) = true := by
  have : (PyData.strOk s && decide (s.length ≤ 1000)) = true := by
    rw [strOk_of fun c hc => all_lt c (h.2 c hc), decide_eq_true (show s.length ≤ 1000 by have := h.1; omega)]
    rfl
  cases n <;> exact this
theorem tableB_cv {W : Tab} (h : tableB (tabD W) = true) : cvD false 3 (tabD W) = true := by
  have h' : (few ((W.map fun r => D.tup (rowT r)).length) && (((W.map fun r => D.tup (rowT r)).head?.map cellsB).getD false && (W.map fun r => D.tup (rowT r)).all (rowB (firstLen (W.map fun r => D.tup (rowT r)))))) = true := h
  rw [Bool.and_eq_true, Bool.and_eq_true] at h'
  refine List.all_eq_true.mpr fun d hd => ?_
  have hr := List.all_eq_true.mp h'.2.2 d hd
  obtain ⟨r, hr', rfl⟩ := List.mem_map.mp hd
  have hr2 : (((rowT r).length : Int) == _ && (rowT r).all textB) = true := hr
  rw [Bool.and_eq_true] at hr2
  refine List.all_eq_true.mpr fun d hd => ?_
  have hc := List.all_eq_true.mp hr2.2 d hd
  unfold rowT at hd
  obtain ⟨c, _, rfl⟩ := List.mem_map.mp hd
  exact text_cv (textB_ok hc) 1
theorem cv_tq : ∀ {n : Nat} {d : D}, cvD false n d = true → gdL n d = true
  | n, .non, _ => by cases n <;> rfl
  | n, .int _, _ => by cases n <;> rfl
  | n, .str s, h => by
    have h' : (PyData.strOk s && decide (s.length ≤ 1000)) = true := by cases n <;> exact h
    rw [Bool.and_eq_true, decide_eq_true_eq] at h'
    have : decide (s.length ≤ 16777216) = true := decide_eq_true (by omega)
    cases n <;> exact this
  | n, .list _, h => by cases n <;> cases h
  | 0, .tup _, h => (cv_tup0 h).elim
  | n + 1, .tup ds, h => List.all_eq_true.mpr fun d hd => cv_tq (cv_tup h d hd)
  | n, .bl _, h => by cases n <;> cases h
  | n, .dict _, h => by cases n <;> cases h
  | n, .dictT _, h => by cases n <;> cases h
  | n, .obj _ _, h => by cases n <;> cases h
  | n, .loc _, h => by cases n <;> cases h
  | n, .adr _, h => by cases n <;> cases h
theorem due_cases (t : Bool) (X : Str) : due t X = .non ∨ (isND (due t X) .non = .ok (.bl false) ∧ notND (due t X) .non = .ok (.bl true) ∧ cvD false 3 (due t X) = true ∧ (if t = true then tableB (due t X) else textB (due t X)) = true) := by
  unfold due
  cases t with
  | false =>
    rw [if_neg (by decide)]
    unfold due0
    by_cases h : textB (.str X) = true
    · rw [if_pos h]
      exact .inr ⟨rfl, rfl, text_cv (textB_ok h) 3, by rw [if_neg (by decide)]; exact h⟩
    · rw [if_neg h]
      exact .inl rfl
  | true =>
    rw [if_pos rfl]
    cases runM (cps X) [] [] [] false with
    | none => exact .inl rfl
    | some W =>
      show (if tableB (tabD W) = true then tabD W else D.non) = .non ∨ _
      unfold dueW
      dsimp only
      by_cases h : tableB (tabD W) = true
      · rw [if_pos h]
        exact .inr ⟨rfl, rfl, tableB_cv h, by rw [if_pos rfl]; exact h⟩
      · rw [if_neg h]
        exact .inl rfl
/-- what a content's text is -/
theorem cont_shown {k : Str} {t : Bool} {K d : D} (h : KO k t K) (hd : ContOk t d) : ∃ X : Str, X.length ≤ 20000 ∧ due t X = d ∧ cvD false 3 d = true ∧ Tq 3 d ∧ (if t = true then tableB d else textB d) = true ∧ F__law_shown [.str k, d] = .ok (.str X) ∧
    ∀ (go : Rho → R D) (as : Rho → R (List D)) (ρ : Rho), go ρ = .ok K → as ρ = .ok [d] → gMeth [("Chapter", F_Kind_shown), ("Para", F_Kind_shown), ("Table", F_Table_shown)] "shown" go as ρ = .ok (.str X) := by
  have m : ∀ (go : Rho → R D) (as : Rho → R (List D)) (ρ : Rho), go ρ = .ok K → as ρ = .ok [d] → gMeth [("Chapter", F_Kind_shown), ("Para", F_Kind_shown), ("Table", F_Table_shown)] "shown" go as ρ = metD [("Chapter", F_Kind_shown), ("Para", F_Kind_shown), ("Table", F_Table_shown)] "shown" K fun G => G [d] := fun go as ρ h1 h2 => by
    unfold gMeth
    rw [h1, ok_bind, h2]
    rfl
  cases t with
  | false =>
    obtain ⟨s, rfl, hs⟩ := hd
    have tb : textB (.str s) = true := hs.b
    refine ⟨s, by have := hs.1; omega, ?_, text_cv hs 3, .of (hs.gd 3), tb, ?_, fun go as ρ h1 h2 => ?_⟩
    · unfold due due0
      rw [if_neg (by decide), if_pos tb]
    · show endS (S__law_shown [some (.str k), some (.str s), none, none]) = _
      unfold S__law_shown
      have hk : (k == Str.ofString "table") = false := by cases h <;> decide +kernel
      walk_at "pd"
      rw [hk]
      walk_at "pd"
    · rw [m go as ρ h1 h2]
      cases h <;> rfl
  | true =>
    cases h
    have tb := TableOk.b hd
    obtain ⟨R', n, rfl, hR⟩ := tab_of hd
    have hl := tabS_len hR
    refine ⟨TS (tabS R'), by rw [TS_len]; omega, ?_, tableB_cv tb, .of (TableOk.sh hd 1), tb, shown_law_tab hR, fun go as ρ h1 h2 => ?_⟩
    · unfold due
      rw [if_pos rfl]
      show dueW (runM (tabS R') [] [] [] false) = _
      rw [hR.back]
      show (if tableB (tabD R') = true then tabD R' else D.non) = _
      rw [if_pos tb]
    · rw [m go as ρ h1 h2]
      exact shown_tab hR _
theorem cell_at (ns : List Int) (k : Nat) : ∃ v : Int, F__law_cell [.list (ns.map D.int), .int (k : Int)] = .ok (.int v) := by
  show ∃ v : Int, endS (S__law_cell [some (.list (ns.map D.int)), some (.int (k : Int))]) = .ok (.int v)
  unfold S__law_cell
  walk_at "pd"
  rw [List.length_map]
  by_cases h : (k : Int) < (ns.length : Int)
  · rw [decide_eq_true h]
    walk_at "pd"
    obtain ⟨d, e, m⟩ := ix_any (ds := ns.map D.int) (i := (k : Int)) (by omega) (by rw [List.length_map]; exact h)
    obtain ⟨v, _, rfl⟩ := List.mem_map.mp m
    rw [e]
    exact ⟨v, rfl⟩
  · rw [decide_eq_false h]
    walk_at "pd"
    exact ⟨_, rfl⟩
theorem inner_step (ns : List Int) {k : Str} {t : Bool} {K : D} (h : KO k t K) (X : Str) (hX : X.length ≤ 20000) (j : Nat) (x1 x4 x5 x6 x9 x10 x11 : Option D) : ∃ y9 y10 y11, B_law_0 [some (.list (ns.map D.int)), x1, some (.str k), some K, x4, x5, x6, some (.str X), some (.int (j : Int)), x9, x10, x11] =
    .nx [some (.list (ns.map D.int)), x1, some (.str k), some K, x4, x5, x6, some (.str X), some (.int (j : Int)), y9, y10, y11] := by
  obtain ⟨v0, c0⟩ := cell_at ns j
  obtain ⟨v1, c1⟩ := cell_at ns (j + 1)
  have c1' : F__law_cell [.list (ns.map D.int), .int ((j : Int) + 1)] = .ok (.int v1) := c1
  obtain ⟨Z, ez, hz⟩ := spoilt_at X hX v0 v1
  unfold B_law_0
  walk_at "pd"
  rw [c0]
  walk_at "pd"
  rw [c1']
  walk_at "pd"
  rw [ez]
  walk_at "pd"
  rw [lread_at h Z hz]
  walk_at "pd"
  rw [kread_at h Z hz rfl rfl]
  walk_at "pd"
  rcases due_cases t Z with e | ⟨e1, e2, e3, e4⟩
  · rw [e]
    walk_at "pd"
    exact ⟨_, _, _, rfl⟩
  · rw [e1, e2]
    walk_at "pd"
    rw [cv_ne e3 e3, eqB_same]
    walk_at "pd"
    rw [kfits_at h (c := due t Z) (.of (cv_tq e3)) rfl rfl, e4]
    walk_at "pd"
    rw [show notTD (.bl true) (.bl true) = .ok (.bl false) from rfl]
    walk_at "pd"
    try rw [e2]
    walk_at "pd"
    exact ⟨_, _, _, rfl⟩

end Pd

set_option maxHeartbeats 4000000
namespace Pd
open PySem PySem.Spec PyProof.Rows L2
local macro_rules | `(tactic| walk_at "pd") => `(tactic| try simp -implicitDefEqProofs only [e_seq, e_thn, e_trt, e_trn, e_tex, e_if, e_pick, e_pickx, e_ret, e_retN, e_set, e_drop, e_for, e_ofR, e_ofRx, e_ofI, e_nil, e_asg, endS_rt, endS_rn, endS_nx, endS_ex, endN_rn, endN_ex, gC, g1, g2, g3, gA, aNil, aCons, gAnd, gOr, gNot, gB, gTru, bAnd, bOr, bNot, gIf, iA, iSeq, gSl, pNone, pSome, ok_bind, ex_bind, st_bind, gVar, List.getElem?_cons_zero, List.getElem?_cons_succ, List.set_cons_zero, List.set_cons_succ, if_true, if_false, Bool.not_true, Bool.not_false, Bool.false_eq_true, ↓reduceIte, e_asB, e_lt, e_gt, e_le, e_ge, e_ltS, e_gtS, e_eqI, e_eqS, e_eqB, e_neI, e_neS, e_neB, e_addI, e_iaddI, e_subI, e_negI, e_andI, e_orI, e_xorI, e_lenL, e_lenT, e_ord, e_intB, e_intI, e_inS, e_ninS, e_itL, e_itT, e_itS, e_zip, e_enum, e_slL, e_slT, e_asI, e_isN1, e_isN2, e_notN1, e_notN2, e_truB, e_truI, e_truL, e_isi_int_non, e_isi_int_bl, e_isi_int_int, e_isi_int_str, e_isi_int_list, e_isi_int_tup, e_isi_int_dict, e_isi_int_dictT, e_isi_bool_non, e_isi_bool_bl, e_isi_bool_int, e_isi_bool_str, e_isi_bool_list, e_isi_bool_tup, e_isi_bool_dict, e_isi_bool_dictT, e_isi_str_non, e_isi_str_bl, e_isi_str_int, e_isi_str_str, e_isi_str_list, e_isi_str_tup, e_isi_str_dict, e_isi_str_dictT, e_isi_list_non, e_isi_list_bl, e_isi_list_int, e_isi_list_str, e_isi_list_list, e_isi_list_tup, e_isi_list_dict, e_isi_list_dictT, e_isi_tuple_non, e_isi_tuple_bl, e_isi_tuple_int, e_isi_tuple_str, e_isi_tuple_list, e_isi_tuple_tup, e_isi_tuple_dict, e_isi_tuple_dictT, e_isi_dict_non, e_isi_dict_bl, e_isi_dict_int, e_isi_dict_str, e_isi_dict_list, e_isi_dict_tup, e_isi_dict_dict, e_isi_dict_dictT, e_iteAnd, e_iteOr, e_iteAndD, e_iteOrD, e_then_ite, e_endS_ite, e_endN_ite, e_ofR_ite, e_pick_ite, e_bind_ite, e_modI, e_fdivI, e_mul1, e_pow10, e_pow2, e_shl1, e_shrI, e_addS, e_iaddS, e_addL, e_addT, e_lenS, e_lst, e_strLit, String.reduceBEq, e_ixL0, e_ixL1, e_ixL2, e_ixL3, e_ixL4, e_ixL5, e_ixL6, e_ixL7, e_ixL8, e_ixT0, e_ixT1, e_ixT2, e_ixT3, e_ixT4, e_ixT5, e_tupleL, e_listT, e_tupleT, eqX_int, neX_int, eqX_S, neX_S, eqX_t0, neX_t0, e_catL, e_tup, e_inT, e_ninT, e_inL, e_ninL, e_slS, Int.reduceLT, Int.reduceLE, Int.reduceMul, Int.reduceAdd, Int.reduceSub, Int.reducePow, Int.reduceNeg, Int.reduceToNat, List.length_cons, List.length_nil, List.length_append, Nat.reduceAdd, Nat.reduceLeDiff, flD, List.all_cons, List.all_nil, Bool.and_true, Bool.true_and, Bool.and_self, decide_true, decide_false, or_true, true_or, and_true, true_and, eq_self])
local macro_rules | `(tactic| walk_at "pdh") => `(tactic| try simp -implicitDefEqProofs only [e_seq, e_thn, e_trt, e_trn, e_tex, e_if, e_pick, e_pickx, e_ret, e_retN, e_set, e_drop, e_for, e_ofR, e_ofRx, e_ofI, e_nil, e_asg, endS_rt, endS_rn, endS_nx, endS_ex, endN_rn, endN_ex, gC, g1, g2, g3, gA, aNil, aCons, gAnd, gOr, gNot, gB, gTru, bAnd, bOr, bNot, gIf, iA, iSeq, gSl, pNone, pSome, ok_bind, ex_bind, st_bind, gVar, List.getElem?_cons_zero, List.getElem?_cons_succ, List.set_cons_zero, List.set_cons_succ, if_true, if_false, Bool.not_true, Bool.not_false, Bool.false_eq_true, ↓reduceIte, e_asB, e_lt, e_gt, e_le, e_ge, e_ltS, e_gtS, e_eqI, e_eqS, e_eqB, e_neI, e_neS, e_neB, e_addI, e_iaddI, e_subI, e_negI, e_andI, e_orI, e_xorI, e_lenL, e_lenT, e_ord, e_intB, e_intI, e_inS, e_ninS, e_itL, e_itT, e_itS, e_zip, e_enum, e_slL, e_slT, e_asI, e_isN1, e_isN2, e_notN1, e_notN2, e_truB, e_truI, e_truL, e_isi_int_non, e_isi_int_bl, e_isi_int_int, e_isi_int_str, e_isi_int_list, e_isi_int_tup, e_isi_int_dict, e_isi_int_dictT, e_isi_bool_non, e_isi_bool_bl, e_isi_bool_int, e_isi_bool_str, e_isi_bool_list, e_isi_bool_tup, e_isi_bool_dict, e_isi_bool_dictT, e_isi_str_non, e_isi_str_bl, e_isi_str_int, e_isi_str_str, e_isi_str_list, e_isi_str_tup, e_isi_str_dict, e_isi_str_dictT, e_isi_list_non, e_isi_list_bl, e_isi_list_int, e_isi_list_str, e_isi_list_list, e_isi_list_tup, e_isi_list_dict, e_isi_list_dictT, e_isi_tuple_non, e_isi_tuple_bl, e_isi_tuple_int, e_isi_tuple_str, e_isi_tuple_list, e_isi_tuple_tup, e_isi_tuple_dict, e_isi_tuple_dictT, e_isi_dict_non, e_isi_dict_bl, e_isi_dict_int, e_isi_dict_str, e_isi_dict_list, e_isi_dict_tup, e_isi_dict_dict, e_isi_dict_dictT, e_iteAnd, e_iteOr, e_iteAndD, e_iteOrD, e_then_ite, e_endS_ite, e_endN_ite, e_ofR_ite, e_pick_ite, e_bind_ite, e_modI, e_fdivI, e_mul1, e_pow10, e_pow2, e_shl1, e_shrI, e_addS, e_iaddS, e_addL, e_addT, e_lenS, e_lst, e_strLit, String.reduceBEq, e_ixL0, e_ixL1, e_ixL2, e_ixL3, e_ixL4, e_ixL5, e_ixL6, e_ixL7, e_ixL8, e_ixT0, e_ixT1, e_ixT2, e_ixT3, e_ixT4, e_ixT5, e_tupleL, e_listT, e_tupleT, eqX_int, neX_int, eqX_S, neX_S, eqX_t0, neX_t0, e_catL, e_tup, e_inT, e_ninT, e_inL, e_ninL, e_slS, Int.reduceLT, Int.reduceLE, Int.reduceMul, Int.reduceAdd, Int.reduceSub, Int.reducePow, Int.reduceNeg, Int.reduceToNat, List.length_cons, List.length_nil, List.length_append, Nat.reduceAdd, Nat.reduceLeDiff, flD, List.all_cons, List.all_nil, Bool.and_true, Bool.true_and, Bool.and_self, decide_true, decide_false, or_true, true_or, and_true, true_and, eq_self, *])
local macro_rules | `(tactic| walk_at "pdu") => `(tactic| try simp -implicitDefEqProofs only [e_seq, e_forN, e_for0, e_nxn, e_nct, e_nbk, e_nrt, e_nrn, e_nex, e_next_ite, e_thn, e_trt, e_trn, e_tex, e_if, e_pick, e_pickx, e_ret, e_retN, e_set, e_drop, e_for, e_ofR, e_ofRx, e_ofI, e_nil, e_asg, endS_rt, endS_rn, endS_nx, endS_ex, endN_rn, endN_ex, gC, g1, g2, g3, gA, aNil, aCons, gAnd, gOr, gNot, gB, gTru, bAnd, bOr, bNot, gIf, iA, iSeq, gSl, pNone, pSome, ok_bind, ex_bind, st_bind, gVar, List.getElem?_cons_zero, List.getElem?_cons_succ, List.set_cons_zero, List.set_cons_succ, if_true, if_false, Bool.not_true, Bool.not_false, Bool.false_eq_true, ↓reduceIte, e_asB, e_lt, e_gt, e_le, e_ge, e_ltS, e_gtS, e_eqI, e_eqS, e_eqB, e_neI, e_neS, e_neB, e_addI, e_iaddI, e_subI, e_negI, e_andI, e_orI, e_xorI, e_lenL, e_lenT, e_ord, e_intB, e_intI, e_inS, e_ninS, e_itL, e_itT, e_itS, e_zip, e_enum, e_slL, e_slT, e_asI, e_isN1, e_isN2, e_notN1, e_notN2, e_truB, e_truI, e_truL, e_isi_int_non, e_isi_int_bl, e_isi_int_int, e_isi_int_str, e_isi_int_list, e_isi_int_tup, e_isi_int_dict, e_isi_int_dictT, e_isi_bool_non, e_isi_bool_bl, e_isi_bool_int, e_isi_bool_str, e_isi_bool_list, e_isi_bool_tup, e_isi_bool_dict, e_isi_bool_dictT, e_isi_str_non, e_isi_str_bl, e_isi_str_int, e_isi_str_str, e_isi_str_list, e_isi_str_tup, e_isi_str_dict, e_isi_str_dictT, e_isi_list_non, e_isi_list_bl, e_isi_list_int, e_isi_list_str, e_isi_list_list, e_isi_list_tup, e_isi_list_dict, e_isi_list_dictT, e_isi_tuple_non, e_isi_tuple_bl, e_isi_tuple_int, e_isi_tuple_str, e_isi_tuple_list, e_isi_tuple_tup, e_isi_tuple_dict, e_isi_tuple_dictT, e_isi_dict_non, e_isi_dict_bl, e_isi_dict_int, e_isi_dict_str, e_isi_dict_list, e_isi_dict_tup, e_isi_dict_dict, e_isi_dict_dictT, e_iteAnd, e_iteOr, e_iteAndD, e_iteOrD, e_then_ite, e_endS_ite, e_endN_ite, e_ofR_ite, e_pick_ite, e_bind_ite, e_modI, e_fdivI, e_mul1, e_pow10, e_pow2, e_shl1, e_shrI, e_addS, e_iaddS, e_addL, e_addT, e_lenS, e_lst, e_strLit, String.reduceBEq, e_ixL0, e_ixL1, e_ixL2, e_ixL3, e_ixL4, e_ixL5, e_ixL6, e_ixL7, e_ixL8, e_ixT0, e_ixT1, e_ixT2, e_ixT3, e_ixT4, e_ixT5, e_tupleL, e_listT, e_tupleT, eqX_int, neX_int, eqX_S, neX_S, eqX_t0, neX_t0, e_catL, e_tup, e_inT, e_ninT, e_inL, e_ninL, e_slS, Int.reduceLT, Int.reduceLE, Int.reduceMul, Int.reduceAdd, Int.reduceSub, Int.reducePow, Int.reduceNeg, Int.reduceToNat, List.length_cons, List.length_nil, List.length_append, Nat.reduceAdd, Nat.reduceLeDiff, flD, List.all_cons, List.all_nil, Bool.and_true, Bool.true_and, Bool.and_self, decide_true, decide_false, or_true, true_or, and_true, true_and, eq_self])
local macro_rules | `(tactic| walk_at "pdq") => `(tactic| try simp -implicitDefEqProofs only [e_seq, q_seq, q_tnx, q_tex, q_trt, q_then_ite, q_if, q_pick, q_pickx, q_pick_ite, q_nil, q_raise, cl_nil, cl_f, cl_t, cl_n, e_thn, e_trt, e_trn, e_tex, e_if, e_pick, e_pickx, e_ret, e_retN, e_set, e_drop, e_for, e_ofR, e_ofRx, e_ofI, e_nil, e_asg, endS_rt, endS_rn, endS_nx, endS_ex, endN_rn, endN_ex, gC, g1, g2, g3, gA, aNil, aCons, gAnd, gOr, gNot, gB, gTru, bAnd, bOr, bNot, gIf, iA, iSeq, gSl, pNone, pSome, ok_bind, ex_bind, st_bind, gVar, List.getElem?_cons_zero, List.getElem?_cons_succ, List.set_cons_zero, List.set_cons_succ, if_true, if_false, Bool.not_true, Bool.not_false, Bool.false_eq_true, ↓reduceIte, e_asB, e_lt, e_gt, e_le, e_ge, e_ltS, e_gtS, e_eqI, e_eqS, e_eqB, e_neI, e_neS, e_neB, e_addI, e_iaddI, e_subI, e_negI, e_andI, e_orI, e_xorI, e_lenL, e_lenT, e_ord, e_intB, e_intI, e_inS, e_ninS, e_itL, e_itT, e_itS, e_zip, e_enum, e_slL, e_slT, e_asI, e_isN1, e_isN2, e_notN1, e_notN2, e_truB, e_truI, e_truL, e_isi_int_non, e_isi_int_bl, e_isi_int_int, e_isi_int_str, e_isi_int_list, e_isi_int_tup, e_isi_int_dict, e_isi_int_dictT, e_isi_bool_non, e_isi_bool_bl, e_isi_bool_int, e_isi_bool_str, e_isi_bool_list, e_isi_bool_tup, e_isi_bool_dict, e_isi_bool_dictT, e_isi_str_non, e_isi_str_bl, e_isi_str_int, e_isi_str_str, e_isi_str_list, e_isi_str_tup, e_isi_str_dict, e_isi_str_dictT, e_isi_list_non, e_isi_list_bl, e_isi_list_int, e_isi_list_str, e_isi_list_list, e_isi_list_tup, e_isi_list_dict, e_isi_list_dictT, e_isi_tuple_non, e_isi_tuple_bl, e_isi_tuple_int, e_isi_tuple_str, e_isi_tuple_list, e_isi_tuple_tup, e_isi_tuple_dict, e_isi_tuple_dictT, e_isi_dict_non, e_isi_dict_bl, e_isi_dict_int, e_isi_dict_str, e_isi_dict_list, e_isi_dict_tup, e_isi_dict_dict, e_isi_dict_dictT, e_iteAnd, e_iteOr, e_iteAndD, e_iteOrD, e_then_ite, e_endS_ite, e_endN_ite, e_ofR_ite, e_pick_ite, e_bind_ite, e_modI, e_fdivI, e_mul1, e_pow10, e_pow2, e_shl1, e_shrI, e_addS, e_iaddS, e_addL, e_addT, e_lenS, e_lst, e_strLit, String.reduceBEq, e_ixL0, e_ixL1, e_ixL2, e_ixL3, e_ixL4, e_ixL5, e_ixL6, e_ixL7, e_ixL8, e_ixT0, e_ixT1, e_ixT2, e_ixT3, e_ixT4, e_ixT5, e_tupleL, e_listT, e_tupleT, eqX_int, neX_int, eqX_S, neX_S, eqX_t0, neX_t0, e_catL, e_tup, e_inT, e_ninT, e_inL, e_ninL, e_slS, Int.reduceLT, Int.reduceLE, Int.reduceMul, Int.reduceAdd, Int.reduceSub, Int.reducePow, Int.reduceNeg, Int.reduceToNat, List.length_cons, List.length_nil, List.length_append, Nat.reduceAdd, Nat.reduceLeDiff, flD, List.all_cons, List.all_nil, Bool.and_true, Bool.true_and, Bool.and_self, decide_true, decide_false, or_true, true_or, and_true, true_and, eq_self])
local macro_rules | `(tactic| walk_at "pdr") => `(tactic| try simp -implicitDefEqProofs only [e_seq, q_seq, q_tnx, q_tex, q_trt, q_then_ite, q_nil, q_raise, cl_nil, cl_f, cl_t, cl_n, s_ok, s_ex, e_sqRet, e_sqSet, e_sqExpr, e_sqAsg, asg_some, e_tqName, e_tqTup2, e_qP, e_upok, e_upex, e_qVar, e_varok, e_qNew, e_newok, rq_ok, rq_ex, e_aqN, e_aqC, e_qPA, e_qCall, e_qTup, e_tupP2, e_qSn, e_qSnT, e_tok, e_qT, e_up_ite, pk_ite, s_ite, tst_ite, e_end_ite, q_ifS, pk_ok, e_q2, op2_ii, op2_ss, op2_si, e_qLst, lstP1, e_iqR,  sn_nil, sn_s, sn_n, fu_f, e_qIx, e_endrt, e_endnx, List.map_cons, List.map_nil, Bool.or_false, Bool.or_true, Bool.true_or, Bool.false_or, e_thn, e_trt, e_trn, e_tex, e_if, e_pick, e_pickx, e_ret, e_retN, e_set, e_drop, e_for, e_ofR, e_ofRx, e_ofI, e_nil, e_asg, endS_rt, endS_rn, endS_nx, endS_ex, endN_rn, endN_ex, gC, g1, g2, g3, gA, aNil, aCons, gAnd, gOr, gNot, gB, gTru, bAnd, bOr, bNot, gIf, iA, iSeq, gSl, pNone, pSome, ok_bind, ex_bind, st_bind, gVar, List.getElem?_cons_zero, List.getElem?_cons_succ, List.set_cons_zero, List.set_cons_succ, if_true, if_false, Bool.not_true, Bool.not_false, Bool.false_eq_true, ↓reduceIte, e_asB, e_lt, e_gt, e_le, e_ge, e_ltS, e_gtS, e_eqI, e_eqS, e_eqB, e_neI, e_neS, e_neB, e_addI, e_iaddI, e_subI, e_negI, e_andI, e_orI, e_xorI, e_lenL, e_lenT, e_ord, e_intB, e_intI, e_inS, e_ninS, e_itL, e_itT, e_itS, e_zip, e_enum, e_slL, e_slT, e_asI, e_isN1, e_isN2, e_notN1, e_notN2, e_truB, e_truI, e_truL, e_isi_int_non, e_isi_int_bl, e_isi_int_int, e_isi_int_str, e_isi_int_list, e_isi_int_tup, e_isi_int_dict, e_isi_int_dictT, e_isi_bool_non, e_isi_bool_bl, e_isi_bool_int, e_isi_bool_str, e_isi_bool_list, e_isi_bool_tup, e_isi_bool_dict, e_isi_bool_dictT, e_isi_str_non, e_isi_str_bl, e_isi_str_int, e_isi_str_str, e_isi_str_list, e_isi_str_tup, e_isi_str_dict, e_isi_str_dictT, e_isi_list_non, e_isi_list_bl, e_isi_list_int, e_isi_list_str, e_isi_list_list, e_isi_list_tup, e_isi_list_dict, e_isi_list_dictT, e_isi_tuple_non, e_isi_tuple_bl, e_isi_tuple_int, e_isi_tuple_str, e_isi_tuple_list, e_isi_tuple_tup, e_isi_tuple_dict, e_isi_tuple_dictT, e_isi_dict_non, e_isi_dict_bl, e_isi_dict_int, e_isi_dict_str, e_isi_dict_list, e_isi_dict_tup, e_isi_dict_dict, e_isi_dict_dictT, e_iteAnd, e_iteOr, e_iteAndD, e_iteOrD, e_then_ite, e_endS_ite, e_endN_ite, e_ofR_ite, e_pick_ite, e_bind_ite, e_modI, e_fdivI, e_mul1, e_pow10, e_pow2, e_shl1, e_shrI, e_addS, e_iaddS, e_addL, e_addT, e_lenS, e_lst, e_strLit, String.reduceBEq, e_ixL0, e_ixL1, e_ixL2, e_ixL3, e_ixL4, e_ixL5, e_ixL6, e_ixL7, e_ixL8, e_ixT0, e_ixT1, e_ixT2, e_ixT3, e_ixT4, e_ixT5, e_tupleL, e_listT, e_tupleT, eqX_int, neX_int, eqX_S, neX_S, eqX_t0, neX_t0, e_catL, e_tup, e_inT, e_ninT, e_inL, e_ninL, e_slS, Int.reduceLT, Int.reduceLE, Int.reduceMul, Int.reduceAdd, Int.reduceSub, Int.reducePow, Int.reduceNeg, Int.reduceToNat, List.length_cons, List.length_nil, List.length_append, Nat.reduceAdd, Nat.reduceLeDiff, flD, List.all_cons, List.all_nil, Bool.and_true, Bool.true_and, Bool.and_self, decide_true, decide_false, or_true, true_or, and_true, true_and, eq_self])
local macro_rules | `(tactic| walk_at "pdv") => `(tactic| try simp -implicitDefEqProofs only [e_seq, Int.reduceBEq, Int.cast_ofNat_Int, e_thn, e_trt, e_trn, e_tex, e_if, e_pick, e_pickx, e_ret, e_retN, e_set, e_drop, e_for, e_ofR, e_ofRx, e_ofI, e_nil, e_asg, endS_rt, endS_rn, endS_nx, endS_ex, endN_rn, endN_ex, gC, g1, g2, g3, gA, aNil, aCons, gAnd, gOr, gNot, gB, gTru, bAnd, bOr, bNot, gIf, iA, iSeq, gSl, pNone, pSome, ok_bind, ex_bind, st_bind, gVar, List.getElem?_cons_zero, List.getElem?_cons_succ, List.set_cons_zero, List.set_cons_succ, if_true, if_false, Bool.not_true, Bool.not_false, Bool.false_eq_true, ↓reduceIte, e_asB, e_lt, e_gt, e_le, e_ge, e_ltS, e_gtS, e_eqI, e_eqS, e_eqB, e_neI, e_neS, e_neB, e_addI, e_iaddI, e_subI, e_negI, e_andI, e_orI, e_xorI, e_lenL, e_lenT, e_ord, e_intB, e_intI, e_inS, e_ninS, e_itL, e_itT, e_itS, e_zip, e_enum, e_slL, e_slT, e_asI, e_isN1, e_isN2, e_notN1, e_notN2, e_truB, e_truI, e_truL, e_isi_int_non, e_isi_int_bl, e_isi_int_int, e_isi_int_str, e_isi_int_list, e_isi_int_tup, e_isi_int_dict, e_isi_int_dictT, e_isi_bool_non, e_isi_bool_bl, e_isi_bool_int, e_isi_bool_str, e_isi_bool_list, e_isi_bool_tup, e_isi_bool_dict, e_isi_bool_dictT, e_isi_str_non, e_isi_str_bl, e_isi_str_int, e_isi_str_str, e_isi_str_list, e_isi_str_tup, e_isi_str_dict, e_isi_str_dictT, e_isi_list_non, e_isi_list_bl, e_isi_list_int, e_isi_list_str, e_isi_list_list, e_isi_list_tup, e_isi_list_dict, e_isi_list_dictT, e_isi_tuple_non, e_isi_tuple_bl, e_isi_tuple_int, e_isi_tuple_str, e_isi_tuple_list, e_isi_tuple_tup, e_isi_tuple_dict, e_isi_tuple_dictT, e_isi_dict_non, e_isi_dict_bl, e_isi_dict_int, e_isi_dict_str, e_isi_dict_list, e_isi_dict_tup, e_isi_dict_dict, e_isi_dict_dictT, e_iteAnd, e_iteOr, e_iteAndD, e_iteOrD, e_then_ite, e_endS_ite, e_endN_ite, e_ofR_ite, e_pick_ite, e_bind_ite, e_modI, e_fdivI, e_mul1, e_pow10, e_pow2, e_shl1, e_shrI, e_addS, e_iaddS, e_addL, e_addT, e_lenS, e_lst, e_strLit, String.reduceBEq, e_ixL0, e_ixL1, e_ixL2, e_ixL3, e_ixL4, e_ixL5, e_ixL6, e_ixL7, e_ixL8, e_ixT0, e_ixT1, e_ixT2, e_ixT3, e_ixT4, e_ixT5, e_tupleL, e_listT, e_tupleT, eqX_int, neX_int, eqX_S, neX_S, eqX_t0, neX_t0, e_catL, e_tup, e_inT, e_ninT, e_inL, e_ninL, e_slS, Int.reduceLT, Int.reduceLE, Int.reduceMul, Int.reduceAdd, Int.reduceSub, Int.reducePow, Int.reduceNeg, Int.reduceToNat, List.length_cons, List.length_nil, List.length_append, Nat.reduceAdd, Nat.reduceLeDiff, flD, List.all_cons, List.all_nil, Bool.and_true, Bool.true_and, Bool.and_self, decide_true, decide_false, or_true, true_or, and_true, true_and, eq_self])
theorem rng3_if (i j c : Int) : rangeD3 [.int i, .int j, .int c] = if (decide (c ≠ 0) && (decide (c.natAbs < 1073741824) && (Builtin.Range.small i j c && decide (0 ≤ Builtin.Range.rangeSize i j c)))) = true then .ok (rngC i c (Builtin.Range.rangeSize i j c).toNat) else .st := rfl
theorem rng3_at (n : Int) (h0 : 0 ≤ n) (h1 : n ≤ 40) : ∃ m : Nat, rangeD3 [.int 7, .int n, .int 2] = .ok (rngC 7 2 m) := by
  obtain ⟨k, rfl⟩ := Int.eq_ofNat_of_zero_le h0
  have hk : k ≤ 40 := by omega
  have key : ∀ k : Nat, k ≤ 40 → (decide ((2 : Int) ≠ 0) && (decide ((2 : Int).natAbs < 1073741824) && (Builtin.Range.small 7 (k : Int) 2 && decide (0 ≤ Builtin.Range.rangeSize 7 (k : Int) 2)))) = true := by decide +kernel
  exact ⟨_, by rw [rng3_if, if_pos (key k hk)]⟩
theorem mem_rngC {lo c : Int} {n : Nat} {d : D} (h : d ∈ rngC lo c n) : ∃ k : Nat, k < n ∧ d = .int (lo + k * c) := by
  unfold rngC at h
  obtain ⟨k, hk, rfl⟩ := List.mem_map.mp h
  exact ⟨k, List.mem_range.mp hk, rfl⟩
theorem e_min (i j : Int) : minD [.int i, .int j] = .ok (.int (if j < i then j else i)) := rfl
theorem e_max (i j : Int) : maxD [.int i, .int j] = .ok (.int (if j > i then j else i)) := rfl
def tailS : Rho → S := (sSeq (sIf (gB (g2 notTD (gMeth [("Chapter", F_Kind_fits), ("Para", F_Kind_fits), ("Table", F_Table_fits)] "fits" (gVar 3) (aCons (gVar 6) aNil)) (gC (.bl false)))) (sRet (gC (.bl false))) sNil) (sSeq (sSet 7 (gMeth [("Chapter", F_Kind_shown), ("Para", F_Kind_shown), ("Table", F_Table_shown)] "shown" (gVar 3) (aCons (gVar 4) aNil))) (sSeq (sIf (bOr (bNot (gB (g1 (isiD "str") (gVar 7)))) (bOr (gB (g2 neD (gVar 7) (gA F__law_shown (aCons (gVar 2) (aCons (gVar 4) aNil))))) (gB (g2 neD (gMeth [("Chapter", F_Kind_read_shown), ("Para", F_Kind_read_shown), ("Table", F_Table_read_shown)] "read_shown" (gVar 3) (aCons (gVar 7) aNil)) (gVar 4))))) (sRet (gC (.bl false))) sNil) (sFor (iA rangeD3 (aCons (gC (.int 7)) (aCons (gA maxD (aCons (gC (.int 9)) (aCons (gA minD (aCons (g2 subD (gA lenD (aCons (gVar 0) aNil)) (gC (.int 1))) (aCons (gC (.int 37)) aNil))) aNil))) (aCons (gC (.int 2)) aNil)))) (τName 8) B_law_0))))
theorem outer_tail (ns : List Int) {k : Str} {t : Bool} {K : D} (h : KO k t K) (x1 : Option D) {d w : D} (hd : ContOk t d) (w1 : Tq 3 w) (w2 : (if t = true then tableB w else textB w) = false) (x5 x7 x8 x9 x10 x11 : Option D) : ∃ y7 y8 y9 y10 y11, tailS [some (.list (ns.map D.int)), x1, some (.str k), some K, some d, x5, some w, x7, x8, x9, x10, x11] =
    .nx [some (.list (ns.map D.int)), x1, some (.str k), some K, some d, x5, some w, y7, y8, y9, y10, y11] := by
  obtain ⟨X, hX, hdue, hcv, htq, hfit, hls, hsh⟩ := cont_shown h hd
  unfold tailS
  walk_at "pd"
  rw [kfits_at h w1 rfl rfl, w2]
  walk_at "pd"
  rw [show notTD (.bl false) (.bl false) = .ok (.bl false) from rfl]
  walk_at "pd"
  rw [hsh _ _ _ rfl rfl]
  walk_at "pd"
  rw [hls]
  walk_at "pd"
  rw [show (X == X) = true from beq_self_eq_true X]
  walk_at "pd"
  rw [kread_at h X (by omega) rfl rfl, hdue]
  walk_at "pd"
  rw [cv_ne hcv hcv, eqB_same]
  walk_at "pd"
  rw [List.length_map, e_min]
  walk_at "pd"
  rw [e_max]
  walk_at "pd"
  obtain ⟨m, em⟩ := rng3_at (if (if (37 : Int) < (ns.length : Int) - 1 then (37 : Int) else (ns.length : Int) - 1) > 9 then (if (37 : Int) < (ns.length : Int) - 1 then (37 : Int) else (ns.length : Int) - 1) else 9) (by repeat' split <;> omega) (by repeat' split <;> omega)
  rw [em]
  walk_at "pd"
  generalize hr : forL _ _ _ _ = r
  obtain ⟨ρ', rfl, a, b, c, e, rfl⟩ := forL_out hr (fun _ ρ => ∃ y8 y9 y10 y11, ρ = [some (.list (ns.map D.int)), x1, some (.str k), some K, some d, x5, some w, some (.str X), y8, y9, y10, y11]) ⟨_, _, _, _, rfl⟩ (by
    rintro j d' ρ hd' ⟨y8, y9, y10, y11, rfl⟩
    obtain ⟨i, hi, rfl⟩ := mem_rngC (List.mem_of_getElem? hd')
    refine ⟨_, rfl, ?_⟩
    rw [show (7 : Int) + (i : Int) * 2 = ((7 + i * 2 : Nat) : Int) by omega]
    obtain ⟨z9, z10, z11, e⟩ := inner_step ns h X hX (7 + i * 2) x1 (some d) x5 (some w) y9 y10 y11
    exact ⟨_, e, _, _, _, _, rfl⟩)
  exact ⟨_, _, _, _, _, rfl⟩
theorem outer_step (ns : List Int) {k : Str} {t : Bool} {K : D} (h : KO k t K) (i : Nat) (hi : i ≤ 3) (x3 x4 x5 x6 x7 x8 x9 x10 x11 : Option D) : ∃ y3 y4 y5 y6 y7 y8 y9 y10 y11, B_law_1 [some (.list (ns.map D.int)), some (.int (i : Int)), some (.str k), x3, x4, x5, x6, x7, x8, x9, x10, x11] =
    .nx [some (.list (ns.map D.int)), some (.int (i : Int)), some (.str k), y3, y4, y5, y6, y7, y8, y9, y10, y11] := by
  obtain ⟨v0, c0⟩ := cell_at ns i
  obtain ⟨v1, c1⟩ := cell_at ns (3 + i)
  obtain ⟨v2, c2⟩ := cell_at ns 6
  have c1' : F__law_cell [.list (ns.map D.int), .int (3 + (i : Int))] = .ok (.int v1) := by
    rw [← c1]
    congr 3
  have c2' : F__law_cell [.list (ns.map D.int), .int 6] = .ok (.int v2) := c2
  obtain ⟨d, ed, hd⟩ := content_at h v0
  obtain ⟨z, ez, mz⟩ := odd_at v1
  obtain ⟨z1, z2, z3⟩ := odd_bad z mz
  obtain ⟨X, hX, hdue, hcv, htq, hfit, hls, hsh⟩ := cont_shown h hd
  have oddf : (if t = true then tableB z else textB z) = false := by rw [z2, z3]; cases t <;> rfl
  unfold B_law_1
  walk_at "pd"
  rw [kow_at h]
  walk_at "pd"
  rw [c0]
  walk_at "pd"
  rw [ed]
  walk_at "pd"
  rw [c1']
  walk_at "pd"
  rw [ez]
  walk_at "pd"
  rw [kfits_at h htq rfl rfl, hfit]
  walk_at "pd"
  rw [show notTD (.bl true) (.bl true) = .ok (.bl false) from rfl]
  walk_at "pd"
  rw [kfits_at h z1 rfl rfl, oddf]
  walk_at "pd"
  rw [show notTD (.bl false) (.bl false) = .ok (.bl false) from rfl]
  walk_at "pd"
  rw [c2']
  obtain ⟨T, eT, hT⟩ := table_at v2
  obtain ⟨s, es, hs⟩ := text_at v2
  walk_at "pd"
  rw [eT]
  have hk : (k == Str.ofString "table") = t := by cases h <;> decide +kernel
  cases t with
  | true =>
    obtain ⟨y7, y8, y9, y10, y11, e⟩ := outer_tail ns h (some (.int (i : Int))) hd (w := .str s) (.of (hs.gd 3)) rfl (some z) x7 x8 x9 x10 x11
    refine ⟨_, _, _, _, y7, y8, y9, y10, y11, e.symm.trans ?_ |>.symm⟩
    walk_at "pd"
    rw [hk]
    walk_at "pd"
    rw [c2']
    walk_at "pd"
    rw [es]
    walk_at "pd"
    rfl
  | false =>
    have tab : textB T = false := by
      obtain ⟨rows, n, rfl, _⟩ := hT
      rfl
    obtain ⟨y7, y8, y9, y10, y11, e⟩ := outer_tail ns h (some (.int (i : Int))) hd (w := T) (.of (TableOk.sh hT 1)) tab (some z) x7 x8 x9 x10 x11
    refine ⟨_, _, _, _, y7, y8, y9, y10, y11, e.symm.trans ?_ |>.symm⟩
    walk_at "pd"
    rw [hk]
    walk_at "pd"
    rfl

end Pd

set_option maxHeartbeats 4000000
namespace Pd
open PySem PySem.Spec PyProof.Rows L2
local macro_rules | `(tactic| walk_at "pd") => `(tactic| try simp -implicitDefEqProofs only [e_seq, e_thn, e_trt, e_trn, e_tex, e_if, e_pick, e_pickx, e_ret, e_retN, e_set, e_drop, e_for, e_ofR, e_ofRx, e_ofI, e_nil, e_asg, endS_rt, endS_rn, endS_nx, endS_ex, endN_rn, endN_ex, gC, g1, g2, g3, gA, aNil, aCons, gAnd, gOr, gNot, gB, gTru, bAnd, bOr, bNot, gIf, iA, iSeq, gSl, pNone, pSome, ok_bind, ex_bind, st_bind, gVar, List.getElem?_cons_zero, List.getElem?_cons_succ, List.set_cons_zero, List.set_cons_succ, if_true, if_false, Bool.not_true, Bool.not_false, Bool.false_eq_true, ↓reduceIte, e_asB, e_lt, e_gt, e_le, e_ge, e_ltS, e_gtS, e_eqI, e_eqS, e_eqB, e_neI, e_neS, e_neB, e_addI, e_iaddI, e_subI, e_negI, e_andI, e_orI, e_xorI, e_lenL, e_lenT, e_ord, e_intB, e_intI, e_inS, e_ninS, e_itL, e_itT, e_itS, e_zip, e_enum, e_slL, e_slT, e_asI, e_isN1, e_isN2, e_notN1, e_notN2, e_truB, e_truI, e_truL, e_isi_int_non, e_isi_int_bl, e_isi_int_int, e_isi_int_str, e_isi_int_list, e_isi_int_tup, e_isi_int_dict, e_isi_int_dictT, e_isi_bool_non, e_isi_bool_bl, e_isi_bool_int, e_isi_bool_str, e_isi_bool_list, e_isi_bool_tup, e_isi_bool_dict, e_isi_bool_dictT, e_isi_str_non, e_isi_str_bl, e_isi_str_int, e_isi_str_str, e_isi_str_list, e_isi_str_tup, e_isi_str_dict, e_isi_str_dictT, e_isi_list_non, e_isi_list_bl, e_isi_list_int, e_isi_list_str, e_isi_list_list, e_isi_list_tup, e_isi_list_dict, e_isi_list_dictT, e_isi_tuple_non, e_isi_tuple_bl, e_isi_tuple_int, e_isi_tuple_str, e_isi_tuple_list, e_isi_tuple_tup, e_isi_tuple_dict, e_isi_tuple_dictT, e_isi_dict_non, e_isi_dict_bl, e_isi_dict_int, e_isi_dict_str, e_isi_dict_list, e_isi_dict_tup, e_isi_dict_dict, e_isi_dict_dictT, e_iteAnd, e_iteOr, e_iteAndD, e_iteOrD, e_then_ite, e_endS_ite, e_endN_ite, e_ofR_ite, e_pick_ite, e_bind_ite, e_modI, e_fdivI, e_mul1, e_pow10, e_pow2, e_shl1, e_shrI, e_addS, e_iaddS, e_addL, e_addT, e_lenS, e_lst, e_strLit, String.reduceBEq, e_ixL0, e_ixL1, e_ixL2, e_ixL3, e_ixL4, e_ixL5, e_ixL6, e_ixL7, e_ixL8, e_ixT0, e_ixT1, e_ixT2, e_ixT3, e_ixT4, e_ixT5, e_tupleL, e_listT, e_tupleT, eqX_int, neX_int, eqX_S, neX_S, eqX_t0, neX_t0, e_catL, e_tup, e_inT, e_ninT, e_inL, e_ninL, e_slS, Int.reduceLT, Int.reduceLE, Int.reduceMul, Int.reduceAdd, Int.reduceSub, Int.reducePow, Int.reduceNeg, Int.reduceToNat, List.length_cons, List.length_nil, List.length_append, Nat.reduceAdd, Nat.reduceLeDiff, flD, List.all_cons, List.all_nil, Bool.and_true, Bool.true_and, Bool.and_self, decide_true, decide_false, or_true, true_or, and_true, true_and, eq_self])
local macro_rules | `(tactic| walk_at "pdh") => `(tactic| try simp -implicitDefEqProofs only [e_seq, e_thn, e_trt, e_trn, e_tex, e_if, e_pick, e_pickx, e_ret, e_retN, e_set, e_drop, e_for, e_ofR, e_ofRx, e_ofI, e_nil, e_asg, endS_rt, endS_rn, endS_nx, endS_ex, endN_rn, endN_ex, gC, g1, g2, g3, gA, aNil, aCons, gAnd, gOr, gNot, gB, gTru, bAnd, bOr, bNot, gIf, iA, iSeq, gSl, pNone, pSome, ok_bind, ex_bind, st_bind, gVar, List.getElem?_cons_zero, List.getElem?_cons_succ, List.set_cons_zero, List.set_cons_succ, if_true, if_false, Bool.not_true, Bool.not_false, Bool.false_eq_true, ↓reduceIte, e_asB, e_lt, e_gt, e_le, e_ge, e_ltS, e_gtS, e_eqI, e_eqS, e_eqB, e_neI, e_neS, e_neB, e_addI, e_iaddI, e_subI, e_negI, e_andI, e_orI, e_xorI, e_lenL, e_lenT, e_ord, e_intB, e_intI, e_inS, e_ninS, e_itL, e_itT, e_itS, e_zip, e_enum, e_slL, e_slT, e_asI, e_isN1, e_isN2, e_notN1, e_notN2, e_truB, e_truI, e_truL, e_isi_int_non, e_isi_int_bl, e_isi_int_int, e_isi_int_str, e_isi_int_list, e_isi_int_tup, e_isi_int_dict, e_isi_int_dictT, e_isi_bool_non, e_isi_bool_bl, e_isi_bool_int, e_isi_bool_str, e_isi_bool_list, e_isi_bool_tup, e_isi_bool_dict, e_isi_bool_dictT, e_isi_str_non, e_isi_str_bl, e_isi_str_int, e_isi_str_str, e_isi_str_list, e_isi_str_tup, e_isi_str_dict, e_isi_str_dictT, e_isi_list_non, e_isi_list_bl, e_isi_list_int, e_isi_list_str, e_isi_list_list, e_isi_list_tup, e_isi_list_dict, e_isi_list_dictT, e_isi_tuple_non, e_isi_tuple_bl, e_isi_tuple_int, e_isi_tuple_str, e_isi_tuple_list, e_isi_tuple_tup, e_isi_tuple_dict, e_isi_tuple_dictT, e_isi_dict_non, e_isi_dict_bl, e_isi_dict_int, e_isi_dict_str, e_isi_dict_list, e_isi_dict_tup, e_isi_dict_dict, e_isi_dict_dictT, e_iteAnd, e_iteOr, e_iteAndD, e_iteOrD, e_then_ite, e_endS_ite, e_endN_ite, e_ofR_ite, e_pick_ite, e_bind_ite, e_modI, e_fdivI, e_mul1, e_pow10, e_pow2, e_shl1, e_shrI, e_addS, e_iaddS, e_addL, e_addT, e_lenS, e_lst, e_strLit, String.reduceBEq, e_ixL0, e_ixL1, e_ixL2, e_ixL3, e_ixL4, e_ixL5, e_ixL6, e_ixL7, e_ixL8, e_ixT0, e_ixT1, e_ixT2, e_ixT3, e_ixT4, e_ixT5, e_tupleL, e_listT, e_tupleT, eqX_int, neX_int, eqX_S, neX_S, eqX_t0, neX_t0, e_catL, e_tup, e_inT, e_ninT, e_inL, e_ninL, e_slS, Int.reduceLT, Int.reduceLE, Int.reduceMul, Int.reduceAdd, Int.reduceSub, Int.reducePow, Int.reduceNeg, Int.reduceToNat, List.length_cons, List.length_nil, List.length_append, Nat.reduceAdd, Nat.reduceLeDiff, flD, List.all_cons, List.all_nil, Bool.and_true, Bool.true_and, Bool.and_self, decide_true, decide_false, or_true, true_or, and_true, true_and, eq_self, *])
local macro_rules | `(tactic| walk_at "pdu") => `(tactic| try simp -implicitDefEqProofs only [e_seq, e_forN, e_for0, e_nxn, e_nct, e_nbk, e_nrt, e_nrn, e_nex, e_next_ite, e_thn, e_trt, e_trn, e_tex, e_if, e_pick, e_pickx, e_ret, e_retN, e_set, e_drop, e_for, e_ofR, e_ofRx, e_ofI, e_nil, e_asg, endS_rt, endS_rn, endS_nx, endS_ex, endN_rn, endN_ex, gC, g1, g2, g3, gA, aNil, aCons, gAnd, gOr, gNot, gB, gTru, bAnd, bOr, bNot, gIf, iA, iSeq, gSl, pNone, pSome, ok_bind, ex_bind, st_bind, gVar, List.getElem?_cons_zero, List.getElem?_cons_succ, List.set_cons_zero, List.set_cons_succ, if_true, if_false, Bool.not_true, Bool.not_false, Bool.false_eq_true, ↓reduceIte, e_asB, e_lt, e_gt, e_le, e_ge, e_ltS, e_gtS, e_eqI, e_eqS, e_eqB, e_neI, e_neS, e_neB, e_addI, e_iaddI, e_subI, e_negI, e_andI, e_orI, e_xorI, e_lenL, e_lenT, e_ord, e_intB, e_intI, e_inS, e_ninS, e_itL, e_itT, e_itS, e_zip, e_enum, e_slL, e_slT, e_asI, e_isN1, e_isN2, e_notN1, e_notN2, e_truB, e_truI, e_truL, e_isi_int_non, e_isi_int_bl, e_isi_int_int, e_isi_int_str, e_isi_int_list, e_isi_int_tup, e_isi_int_dict, e_isi_int_dictT, e_isi_bool_non, e_isi_bool_bl, e_isi_bool_int, e_isi_bool_str, e_isi_bool_list, e_isi_bool_tup, e_isi_bool_dict, e_isi_bool_dictT, e_isi_str_non, e_isi_str_bl, e_isi_str_int, e_isi_str_str, e_isi_str_list, e_isi_str_tup, e_isi_str_dict, e_isi_str_dictT, e_isi_list_non, e_isi_list_bl, e_isi_list_int, e_isi_list_str, e_isi_list_list, e_isi_list_tup, e_isi_list_dict, e_isi_list_dictT, e_isi_tuple_non, e_isi_tuple_bl, e_isi_tuple_int, e_isi_tuple_str, e_isi_tuple_list, e_isi_tuple_tup, e_isi_tuple_dict, e_isi_tuple_dictT, e_isi_dict_non, e_isi_dict_bl, e_isi_dict_int, e_isi_dict_str, e_isi_dict_list, e_isi_dict_tup, e_isi_dict_dict, e_isi_dict_dictT, e_iteAnd, e_iteOr, e_iteAndD, e_iteOrD, e_then_ite, e_endS_ite, e_endN_ite, e_ofR_ite, e_pick_ite, e_bind_ite, e_modI, e_fdivI, e_mul1, e_pow10, e_pow2, e_shl1, e_shrI, e_addS, e_iaddS, e_addL, e_addT, e_lenS, e_lst, e_strLit, String.reduceBEq, e_ixL0, e_ixL1, e_ixL2, e_ixL3, e_ixL4, e_ixL5, e_ixL6, e_ixL7, e_ixL8, e_ixT0, e_ixT1, e_ixT2, e_ixT3, e_ixT4, e_ixT5, e_tupleL, e_listT, e_tupleT, eqX_int, neX_int, eqX_S, neX_S, eqX_t0, neX_t0, e_catL, e_tup, e_inT, e_ninT, e_inL, e_ninL, e_slS, Int.reduceLT, Int.reduceLE, Int.reduceMul, Int.reduceAdd, Int.reduceSub, Int.reducePow, Int.reduceNeg, Int.reduceToNat, List.length_cons, List.length_nil, List.length_append, Nat.reduceAdd, Nat.reduceLeDiff, flD, List.all_cons, List.all_nil, Bool.and_true, Bool.true_and, Bool.and_self, decide_true, decide_false, or_true, true_or, and_true, true_and, eq_self])
local macro_rules | `(tactic| walk_at "pdq") => `(tactic| try simp -implicitDefEqProofs only [e_seq, q_seq, q_tnx, q_tex, q_trt, q_then_ite, q_if, q_pick, q_pickx, q_pick_ite, q_nil, q_raise, cl_nil, cl_f, cl_t, cl_n, e_thn, e_trt, e_trn, e_tex, e_if, e_pick, e_pickx, e_ret, e_retN, e_set, e_drop, e_for, e_ofR, e_ofRx, e_ofI, e_nil, e_asg, endS_rt, endS_rn, endS_nx, endS_ex, endN_rn, endN_ex, gC, g1, g2, g3, gA, aNil, aCons, gAnd, gOr, gNot, gB, gTru, bAnd, bOr, bNot, gIf, iA, iSeq, gSl, pNone, pSome, ok_bind, ex_bind, st_bind, gVar, List.getElem?_cons_zero, List.getElem?_cons_succ, List.set_cons_zero, List.set_cons_succ, if_true, if_false, Bool.not_true, Bool.not_false, Bool.false_eq_true, ↓reduceIte, e_asB, e_lt, e_gt, e_le, e_ge, e_ltS, e_gtS, e_eqI, e_eqS, e_eqB, e_neI, e_neS, e_neB, e_addI, e_iaddI, e_subI, e_negI, e_andI, e_orI, e_xorI, e_lenL, e_lenT, e_ord, e_intB, e_intI, e_inS, e_ninS, e_itL, e_itT, e_itS, e_zip, e_enum, e_slL, e_slT, e_asI, e_isN1, e_isN2, e_notN1, e_notN2, e_truB, e_truI, e_truL, e_isi_int_non, e_isi_int_bl, e_isi_int_int, e_isi_int_str, e_isi_int_list, e_isi_int_tup, e_isi_int_dict, e_isi_int_dictT, e_isi_bool_non, e_isi_bool_bl, e_isi_bool_int, e_isi_bool_str, e_isi_bool_list, e_isi_bool_tup, e_isi_bool_dict, e_isi_bool_dictT, e_isi_str_non, e_isi_str_bl, e_isi_str_int, e_isi_str_str, e_isi_str_list, e_isi_str_tup, e_isi_str_dict, e_isi_str_dictT, e_isi_list_non, e_isi_list_bl, e_isi_list_int, e_isi_list_str, e_isi_list_list, e_isi_list_tup, e_isi_list_dict, e_isi_list_dictT, e_isi_tuple_non, e_isi_tuple_bl, e_isi_tuple_int, e_isi_tuple_str, e_isi_tuple_list, e_isi_tuple_tup, e_isi_tuple_dict, e_isi_tuple_dictT, e_isi_dict_non, e_isi_dict_bl, e_isi_dict_int, e_isi_dict_str, e_isi_dict_list, e_isi_dict_tup, e_isi_dict_dict, e_isi_dict_dictT, e_iteAnd, e_iteOr, e_iteAndD, e_iteOrD, e_then_ite, e_endS_ite, e_endN_ite, e_ofR_ite, e_pick_ite, e_bind_ite, e_modI, e_fdivI, e_mul1, e_pow10, e_pow2, e_shl1, e_shrI, e_addS, e_iaddS, e_addL, e_addT, e_lenS, e_lst, e_strLit, String.reduceBEq, e_ixL0, e_ixL1, e_ixL2, e_ixL3, e_ixL4, e_ixL5, e_ixL6, e_ixL7, e_ixL8, e_ixT0, e_ixT1, e_ixT2, e_ixT3, e_ixT4, e_ixT5, e_tupleL, e_listT, e_tupleT, eqX_int, neX_int, eqX_S, neX_S, eqX_t0, neX_t0, e_catL, e_tup, e_inT, e_ninT, e_inL, e_ninL, e_slS, Int.reduceLT, Int.reduceLE, Int.reduceMul, Int.reduceAdd, Int.reduceSub, Int.reducePow, Int.reduceNeg, Int.reduceToNat, List.length_cons, List.length_nil, List.length_append, Nat.reduceAdd, Nat.reduceLeDiff, flD, List.all_cons, List.all_nil, Bool.and_true, Bool.true_and, Bool.and_self, decide_true, decide_false, or_true, true_or, and_true, true_and, eq_self])
local macro_rules | `(tactic| walk_at "pdr") => `(tactic| try simp -implicitDefEqProofs only [e_seq, q_seq, q_tnx, q_tex, q_trt, q_then_ite, q_nil, q_raise, cl_nil, cl_f, cl_t, cl_n, s_ok, s_ex, e_sqRet, e_sqSet, e_sqExpr, e_sqAsg, asg_some, e_tqName, e_tqTup2, e_qP, e_upok, e_upex, e_qVar, e_varok, e_qNew, e_newok, rq_ok, rq_ex, e_aqN, e_aqC, e_qPA, e_qCall, e_qTup, e_tupP2, e_qSn, e_qSnT, e_tok, e_qT, e_up_ite, pk_ite, s_ite, tst_ite, e_end_ite, q_ifS, pk_ok, e_q2, op2_ii, op2_ss, op2_si, e_qLst, lstP1, e_iqR,  sn_nil, sn_s, sn_n, fu_f, e_qIx, e_endrt, e_endnx, List.map_cons, List.map_nil, Bool.or_false, Bool.or_true, Bool.true_or, Bool.false_or, e_thn, e_trt, e_trn, e_tex, e_if, e_pick, e_pickx, e_ret, e_retN, e_set, e_drop, e_for, e_ofR, e_ofRx, e_ofI, e_nil, e_asg, endS_rt, endS_rn, endS_nx, endS_ex, endN_rn, endN_ex, gC, g1, g2, g3, gA, aNil, aCons, gAnd, gOr, gNot, gB, gTru, bAnd, bOr, bNot, gIf, iA, iSeq, gSl, pNone, pSome, ok_bind, ex_bind, st_bind, gVar, List.getElem?_cons_zero, List.getElem?_cons_succ, List.set_cons_zero, List.set_cons_succ, if_true, if_false, Bool.not_true, Bool.not_false, Bool.false_eq_true, ↓reduceIte, e_asB, e_lt, e_gt, e_le, e_ge, e_ltS, e_gtS, e_eqI, e_eqS, e_eqB, e_neI, e_neS, e_neB, e_addI, e_iaddI, e_subI, e_negI, e_andI, e_orI, e_xorI, e_lenL, e_lenT, e_ord, e_intB, e_intI, e_inS, e_ninS, e_itL, e_itT, e_itS, e_zip, e_enum, e_slL, e_slT, e_asI, e_isN1, e_isN2, e_notN1, e_notN2, e_truB, e_truI, e_truL, e_isi_int_non, e_isi_int_bl, e_isi_int_int, e_isi_int_str, e_isi_int_list, e_isi_int_tup, e_isi_int_dict, e_isi_int_dictT, e_isi_bool_non, e_isi_bool_bl, e_isi_bool_int, e_isi_bool_str, e_isi_bool_list, e_isi_bool_tup, e_isi_bool_dict, e_isi_bool_dictT, e_isi_str_non, e_isi_str_bl, e_isi_str_int, e_isi_str_str, e_isi_str_list, e_isi_str_tup, e_isi_str_dict, e_isi_str_dictT, e_isi_list_non, e_isi_list_bl, e_isi_list_int, e_isi_list_str, e_isi_list_list, e_isi_list_tup, e_isi_list_dict, e_isi_list_dictT, e_isi_tuple_non, e_isi_tuple_bl, e_isi_tuple_int, e_isi_tuple_str, e_isi_tuple_list, e_isi_tuple_tup, e_isi_tuple_dict, e_isi_tuple_dictT, e_isi_dict_non, e_isi_dict_bl, e_isi_dict_int, e_isi_dict_str, e_isi_dict_list, e_isi_dict_tup, e_isi_dict_dict, e_isi_dict_dictT, e_iteAnd, e_iteOr, e_iteAndD, e_iteOrD, e_then_ite, e_endS_ite, e_endN_ite, e_ofR_ite, e_pick_ite, e_bind_ite, e_modI, e_fdivI, e_mul1, e_pow10, e_pow2, e_shl1, e_shrI, e_addS, e_iaddS, e_addL, e_addT, e_lenS, e_lst, e_strLit, String.reduceBEq, e_ixL0, e_ixL1, e_ixL2, e_ixL3, e_ixL4, e_ixL5, e_ixL6, e_ixL7, e_ixL8, e_ixT0, e_ixT1, e_ixT2, e_ixT3, e_ixT4, e_ixT5, e_tupleL, e_listT, e_tupleT, eqX_int, neX_int, eqX_S, neX_S, eqX_t0, neX_t0, e_catL, e_tup, e_inT, e_ninT, e_inL, e_ninL, e_slS, Int.reduceLT, Int.reduceLE, Int.reduceMul, Int.reduceAdd, Int.reduceSub, Int.reducePow, Int.reduceNeg, Int.reduceToNat, List.length_cons, List.length_nil, List.length_append, Nat.reduceAdd, Nat.reduceLeDiff, flD, List.all_cons, List.all_nil, Bool.and_true, Bool.true_and, Bool.and_self, decide_true, decide_false, or_true, true_or, and_true, true_and, eq_self])
local macro_rules | `(tactic| walk_at "pdv") => `(tactic| try simp -implicitDefEqProofs only [e_seq, Int.reduceBEq, Int.cast_ofNat_Int, e_thn, e_trt, e_trn, e_tex, e_if, e_pick, e_pickx, e_ret, e_retN, e_set, e_drop, e_for, e_ofR, e_ofRx, e_ofI, e_nil, e_asg, endS_rt, endS_rn, endS_nx, endS_ex, endN_rn, endN_ex, gC, g1, g2, g3, gA, aNil, aCons, gAnd, gOr, gNot, gB, gTru, bAnd, bOr, bNot, gIf, iA, iSeq, gSl, pNone, pSome, ok_bind, ex_bind, st_bind, gVar, List.getElem?_cons_zero, List.getElem?_cons_succ, List.set_cons_zero, List.set_cons_succ, if_true, if_false, Bool.not_true, Bool.not_false, Bool.false_eq_true, ↓reduceIte, e_asB, e_lt, e_gt, e_le, e_ge, e_ltS, e_gtS, e_eqI, e_eqS, e_eqB, e_neI, e_neS, e_neB, e_addI, e_iaddI, e_subI, e_negI, e_andI, e_orI, e_xorI, e_lenL, e_lenT, e_ord, e_intB, e_intI, e_inS, e_ninS, e_itL, e_itT, e_itS, e_zip, e_enum, e_slL, e_slT, e_asI, e_isN1, e_isN2, e_notN1, e_notN2, e_truB, e_truI, e_truL, e_isi_int_non, e_isi_int_bl, e_isi_int_int, e_isi_int_str, e_isi_int_list, e_isi_int_tup, e_isi_int_dict, e_isi_int_dictT, e_isi_bool_non, e_isi_bool_bl, e_isi_bool_int, e_isi_bool_str, e_isi_bool_list, e_isi_bool_tup, e_isi_bool_dict, e_isi_bool_dictT, e_isi_str_non, e_isi_str_bl, e_isi_str_int, e_isi_str_str, e_isi_str_list, e_isi_str_tup, e_isi_str_dict, e_isi_str_dictT, e_isi_list_non, e_isi_list_bl, e_isi_list_int, e_isi_list_str, e_isi_list_list, e_isi_list_tup, e_isi_list_dict, e_isi_list_dictT, e_isi_tuple_non, e_isi_tuple_bl, e_isi_tuple_int, e_isi_tuple_str, e_isi_tuple_list, e_isi_tuple_tup, e_isi_tuple_dict, e_isi_tuple_dictT, e_isi_dict_non, e_isi_dict_bl, e_isi_dict_int, e_isi_dict_str, e_isi_dict_list, e_isi_dict_tup, e_isi_dict_dict, e_isi_dict_dictT, e_iteAnd, e_iteOr, e_iteAndD, e_iteOrD, e_then_ite, e_endS_ite, e_endN_ite, e_ofR_ite, e_pick_ite, e_bind_ite, e_modI, e_fdivI, e_mul1, e_pow10, e_pow2, e_shl1, e_shrI, e_addS, e_iaddS, e_addL, e_addT, e_lenS, e_lst, e_strLit, String.reduceBEq, e_ixL0, e_ixL1, e_ixL2, e_ixL3, e_ixL4, e_ixL5, e_ixL6, e_ixL7, e_ixL8, e_ixT0, e_ixT1, e_ixT2, e_ixT3, e_ixT4, e_ixT5, e_tupleL, e_listT, e_tupleT, eqX_int, neX_int, eqX_S, neX_S, eqX_t0, neX_t0, e_catL, e_tup, e_inT, e_ninT, e_inL, e_ninL, e_slS, Int.reduceLT, Int.reduceLE, Int.reduceMul, Int.reduceAdd, Int.reduceSub, Int.reducePow, Int.reduceNeg, Int.reduceToNat, List.length_cons, List.length_nil, List.length_append, Nat.reduceAdd, Nat.reduceLeDiff, flD, List.all_cons, List.all_nil, Bool.and_true, Bool.true_and, Bool.and_self, decide_true, decide_false, or_true, true_or, and_true, true_and, eq_self])
theorem law_true (ns : List Int) (hn : ns.length ≤ 63) : F_law [.list (ns.map D.int)] = .ok (.bl true) := by
  show endS (S_law [some (.list (ns.map D.int)), none, none, none, none, none, none, none, none, none, none, none]) = _
  unfold S_law
  walk_at "pd"
  rw [show gC0 F__law_kinds_good [some (.list (ns.map D.int)), none, none, none, none, none, none, none, none, none, none, none] = .ok (.bl true) from kinds_ok]
  walk_at "pd"
  generalize hr : forL _ _ _ _ = r
  obtain ⟨ρ', rfl, a1, a2, a3, a4, a5, a6, a7, a8, a9, a10, a11, rfl⟩ := forL_out hr (fun _ ρ => ∃ a1 a2 a3 a4 a5 a6 a7 a8 a9 a10 a11, ρ = [some (.list (ns.map D.int)), a1, a2, a3, a4, a5, a6, a7, a8, a9, a10, a11]) ⟨_, _, _, _, _, _, _, _, _, _, _, rfl⟩ (by
    rintro j d ρ hd ⟨a1, a2, a3, a4, a5, a6, a7, a8, a9, a10, a11, rfl⟩
    obtain ⟨i, w, t, K, hi, h, rfl⟩ : ∃ (i : Nat) (w : Str) (t : Bool) (K : D), i ≤ 3 ∧ KO w t K ∧ d = .tup [.int (i : Int), .str w] := by
      have hm := List.mem_of_getElem? hd
      have e : enumL 0 [D.str "chapter", .str "para", .str "table"] = [.tup [.int (0 : Nat), .str "chapter"], .tup [.int (1 : Nat), .str "para"], .tup [.int (2 : Nat), .str "table"]] := rfl
      rw [e] at hm
      simp only [List.mem_cons, List.not_mem_nil, or_false] at hm
      rcases hm with rfl | rfl | rfl
      · exact ⟨0, _, _, _, by decide, .chapter, rfl⟩
      · exact ⟨1, _, _, _, by decide, .para, rfl⟩
      · exact ⟨2, _, _, _, by decide, .table, rfl⟩
    refine ⟨_, rfl, ?_⟩
    obtain ⟨y3, y4, y5, y6, y7, y8, y9, y10, y11, e⟩ := outer_step ns h i hi a3 a4 a5 a6 a7 a8 a9 a10 a11
    exact ⟨_, e, _, _, _, _, _, _, _, _, _, _, _, rfl⟩)
  walk_at "pd"
  generalize hr2 : forL _ _ _ _ = r2
  obtain ⟨ρ', rfl, b2, rfl⟩ := forL_out hr2 (fun _ ρ => ∃ b2, ρ = [some (.list (ns.map D.int)), a1, b2, a3, a4, a5, a6, a7, a8, a9, a10, a11]) ⟨_, rfl⟩ (by
    rintro j d ρ hd ⟨b2, rfl⟩
    have hm := List.mem_of_getElem? hd
    have key : ∀ w : Str, F_kind_of_word [.str w] = .ok .non → ∃ ρ2, B_law_2 [some (.list (ns.map D.int)), a1, some (.str w), a3, a4, a5, a6, a7, a8, a9, a10, a11] = .nx ρ2 ∧ ∃ b2, ρ2 = [some (.list (ns.map D.int)), a1, b2, a3, a4, a5, a6, a7, a8, a9, a10, a11] := fun w hw => by
      unfold B_law_2
      walk_at "pd"
      rw [hw]
      walk_at "pd"
      exact ⟨_, rfl, _, rfl⟩
    simp only [List.mem_cons, List.not_mem_nil, or_false] at hm
    rcases hm with rfl | rfl | rfl | rfl | rfl
    · exact ⟨_, rfl, key _ rfl⟩
    · exact ⟨_, rfl, key _ rfl⟩
    · exact ⟨_, rfl, key _ rfl⟩
    · exact ⟨_, rfl, key _ rfl⟩
    · exact ⟨_, rfl, key _ rfl⟩)
  walk_at "pd"

end Pd

theorem PySem.Challenge.cw_manyleaf_k21_contents_shown_and_read_holds : PySem.Challenge.rw_manyleaf_k21_contents_shown_and_read.Holds := by
  exact Pd.holds_of Pd.law_true
