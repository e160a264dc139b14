import PyProof.Rows.All
import Wide.All
import OpenK.AllK
import Wide.FinOn
import HandS.ForMost
import HandS.Exc
import HandS.ExcOwn
import HandS.WordsExc
import HandS.IsInst
import HandS.Defaults
import HandS.HeadHook2
import HandS.ExcField
import HandS.ExcInit
import HandS.HeadHook4
import KE.KStateDown
import Lean
import HandS.Head0
import HandS.Head1
import HandS.Head2
import HandS.HeadEnd
import HandS.TryOnly
import HandS.TupAny
import HandS.Deep
import HandS.Ends
import HandS.New
import HandS.New0
import HandS.TupMul
import HandS.Small
import HandS.Iter
import HandS.ExcIs
import PyProof.EqKinds
import PyProof.NeKinds
import HandS.Style
import HandS.SetFor
import HandS.Rev
import HandS.SetKeys
import HandS.DictEq
import HandS.WideBits
import HandS.RevTup
import HandS.Conv
import KE.SortData
import PyProof.DictMoreH
import HandS.More
import KE.GoesZip
import KE.GoesMore
import HandS.NoneIn
import HandS.Set
import HandS.SetTxt0
import HandS.TupSets
import KE.KDictList
import HandS.Sort
import HandS.ExcValue
import HandS.Strs
import HandS.Codes
import PySem.Challenge.RW_manyleaf_k03_choices_numbered
set_option Elab.async false
set_option linter.all false
set_option autoImplicit false
set_option maxRecDepth 100000
set_option maxHeartbeats 4000000
namespace Pd
open PySem PySem.Spec PyProof.Rows L2
/-- a method's statement in its class -/
def mth (s : Stmt) (i : Nat) : Stmt := match s with
  | .ClassDef _ _ _ body _ _ _ _ _ _ _ => body.getD i (.Pass ⟨0, 0, 0, 0⟩)
  | _ => .Pass ⟨0, 0, 0, 0⟩
def asM (g : Addr → Option Obj) (n : Nat) : List Addr := He.asD g n ++ [cStatics]
abbrev AlM : Type := He.AlD × Bool
def obsM (n : Nat) (fa : List He.Fa) (fn : List He.DefD) (ex : PySem.W.Frag → Bool) (g : Addr → Option Obj) : AlM := (He.obsD fa fn (He.frG g (asM g n)), ex (He.frG g (asM g n)))
structure SaysM (fa : List He.Fa) (fn : List He.DefD) (ex : PySem.W.Frag → Bool) (K : PySem.W.Frag) : Prop where
  d : He.SaysD fa fn K
  more : ex K = true
def hookM (n : Nat) (fa : List He.Fa) (fn : List He.DefD) (ex : PySem.W.Frag → Bool) : PySem.W.Hook where
  α := AlM
  obs := fun s => obsM n fa fn ex s.heap.get?
  val := fun _ => (He.valD fn, true)
  says := fun _ h => ∃ K : PySem.W.Frag, K.In h ∧ SaysM fa fn ex K
  of := fun _ _ e => ⟨_, He.frG_in, ⟨congrArg (fun z : AlM => z.1) e, congrArg (fun z : AlM => z.2) e⟩⟩
  keeps := fun _ _ _ ⟨K, hK, c⟩ k => ⟨K, PySem.W.Frag.In.keeps hK k, c⟩
theorem obsM_eq {n : Nat} {fa : List He.Fa} {fn : List He.DefD} {ex : PySem.W.Frag → Bool} {g : Addr → Option Obj} {s : Shared} (h : ∀ a, g a = s.heap.get? a) : obsM n fa fn ex g = (hookM n fa fn ex).obs s := by
  have e : g = s.heap.get? := funext h
  rw [e] <;> rfl
end Pd
set_option maxHeartbeats 0
namespace Pd
open PySem PySem.Spec PyProof.Rows L2
def top (i : Nat) : Stmt := PySem.Challenge.pw_manyleaf_k03_choices_numbered.main.body.getD i (.Pass ⟨0, 0, 0, 0⟩)
abbrev s__law_cell_at : Stmt := top 21
abbrev s__law_mix : Stmt := top 22
abbrev s__law_words : Stmt := top 23
abbrev s__law_switches : Stmt := top 24
abbrev s__law_rows : Stmt := top 25
abbrev s_Panel_all_choices : Stmt := mth (top 19) 9
abbrev s_is_of : Stmt := top 10
abbrev s_is_word : Stmt := top 11
abbrev s_are_settings : Stmt := top 17
abbrev s_are_switches : Stmt := top 18
abbrev s_Panel_copied_terms : Stmt := mth (top 19) 3
abbrev s_Panel_are_terms : Stmt := mth (top 19) 2
abbrev s_Panel_told_rules : Stmt := mth (top 19) 1
abbrev s_is_whole : Stmt := top 9
abbrev s_Panel_told : Stmt := mth (top 19) 8
abbrev s_Panel_box : Stmt := mth (top 19) 10
abbrev s_Panel_init : Stmt := mth (top 19) 0
abbrev s__law_panel : Stmt := top 29
abbrev s_Panel_switches : Stmt := mth (top 19) 5
abbrev s_Panel_number_of : Stmt := mth (top 19) 7
abbrev s__law_number : Stmt := top 28
abbrev s__law_told : Stmt := top 26
abbrev s_in_set : Stmt := top 6
abbrev s_Panel_barred : Stmt := mth (top 19) 12
abbrev s__law_bar : Stmt := top 27
abbrev s__law_refused : Stmt := top 30
abbrev s_Panel_rules : Stmt := mth (top 19) 6
abbrev s__law_whole : Stmt := top 31
abbrev s_Panel_allowed : Stmt := mth (top 19) 11
abbrev s_Panel_many : Stmt := mth (top 19) 4
abbrev s_law : Stmt := top 32
def d__law_cell_at : He.DefD := ⟨("_law_cell_at", none), "_law_cell_at", "_law_cell_at", defArgs s__law_cell_at, defBody s__law_cell_at, defScope s__law_cell_at, [], []⟩
def d__law_mix : He.DefD := ⟨("_law_mix", none), "_law_mix", "_law_mix", defArgs s__law_mix, defBody s__law_mix, defScope s__law_mix, [], []⟩
def d__law_words : He.DefD := ⟨("_law_words", none), "_law_words", "_law_words", defArgs s__law_words, defBody s__law_words, defScope s__law_words, [], []⟩
def d__law_switches : He.DefD := ⟨("_law_switches", none), "_law_switches", "_law_switches", defArgs s__law_switches, defBody s__law_switches, defScope s__law_switches, [], []⟩
def d__law_rows : He.DefD := ⟨("_law_rows", none), "_law_rows", "_law_rows", defArgs s__law_rows, defBody s__law_rows, defScope s__law_rows, [], []⟩
def d_Panel_all_choices : He.DefD := ⟨("Panel", some "all_choices"), "all_choices", "Panel.all_choices", defArgs s_Panel_all_choices, defBody s_Panel_all_choices, defScope s_Panel_all_choices, [], []⟩
def d_is_of : He.DefD := ⟨("is_of", none), "is_of", "is_of", defArgs s_is_of, defBody s_is_of, defScope s_is_of, [], []⟩
def d_is_word : He.DefD := ⟨("is_word", none), "is_word", "is_word", defArgs s_is_word, defBody s_is_word, defScope s_is_word, [], []⟩
def d_are_settings : He.DefD := ⟨("are_settings", none), "are_settings", "are_settings", defArgs s_are_settings, defBody s_are_settings, defScope s_are_settings, [], []⟩
def d_are_switches : He.DefD := ⟨("are_switches", none), "are_switches", "are_switches", defArgs s_are_switches, defBody s_are_switches, defScope s_are_switches, [], []⟩
def d_Panel_copied_terms : He.DefD := ⟨("Panel", some "copied_terms"), "copied_terms", "Panel.copied_terms", defArgs s_Panel_copied_terms, defBody s_Panel_copied_terms, defScope s_Panel_copied_terms, [], []⟩
def d_Panel_are_terms : He.DefD := ⟨("Panel", some "are_terms"), "are_terms", "Panel.are_terms", defArgs s_Panel_are_terms, defBody s_Panel_are_terms, defScope s_Panel_are_terms, [], []⟩
def d_Panel_told_rules : He.DefD := ⟨("Panel", some "told_rules"), "told_rules", "Panel.told_rules", defArgs s_Panel_told_rules, defBody s_Panel_told_rules, defScope s_Panel_told_rules, [], []⟩
def d_is_whole : He.DefD := ⟨("is_whole", none), "is_whole", "is_whole", defArgs s_is_whole, defBody s_is_whole, defScope s_is_whole, [], []⟩
def d_Panel_told : He.DefD := ⟨("Panel", some "told"), "told", "Panel.told", defArgs s_Panel_told, defBody s_Panel_told, defScope s_Panel_told, [], []⟩
def d_Panel_box : He.DefD := ⟨("Panel", some "box"), "box", "Panel.box", defArgs s_Panel_box, defBody s_Panel_box, defScope s_Panel_box, [], []⟩
def d_Panel_init : He.DefD := ⟨("Panel", some "__init__"), "__init__", "Panel.__init__", defArgs s_Panel_init, defBody s_Panel_init, defScope s_Panel_init, [.non], []⟩
def d__law_panel : He.DefD := ⟨("_law_panel", none), "_law_panel", "_law_panel", defArgs s__law_panel, defBody s__law_panel, defScope s__law_panel, [], []⟩
def d_Panel_switches : He.DefD := ⟨("Panel", some "switches"), "switches", "Panel.switches", defArgs s_Panel_switches, defBody s_Panel_switches, defScope s_Panel_switches, [], []⟩
def d_Panel_number_of : He.DefD := ⟨("Panel", some "number_of"), "number_of", "Panel.number_of", defArgs s_Panel_number_of, defBody s_Panel_number_of, defScope s_Panel_number_of, [], []⟩
def d__law_number : He.DefD := ⟨("_law_number", none), "_law_number", "_law_number", defArgs s__law_number, defBody s__law_number, defScope s__law_number, [], []⟩
def d__law_told : He.DefD := ⟨("_law_told", none), "_law_told", "_law_told", defArgs s__law_told, defBody s__law_told, defScope s__law_told, [], []⟩
def d_in_set : He.DefD := ⟨("in_set", none), "in_set", "in_set", defArgs s_in_set, defBody s_in_set, defScope s_in_set, [], []⟩
def d_Panel_barred : He.DefD := ⟨("Panel", some "barred"), "barred", "Panel.barred", defArgs s_Panel_barred, defBody s_Panel_barred, defScope s_Panel_barred, [], []⟩
def d__law_bar : He.DefD := ⟨("_law_bar", none), "_law_bar", "_law_bar", defArgs s__law_bar, defBody s__law_bar, defScope s__law_bar, [], []⟩
def d__law_refused : He.DefD := ⟨("_law_refused", none), "_law_refused", "_law_refused", defArgs s__law_refused, defBody s__law_refused, defScope s__law_refused, [], []⟩
def d_Panel_rules : He.DefD := ⟨("Panel", some "rules"), "rules", "Panel.rules", defArgs s_Panel_rules, defBody s_Panel_rules, defScope s_Panel_rules, [], []⟩
def d__law_whole : He.DefD := ⟨("_law_whole", none), "_law_whole", "_law_whole", defArgs s__law_whole, defBody s__law_whole, defScope s__law_whole, [], []⟩
def d_Panel_allowed : He.DefD := ⟨("Panel", some "allowed"), "allowed", "Panel.allowed", defArgs s_Panel_allowed, defBody s_Panel_allowed, defScope s_Panel_allowed, [], []⟩
def d_Panel_many : He.DefD := ⟨("Panel", some "many"), "many", "Panel.many", defArgs s_Panel_many, defBody s_Panel_many, defScope s_Panel_many, [], []⟩
def d_law : He.DefD := ⟨("law", none), "law", "law", defArgs s_law, defBody s_law, defScope s_law, [], []⟩
def fn : List He.DefD := ([d__law_cell_at, d__law_mix, d__law_words, d__law_switches, d__law_rows, d_Panel_all_choices, d_is_of, d_is_word, d_are_settings, d_are_switches, d_Panel_copied_terms, d_Panel_are_terms, d_Panel_told_rules, d_is_whole, d_Panel_told, d_Panel_box, d_Panel_init, d__law_panel, d_Panel_switches, d_Panel_number_of, d__law_number, d__law_told, d_in_set, d_Panel_barred, d__law_bar, d__law_refused, d_Panel_rules, d__law_whole, d_Panel_allowed, d_Panel_many] : List He.DefD) ++ ([d_law] : List He.DefD)
def fa : List He.Fa := ([.glo "_law_cell_at", .glo "_law_mix", .glo "_law_words", .glo "_law_switches", .glo "_law_rows", .glo "is_of", .glo "is_word", .glo "are_settings", .glo "are_switches", .glo "is_whole", .glo "_law_panel", .glo "_law_number", .glo "_law_told", .glo "in_set", .glo "_law_bar", .glo "_law_refused", .glo "_law_whole", .glo "law", .free "all", .free "bool", .free "dict", .free "divmod", .free "enumerate", .free "int", .free "isinstance", .free "len", .free "list", .free "range", .free "reversed", .free "str"] : List He.Fa) ++ ([.free "tuple", .free "zip", .str "LETTERS" "abcdefghijklmnopqrstuvwxyz", .int "MOST_CHOICES" 256, .int "MOST_RULES" 8, .int "MOST_SETTINGS" 4, .int "MOST_SWITCHES" 5, .cls "Panel", .noat "Panel" "total", .noat "Panel" "dials", .noat "Panel" "bars", .noat "Panel" "barring", .noat "Panel" "free", .meth "Panel" "all_choices", .meth "Panel" "allowed", .meth "Panel" "are_terms", .meth "Panel" "barred", .meth "Panel" "box", .meth "Panel" "copied_terms", .meth "Panel" "many", .meth "Panel" "number_of", .meth "Panel" "rules", .meth "Panel" "switches", .meth "Panel" "told", .meth "Panel" "told_rules", .mkr "Panel", .glo "Panel", .exc "BadCond", .glo "BadCond", .exc "BadPanel"] : List He.Fa) ++ ([.glo "BadPanel", .exc "NoChoice", .glo "NoChoice", .exm "BadCond" "NoChoice" false, .exm "NoChoice" "NoChoice" true, .exm "BadPanel" "NoChoice" false] : List He.Fa)
def exl (K : PySem.W.Frag) : List Bool := []
def exb (K : PySem.W.Frag) : Bool := (exl K).all id
abbrev R0 : PySem.W.OpenRow := PySem.W.OpenLaw.row PySem.Challenge.rw_manyleaf_k03_choices_numbered
abbrev hk : PySem.W.Hook := hookM 4 fa fn exb
def ob (s : PySem.W.SharedT) : AlM := obsM 4 fa fn exb (HandSHeadRun.getT s)
theorem ob_eq (s : PySem.W.SharedT) : ob s = hk.obs s.abs := obsM_eq (HandSHeadRun.getT_eq s)
def loose : List Str := (["LeafError", "BadPanel", "NoChoice", "BadCond", "in_set", "LETTERS", "is_whole", "is_of", "is_word", "MOST_SWITCHES", "MOST_SETTINGS", "MOST_CHOICES", "MOST_RULES", "are_settings", "are_switches", "Panel", "_law_cell_at", "_law_mix", "_law_words", "_law_switches", "_law_rows", "_law_told", "_law_bar", "_law_number", "_law_panel", "_law_refused", "_law_whole"] : List Str)
theorem run (w : World) : HandSHeadRun.RunEq R0 (PySem.W.view R0.prog [32]) hk ob 12000 loose w := by
  intro os
  kernel_rfl
end Pd
namespace Pd
open PySem PySem.Spec PyProof.Rows L2
/-- data -/
inductive D where
  | non | bl (b : Bool) | int (i : Int) | str (s : Str)
  | list (xs : List D) | tup (xs : List D)
  | dict (l : Bool) (kvs : List (Key × D)) | dictT (kvs : List (List Key × D))
  | obj (c : Str) (fs : List (Str × D))
  /-- an exception: its class, its fields, the last one first -/
  | exc (c : Str) (fs : List (Str × D))
  /-- a tuple whose object is known (it has no dict of its own) -/
  | tpx (xs : List D)
  /-- an object that may yet change: its number; where it stands -/
  | loc (k : Nat) | adr (a : Addr)
  deriving Inhabited
/-- an exception -/
structure Ex where
  cls : Str
  fs : List (Str × D)
/-- what a computation comes to; st: not told -/
inductive R (α : Type) where
  | ok (a : α) | ex (x : Ex) | st
def R.bind {α β : Type} (r : R α) (f : α → R β) : R β := match r with
  | .ok a => f a
  | .ex x => .ex x
  | .st => .st
instance : Monad R where
  pure := R.ok
  bind := R.bind
theorem ok_bind {α β : Type} (a : α) (f : α → R β) : (R.ok a).bind f = f a := rfl
theorem ex_bind {α β : Type} (x : Ex) (f : α → R β) : (R.ex x).bind f = R.ex x := rfl
theorem st_bind {α β : Type} (f : α → R β) : (R.st).bind f = R.st := rfl
/-- l: locked (it can be walked, never changed) -/
def RdL (H : Hp) (a : Addr) : Bool → HO → Prop
  | true, u => ∃ o, H a = some (.frz o u)
  | false, u => Rd H a u
theorem RdL.rd {H : Hp} {a : Addr} {l : Bool} {u : HO} (h : RdL H a l u) : Rd H a u := by
  cases l with
  | true => exact .inr h
  | false => exact h
/-- a known tuple -/
def TpX (H : Hp) (a : Addr) (xs : List V) : Prop := ∃ o : Obj, H a = some (.frz o (.tup xs)) ∧ o.cls = .type "tuple" ∧ o.dict = none
inductive Is (K : PySem.W.Frag) (H : Hp) : V → D → Prop
  | non : Is K H .non .non
  | bl (b : Bool) : Is K H (.bl b) (.bl b)
  | int (i : Int) : Is K H (.int i) (.int i)
  | str (s : Str) : Is K H (.str s) (.str s)
  | list {a : Addr} {xs : List V} {ds : List D} (h : SqL K H a xs) (l : xs.length = ds.length) (e : ∀ (i : Nat) x d, xs[i]? = some x → ds[i]? = some d → Is K H x d) : Is K H (.ref a) (.list ds)
  | tup {a : Addr} {xs : List V} {ds : List D} (h : H a = some (.tup xs)) (l : xs.length = ds.length) (e : ∀ (i : Nat) x d, xs[i]? = some x → ds[i]? = some d → Is K H x d) : Is K H (.ref a) (.tup ds)
  | dict {a : Addr} {lk : Bool} {xs : List (Key × V)} {ds : List (Key × D)} (h : RdL H a lk (.dK xs)) (l : xs.length = ds.length) (e : ∀ (i : Nat) x d, xs[i]? = some x → ds[i]? = some d → x.1 = d.1)
      (e2 : ∀ (i : Nat) x d, xs[i]? = some x → ds[i]? = some d → Is K H x.2 d.2) : Is K H (.ref a) (.dict lk ds)
  | dictT {a : Addr} {xs : List (List Key × V)} {ds : List (List Key × D)} (h : H a = some (.dT xs)) (l : xs.length = ds.length) (e : ∀ (i : Nat) x d, xs[i]? = some x → ds[i]? = some d → x.1 = d.1)
      (e2 : ∀ (i : Nat) x d, xs[i]? = some x → ds[i]? = some d → Is K H x.2 d.2) : Is K H (.ref a) (.dictT ds)
  | obj {a : Addr} {c : Str} {dx : Addr} {xs : List (Str × V)} {ds : List (Str × D)} (h : H a = some (.ins (He.ga K c) dx xs)) (l : xs.length = ds.length) (e : ∀ (i : Nat) x d, xs[i]? = some x → ds[i]? = some d → x.1 = d.1)
      (e2 : ∀ (i : Nat) x d, xs[i]? = some x → ds[i]? = some d → Is K H x.2 d.2) : Is K H (.ref a) (.obj c ds)
  | exc0 {a : Addr} {c : Str} (h : H a = some (exo a (He.ga K c) none)) : Is K H (.ref a) (.exc c [])
  | exc {a : Addr} {c : Str} {dx : Addr} {xs : List (Str × V)} {ds : List (Str × D)} (h : H a = some (exo a (He.ga K c) (some dx))) (h1 : H dx = some (exd dx xs)) (l : xs.length = ds.length) (e : ∀ (i : Nat) x d, xs[i]? = some x → ds[i]? = some d → x.1 = d.1)
      (e2 : ∀ (i : Nat) x d, xs[i]? = some x → ds[i]? = some d → Is K H x.2 d.2) : Is K H (.ref a) (.exc c ds)
  | tpx {a : Addr} {xs : List V} {ds : List D} (h : TpX H a xs) (l : xs.length = ds.length) (e : ∀ (i : Nat) x d, xs[i]? = some x → ds[i]? = some d → Is K H x d) : Is K H (.ref a) (.tpx ds)
  | adr (a : Addr) : Is K H (.ref a) (.adr a)
def IsL (K : PySem.W.Frag) (H : Hp) (xs : List V) (ds : List D) : Prop := xs.length = ds.length ∧ ∀ (i : Nat) x d, xs[i]? = some x → ds[i]? = some d → Is K H x d
def IsK {κ : Type} (K : PySem.W.Frag) (H : Hp) (xs : List (κ × V)) (ds : List (κ × D)) : Prop :=
  xs.length = ds.length ∧ (∀ (i : Nat) x d, xs[i]? = some x → ds[i]? = some d → x.1 = d.1) ∧ ∀ (i : Nat) x d, xs[i]? = some x → ds[i]? = some d → Is K H x.2 d.2
/-- a dict that is locked for a while -/
def IsCf (K : PySem.W.Frag) (H : Hp) (u : HO) : D → Prop
  | .dict lk ds => lk = true ∧ ∃ xs, u = .dK xs ∧ IsK K H xs ds
  | _ => False
/-- what stands at an address, as the content of data -/
def IsC (K : PySem.W.Frag) (H : Hp) : HO → D → Prop
  | .lst xs, .list ds => IsL K H xs ds
  | .dK xs, .dict lk ds => lk = false ∧ IsK K H xs ds
  | .dT xs, .dictT ds => IsK K H xs ds
  | .ins C _ xs, .obj c ds => C = He.ga K c ∧ IsK K H xs ds
  | .frz _ u, d => IsCf K H u d
  | _, _ => False
section
variable {K : PySem.W.Frag} {H H' H1 H2 F F' F1 F2 : Hp} {v : V} {d : D}
theorem sameT {a : Addr} {xs : List V} (e : Same H H') (h : SqT K H a xs) : SqT K H' a xs := by
  rcases h with (h | ⟨o, h⟩) | h
  · exact .inl (.inl (e _ _ h))
  · exact .inl (.inr ⟨o, e _ _ h⟩)
  · exact .inr h
theorem sameR {a : Addr} {u : HO} (e : Same H H') (h : Rd H a u) : Rd H' a u := by
  rcases h with h | ⟨o, h⟩
  · exact .inl (e _ _ h)
  · exact .inr ⟨o, e _ _ h⟩
theorem sameRL {a : Addr} {l : Bool} {u : HO} (e : Same H H') (h : RdL H a l u) : RdL H' a l u := by
  cases l with
  | true => obtain ⟨o, h⟩ := h; exact ⟨o, e _ _ h⟩
  | false => exact sameR e h
theorem TpX.mono {a : Addr} {xs : List V} (h : TpX H a xs) (s : Same H H') : TpX H' a xs := by
  obtain ⟨o, h1, h2⟩ := h
  exact ⟨o, s _ _ h1, h2⟩
theorem TpX.sq {a : Addr} {xs : List V} (h : TpX H a xs) : SqT K H a xs := by
  obtain ⟨o, h1, h2⟩ := h
  exact .inl (.inr ⟨o, h1⟩)
theorem Is.mono (h : Is K H v d) (s : Same H H') : Is K H' v d := by
  induction h with
  | non => exact .non
  | bl b => exact .bl b
  | int i => exact .int i
  | str x => exact .str x
  | list h l _ ih => exact .list (s.seq h) l ih
  | tup h l _ ih => exact .tup (s _ _ h) l ih
  | dict h l e _ ih => exact .dict (sameRL s h) l e ih
  | dictT h l e _ ih => exact .dictT (s _ _ h) l e ih
  | obj h l e _ ih => exact .obj (s _ _ h) l e ih
  | exc0 h => exact .exc0 (s _ _ h)
  | exc h h1 l e _ ih => exact .exc (s _ _ h) (s _ _ h1) l e ih
  | tpx h l _ ih => exact .tpx (TpX.mono h s) l ih
  | adr a => exact .adr a
theorem IsL.mono {xs : List V} {ds : List D} (h : IsL K H xs ds) (s : Same H H') : IsL K H' xs ds := ⟨h.1, fun i x d a b => (h.2 i x d a b).mono s⟩
theorem IsK.mono {κ : Type} {xs : List (κ × V)} {ds : List (κ × D)} (h : IsK K H xs ds) (s : Same H H') : IsK K H' xs ds := ⟨h.1, h.2.1, fun i x d a b => (h.2.2 i x d a b).mono s⟩
theorem IsC.mono {o : HO} (h : IsC K H o d) (s : Same H H') : IsC K H' o d := by
  cases o <;> cases d <;> first
    | exact h.elim
    | exact IsL.mono (show IsL K H _ _ from h) s
    | exact IsK.mono (show IsK K H _ _ from h) s
    | exact ⟨h.1, IsK.mono h.2 s⟩
    | exact ⟨h.1, h.2.choose, h.2.choose_spec.1, IsK.mono h.2.choose_spec.2 s⟩
theorem IsL.nil : IsL K H [] [] := ⟨rfl, fun i x d a _ => by simp at a⟩
theorem IsL.cons {x : V} {xs : List V} {ds : List D} (h : Is K H x d) (t : IsL K H xs ds) : IsL K H (x :: xs) (d :: ds) := by
  refine ⟨by simp [t.1], fun i y e a b => ?_⟩
  cases i with
  | zero => simp at a b; subst a; subst b; exact h
  | succ i => exact t.2 i y e (by simpa using a) (by simpa using b)
theorem IsL.uncons {xs : List V} {ds : List D} (h : IsL K H xs (d :: ds)) : ∃ x xr, xs = x :: xr ∧ Is K H x d ∧ IsL K H xr ds := by
  obtain ⟨l, e⟩ := h
  cases xs with
  | nil => simp at l
  | cons x xr => exact ⟨x, xr, rfl, e 0 x d rfl rfl, by simpa using l, fun i y z a b => e (i + 1) y z (by simpa using a) (by simpa using b)⟩
theorem IsL.unnil {xs : List V} (h : IsL K H xs []) : xs = [] := by
  have l := h.1
  cases xs with
  | nil => rfl
  | cons _ _ => simp at l
theorem IsL.append {xs ys : List V} {ds es : List D} (h : IsL K H xs ds) (t : IsL K H ys es) : IsL K H (xs ++ ys) (ds ++ es) := by
  refine ⟨by simp [h.1, t.1], fun i y e a b => ?_⟩
  by_cases hi : i < xs.length
  · rw [List.getElem?_append_left hi] at a
    rw [List.getElem?_append_left (by have := h.1; omega)] at b
    exact h.2 i y e a b
  · rw [List.getElem?_append_right (by omega)] at a
    rw [List.getElem?_append_right (by have := h.1; omega), ← h.1] at b
    exact t.2 _ y e a b
theorem IsL.snoc {x : V} {xs : List V} {ds : List D} (t : IsL K H xs ds) (h : Is K H x d) : IsL K H (xs ++ [x]) (ds ++ [d]) := t.append (.cons h .nil)
theorem IsL.take {xs : List V} {ds : List D} (n : Nat) (t : IsL K H xs ds) : IsL K H (xs.take n) (ds.take n) := by
  refine ⟨by simp [t.1], fun i y e a b => ?_⟩
  rw [List.getElem?_take] at a b
  split at a
  · rw [if_pos (by assumption)] at b; exact t.2 i y e a b
  · cases a
theorem IsL.drop {xs : List V} {ds : List D} (n : Nat) (t : IsL K H xs ds) : IsL K H (xs.drop n) (ds.drop n) := by
  refine ⟨by simp [t.1], fun i y e a b => ?_⟩
  rw [List.getElem?_drop] at a b
  exact t.2 _ y e a b
theorem IsL.at {xs : List V} {ds : List D} (t : IsL K H xs ds) {i : Nat} (h : ds[i]? = some d) : ∃ x, xs[i]? = some x ∧ Is K H x d := by
  have hi : i < ds.length := (List.getElem?_eq_some_iff.mp h).1
  have hx : i < xs.length := by have := t.1; omega
  exact ⟨xs[i], by simp [hx], t.2 i _ d (by simp [hx]) h⟩
theorem IsL.atV {x : V} {xs : List V} {ds : List D} (t : IsL K H xs ds) {i : Nat} (h : xs[i]? = some x) : ∃ d, ds[i]? = some d ∧ Is K H x d := by
  have hi : i < xs.length := (List.getElem?_eq_some_iff.mp h).1
  have hx : i < ds.length := by have := t.1; omega
  exact ⟨ds[i], by simp [hx], t.2 i x _ h (by simp [hx])⟩
theorem is_list {a : Addr} {xs : List V} {ds : List D} (h : SqL K H a xs) (t : IsL K H xs ds) : Is K H (.ref a) (.list ds) := .list h t.1 t.2
theorem is_tup {a : Addr} {xs : List V} {ds : List D} (h : H a = some (.tup xs)) (t : IsL K H xs ds) : Is K H (.ref a) (.tup ds) := .tup h t.1 t.2
theorem Is.list_inv {ds : List D} (h : Is K H v (.list ds)) : ∃ a xs, v = .ref a ∧ SqL K H a xs ∧ IsL K H xs ds := by
  cases h with
  | list h l e => exact ⟨_, _, rfl, h, l, e⟩
theorem Is.tup_inv {ds : List D} (h : Is K H v (.tup ds)) : ∃ a xs, v = .ref a ∧ SqT K H a xs ∧ IsL K H xs ds := by
  cases h with
  | tup h l e => exact ⟨_, _, rfl, .inl (.inl h), l, e⟩
theorem Is.tup_inv0 {ds : List D} (h : Is K H v (.tup ds)) : ∃ a xs, v = .ref a ∧ H a = some (.tup xs) ∧ IsL K H xs ds := by
  cases h with
  | tup h l e => exact ⟨_, _, rfl, h, l, e⟩
theorem Is.tpx_inv {ds : List D} (h : Is K H v (.tpx ds)) : ∃ a xs, v = .ref a ∧ TpX H a xs ∧ IsL K H xs ds := by
  cases h with
  | tpx h l e => exact ⟨_, _, rfl, h, l, e⟩
theorem Is.dict_inv {lk : Bool} {ds : List (Key × D)} (h : Is K H v (.dict lk ds)) : ∃ a xs, v = .ref a ∧ RdL H a lk (.dK xs) ∧ IsK K H xs ds := by
  cases h with
  | dict h l e e2 => exact ⟨_, _, rfl, h, l, e, e2⟩
theorem Is.obj_inv {c : Str} {ds : List (Str × D)} (h : Is K H v (.obj c ds)) : ∃ a dx xs, v = .ref a ∧ H a = some (.ins (He.ga K c) dx xs) ∧ IsK K H xs ds := by
  cases h with
  | obj h l e e2 => exact ⟨_, _, _, rfl, h, l, e, e2⟩
theorem is_of_c {a : Addr} {o : HO} (h : H a = some o) (c : IsC K H o d) : Is K H (.ref a) d := by
  cases o <;> cases d <;> first
    | exact c.elim
    | exact is_list (.of h) c
    | (obtain ⟨c1, c2⟩ := c; subst c1; exact .dict (.of h) c2.1 c2.2.1 c2.2.2)
    | (obtain ⟨c1, xs, c3, c2⟩ := c; subst c1 c3; exact .dict (lk := true) ⟨_, h⟩ c2.1 c2.2.1 c2.2.2)
    | exact .dictT h c.1 c.2.1 c.2.2
    | (obtain ⟨c1, c2⟩ := c; subst c1; exact .obj h c2.1 c2.2.1 c2.2.2)
end
abbrev Rho := List (Option D)
/-- what was there at the def's entry: the shared part, and what the caller lends -/
structure Bs where
  F : Hp
  bor : List (Nat × Addr × Option (D × HO))
/-- slot i is not lent -/
def Bs.ok (B : Bs) (i : Nat) : Prop := ∀ b ∈ B.bor, b.1 ≠ i
theorem Bs.ok_of {B : Bs} {i : Nat} (h : (B.bor.all fun b => !(b.1 == i)) = true) : B.ok i := fun b hb z => by
  have := List.all_eq_true.mp h b hb
  rw [z] at this
  simp at this
/-- slot i may be changed -/
def Bs.mut (B : Bs) (i : Nat) : Prop := ∀ b ∈ B.bor, b.1 = i → b.2.2 = none
theorem Bs.mut_of {B : Bs} {i : Nat} (h : (B.bor.all fun b => !(b.1 == i) || b.2.2.isNone) = true) : B.mut i := fun b hb z => by
  have := List.all_eq_true.mp h b hb
  rw [z] at this
  simpa using this
/-- F: what is shared (never changes again), H: all that stands. F0, H0: at the def's entry -/
structure Rep (K : PySem.W.Frag) (F0 : Bs) (H0 : Hp) (m : List Bool) (ρ : Rho) (σ : L2.St) (F H : Hp) : Prop where
  len : σ.length = ρ.length
  fh : Same F H
  f0 : Same F0.F F
  h0 : Same H0 H
  new : ∀ p, H0 p ≠ none → F0.F p = none → F p = none
  val : ∀ (i : Nat) d, ρ[i]? = some (some d) → m[i]? ≠ some true → ∃ v, σ[i]? = some (some v) ∧ Is K F v d
  own : ∀ (i : Nat) d, ρ[i]? = some (some d) → m[i]? = some true → ∃ p o, σ[i]? = some (some (.ref p)) ∧ H p = some o ∧ IsC K F o d ∧ F p = none ∧ H0 p = none
  apart : ∀ (i j : Nat) p d e, i ≠ j → m[i]? = some true → m[j]? = some true → ρ[i]? = some (some d) → ρ[j]? = some (some e) → σ[i]? = some (some (.ref p)) → σ[j]? ≠ some (some (.ref p))
  bor : ∀ b ∈ F0.bor, σ[b.1]? = some (some (.ref b.2.1)) ∧ m[b.1]? = some true ∧ (∃ d, ρ[b.1]? = some (some d)) ∧ ∀ d o, b.2.2 = some (d, o) → ρ[b.1]? = some (some d) ∧ H b.2.1 = some o
structure Ext (F H F' H' : Hp) : Prop where
  ff : Same F F'
  hh : Same H H'
  fh : Same F' H'
  nw : ∀ p, H p ≠ none → F p = none → F' p = none
section
variable {K : PySem.W.Frag} {F0 : Bs} {H0 F H F' H' F2 H2 : Hp} {m : List Bool} {ρ : Rho} {σ : L2.St}
theorem Ext.trans (a : Ext F H F' H') (b : Ext F' H' F2 H2) : Ext F H F2 H2 :=
  ⟨a.ff.trans b.ff, a.hh.trans b.hh, b.fh, fun p h f => b.nw p (fun z => by
    cases q : H p with
    | none => exact h q
    | some o => rw [a.hh p o q] at z; cases z) (a.nw p h f)⟩
theorem Ext.refl (h : Same F H) : Ext F H F H := ⟨.refl _, .refl _, h, fun _ _ f => f⟩
theorem same_upd {p : Addr} {o : HO} (h : H p = none) : Same H (upd H p o) := fun b u e => by
  rw [upd_ne (ne_of_none e h)]; exact e
/-- a new object is laid, shared at once -/
theorem Ext.laid {p : Addr} {o : HO} (h : Same F H) (n : H p = none) : Ext F H (upd F p o) (upd H p o) :=
  ⟨same_upd (h.free n), same_upd n, fun b u e => by
    by_cases q : b = p
    · subst q; rw [upd_same] at e ⊢; exact e
    · rw [upd_ne q] at e ⊢; exact h b u e, fun b hb fb => by
    have q : b ≠ p := fun z => hb (z ▸ n)
    rw [upd_ne q]; exact fb⟩
/-- a new object is laid, not shared -/
theorem Ext.laid' {p : Addr} {o : HO} (h : Same F H) (n : H p = none) : Ext F H F (upd H p o) :=
  ⟨.refl _, same_upd n, h.trans (same_upd n), fun _ _ f => f⟩
theorem Rep.ext (r : Rep K F0 H0 m ρ σ F H) (x : Ext F H F' H') : Rep K F0 H0 m ρ σ F' H' where
  len := r.len
  fh := x.fh
  f0 := r.f0.trans x.ff
  h0 := r.h0.trans x.hh
  new := fun p h f => x.nw p (fun z => by
    cases q : H0 p with
    | none => exact h q
    | some o => rw [r.h0 p o q] at z; cases z) (r.new p h f)
  val := fun i d a b => by
    obtain ⟨v, e, h⟩ := r.val i d a b
    exact ⟨v, e, h.mono x.ff⟩
  own := fun i d a b => by
    obtain ⟨p, o, e, h, c, f, h0⟩ := r.own i d a b
    exact ⟨p, o, e, x.hh _ _ h, c.mono x.ff, x.nw p (by rw [h]; simp) f, h0⟩
  apart := r.apart
  bor := fun b hb => by
    obtain ⟨h1, h2, h3, h4⟩ := r.bor b hb
    exact ⟨h1, h2, h3, fun d o e => ⟨(h4 d o e).1, x.hh _ _ (h4 d o e).2⟩⟩
end
/-- an exception that is represented -/
def IsX (K : PySem.W.Frag) (F : Hp) (x : Ex) (cls : Value) (od : Option Addr) : Prop :=
  cls = .ref (He.ga K x.cls) ∧ (x.fs ≠ [] → ∃ d vs, od = some d ∧ F d = some (.xd vs) ∧ IsK K F vs x.fs) ∧ (x.fs = [] → od = none)
def after (K : PySem.W.Frag) (W : WX) (σ : L2.St) (F H : Hp) (r : R D) (Q : VK) : Prop := match r with
  | .ok d => ∀ v F' H', Ext F H F' H' → Is K F' v d → Q v H'
  | .ex x => ∀ cls od F' H', Ext F H F' H' → IsX K F' x cls od → W cls od σ H'
  | .st => False
def tSem (K : PySem.W.Frag) (F0 : Bs) (H0 : Hp) (m : List Bool) (W : WX) (g : Rho → R D) : TE := fun σ H Q => ∃ ρ F, Rep K F0 H0 m ρ σ F H ∧ after K W σ F H (g ρ) Q
/-- a test -/
def tSemT (K : PySem.W.Frag) (F0 : Bs) (H0 : Hp) (m : List Bool) (W : WX) (g : Rho → R Bool) : TT := fun σ H Q => ∃ ρ F, Rep K F0 H0 m ρ σ F H ∧ match g ρ with
  | .ok b => ∀ F' H', Ext F H F' H' → Q b H'
  | .ex x => ∀ cls od F' H', Ext F H F' H' → IsX K F' x cls od → W cls od σ H'
  | .st => False
/-- arguments -/
def tSemA (K : PySem.W.Frag) (F0 : Bs) (H0 : Hp) (m : List Bool) (W : WX) (g : Rho → R (List D)) : TA := fun σ H Q => ∃ ρ F, Rep K F0 H0 m ρ σ F H ∧ match g ρ with
  | .ok ds => ∀ vs F' H', Ext F H F' H' → IsL K F' vs ds → Q vs H'
  | .ex x => ∀ cls od F' H', Ext F H F' H' → IsX K F' x cls od → W cls od σ H'
  | .st => False
abbrev DE (X : Cx) (F0 : Bs) (H0 : Hp) (m : List Bool) (W : WX) (e : Expr) (g : Rho → R D) : Prop := PE X e (tSem X.K F0 H0 m W g)
abbrev DT (X : Cx) (F0 : Bs) (H0 : Hp) (m : List Bool) (W : WX) (e : Expr) (g : Rho → R Bool) : Prop := PT X e (tSemT X.K F0 H0 m W g)
abbrev DA (X : Cx) (F0 : Bs) (H0 : Hp) (m : List Bool) (W : WX) (es : List Expr) (g : Rho → R (List D)) : Prop := PA X es (tSemA X.K F0 H0 m W g)
theorem pe_imp {X : Cx} {e : Expr} {t t' : TE} (h : PE X e t) (f : ∀ σ H Q, t' σ H Q → t σ H Q) : PE X e t' := ⟨fun pins s σ H Q I q => h.run pins s σ H Q I (f σ H Q q)⟩
theorem pt_imp {X : Cx} {e : Expr} {t t' : TT} (h : PT X e t) (f : ∀ σ H Q, t' σ H Q → t σ H Q) : PT X e t' := ⟨fun pins s σ H Q I q => h.run pins s σ H Q I (f σ H Q q)⟩
theorem pa_imp {X : Cx} {e : List Expr} {t t' : TA} (h : PA X e t) (f : ∀ σ H Q, t' σ H Q → t σ H Q) : PA X e t' := ⟨fun pos pins s σ H Q I q => h.run pos pins s σ H Q I (f σ H Q q)⟩
theorem ps_imp {X : Cx} {e : Stmt} {t t' : TS} (h : PS X e t) (f : ∀ D σ H, t' D σ H → t D σ H) : PS X e t' := ⟨fun pins s σ H Q I q => h.run pins s σ H Q I (f Q σ H q)⟩
theorem pss_imp {X : Cx} {e : List Stmt} {t t' : TS} (h : PSs X e t) (f : ∀ D σ H, t' D σ H → t D σ H) : PSs X e t' := ⟨fun pins s σ H Q I q => h.run pins s σ H Q I (f Q σ H q)⟩
theorem pe_or2 {X : Cx} {e : Expr} {t t' : TE} (h : PE X e t) (h' : PE X e t') : PE X e (fun σ H Q => t σ H Q ∨ t' σ H Q) := ⟨fun pins s σ H Q I q => q.elim (h.run pins s σ H Q I) (h'.run pins s σ H Q I)⟩
section
variable {K : PySem.W.Frag} {F0 : Bs} {H0 F H F' H' : Hp} {m : List Bool} {W : WX} {ρ : Rho} {σ : L2.St} {g : Rho → R D} {Q : VK}
theorem after.ext {r : R D} (h : after K W σ F H r Q) (x : Ext F H F' H') : after K W σ F' H' r Q := by
  cases r with
  | ok d => exact fun v F2 H2 y i => h v F2 H2 (x.trans y) i
  | ex e => exact fun cls od F2 H2 y i => h cls od F2 H2 (x.trans y) i
  | st => exact h
theorem after.now {d : D} {v : V} (h : after K W σ F H (.ok d) Q) (s : Same F H) (i : Is K F v d) : Q v H := h v F H (.refl s) i
/-- one part of an expression is read, then the rest -/
theorem sem_bind {k : D → R D} {Φ : VK} (r : Rep K F0 H0 m ρ σ F H) (h : after K W σ F H ((g ρ).bind k) Q)
    (f : ∀ d v F' H', Ext F H F' H' → Is K F' v d → Rep K F0 H0 m ρ σ F' H' → after K W σ F' H' (k d) Q → Φ v H') : tSem K F0 H0 m W g σ H Φ := by
  refine ⟨ρ, F, r, ?_⟩
  cases e : g ρ with
  | ok d =>
    rw [e] at h
    exact fun v F' H' x i => f d v F' H' x i (r.ext x) (after.ext h x)
  | ex x =>
    rw [e] at h
    exact h
  | st =>
    rw [e] at h
    exact h
theorem semA_bind {ga : Rho → R (List D)} {k : List D → R D} {Φ : List V → Hp → Prop} (r : Rep K F0 H0 m ρ σ F H) (h : after K W σ F H ((ga ρ).bind k) Q)
    (f : ∀ ds vs F' H', Ext F H F' H' → IsL K F' vs ds → Rep K F0 H0 m ρ σ F' H' → after K W σ F' H' (k ds) Q → Φ vs H') : tSemA K F0 H0 m W ga σ H Φ := by
  refine ⟨ρ, F, r, ?_⟩
  cases e : ga ρ with
  | ok d =>
    rw [e] at h
    exact fun vs F' H' x i => f d vs F' H' x i (r.ext x) (after.ext h x)
  | ex x =>
    rw [e] at h
    exact h
  | st =>
    rw [e] at h
    exact h
end
end Pd
namespace Pd
open PySem PySem.Spec PyProof.Rows L2
section
variable {X : Cx} {F0 : Bs} {H0 : Hp} {m : List Bool} {W : WX} {pos : Pos} {a b c : Expr} {ga gb gc : Rho → R D}
def gVar (i : Nat) : Rho → R D := fun ρ => match ρ[i]? with
  | some (some d) => .ok d
  | _ => .st
theorem d_var (i : Nat) {x : Str} (hN : X.N[i]? = some x := by rfl) (hv : Vis X.env.scope x := by first | exact Or.inl rfl | exact Or.inr (Or.inl rfl) | exact Or.inr (Or.inr rfl)) (hm : (m[i]? == some true) = false := by rfl) (hd : (x == ("__debug__" : Str)) = false := by decide)
    (hcd : (x == ("__classdict__" : Str)) = false := by decide) : DE X F0 H0 m W (.Name x pos) (gVar i) := by
  refine pe_imp (pe_var hN hv hd hcd) fun σ H Q ⟨ρ, F, r, h⟩ => ?_
  unfold gVar at h
  split at h
  · rename_i d e
    obtain ⟨v, e1, i1⟩ := r.val i d e (by intro z; rw [z] at hm; cases hm)
    exact ⟨v, e1, after.now h r.fh i1⟩
  · exact h.elim
def gC (d : D) : Rho → R D := fun _ => .ok d
theorem sem_const {K : PySem.W.Frag} {v : V} {d : D} (i : ∀ H, Is K H v d) : ∀ (σ : L2.St) (H : Hp) (Q : VK), tSem K F0 H0 m W (gC d) σ H Q → tC v σ H Q :=
  fun σ H Q ⟨ρ, F, r, h⟩ => after.now h r.fh (i F)
theorem d_int {i : Int} {j} : DE X F0 H0 m W (.Constant (.int i) j pos) (gC (.int i)) := pe_imp pe_int (sem_const fun _ => .int i)
theorem d_bl {i : Bool} {j} : DE X F0 H0 m W (.Constant (.bool i) j pos) (gC (.bl i)) := pe_imp pe_bl (sem_const fun _ => .bl i)
theorem d_str {i : Str} {j} : DE X F0 H0 m W (.Constant (.str i) j pos) (gC (.str i)) := pe_imp pe_str (sem_const fun _ => .str i)
theorem d_non {j} : DE X F0 H0 m W (.Constant .none j pos) (gC .non) := pe_imp pe_non (sem_const fun _ => .non)
theorem d_glob {x : Str} {v : V} {u : Value} {d : D} (hg : Gl X x) (hm : X.mg x = some u) (r : RelV v u) (i : ∀ H, Is X.K H v d) (hd : (x == ("__debug__" : Str)) = false := by decide) : DE X F0 H0 m W (.Name x pos) (gC d) :=
  pe_imp (pe_glob hg hm r hd) (sem_const i)
theorem d_gint {x : Str} {i : Int} (hg : Gl X x) (hm : ∃ t, X.mg x = some (.int i t)) (hd : (x == ("__debug__" : Str)) = false := by decide) : DE X F0 H0 m W (.Name x pos) (gC (.int i)) := by
  obtain ⟨t, hm⟩ := hm
  exact d_glob (v := .int i) hg hm ⟨t, rfl⟩ (fun _ => .int i) hd
theorem d_gstr {x : Str} {i : Str} (hg : Gl X x) (hm : ∃ t, X.mg x = some (.str i t)) (hd : (x == ("__debug__" : Str)) = false := by decide) : DE X F0 H0 m W (.Name x pos) (gC (.str i)) := by
  obtain ⟨t, hm⟩ := hm
  exact d_glob (v := .str i) hg hm ⟨t, rfl⟩ (fun _ => .str i) hd
def g2 (f : D → D → R D) (ga gb : Rho → R D) : Rho → R D := fun ρ => (ga ρ).bind fun d => (gb ρ).bind fun e => f d e
def OpD (K : PySem.W.Frag) (f : D → D → R D) (r : R2) : Prop :=
  ∀ (W : WX) (σ : L2.St) (F H : Hp) (d e : D) (v u : V) (Q : VK), Same F H → Is K F v d → Is K F u e → after K W σ F H (f d e) Q → r v u H Q
theorem sem2 {f : D → D → R D} {r : R2} (o : OpD X.K f r) : ∀ (σ : L2.St) (H : Hp) (Q : VK), tSem X.K F0 H0 m W (g2 f ga gb) σ H Q → tOp r (tSem X.K F0 H0 m W ga) (tSem X.K F0 H0 m W gb) σ H Q :=
  fun σ H Q ⟨ρ, F, r, h⟩ => sem_bind (k := fun d => (gb ρ).bind fun e => f d e) r h fun d v F1 H1 _ i1 r1 h1 =>
    sem_bind (k := fun e => f d e) r1 h1 fun e u F2 H2 x2 i2 r2 h2 => o W σ F2 H2 d e v u Q r2.fh (i1.mono x2.ff) i2 h2
theorem OpD.or {K : PySem.W.Frag} {f g : D → D → R D} {r r' : R2} (h : OpD K f r) (h' : OpD K g r') : OpD K (fun d e => match f d e with | .st => g d e | x => x) (fun x y H Q => r x y H Q ∨ r' x y H Q) := by
  intro W σ F H d e v u Q s i j q
  dsimp only at q
  cases z : f d e with
  | ok _ => rw [z] at q; exact .inl (h W σ F H d e v u Q s i j (by rw [z]; exact q))
  | ex _ => rw [z] at q; exact .inl (h W σ F H d e v u Q s i j (by rw [z]; exact q))
  | st => rw [z] at q; exact .inr (h' W σ F H d e v u Q s i j q)
theorem OpD.imp {K : PySem.W.Frag} {f g : D → D → R D} {r : R2} (h : OpD K f r) (e : ∀ d e, g d e = f d e ∨ g d e = .st) : OpD K g r := by
  intro W σ F H d e' v u Q s i j q
  rcases e d e' with z | z
  · rw [z] at q; exact h W σ F H d e' v u Q s i j q
  · rw [z] at q; exact q.elim
theorem d_op {op : Operator} {f : D → D → R D} {r : R2} (ho : OpR X (binaryOp op) r) (o : OpD X.K f r) (ha : DE X F0 H0 m W a ga) (hb : DE X F0 H0 m W b gb) : DE X F0 H0 m W (.BinOp a op b pos) (g2 f ga gb) :=
  pe_imp (pe_op ho ha hb) (sem2 o)
theorem d_cmp {op : CmpOp} {f : D → D → R D} {r : R2} (ho : OpR X (compareOp op) r) (o : OpD X.K f r) (ha : DE X F0 H0 m W a ga) (hb : DE X F0 H0 m W b gb) (hm : behindInMarks op b = false) : DE X F0 H0 m W (.Compare a [op] [b] pos) (g2 f ga gb) :=
  pe_imp (pe_cmpR ho ha hb hm) (sem2 o)
/-- a value as a truth value -/
def asB : D → R Bool
  | .bl b => .ok b
  | _ => .st
def gB (g : Rho → R D) : Rho → R Bool := fun ρ => (g ρ).bind asB
theorem t_cmp {op : CmpOp} {f : D → D → R D} {r : R2} (ho : OpR X (compareOp op) r) (o : OpD X.K f r) (ha : DE X F0 H0 m W a ga) (hb : DE X F0 H0 m W b gb) (hm : behindInMarks op b = false) : DT X F0 H0 m W (.Compare a [op] [b] pos) (gB (g2 f ga gb)) := by
  refine pt_imp (pt_cmpR ho ha hb hm) fun σ H Q ⟨ρ, F, r, h⟩ => ?_
  refine sem2 o σ H _ ⟨ρ, F, r, ?_⟩
  unfold gB at h
  cases e : g2 f ga gb ρ with
  | ok d =>
    rw [e] at h
    intro v F' H' x i
    cases i with
    | bl b => exact ⟨b, rfl, h F' H' x⟩
    | _ => exact h.elim
  | ex x =>
    rw [e] at h
    exact h
  | st =>
    rw [e] at h
    exact h.elim
/-- a op b op' c -/
def g3 (f f' : D → D → R D) (ga gb gc : Rho → R D) : Rho → R D := fun ρ => (ga ρ).bind fun d => (gb ρ).bind fun e => (f d e).bind fun z => (asB z).bind fun k => if k = true then (gc ρ).bind fun y => f' e y else .ok (.bl false)
theorem sem3 {f f' : D → D → R D} {r r' : R2} (o : OpD X.K f r) (o' : OpD X.K f' r') (nx : ∀ d e, ∃ k, f d e = .ok (.bl k) ∨ f d e = .st) : ∀ (σ : L2.St) (H : Hp) (Q : VK), tSem X.K F0 H0 m W (g3 f f' ga gb gc) σ H Q →
    tChain r r' (tSem X.K F0 H0 m W ga) (tSem X.K F0 H0 m W gb) (tSem X.K F0 H0 m W gc) σ H Q :=
  fun σ H Q ⟨ρ, F, r, h⟩ => sem_bind (k := fun d => (gb ρ).bind fun e => (f d e).bind fun z => (asB z).bind fun k => if k = true then (gc ρ).bind fun y => f' e y else .ok (.bl false)) r h fun d v F1 H1 _ i1 r1 h1 =>
    sem_bind (k := fun e => (f d e).bind fun z => (asB z).bind fun k => if k = true then (gc ρ).bind fun y => f' e y else .ok (.bl false)) r1 h1 fun e u F2 H2 x2 i2 r2 h2 => by
      refine o W σ F2 H2 d e v u _ r2.fh (i1.mono x2.ff) i2 ?_
      obtain ⟨k, z | z⟩ := nx d e
      · rw [z] at h2 ⊢
        intro v' F3 H3 x3 i3
        cases i3
        refine ⟨k, rfl, ?_⟩
        have h3 := after.ext h2 x3
        cases k with
        | true => exact iteT (sem_bind (k := fun y => f' e y) (r2.ext x3) h3 fun y w' F4 H4 x4 i4 r4 h4 => o' W σ F4 H4 e y u w' Q r4.fh ((i2.mono x3.ff).mono x4.ff) i4 h4)
        | false => exact iteF (after.now h3 x3.fh (.bl false))
      · rw [z] at h2
        exact h2.elim
theorem semT_of {t : TE} {g : Rho → R D} (f : ∀ σ H Q, tSem X.K F0 H0 m W g σ H Q → t σ H Q) : ∀ (σ : L2.St) (H : Hp) (Q : Bool → Hp → Prop), tSemT X.K F0 H0 m W (gB g) σ H Q → t σ H fun x H' => ∃ k, x = .bl k ∧ Q k H' :=
  fun σ H Q ⟨ρ, F, r, h⟩ => by
  refine f σ H _ ⟨ρ, F, r, ?_⟩
  unfold gB at h
  cases e : g ρ with
  | ok d =>
    rw [e] at h
    intro v F' H' x i
    cases i with
    | bl b => exact ⟨b, rfl, h F' H' x⟩
    | _ => exact h.elim
  | ex x =>
    rw [e] at h
    exact h
  | st =>
    rw [e] at h
    exact h.elim
theorem t_chain {op op' : CmpOp} {f f' : D → D → R D} {r r' : R2} (ho : OpR X (compareOp op) r) (o : OpD X.K f r) (ho' : OpR X (compareOp op') r') (o' : OpD X.K f' r') (nx : ∀ d e, ∃ k, f d e = .ok (.bl k) ∨ f d e = .st)
    (ha : DE X F0 H0 m W a ga) (hb : DE X F0 H0 m W b gb) (hc : DE X F0 H0 m W c gc) (hm : lastMarks [op, op'] [b, c] = false := by with_unfolding_all rfl) : DT X F0 H0 m W (.Compare a [op, op'] [b, c] pos) (gB (g3 f f' ga gb gc)) :=
  pt_imp (pt_chain ho ho' ha hb hc hm) (semT_of (sem3 o o' nx))
/-- a bool as a test -/
theorem t_val {e : Expr} {g : Rho → R D} (h : DE X F0 H0 m W e g) (he : ∀ whole, isTrue e X.env whole = (do let v ← whole; standAt e.pos; holding [v] (truthy v)) := by intro _; rfl) : DT X F0 H0 m W e (gB g) :=
  pt_imp (pt_val h he) (semT_of fun _ _ _ z => z)
/-- truth of data -/
def truD : D → R Bool
  | .non => .ok false
  | .bl b => .ok b
  | .int i => .ok (i != 0)
  | .str s => if s.length ≤ sizeLine then .ok ((s.length : Int) != 0) else .st
  | .list xs => .ok (!xs.isEmpty)
  | .tup xs => .ok (!xs.isEmpty)
  | .tpx xs => .ok (!xs.isEmpty)
  | _ => .st
theorem IsL.empty {K : PySem.W.Frag} {H : Hp} {xs : List V} {ds : List D} (h : IsL K H xs ds) : xs.isEmpty = ds.isEmpty := by
  have l := h.1
  cases xs <;> cases ds <;> first | rfl | (simp at l)
def gTru (g : Rho → R D) : Rho → R Bool := fun ρ => (g ρ).bind truD
abbrev DW (X : Cx) (F0 : Bs) (H0 : Hp) (m : List Bool) (W : WX) (e : Expr) (g : Rho → R Bool) : Prop := PW X e (tSemT X.K F0 H0 m W g)
theorem pw_imp {e : Expr} {t t' : TT} (h : PW X e t) (f : ∀ σ H Q, t' σ H Q → t σ H Q) : PW X e t' := ⟨fun wh pins s σ H Q I q => h.run wh pins s σ H Q I (f σ H Q q)⟩
def bAnd (p q : Rho → R Bool) : Rho → R Bool := fun ρ => (p ρ).bind fun k => if k = true then q ρ else .ok false
def bOr (p q : Rho → R Bool) : Rho → R Bool := fun ρ => (p ρ).bind fun k => if k = true then .ok true else q ρ
def bNot (p : Rho → R Bool) : Rho → R Bool := fun ρ => (p ρ).bind fun k => .ok (!k)
/-- a test is read, then the rest -/
def afterT (K : PySem.W.Frag) (W : WX) (σ : L2.St) (F H : Hp) (r : R Bool) (Q : Bool → Hp → Prop) : Prop := match r with
  | .ok b => ∀ F' H', Ext F H F' H' → Q b H'
  | .ex x => ∀ cls od F' H', Ext F H F' H' → IsX K F' x cls od → W cls od σ H'
  | .st => False
theorem afterT.ext {K : PySem.W.Frag} {σ : L2.St} {F H F' H' : Hp} {Q : Bool → Hp → Prop} {r : R Bool} (h : afterT K W σ F H r Q) (x : Ext F H F' H') : afterT K W σ F' H' r Q := by
  cases r with
  | ok d => exact fun F2 H2 y => h F2 H2 (x.trans y)
  | ex e => exact fun cls od F2 H2 y i => h cls od F2 H2 (x.trans y) i
  | st => exact h
theorem semTT {K : PySem.W.Frag} {σ : L2.St} {F H : Hp} {ρ : Rho} {p : Rho → R Bool} {k : Bool → R Bool} {Q Φ : Bool → Hp → Prop} (r : Rep K F0 H0 m ρ σ F H) (h : afterT K W σ F H ((p ρ).bind k) Q)
    (f : ∀ b F' H', Ext F H F' H' → Rep K F0 H0 m ρ σ F' H' → afterT K W σ F' H' (k b) Q → Φ b H') : tSemT K F0 H0 m W p σ H Φ := by
  refine ⟨ρ, F, r, ?_⟩
  cases e : p ρ with
  | ok d =>
    rw [e] at h
    exact fun F' H' x => f d F' H' x (r.ext x) (afterT.ext h x)
  | ex x =>
    rw [e] at h
    exact h
  | st =>
    rw [e] at h
    exact h
variable {p q : Rho → R Bool} {rest : List Expr}
theorem w_and1 (ha : DT X F0 H0 m W a p) : DW X F0 H0 m W (.BoolOp .And [a] pos) p := pw_and1 ha
theorem w_or1 (ha : DT X F0 H0 m W a p) : DW X F0 H0 m W (.BoolOp .Or [a] pos) p := pw_or1 ha
theorem w_and (ha : DT X F0 H0 m W a p) (hb : DW X F0 H0 m W (.BoolOp .And (b :: rest) pos) q) : DW X F0 H0 m W (.BoolOp .And (a :: b :: rest) pos) (bAnd p q) := by
  refine pw_imp (pw_and ha hb) fun σ H Q ⟨ρ, F, r, h⟩ => ?_
  refine semTT (k := fun k => if k = true then q ρ else .ok false) r h fun k F1 H1 x1 r1 h1 => ?_
  cases k with
  | true => exact iteT ⟨ρ, F1, r1, h1⟩
  | false => exact iteF (h1 F1 H1 (.refl r1.fh))
theorem w_or (ha : DT X F0 H0 m W a p) (hb : DW X F0 H0 m W (.BoolOp .Or (b :: rest) pos) q) : DW X F0 H0 m W (.BoolOp .Or (a :: b :: rest) pos) (bOr p q) := by
  refine pw_imp (pw_or ha hb) fun σ H Q ⟨ρ, F, r, h⟩ => ?_
  refine semTT (k := fun k => if k = true then .ok true else q ρ) r h fun k F1 H1 x1 r1 h1 => ?_
  cases k with
  | true => exact iteT (h1 F1 H1 (.refl r1.fh))
  | false => exact iteF ⟨ρ, F1, r1, h1⟩
theorem t_w {e : Expr} (h : DW X F0 H0 m W e p) : DT X F0 H0 m W e p := PW.pt h
theorem t_not (ha : DT X F0 H0 m W a p) : DT X F0 H0 m W (.UnaryOp .Not a pos) (bNot p) := by
  refine pt_imp (pt_not ha) fun σ H Q ⟨ρ, F, r, h⟩ => ?_
  exact semTT (k := fun k => .ok (!k)) r h fun k F1 H1 x1 r1 h1 => h1 F1 H1 (.refl r1.fh)
def gAnd (ga gb : Rho → R D) : Rho → R D := fun ρ => (ga ρ).bind fun d => (asB d).bind fun k => if k = true then gb ρ else .ok (.bl false)
def gOr (ga gb : Rho → R D) : Rho → R D := fun ρ => (ga ρ).bind fun d => (asB d).bind fun k => if k = true then .ok (.bl true) else gb ρ
def gNot (ga : Rho → R D) : Rho → R D := fun ρ => (ga ρ).bind fun d => (asB d).bind fun k => .ok (.bl (!k))
theorem asB_of {K : PySem.W.Frag} {F H : Hp} {σ : L2.St} {v : V} {d : D} {k : Bool → R D} {Q : VK} (i : Is K F v d) (h : after K W σ F H ((asB d).bind k) Q) : ∃ b, v = .bl b ∧ d = .bl b ∧ after K W σ F H (k b) Q := by
  cases i with
  | bl b => exact ⟨b, rfl, rfl, h⟩
  | _ => exact h.elim
theorem d_one {op} (ha : DE X F0 H0 m W a ga) : DE X F0 H0 m W (.BoolOp op [a] pos) ga := pe_one ha
theorem d_and (ha : DE X F0 H0 m W a ga) (hb : DE X F0 H0 m W (.BoolOp .And (b :: rest) pos) gb) : DE X F0 H0 m W (.BoolOp .And (a :: b :: rest) pos) (gAnd ga gb) := by
  refine pe_imp (pe_and ha hb) fun σ H Q ⟨ρ, F, r, h⟩ => ?_
  refine sem_bind (k := fun d => (asB d).bind fun k => if k = true then gb ρ else .ok (.bl false)) r h fun d v F1 H1 _ i1 r1 h1 => ?_
  obtain ⟨k, rfl, rfl, h2⟩ := asB_of i1 h1
  refine ⟨k, rfl, ?_⟩
  cases k with
  | true => exact iteT ⟨ρ, F1, r1, h2⟩
  | false => exact iteF (after.now h2 r1.fh (.bl false))
theorem d_not (ha : DE X F0 H0 m W a ga) : DE X F0 H0 m W (.UnaryOp .Not a pos) (gNot ga) := by
  refine pe_imp (pe_not ha) fun σ H Q ⟨ρ, F, r, h⟩ => ?_
  refine sem_bind (k := fun d => (asB d).bind fun k => .ok (.bl (!k))) r h fun d v F1 H1 _ i1 r1 h1 => ?_
  obtain ⟨k, rfl, rfl, h2⟩ := asB_of i1 h1
  exact ⟨k, rfl, after.now h2 r1.fh (.bl _)⟩
def gIf (p : Rho → R Bool) (ga gb : Rho → R D) : Rho → R D := fun ρ => (p ρ).bind fun k => if k = true then ga ρ else gb ρ
def g1 (f : D → R D) (ga : Rho → R D) : Rho → R D := fun ρ => (ga ρ).bind f
def UnD (K : PySem.W.Frag) (f : D → R D) (r : V → Hp → VK → Prop) : Prop :=
  ∀ (W : WX) (σ : L2.St) (F H : Hp) (d : D) (v : V) (Q : VK), Same F H → Is K F v d → after K W σ F H (f d) Q → r v H Q
theorem d_un {op : UnaryOp} {f : D → R D} {r : V → Hp → VK → Prop} (ho : UnR X (unaryOp op) r) (o : UnD X.K f r) (ha : DE X F0 H0 m W a ga) : DE X F0 H0 m W (.UnaryOp op a pos) (g1 f ga) :=
  pe_imp (pe_un ho ha) fun σ H Q ⟨ρ, F, r, h⟩ => sem_bind (k := f) r h fun d v F1 H1 _ i1 r1 h1 => o W σ F1 H1 d v Q r1.fh i1 h1
def negD : D → R D
  | .int i => .ok (.int (-i))
  | _ => .st
theorem o_neg {K : PySem.W.Frag} : UnD K negD (rU fun i => .int (-i)) := by
  intro W σ F H d v Q s i q
  cases i with
  | int k => exact ⟨k, rfl, after.now q s (.int _)⟩
  | _ => exact q.elim
def aNil : Rho → R (List D) := fun _ => .ok []
def aCons (g : Rho → R D) (t : Rho → R (List D)) : Rho → R (List D) := fun ρ => (g ρ).bind fun d => (t ρ).bind fun ds => .ok (d :: ds)
variable {e : Expr} {es : List Expr} {g : Rho → R D} {t : Rho → R (List D)}
theorem da_nil : DA X F0 H0 m W [] aNil := pa_imp pa_nil fun σ H Q ⟨ρ, F, r, h⟩ => h [] F H (.refl r.fh) .nil
def afterA (K : PySem.W.Frag) (W : WX) (σ : L2.St) (F H : Hp) (r : R (List D)) (Q : List V → Hp → Prop) : Prop := match r with
  | .ok ds => ∀ vs F' H', Ext F H F' H' → IsL K F' vs ds → Q vs H'
  | .ex x => ∀ cls od F' H', Ext F H F' H' → IsX K F' x cls od → W cls od σ H'
  | .st => False
theorem afterA.ext {K : PySem.W.Frag} {σ : L2.St} {F H F' H' : Hp} {Q : List V → Hp → Prop} {r : R (List D)} (h : afterA K W σ F H r Q) (x : Ext F H F' H') : afterA K W σ F' H' r Q := by
  cases r with
  | ok d => exact fun vs F2 H2 y i => h vs F2 H2 (x.trans y) i
  | ex e => exact fun cls od F2 H2 y i => h cls od F2 H2 (x.trans y) i
  | st => exact h
theorem da_cons (ha : DE X F0 H0 m W e g) (hr : DA X F0 H0 m W es t) (hs : starEach (e :: es) X.env = (false, eval e X.env) :: starEach es X.env := by rfl) : DA X F0 H0 m W (e :: es) (aCons g t) := by
  refine pa_imp (pa_cons ha hr hs) fun σ H Q ⟨ρ, F, r, h⟩ => ?_
  refine ⟨ρ, F, r, ?_⟩
  have h' : afterA X.K W σ F H ((g ρ).bind fun d => (t ρ).bind fun ds => .ok (d :: ds)) Q := h
  cases eg : g ρ with
  | ok d =>
    rw [eg] at h'
    intro v F1 H1 x1 i1
    refine ⟨ρ, F1, r.ext x1, ?_⟩
    have h2 : afterA X.K W σ F1 H1 ((t ρ).bind fun ds => .ok (d :: ds)) Q := afterA.ext h' x1
    show afterA X.K W σ F1 H1 (t ρ) _
    cases et : t ρ with
    | ok ds =>
      rw [et] at h2
      exact fun vs F2 H2 x2 i2 => h2 (v :: vs) F2 H2 x2 (.cons (i1.mono x2.ff) i2)
    | ex x =>
      rw [et] at h2
      exact h2
    | st =>
      rw [et] at h2
      exact h2.elim
  | ex x =>
    rw [eg] at h'
    exact h'
  | st =>
    rw [eg] at h'
    exact h'.elim
def gA (f : List D → R D) (t : Rho → R (List D)) : Rho → R D := fun ρ => (t ρ).bind f
def CallD (K : PySem.W.Frag) (f : List D → R D) (r : List V → Hp → VK → Prop) : Prop :=
  ∀ (W : WX) (σ : L2.St) (F H : Hp) (ds : List D) (vs : List V) (Q : VK), Same F H → IsL K F vs ds → after K W σ F H (f ds) Q → r vs H Q
theorem semA {f : List D → R D} {r : List V → Hp → VK → Prop} (o : CallD X.K f r) : ∀ (σ : L2.St) (H : Hp) (Q : VK), tSem X.K F0 H0 m W (gA f t) σ H Q → tSemA X.K F0 H0 m W t σ H fun vs H1 => r vs H1 Q :=
  fun σ H Q ⟨ρ, F, r, h⟩ => semA_bind (k := f) r h fun ds vs F1 H1 _ i1 r1 h1 => o W σ F1 H1 ds vs Q r1.fh i1 h1
theorem d_callB {x : Str} {p : Pos} {id : String} {f : List D → R D} {r : List V → Hp → VK → Prop} (hc : CallR X (.builtin id) r) (o : CallD X.K f r) (hm : X.mg x = none) (ha : DA X F0 H0 m W (e :: es) t) (hg : Gl X x := by rfl) (hv : bootBuiltins x = some (.builtin id) := by decide +kernel) (hn : x ≠ "__name__" := by decide) (hdb : (x == ("__debug__" : Str)) = false := by decide)
    (he : starEach (e :: es) X.env = (false, eval e X.env) :: starEach es X.env := by rfl) (hpl : (backTo pos (starEach es X.env)).any (·.1) = false := by rfl) : DE X F0 H0 m W (.Call (.Name x p) (e :: es) [] pos) (gA f t) :=
  pe_imp (pe_callB hc hg hm hv ha hn hdb he hpl) (semA o)
theorem d_callTy {x : Str} {p : Pos} {T : String} {f : List D → R D} {r : List V → Hp → VK → Prop} (hc : CallR X (.type T) r) (o : CallD X.K f r) (hm : X.mg x = none) (ha : DA X F0 H0 m W (e :: es) t) (hg : Gl X x := by rfl) (hv : bootBuiltins x = some (.type T) := by decide +kernel) (hn : x ≠ "__name__" := by decide) (hdb : (x == ("__debug__" : Str)) = false := by decide)
    (he : starEach (e :: es) X.env = (false, eval e X.env) :: starEach es X.env := by rfl) (hpl : (backTo pos (starEach es X.env)).any (·.1) = false := by rfl) : DE X F0 H0 m W (.Call (.Name x p) (e :: es) [] pos) (gA f t) :=
  pe_imp (pe_callTy hc hg hm hv ha hn hdb he hpl) (semA o)
def lstD : List D → R D := fun ds => if ds.length ≤ sizeLine then .ok (.list ds) else .st
def tupD : List D → R D := fun ds => if ds.length ≤ sizeLine then .ok (.tup ds) else .st
theorem d_tup {k} (ha : DA X F0 H0 m W es t) : DE X F0 H0 m W (.Tuple es k pos) (gA tupD t) := by
  refine pe_imp (pe_tup ha) fun σ H Q ⟨ρ, F, r, h⟩ => semA_bind (k := tupD) r h fun ds vs F1 H1 _ i1 r1 h1 => ?_
  unfold tupD at h1
  split at h1
  · rename_i hl
    refine ⟨by rw [i1.1]; exact hl, fun p hp => ?_⟩
    have x := Ext.laid (o := .tup vs) r1.fh hp
    exact h1 (.ref p) _ _ x (is_tup upd_same (i1.mono x.ff))
  · exact h1.elim
end
end Pd
namespace Pd
open PySem PySem.Spec PyProof.Rows L2
section
variable {K : PySem.W.Frag}
def iD (g : Int → Int → D) : D → D → R D
  | .int i, .int j => .ok (g i j)
  | _, _ => .st
def icD (C : Int → Int → Bool) (g : Int → Int → D) : D → D → R D
  | .int i, .int j => if C i j = true then .ok (g i j) else .st
  | _, _ => .st
theorem o_i {g : Int → Int → D} {g' : Int → Int → V} (h : ∀ i j H, Is K H (g' i j) (g i j)) : OpD K (iD g) (rI0 g') := by
  intro W σ F H d e v u Q s i j q
  cases i with
  | int k =>
    cases j with
    | int l => exact ⟨k, l, rfl, rfl, after.now q s (h k l F)⟩
    | _ => exact q.elim
  | _ => exact q.elim
theorem o_ic {C : Int → Int → Prop} {C' : Int → Int → Bool} {g : Int → Int → D} {g' : Int → Int → V} (hC : ∀ i j, C' i j = true → C i j) (h : ∀ i j H, Is K H (g' i j) (g i j)) : OpD K (icD C' g) (rI C g') := by
  intro W σ F H d e v u Q s i j q
  cases i with
  | int k =>
    cases j with
    | int l =>
      have q' : after K W σ F H (if C' k l = true then .ok (g k l) else .st) Q := q
      by_cases hc : C' k l = true
      · rw [if_pos hc] at q'
        exact ⟨k, l, rfl, rfl, hC k l hc, after.now q' s (h k l F)⟩
      · rw [if_neg hc] at q'
        exact q'.elim
    | _ => exact q.elim
  | _ => exact q.elim
def subD : D → D → R D := iD fun i j => .int (i - j)
theorem o_sub : OpD K subD (rI0 fun i j => .int (i - j)) := o_i fun _ _ _ => .int _
def small64b (i : Int) : Bool := decide (-(2 ^ 64) < i) && decide (i < 2 ^ 64)
def mulD : D → D → R D := icD (fun i j => small64b i || small64b j) fun i j => .int (i * j)
theorem o_mul : OpD K mulD (rI CMul fun i j => .int (i * j)) := o_ic (fun i j h => by
  simp only [small64b, Bool.or_eq_true, Bool.and_eq_true, decide_eq_true_eq] at h
  exact h) fun _ _ _ => .int _
def fdivD : D → D → R D := icD (fun _ j => decide (0 < j) && decide (j < 1073741824)) fun i j => .int (i / j)
theorem o_fdiv : OpD K fdivD (rI CDiv fun i j => .int (i / j)) := o_ic (fun i j h => by
  simp only [Bool.and_eq_true, decide_eq_true_eq] at h
  exact h) fun _ _ _ => .int _
def modD : D → D → R D := icD (fun _ j => decide (0 < j)) fun i j => .int (i % j)
theorem o_mod : OpD K modD (rI (fun _ j => 0 < j) fun i j => .int (i % j)) := o_ic (fun i j h => of_decide_eq_true h) fun _ _ _ => .int _
def powOk (i j : Int) : Bool := decide (0 ≤ j) && (decide (j ≤ 1000000) && decide (i.natAbs < 2 ^ 64))
theorem powOk_ok {i j : Int} (h : powOk i j = true) : CPow i j := by
  simp only [powOk, Bool.and_eq_true, decide_eq_true_eq] at h
  exact h
def powD : D → D → R D := icD powOk fun i j => .int (i ^ j.toNat)
theorem o_pow : OpD K powD (rI CPow fun i j => .int (i ^ j.toNat)) := o_ic (fun _ _ h => powOk_ok h) fun _ _ _ => .int _
def shlD : D → D → R D := icD powOk fun i j => .int (i * 2 ^ j.toNat)
theorem o_shl : OpD K shlD (rI CPow fun i j => .int (i * 2 ^ j.toNat)) := o_ic (fun _ _ h => powOk_ok h) fun _ _ _ => .int _
def shrD : D → D → R D := icD (fun _ j => decide (0 ≤ j)) fun i j => .int (i / 2 ^ j.toNat)
theorem o_shr : OpD K shrD (rI (fun _ j => 0 ≤ j) fun i j => .int (i / 2 ^ j.toNat)) := o_ic (fun i j h => of_decide_eq_true h) fun _ _ _ => .int _
def andD : D → D → R D := iD fun i j => .int (Builtin.bitAnd i j)
theorem o_and : OpD K andD (rI0 fun i j => .int (Builtin.bitAnd i j)) := o_i fun _ _ _ => .int _
def orD : D → D → R D := iD fun i j => .int (Builtin.bitOr i j)
theorem o_or : OpD K orD (rI0 fun i j => .int (Builtin.bitOr i j)) := o_i fun _ _ _ => .int _
def xorD : D → D → R D := iD fun i j => .int (Builtin.bitXor i j)
theorem o_xor : OpD K xorD (rI0 fun i j => .int (Builtin.bitXor i j)) := o_i fun _ _ _ => .int _
def rCatL (K : PySem.W.Frag) : R2 := fun x y H Q => ∃ l b xs zs, x = .ref l ∧ y = .ref b ∧ SqL K H l xs ∧ SqL K H b zs ∧ xs.length + zs.length ≤ sizeLine ∧ ∀ p, H p = none → Q (.ref p) (upd H p (.lst (xs ++ zs)))
theorem op_catL {X : Cx} : OpR X (binaryOp .Add) (rCatL X.K) := by
  intro pins s σ H x y v u Q I rx ry h
  obtain ⟨l, b, xs, zs, rfl, rfl, hH, hB, hz, q⟩ := h
  cases rx
  cases ry
  obtain ⟨its, r, pl, z⟩ := I.list hH
  obtain ⟨its2, r2, pl2, z2⟩ := I.list hB
  obtain ⟨⟨cls, dd, data, sl⟩, n, ho, hc, h0, hd⟩ := id pl
  obtain ⟨⟨cls2, dd2, data2, sl2⟩, n2, ho2, hc2, h02, hd2⟩ := id pl2
  simp only at hc hd hc2 hd2
  subst hc hd hc2 hd2
  have ea : its.toArray ++ its2.toArray = (its ++ its2).toArray := by simp
  refine concat_meets ⟨_, ho, rfl⟩ ⟨_, ho2, rfl⟩ noFill_list_add seq_list_add PySem.F.slot_list_add PySem.F.entry_list_add (PySem.F.args_list_add_2 _ _) (list_addW l b its.toArray its2.toArray n n2 dd dd2 sl sl2 (by rw [List.size_toArray, List.size_toArray, ← r.length, ← r2.length]; exact hz)) ⟨ho, ho2, ?_⟩
  rw [ea]
  exact ⟨.ref _, _, I.lnew (t' := s.toks) (r.append r2) (by rw [List.length_append]; omega), rfl, q _ I.fresh⟩
def addD : D → D → R D
  | .int i, .int j => .ok (.int (i + j))
  | .str a, .str b => if a.length + b.length ≤ sizeLine then .ok (.str (a ++ b)) else .st
  | .list a, .list b => if a.length + b.length ≤ sizeLine then .ok (.list (a ++ b)) else .st
  | .tup a, .tup b => if a.length + b.length ≤ sizeLine then .ok (.tup (a ++ b)) else .st
  | _, _ => .st
def rAddD (K : PySem.W.Frag) : R2 := fun x y H Q => rI0 (fun i j => .int (i + j)) x y H Q ∨ ((∃ i j, x = .str i ∧ y = .str j ∧ i.length + j.length ≤ sizeLine ∧ Q (.str (i ++ j)) H) ∨ (rCatL K x y H Q ∨ rCatA K x y H Q))
theorem op_addD {X : Cx} : OpR X (binaryOp .Add) (rAddD X.K) := op_add.or (op_add_str.or (op_catL.or op_catA))
theorem o_add : OpD K addD (rAddD K) := by
  intro W σ F H d e v u Q s i j q
  cases i with
  | int k =>
    cases j with
    | int l => exact .inl ⟨k, l, rfl, rfl, after.now q s (.int _)⟩
    | _ => exact q.elim
  | str x =>
    cases j with
    | str y =>
      have q' : after K W σ F H (if x.length + y.length ≤ sizeLine then .ok (.str (x ++ y)) else .st) Q := q
      by_cases hc : x.length + y.length ≤ sizeLine
      · rw [if_pos hc] at q'
        exact .inr (.inl ⟨x, y, rfl, rfl, hc, after.now q' s (.str _)⟩)
      · rw [if_neg hc] at q'
        exact q'.elim
    | _ => exact q.elim
  | @list a xs ds h l e =>
    cases j with
    | @list b ys es h' l' e' =>
      have q' : after K W σ F H (if ds.length + es.length ≤ sizeLine then .ok (.list (ds ++ es)) else .st) Q := q
      by_cases hc : ds.length + es.length ≤ sizeLine
      · rw [if_pos hc] at q'
        refine .inr (.inr (.inl ⟨a, b, xs, ys, rfl, rfl, s.seq h, s.seq h', by omega, fun p hp => ?_⟩))
        have x := Ext.laid (o := .lst (xs ++ ys)) s hp
        exact q' _ _ _ x (is_list (.of upd_same) ((IsL.append ⟨l, e⟩ ⟨l', e'⟩).mono x.ff))
      · rw [if_neg hc] at q'
        exact q'.elim
    | _ => exact q.elim
  | @tup a xs ds h l e =>
    cases j with
    | @tup b ys es h' l' e' =>
      have q' : after K W σ F H (if ds.length + es.length ≤ sizeLine then .ok (.tup (ds ++ es)) else .st) Q := q
      by_cases hc : ds.length + es.length ≤ sizeLine
      · rw [if_pos hc] at q'
        have ap := IsL.append (K := K) (H := F) ⟨l, e⟩ ⟨l', e'⟩
        refine .inr (.inr (.inr ⟨a, b, xs, ys, rfl, rfl, sameT s (.inl (.inl h)), sameT s (.inl (.inl h')), by omega, fun hx => ?_, fun hx hy => ?_, fun hx hy p hp => ?_⟩))
        · subst hx
          refine after.now q' s (is_tup h' ?_)
          have hd : ds = [] := by
            cases ds with
            | nil => rfl
            | cons _ _ => simp at l
          subst hd
          exact ⟨l', e'⟩
        · subst hy
          refine after.now q' s (is_tup h ?_)
          have hd : es = [] := by
            cases es with
            | nil => rfl
            | cons _ _ => simp at l'
          subst hd
          rw [List.append_nil]
          exact ⟨l, e⟩
        · have x := Ext.laid (o := .tup (xs ++ ys)) s hp
          exact q' _ _ _ x (is_tup upd_same (ap.mono x.ff))
      · rw [if_neg hc] at q'
        exact q'.elim
    | _ => exact q.elim
  | _ => exact q.elim
mutual
def D.py : D → PyData
  | .non => .none
  | .bl b => .bool b
  | .int i => .int i
  | .str s => .str s
  | .list xs => .list (D.pyAll xs)
  | .tup xs => .tuple (D.pyAll xs)
  | .tpx xs => .tuple (D.pyAll xs)
  | .dict _ _ => .dict []
  | .dictT _ => .dict []
  | .obj _ _ => .dict []
  | .loc _ => .dict []
  | .exc _ _ => .dict []
  | .adr _ => .dict []
def D.pyAll : List D → List PyData
  | [] => []
  | d :: ds => D.py d :: D.pyAll ds
end
mutual
/-- no dicts, no objects in it -/
def D.flat : D → Bool
  | .non => true
  | .bl _ => true
  | .int _ => true
  | .str _ => true
  | .list xs => D.flatAll xs
  | .tup xs => D.flatAll xs
  | .tpx xs => D.flatAll xs
  | .dict _ _ => false
  | .dictT _ => false
  | .obj _ _ => false
  | .loc _ => false
  | .exc _ _ => false
  | .adr _ => false
def D.flatAll : List D → Bool
  | [] => true
  | d :: ds => D.flat d && D.flatAll ds
end
mutual
theorem dp_of {F : Hp} : ∀ (d : D) (v : V), D.flat d = true → Is K F v d → Dp K F v (D.py d)
  | .non, _, _, i => by cases i; exact .non
  | .bl b, _, _, i => by cases i; exact .bl b
  | .int k, _, _, i => by cases i; exact .int k
  | .str s, _, _, i => by cases i; exact .str s
  | .list ds, _, f, i => by
    obtain ⟨a, xs, rfl, h, l⟩ := i.list_inv
    exact .lst h (dp_ofAll ds xs f l)
  | .tup ds, _, f, i => by
    obtain ⟨a, xs, rfl, h, l⟩ := i.tup_inv
    exact .tup h (dp_ofAll ds xs f l)
  | .tpx ds, _, f, i => by
    obtain ⟨a, xs, rfl, h, l⟩ := i.tpx_inv
    exact .tup h.sq (dp_ofAll ds xs f l)
  | .dict _ _, _, f, _ => by cases f
  | .dictT _, _, f, _ => by cases f
  | .obj _ _, _, f, _ => by cases f
  | .loc _, _, f, _ => by cases f
  | .exc _ _, _, f, _ => by cases f
  | .adr _, _, f, _ => by cases f
theorem dp_ofAll {F : Hp} : ∀ (ds : List D) (vs : List V), D.flatAll ds = true → IsL K F vs ds → DpAll K F vs (D.pyAll ds)
  | [], vs, _, l => by rw [l.unnil]; exact .nil
  | d :: ds, vs, f, l => by
    obtain ⟨x, xr, rfl, h, t⟩ := l.uncons
    have f' : (D.flat d && D.flatAll ds) = true := f
    rw [Bool.and_eq_true] at f'
    exact .cons (dp_of d x f'.1 h) (dp_ofAll ds xr f'.2 t)
end
end
end Pd
namespace Pd
open PySem PySem.Spec PyProof.Rows L2
section
variable {K : PySem.W.Frag}
def eqvD (d e : D) : Bool := PyData.eqv d.py e.py
def D.sh (d : D) : Bool := D.flat d && SeqAt.shaped d.py
/-- scalars of which == is told at once -/
def scD : D → D → Bool
  | .non, .non => true | .non, .int _ => true | .int _, .non => true | .non, .bl _ => true | .bl _, .non => true | .non, .str _ => true | .str _, .non => true
  | .int _, .int _ => true | .bl _, .bl _ => true | .str _, .str _ => true
  | .int _, .str _ => true | .str _, .int _ => true | .bl _, .str _ => true | .str _, .bl _ => true
  | _, _ => false
def eqD (d e : D) : R D := if scD d e = true then .ok (.bl (eqvD d e)) else if (D.sh d && D.sh e) = true then .ok (.bl (eqvD d e)) else .st
def neD (d e : D) : R D := if scD d e = true then .ok (.bl (!eqvD d e)) else if (D.sh d && D.sh e) = true then .ok (.bl (!eqvD d e)) else .st
theorem sc_eq {F : Hp} {v u : V} {d e : D} (i : Is K F v d) (j : Is K F u e) (h : scD d e = true) : scal v u = true ∧ decide (v = u) = eqvD d e := by
  cases i <;> cases j <;> first
    | exact ⟨rfl, rfl⟩
    | exact ⟨rfl, dec_int⟩
    | exact ⟨rfl, dec_bl⟩
    | exact ⟨rfl, dec_str⟩
    | exact absurd h (by intro z; cases z)
def rEq2 (K : PySem.W.Frag) : R2 := fun x y H Q => rEq x y H Q ∨ rEqD K x y H Q
def rNe2 (K : PySem.W.Frag) : R2 := fun x y H Q => rNe x y H Q ∨ rNeD K x y H Q
theorem op_eq2 {X : Cx} (hu : X.A.units + 64 < cLine) : OpR X (compareOp .Eq) (rEq2 X.K) := op_eq.or (op_eqD hu)
theorem op_ne2 {X : Cx} (hu : X.A.units + 64 < cLine) : OpR X (compareOp .NotEq) (rNe2 X.K) := op_ne.or (op_neD hu)
theorem dp_mono {F H : Hp} {v : V} {d : D} (s : Same F H) (i : Is K F v d) (h : D.sh d = true) : Dp K H v d.py ∧ SeqAt.shaped d.py = true := by
  have h' : (D.flat d && SeqAt.shaped d.py) = true := h
  rw [Bool.and_eq_true] at h'
  exact ⟨dp_of d v h'.1 (i.mono s), h'.2⟩
theorem o_eq : OpD K eqD (rEq2 K) := by
  intro W σ F H d e v u Q s i j q
  unfold eqD at q
  by_cases h1 : scD d e = true
  · rw [if_pos h1] at q
    obtain ⟨a, b⟩ := sc_eq i j h1
    exact .inl ⟨a, by rw [b]; exact after.now q s (.bl _)⟩
  · rw [if_neg h1] at q
    by_cases h2 : (D.sh d && D.sh e) = true
    · rw [if_pos h2] at q
      rw [Bool.and_eq_true] at h2
      obtain ⟨a1, a2⟩ := dp_mono s i h2.1
      obtain ⟨b1, b2⟩ := dp_mono s j h2.2
      exact .inr ⟨_, _, a1, b1, a2, b2, after.now q s (.bl _)⟩
    · rw [if_neg h2] at q
      exact q.elim
theorem o_ne : OpD K neD (rNe2 K) := by
  intro W σ F H d e v u Q s i j q
  unfold neD at q
  by_cases h1 : scD d e = true
  · rw [if_pos h1] at q
    obtain ⟨a, b⟩ := sc_eq i j h1
    exact .inl ⟨a, by rw [b]; exact after.now q s (.bl _)⟩
  · rw [if_neg h1] at q
    by_cases h2 : (D.sh d && D.sh e) = true
    · rw [if_pos h2] at q
      rw [Bool.and_eq_true] at h2
      obtain ⟨a1, a2⟩ := dp_mono s i h2.1
      obtain ⟨b1, b2⟩ := dp_mono s j h2.2
      exact .inr ⟨_, _, a1, b1, a2, b2, after.now q s (.bl _)⟩
    · rw [if_neg h2] at q
      exact q.elim
def ltS (a b : Str) : Bool := decide (a.cps.toList < b.cps.toList)
def ltD : D → D → R D
  | .int i, .int j => .ok (.bl (decide (i < j)))
  | .str a, .str b => .ok (.bl (ltS a b))
  | _, _ => .st
def gtD : D → D → R D
  | .int i, .int j => .ok (.bl (decide (j < i)))
  | .str a, .str b => .ok (.bl (ltS b a))
  | _, _ => .st
def leD : D → D → R D := iD fun i j => .bl (decide (i ≤ j))
def geD : D → D → R D := iD fun i j => .bl (decide (j ≤ i))
def rLt2 : R2 := fun x y H Q => rI0 (fun i j => .bl (decide (i < j))) x y H Q ∨ ∃ i j, x = .str i ∧ y = .str j ∧ Q (.bl (decide (i.cps.toList < j.cps.toList))) H
def rGt2 : R2 := fun x y H Q => rI0 (fun i j => .bl (decide (j < i))) x y H Q ∨ ∃ i j, x = .str i ∧ y = .str j ∧ Q (.bl (decide (j.cps.toList < i.cps.toList))) H
theorem op_lt2 {X : Cx} : OpR X (compareOp .Lt) rLt2 := op_lt.or op_lt_str
theorem op_gt2 {X : Cx} : OpR X (compareOp .Gt) rGt2 := op_gt.or op_gt_str
theorem o_lt : OpD K ltD rLt2 := by
  intro W σ F H d e v u Q s i j q
  cases i <;> cases j <;> first
    | exact .inl ⟨_, _, rfl, rfl, after.now q s (.bl _)⟩
    | exact .inr ⟨_, _, rfl, rfl, after.now q s (.bl _)⟩
    | exact q.elim
theorem o_gt : OpD K gtD rGt2 := by
  intro W σ F H d e v u Q s i j q
  cases i <;> cases j <;> first
    | exact .inl ⟨_, _, rfl, rfl, after.now q s (.bl _)⟩
    | exact .inr ⟨_, _, rfl, rfl, after.now q s (.bl _)⟩
    | exact q.elim
theorem o_le : OpD K leD (rI0 fun i j => .bl (decide (i ≤ j))) := o_i fun _ _ _ => .bl _
theorem nx_le (d e : D) : ∃ k, leD d e = .ok (.bl k) ∨ leD d e = .st := by
  cases d <;> cases e <;> first | exact ⟨_, .inl rfl⟩ | exact ⟨true, .inr rfl⟩
def isND : D → D → R D
  | .non, .non => .ok (.bl true)
  | _, .non => .ok (.bl false)
  | _, _ => .st
def notND : D → D → R D
  | .non, .non => .ok (.bl false)
  | _, .non => .ok (.bl true)
  | _, _ => .st
theorem o_notN : OpD K notND (fun x y H Q => y = .non ∧ Q (.bl (!decide (x = .non))) H) := by
  intro W σ F H d e v u Q s i j q
  cases j <;> cases i <;> first
    | exact ⟨rfl, after.now q s (.bl _)⟩
    | exact q.elim
def hasSub (j i : Str) : Bool := !(Builtin.Str.occurrences j i 0 j.length 1).isEmpty
theorem hasSub_one (j : Str) (c : Nat) : hasSub j ⟨#[c]⟩ = decide (c ∈ j.cps.toList) := PySem.StrLaws.found_one j c
def flD : D → Bool
  | .non => true
  | .bl _ => true
  | .int _ => true
  | .str _ => true
  | _ => false
def inD : D → D → R Bool
  | .str a, .str b => .ok (hasSub b a)
  | d, .list ds => if (flD d && ds.all flD) = true then .ok (ds.any fun z => eqvD z d) else if (D.sh d && D.sh (.list ds)) = true then .ok (ds.any fun z => eqvD z d) else .st
  | d, .tup ds => if (flD d && ds.all flD) = true then .ok (ds.any fun z => eqvD z d) else .st
  | d, .tpx ds => if (flD d && ds.all flD) = true then .ok (ds.any fun z => eqvD z d) else .st
  | _, _ => .st
def inDD (d e : D) : R D := (inD d e).bind fun b => .ok (.bl b)
def notInDD (d e : D) : R D := (inD d e).bind fun b => .ok (.bl (!b))
theorem fl_of {F : Hp} {v : V} {d : D} (i : Is K F v d) (h : flD d = true) : flatV v = true := by
  cases i <;> first | rfl | exact absurd h (by intro z; cases z)
theorem fl_all {F : Hp} {xs : List V} {ds : List D} (i : IsL K F xs ds) (h : ds.all flD = true) : xs.all flatV = true := by
  rw [List.all_eq_true] at h ⊢
  intro x hx
  obtain ⟨k, hk⟩ := List.getElem?_of_mem hx
  obtain ⟨d, e, z⟩ := i.atV hk
  exact fl_of z (h d (List.mem_of_getElem? e))
theorem eqV_of {F : Hp} {v u : V} {d e : D} (i : Is K F v d) (j : Is K F u e) (h : flD d = true) (h' : flD e = true) : eqV v u = eqvD d e := by
  cases i <;> cases j <;> first
    | rfl
    | exact absurd h (by intro z; cases z)
    | exact absurd h' (by intro z; cases z)
theorem inV_of {F : Hp} {v : V} {d : D} (i : Is K F v d) (hd : flD d = true) : ∀ {xs : List V} {ds : List D}, IsL K F xs ds → ds.all flD = true → inV v xs = ds.any fun z => eqvD z d
  | xs, [], l, _ => by rw [l.unnil]; rfl
  | xs, e :: ds, l, f => by
    obtain ⟨x, xr, rfl, h, t⟩ := l.uncons
    rw [List.all_cons, Bool.and_eq_true] at f
    have ih := inV_of i hd t f.2
    show (eqV x v || inV v xr) = (eqvD e d || ds.any fun z => eqvD z d)
    rw [ih, eqV_of h i f.1 hd]
theorem any_py : ∀ (ds : List D) (d : D), ((D.pyAll ds).any fun z => PyData.eqv z d.py) = ds.any fun z => eqvD z d
  | [], _ => rfl
  | e :: ds, d => by
    show (PyData.eqv e.py d.py || _) = (eqvD e d || _)
    rw [any_py ds d]
    rfl
def rIn2 (K : PySem.W.Frag) : R2 := fun x y H Q => (∃ i j, x = .str i ∧ y = .str j ∧ Q (.bl (!(Builtin.Str.occurrences j i 0 j.length 1).isEmpty)) H) ∨ (rIn K false x y H Q ∨ rInD K x y H Q)
def rNotIn2 (K : PySem.W.Frag) : R2 := fun x y H Q => (∃ i j, x = .str i ∧ y = .str j ∧ Q (.bl (!(!(Builtin.Str.occurrences j i 0 j.length 1).isEmpty))) H) ∨ (rIn K true x y H Q ∨ rNotInD K x y H Q)
theorem op_in2 {X : Cx} (hu : X.A.units + 65 < cLine) : OpR X (compareOp .In) (rIn2 X.K) := op_in_str.or (op_in_seq.or (op_inD hu))
theorem op_notIn2 {X : Cx} (hu : X.A.units + 65 < cLine) : OpR X (compareOp .NotIn) (rNotIn2 X.K) := op_notIn_str.or (op_notIn_seq.or (op_notInD hu))
theorem in_cases {F H : Hp} {v u : V} {d e : D} {b : Bool} (s : Same F H) (i : Is K F v d) (j : Is K F u e) (h : inD d e = .ok b) :
    (∃ x y, v = .str x ∧ u = .str y ∧ (!(Builtin.Str.occurrences y x 0 y.length 1).isEmpty) = b) ∨ (∃ p xs, u = .ref p ∧ (SqL K H p xs ∨ SqT K H p xs) ∧ flatV v = true ∧ xs.all flatV = true ∧ inV v xs = b) ∨
      ∃ a c, Dp K H v a ∧ Dp K H u (.list c) ∧ SeqAt.shaped a = true ∧ SeqAt.shaped (.list c) = true ∧ (c.any fun z => PyData.eqv z a) = b := by
  cases e with
  | str y =>
    cases d with
    | str x =>
      cases i
      cases j
      injection h with h
      exact .inl ⟨x, y, rfl, rfl, h⟩
    | _ => cases h
  | list ds =>
    obtain ⟨p, xs, rfl, hp, l⟩ := j.list_inv
    have h' : (if (flD d && ds.all flD) = true then R.ok (ds.any fun z => eqvD z d) else if (D.sh d && D.sh (.list ds)) = true then .ok (ds.any fun z => eqvD z d) else .st) = .ok b := by
      rw [← h]
      cases d <;> rfl
    by_cases h1 : (flD d && ds.all flD) = true
    · rw [if_pos h1] at h'
      rw [Bool.and_eq_true] at h1
      injection h' with h'
      exact .inr (.inl ⟨p, xs, rfl, .inl (s.seq hp), fl_of i h1.1, fl_all l h1.2, (inV_of i h1.1 l h1.2).trans h'⟩)
    · rw [if_neg h1] at h'
      by_cases h2 : (D.sh d && D.sh (.list ds)) = true
      · rw [if_pos h2] at h'
        rw [Bool.and_eq_true] at h2
        injection h' with h'
        obtain ⟨a1, a2⟩ := dp_mono s i h2.1
        obtain ⟨b1, b2⟩ := dp_mono s (is_list hp l) h2.2
        exact .inr (.inr ⟨d.py, D.pyAll ds, a1, b1, a2, b2, (any_py ds d).trans h'⟩)
      · rw [if_neg h2] at h'
        cases h'
  | tup ds =>
    obtain ⟨p, xs, rfl, hp, l⟩ := j.tup_inv
    have h' : (if (flD d && ds.all flD) = true then R.ok (ds.any fun z => eqvD z d) else .st) = .ok b := by
      rw [← h]
      cases d <;> rfl
    by_cases h1 : (flD d && ds.all flD) = true
    · rw [if_pos h1] at h'
      rw [Bool.and_eq_true] at h1
      injection h' with h'
      exact .inr (.inl ⟨p, xs, rfl, .inr (sameT s hp), fl_of i h1.1, fl_all l h1.2, (inV_of i h1.1 l h1.2).trans h'⟩)
    · rw [if_neg h1] at h'
      cases h'
  | tpx ds =>
    obtain ⟨p, xs, rfl, hp, l⟩ := j.tpx_inv
    have h' : (if (flD d && ds.all flD) = true then R.ok (ds.any fun z => eqvD z d) else .st) = .ok b := by
      rw [← h]
      cases d <;> rfl
    by_cases h1 : (flD d && ds.all flD) = true
    · rw [if_pos h1] at h'
      rw [Bool.and_eq_true] at h1
      injection h' with h'
      exact .inr (.inl ⟨p, xs, rfl, .inr (sameT s hp.sq), fl_of i h1.1, fl_all l h1.2, (inV_of i h1.1 l h1.2).trans h'⟩)
    · rw [if_neg h1] at h'
      cases h'
  | _ => cases d <;> cases h
theorem inD_nx (d e : D) : (∃ b, inD d e = .ok b) ∨ inD d e = .st := by
  cases h : inD d e with
  | ok b => exact .inl ⟨b, rfl⟩
  | st => exact .inr rfl
  | ex x =>
    exfalso
    unfold inD at h
    repeat' (first | split at h | cases h)
theorem o_in : OpD K inDD (rIn2 K) := by
  intro W σ F H d e v u Q s i j q
  unfold inDD at q
  rcases inD_nx d e with ⟨b, z⟩ | z
  · rw [z] at q
    have q' := after.now q s (.bl b)
    rcases in_cases s i j z with ⟨x, y, rfl, rfl, h⟩ | ⟨p, xs, rfl, h1, h2, h3, h4⟩ | ⟨a, c, h1, h2, h3, h4, h5⟩
    · exact .inl ⟨x, y, rfl, rfl, by rw [h]; exact q'⟩
    · exact .inr (.inl ⟨p, xs, rfl, h1, h2, h3, by rw [h4]; exact q'⟩)
    · exact .inr (.inr ⟨a, c, h1, h2, h3, h4, by rw [h5]; exact q'⟩)
  · rw [z] at q
    exact q.elim
theorem o_notIn : OpD K notInDD (rNotIn2 K) := by
  intro W σ F H d e v u Q s i j q
  unfold notInDD at q
  rcases inD_nx d e with ⟨b, z⟩ | z
  · rw [z] at q
    have q' := after.now q s (.bl (!b))
    rcases in_cases s i j z with ⟨x, y, rfl, rfl, h⟩ | ⟨p, xs, rfl, h1, h2, h3, h4⟩ | ⟨a, c, h1, h2, h3, h4, h5⟩
    · exact .inl ⟨x, y, rfl, rfl, by rw [h]; exact q'⟩
    · exact .inr (.inl ⟨p, xs, rfl, h1, h2, h3, by rw [h4]; exact q'⟩)
    · exact .inr (.inr ⟨a, c, h1, h2, h3, h4, by rw [h5]; exact q'⟩)
  · rw [z] at q
    exact q.elim
def lenD : List D → R D
  | [.str s] => if s.length ≤ sizeLine then .ok (.int s.length) else .st
  | [.list ds] => .ok (.int ds.length)
  | [.tup ds] => .ok (.int ds.length)
  | [.tpx ds] => .ok (.int ds.length)
  | _ => .st
theorem one_of {F : Hp} {vs : List V} {d : D} (l : IsL K F vs [d]) : ∃ v, vs = [v] ∧ Is K F v d := by
  obtain ⟨v, vr, rfl, h, t⟩ := l.uncons
  rw [t.unnil]
  exact ⟨v, rfl, h⟩
theorem two_of {F : Hp} {vs : List V} {d e : D} (l : IsL K F vs [d, e]) : ∃ v u, vs = [v, u] ∧ Is K F v d ∧ Is K F u e := by
  obtain ⟨v, vr, rfl, h, t⟩ := l.uncons
  obtain ⟨u, rfl, h'⟩ := one_of t
  exact ⟨v, u, rfl, h, h'⟩
theorem c_len : CallD K lenD (fun xs H Q => ∃ x n, xs = [x] ∧ LenV K x H n ∧ Q (.int n) H) := by
  intro W σ F H ds vs Q s l q
  match ds, l, q with
  | [.str z], l, q =>
    obtain ⟨v, rfl, i⟩ := one_of l
    cases i
    have q' : after K W σ F H (if z.length ≤ sizeLine then .ok (.int z.length) else .st) Q := q
    by_cases h : z.length ≤ sizeLine
    · rw [if_pos h] at q'
      exact ⟨_, _, rfl, ⟨h, rfl⟩, after.now q' s (.int _)⟩
    · rw [if_neg h] at q'
      exact q'.elim
  | [.list es], l, q =>
    obtain ⟨v, rfl, i⟩ := one_of l
    obtain ⟨a, xs, rfl, h, t⟩ := i.list_inv
    exact ⟨_, _, rfl, .inl ⟨xs, s.seq h, t.1.symm⟩, after.now q s (.int _)⟩
  | [.tup es], l, q =>
    obtain ⟨v, rfl, i⟩ := one_of l
    obtain ⟨a, xs, rfl, h, t⟩ := i.tup_inv
    exact ⟨_, _, rfl, .inr ⟨xs, sameT s h, t.1.symm⟩, after.now q s (.int _)⟩
  | [.tpx es], l, q =>
    obtain ⟨v, rfl, i⟩ := one_of l
    obtain ⟨a, xs, rfl, h, t⟩ := i.tpx_inv
    exact ⟨_, _, rfl, .inr ⟨xs, sameT s h.sq, t.1.symm⟩, after.now q s (.int _)⟩
def ordD : List D → R D
  | [.str s] => if s.length = 1 then .ok (.int (s.cps.getD 0 0 : Nat)) else .st
  | _ => .st
def intD : List D → R D
  | [.int i] => .ok (.int i)
  | [.bl b] => .ok (.int (if b then 1 else 0))
  | _ => .st
theorem c_int : CallD K intD (fun xs H Q => (∃ i, xs = [.int i] ∧ Q (.int i) H) ∨ ∃ k, xs = [.bl k] ∧ Q (.int (if k then 1 else 0)) H) := by
  intro W σ F H ds vs Q s l q
  match ds, l, q with
  | [.int z], l, q =>
    obtain ⟨v, rfl, i⟩ := one_of l
    cases i
    exact .inl ⟨_, rfl, after.now q s (.int _)⟩
  | [.bl z], l, q =>
    obtain ⟨v, rfl, i⟩ := one_of l
    cases i
    exact .inr ⟨_, rfl, after.now q s (.int _)⟩
/-- isinstance(x, T), T a built-in type -/
def tyD : D → String
  | .non => "NoneType"
  | .bl _ => "bool"
  | .int _ => "int"
  | .str _ => "str"
  | .list _ => "list"
  | .tup _ => "tuple"
  | .tpx _ => "tuple"
  | .dict _ _ => "dict"
  | .dictT _ => "dict"
  | .obj _ _ => ""
  | .loc _ => ""
  | .exc _ _ => ""
  | .adr _ => ""
def subTy : String → String → Option Bool
  | "bool", "int" => some true
  | "NoneType", "int" => some false | "int", "int" => some true | "str", "int" => some false | "list", "int" => some false | "tuple", "int" => some false | "dict", "int" => some false
  | "NoneType", "bool" => some false | "bool", "bool" => some true | "int", "bool" => some false | "str", "bool" => some false | "list", "bool" => some false | "tuple", "bool" => some false | "dict", "bool" => some false
  | "NoneType", "str" => some false | "bool", "str" => some false | "int", "str" => some false | "str", "str" => some true | "list", "str" => some false | "tuple", "str" => some false | "dict", "str" => some false
  | "NoneType", "list" => some false | "bool", "list" => some false | "int", "list" => some false | "str", "list" => some false | "list", "list" => some true | "tuple", "list" => some false | "dict", "list" => some false
  | "NoneType", "tuple" => some false | "bool", "tuple" => some false | "int", "tuple" => some false | "str", "tuple" => some false | "list", "tuple" => some false | "tuple", "tuple" => some true | "dict", "tuple" => some false
  | "NoneType", "dict" => some false | "bool", "dict" => some false | "int", "dict" => some false | "str", "dict" => some false | "list", "dict" => some false | "tuple", "dict" => some false | "dict", "dict" => some true
  | _, _ => none
theorem subTy_kit {a b : String} {r : Bool} (h : subTy a b = some r) : kitB a b = some r := by
  unfold subTy at h
  split at h <;> first
    | (injection h with h; subst h; decide +kernel)
    | cases h
theorem tyx_of {F H : Hp} {v : V} {d : D} (s : Same F H) (i : Is K F v d) (h : ∀ c fs, d ≠ .obj c fs) (h2 : ∀ k, d ≠ .adr k) (h3 : ∀ c fs, d ≠ .exc c fs) : TyX K H v (.type (tyD d)) := by
  cases i with
  | non => exact .base .non
  | bl b => exact .base (.bl b)
  | int b => exact .base (.int b)
  | str b => exact .base (.str b)
  | list hl _ _ =>
    rcases hl with (hl | ⟨o, hl⟩) | ⟨o, its, n, hk, hc, _⟩
    · exact .base (.lst (s _ _ hl))
    · exact .base (.frz (s _ _ hl))
    · exact .kList hk hc
  | tup hl _ _ => exact .base (.tup (s _ _ hl))
  | tpx hl _ _ =>
    obtain ⟨o, hl, _⟩ := hl
    exact .fTuple (s _ _ hl)
  | dict hl _ _ _ =>
    rcases hl.rd with hl | ⟨o, hl⟩
    · exact .base (.dK (s _ _ hl))
    · exact .fDict (s _ _ hl)
  | dictT hl _ _ _ => exact .base (.dT (s _ _ hl))
  | obj _ _ _ _ => exact absurd rfl (h _ _)
  | adr _ => exact absurd rfl (h2 _)
  | exc0 _ => exact absurd rfl (h3 _ _)
  | exc _ _ _ _ => exact absurd rfl (h3 _ _)
def isiD (n : String) (d : D) : R D := match subTy (tyD d) n with
  | some b => .ok (.bl b)
  | none => .st
end
section
variable {X : Cx} {F0 : Bs} {H0 : Hp} {m : List Bool} {W : WX} {pos : Pos} {a b e : Expr} {es : List Expr} {ga gb g : Rho → R D} {t : Rho → R (List D)}
theorem d_isinst {y : Str} {p p2 : Pos} {n : String} (hm : X.mg "isinstance" = none) (hy : X.mg y = none) (ha : DE X F0 H0 m W e g) (hg : Gl X "isinstance" := by rfl) (hg2 : Gl X y := by rfl) (hv : bootBuiltins y = some (.type n) := by decide +kernel)
    (hn : y ≠ "__name__" := by decide) (hd : (y == ("__debug__" : Str)) = false := by decide)
    (hs : starEach [e, .Name y p2] X.env = (false, eval e X.env) :: starEach [.Name y p2] X.env := by rfl) (hs2 : starEach [.Name y p2] X.env = (false, eval (.Name y p2) X.env) :: starEach [] X.env := by rfl)
    (hpl : (backTo pos (starEach [.Name y p2] X.env)).any (·.1) = false := by rfl) : DE X F0 H0 m W (.Call (.Name "isinstance" p) [e, .Name y p2] [] pos) (g1 (isiD n) g) := by
  refine pe_imp (pe_callB call_isi hg hm (by decide +kernel) (pa_cons ha (pa_cons (pe_bltn (v := .ty n) hg2 hy hv rfl hn hd) pa_nil hs2) hs) (by decide) (by decide) hs hpl) fun σ H Q ⟨ρ, F, r, h⟩ => ?_
  refine sem_bind (k := isiD n) r h fun d v F1 H1 _ i1 r1 h1 => ?_
  unfold isiD at h1
  cases z : subTy (tyD d) n with
  | none => rw [z] at h1; exact h1.elim
  | some b =>
    rw [z] at h1
    refine ⟨v, .ty n, .type (tyD d), .type n, b, rfl, .ty n, tyx_of r1.fh i1 (fun c fs q => ?_) (fun c q => ?_) (fun c fs q => ?_), kit_ty (subTy_kit z), after.now h1 r1.fh (.bl b)⟩
    all_goals
      subst q
      have z' : subTy "" n = some b := z
      unfold subTy at z'
      split at z' <;> first | (simp_all; done) | cases z'
def ixD : D → D → R D
  | .list ds, .int i => match atI ds i with
    | some d => .ok d
    | none => .st
  | .tup ds, .int i => match atI ds i with
    | some d => .ok d
    | none => .st
  | .tpx ds, .int i => match atI ds i with
    | some d => .ok d
    | none => .st
  | .str s, .int i => if s.length ≤ sizeLine then (match atI s.cps.toList i with
    | some c => .ok (.str ⟨#[c]⟩)
    | none => .st) else .st
  | _, _ => .st
theorem atI_is {K : PySem.W.Frag} {F : Hp} {xs : List V} {ds : List D} (l : IsL K F xs ds) {i : Int} {d : D} (h : atI ds i = some d) : ∃ v, atI xs i = some v ∧ Is K F v d := by
  unfold atI at h ⊢
  rw [l.1]
  cases z : ixN ds.length i with
  | none => rw [z] at h; cases h
  | some j =>
    rw [z] at h
    exact l.at h
theorem o_ix {K : PySem.W.Frag} : OpD K ixD (rIx K) := by
  intro W σ F H d e v u Q s i j q
  cases d with
  | list ds =>
    obtain ⟨p, xs, rfl, hp, l⟩ := i.list_inv
    cases j with
    | int k =>
      have q' : after K W σ F H (match atI ds k with | some d => .ok d | none => .st) Q := q
      cases z : atI ds k with
      | none => rw [z] at q'; exact q'.elim
      | some d =>
        rw [z] at q'
        obtain ⟨w', e1, i1⟩ := atI_is l z
        exact .inl ⟨p, xs, k, w', rfl, rfl, s.seq hp, e1, after.now q' s i1⟩
    | _ => exact q.elim
  | tup ds =>
    obtain ⟨p, xs, rfl, hp, l⟩ := i.tup_inv
    cases j with
    | int k =>
      have q' : after K W σ F H (match atI ds k with | some d => .ok d | none => .st) Q := q
      cases z : atI ds k with
      | none => rw [z] at q'; exact q'.elim
      | some d =>
        rw [z] at q'
        obtain ⟨w', e1, i1⟩ := atI_is l z
        exact .inr (.inl ⟨p, xs, k, w', rfl, rfl, sameT s hp, e1, after.now q' s i1⟩)
    | _ => exact q.elim
  | tpx ds =>
    obtain ⟨p, xs, rfl, hp, l⟩ := i.tpx_inv
    cases j with
    | int k =>
      have q' : after K W σ F H (match atI ds k with | some d => .ok d | none => .st) Q := q
      cases z : atI ds k with
      | none => rw [z] at q'; exact q'.elim
      | some d =>
        rw [z] at q'
        obtain ⟨w', e1, i1⟩ := atI_is l z
        exact .inr (.inl ⟨p, xs, k, w', rfl, rfl, sameT s hp.sq, e1, after.now q' s i1⟩)
    | _ => exact q.elim
  | str x =>
    cases i
    cases j with
    | int k =>
      have q' : after K W σ F H (if x.length ≤ sizeLine then (match atI x.cps.toList k with | some c => .ok (.str ⟨#[c]⟩) | none => .st) else .st) Q := q
      by_cases hx : x.length ≤ sizeLine
      · rw [if_pos hx] at q'
        cases z : atI x.cps.toList k with
        | none => rw [z] at q'; exact q'.elim
        | some c =>
          rw [z] at q'
          exact .inr (.inr ⟨x, k, c, rfl, rfl, hx, z, after.now q' s (.str _)⟩)
      · rw [if_neg hx] at q'
        exact q'.elim
    | _ => exact q.elim
  | _ => exact q.elim
theorem d_ix (ha : DE X F0 H0 m W a ga) (hb : DE X F0 H0 m W b gb) (hs : PlainIx b := by exact fun _ _ => rfl) : DE X F0 H0 m W (.Subscript a b pos) (g2 ixD ga gb) := pe_imp (pe_ix ix_seq ha hb hs) (sem2 o_ix)
abbrev DO (X : Cx) (F0 : Bs) (H0 : Hp) (m : List Bool) (W : WX) (e : Option Expr) (g : Rho → R (Option Int)) : Prop := PO X e (fun σ H Q => ∃ ρ F, Rep X.K F0 H0 m ρ σ F H ∧ match g ρ with
  | .ok i => ∀ F' H', Ext F H F' H' → Q i H'
  | .ex x => ∀ cls od F' H', Ext F H F' H' → IsX X.K F' x cls od → W cls od σ H'
  | .st => False)
theorem po_imp {e : Option Expr} {t t' : TO} (h : PO X e t) (f : ∀ σ H Q, t' σ H Q → t σ H Q) : PO X e t' := ⟨fun pins s σ H Q I q => h.run pins s σ H Q I (f σ H Q q)⟩
def pNone : Rho → R (Option Int) := fun _ => .ok none
def asI : D → R (Option Int)
  | .int i => .ok (some i)
  | _ => .st
def pSome (g : Rho → R D) : Rho → R (Option Int) := fun ρ => (g ρ).bind asI
theorem do_none : DO X F0 H0 m W none pNone := po_imp po_none fun σ H Q ⟨ρ, F, r, h⟩ => h F H (.refl r.fh)
theorem do_some (ha : DE X F0 H0 m W e g) : DO X F0 H0 m W (some e) (pSome g) := by
  refine po_imp (po_some ha) fun σ H Q ⟨ρ, F, r, h⟩ => ?_
  refine ⟨ρ, F, r, ?_⟩
  unfold pSome at h
  cases z : g ρ with
  | ok d =>
    rw [z] at h
    intro v F' H' x i
    cases i with
    | int k => exact ⟨k, rfl, h F' H' x⟩
    | _ => exact h.elim
  | ex x =>
    rw [z] at h
    exact h
  | st =>
    rw [z] at h
    exact h.elim
def cutD {α : Type} (xs : List α) (lo hi : Option Int) : List α := (xs.drop (HT.sIx xs.length 0 lo)).take (HT.sIx xs.length xs.length hi - HT.sIx xs.length 0 lo)
def slD : D → Option Int → Option Int → R D
  | .list ds, lo, hi => .ok (.list (cutD ds lo hi))
  | .tup ds, lo, hi => .ok (.tup (cutD ds lo hi))
  | .str s, lo, hi => if s.length ≤ sizeLine then .ok (.str (cutS s lo hi)) else .st
  | _, _, _ => .st
def gSl (g : Rho → R D) (pl ph : Rho → R (Option Int)) : Rho → R D := fun ρ => (g ρ).bind fun d => (pl ρ).bind fun lo => (ph ρ).bind fun hi => slD d lo hi
theorem cut_is {K : PySem.W.Frag} {F : Hp} {xs : List V} {ds : List D} (l : IsL K F xs ds) (lo hi : Option Int) : IsL K F (cutV xs lo hi) (cutD ds lo hi) := by
  unfold cutV cutD
  rw [l.1]
  exact (l.drop _).take _
def rSl2 (K : PySem.W.Frag) : V → Option Int → Option Int → Hp → VK → Prop := fun x lo hi H Q => rSlL K x lo hi H Q ∨ (rSlA K x lo hi H Q ∨ rSlS x lo hi H Q)
theorem sl2 : SlR X (rSl2 X.K) := sl_list.or (sl_tupA.or sl_str)
theorem cut_all {α : Type} (xs : List α) (lo hi : Option Int) (h : HT.sIx xs.length 0 lo = 0 ∧ HT.sIx xs.length xs.length hi = xs.length) : cutD xs lo hi = xs := by
  unfold cutD
  rw [h.1, h.2]
  simp
theorem sl_run {K : PySem.W.Frag} {σ : L2.St} {F H : Hp} {d : D} {v : V} {lo hi : Option Int} {Q : VK} (s : Same F H) (i : Is K F v d) (q : after K W σ F H (slD d lo hi) Q) : rSl2 K v lo hi H Q := by
  cases d with
  | list ds =>
    obtain ⟨p, xs, rfl, hp, l⟩ := i.list_inv
    refine .inl ⟨p, xs, rfl, s.seq hp, fun r hr => ?_⟩
    have x := Ext.laid (o := .lst (cutV xs lo hi)) s hr
    exact q _ _ _ x (is_list (.of upd_same) ((cut_is l lo hi).mono x.ff))
  | tup ds =>
    obtain ⟨p, xs, rfl, hp, l⟩ := i.tup_inv
    refine .inr (.inl ⟨p, xs, rfl, sameT s hp, fun hw => ?_, fun hw r hr => ?_⟩)
    · have q' : after K W σ F H (.ok (.tup (cutD ds lo hi))) Q := q
      rw [l.1] at hw
      rw [cut_all ds lo hi hw] at q'
      exact after.now q' s i
    · have x := Ext.laid (o := .tup (cutV xs lo hi)) s hr
      exact q _ _ _ x (is_tup upd_same ((cut_is l lo hi).mono x.ff))
  | str z =>
    cases i
    have q' : after K W σ F H (if z.length ≤ sizeLine then .ok (.str (cutS z lo hi)) else .st) Q := q
    by_cases hz : z.length ≤ sizeLine
    · rw [if_pos hz] at q'
      exact .inr (.inr ⟨z, rfl, hz, after.now q' s (.str _)⟩)
    · rw [if_neg hz] at q'
      exact q'.elim
  | _ => exact q.elim
theorem d_slice {lo hi : Option Expr} {pl ph : Rho → R (Option Int)} {p2 : Pos} (ha : DE X F0 H0 m W e g) (hl : DO X F0 H0 m W lo pl) (hh : DO X F0 H0 m W hi ph) : DE X F0 H0 m W (.Subscript e (.Slice lo hi none p2) pos) (gSl g pl ph) := by
  refine pe_imp (pe_slice sl2 ha hl hh) fun σ H Q ⟨ρ, F, r, h⟩ => ?_
  refine sem_bind (k := fun d => (pl ρ).bind fun lo => (ph ρ).bind fun hi => slD d lo hi) r h fun d v F1 H1 _ i1 r1 h1 => ?_
  refine ⟨ρ, F1, r1, ?_⟩
  cases z1 : pl ρ with
  | ok l =>
    rw [z1] at h1
    intro F2 H2 x2
    refine ⟨ρ, F2, r1.ext x2, ?_⟩
    have h2 : after X.K W σ F2 H2 ((ph ρ).bind fun hi => slD d l hi) Q := after.ext h1 x2
    cases z2 : ph ρ with
    | ok u =>
      rw [z2] at h2
      intro F3 H3 x3
      exact sl_run x3.fh ((i1.mono x2.ff).mono x3.ff) (after.ext h2 x3)
    | ex x =>
      rw [z2] at h2
      exact h2
    | st =>
      rw [z2] at h2
      exact h2.elim
  | ex x =>
    rw [z1] at h1
    exact h1
  | st =>
    rw [z1] at h1
    exact h1.elim
end
end Pd
namespace Pd
open PySem PySem.Spec PyProof.Rows L2
def afterN (K : PySem.W.Frag) (W : WX) (σ : L2.St) (F H : Hp) (r : R D) (Q : VK) : Prop := match r with
  | .ok d => ∀ p o F' H', Ext F H F' H' → H' p = some o → IsC K F' o d → F' p = none → H p = none → Q (.ref p) H'
  | .ex x => ∀ cls od F' H', Ext F H F' H' → IsX K F' x cls od → W cls od σ H'
  | .st => False
def tSemN (K : PySem.W.Frag) (F0 : Bs) (H0 : Hp) (m : List Bool) (W : WX) (g : Rho → R D) : TE := fun σ H Q => ∃ ρ F, Rep K F0 H0 m ρ σ F H ∧ afterN K W σ F H (g ρ) Q
abbrev DN (X : Cx) (F0 : Bs) (H0 : Hp) (m : List Bool) (W : WX) (e : Expr) (g : Rho → R D) : Prop := PE X e (tSemN X.K F0 H0 m W g)
/-- shared from now on -/
theorem Ext.share {F H F' H' : Hp} {p : Addr} {o : HO} (x : Ext F H F' H') (h : H' p = some o) (f : F' p = none) (n : H p = none) : Ext F H (upd F' p o) H' :=
  ⟨x.ff.trans (same_upd f), x.hh, fun b u e => by
    by_cases q : b = p
    · subst q; rw [upd_same] at e; rw [h]; exact e
    · rw [upd_ne q] at e; exact x.fh b u e, fun b hb fb => by
    have q : b ≠ p := fun z => hb (z ▸ n)
    rw [upd_ne q]; exact x.nw b hb fb⟩
theorem afterN_of {K : PySem.W.Frag} {W : WX} {σ : L2.St} {F H : Hp} {r : R D} {Q : VK} (h : after K W σ F H r Q) : afterN K W σ F H r Q := by
  cases r with
  | ok d =>
    intro p o F' H' x e c f n
    exact h (.ref p) (upd F' p o) H' (x.share e f n) (is_of_c upd_same (c.mono (same_upd f)))
  | ex x => exact h
  | st => exact h
theorem d_new {X : Cx} {F0 : Bs} {H0 : Hp} {m : List Bool} {W : WX} {e : Expr} {g : Rho → R D} (h : DN X F0 H0 m W e g) : DE X F0 H0 m W e g :=
  pe_imp h fun σ H Q ⟨ρ, F, r, q⟩ => ⟨ρ, F, r, afterN_of q⟩
section
variable {K : PySem.W.Frag} {F0 : Bs} {H0 F H F' H' : Hp} {m : List Bool} {W : WX} {ρ : Rho} {σ : L2.St} {g : Rho → R D} {Q : VK}
theorem afterN.ext {r : R D} (h : afterN K W σ F H r Q) (x : Ext F H F' H') : afterN K W σ F' H' r Q := by
  cases r with
  | ok d =>
    intro p o F2 H2 y e c f n
    refine h p o F2 H2 (x.trans y) e c f ?_
    cases q : H p with
    | none => rfl
    | some u => rw [x.hh p u q] at n; cases n
  | ex e => exact fun cls od F2 H2 y i => h cls od F2 H2 (x.trans y) i
  | st => exact h
theorem afterN.now {d : D} {p : Addr} {o : HO} (h : afterN K W σ F H (.ok d) Q) (s : Same F H) (n : H p = none) (c : IsC K F o d) : Q (.ref p) (upd H p o) :=
  h p o F (upd H p o) (.laid' s n) upd_same c (s.free n) n
theorem sem_bindN {k : D → R D} {Φ : VK} (r : Rep K F0 H0 m ρ σ F H) (h : afterN K W σ F H ((g ρ).bind k) Q)
    (f : ∀ d v F' H', Ext F H F' H' → Is K F' v d → Rep K F0 H0 m ρ σ F' H' → afterN K W σ F' H' (k d) Q → Φ v H') : tSem K F0 H0 m W g σ H Φ := by
  refine ⟨ρ, F, r, ?_⟩
  cases e : g ρ with
  | ok d =>
    rw [e] at h
    exact fun v F' H' x i => f d v F' H' x i (r.ext x) (afterN.ext h x)
  | ex x =>
    rw [e] at h
    exact h
  | st =>
    rw [e] at h
    exact h
theorem semA_bindN {ga : Rho → R (List D)} {k : List D → R D} {Φ : List V → Hp → Prop} (r : Rep K F0 H0 m ρ σ F H) (h : afterN K W σ F H ((ga ρ).bind k) Q)
    (f : ∀ ds vs F' H', Ext F H F' H' → IsL K F' vs ds → Rep K F0 H0 m ρ σ F' H' → afterN K W σ F' H' (k ds) Q → Φ vs H') : tSemA K F0 H0 m W ga σ H Φ := by
  refine ⟨ρ, F, r, ?_⟩
  cases e : ga ρ with
  | ok d =>
    rw [e] at h
    exact fun vs F' H' x i => f d vs F' H' x i (r.ext x) (afterN.ext h x)
  | ex x =>
    rw [e] at h
    exact h
  | st =>
    rw [e] at h
    exact h
end
section
variable {X : Cx} {F0 : Bs} {H0 : Hp} {m : List Bool} {W : WX} {pos : Pos} {a b e : Expr} {es : List Expr} {ga gb g : Rho → R D} {t : Rho → R (List D)}
theorem n_list (ha : DA X F0 H0 m W es t) : DN X F0 H0 m W (.List es pos) (gA lstD t) := by
  refine pe_imp (pe_lst ha) fun σ H Q ⟨ρ, F, r, h⟩ => semA_bindN (k := lstD) r h fun ds vs F1 H1 _ i1 r1 h1 => ?_
  unfold lstD at h1
  split at h1
  · rename_i hl
    exact ⟨by rw [i1.1]; exact hl, fun p hp => afterN.now h1 r1.fh hp (show IsC _ _ (.lst vs) (.list ds) from i1)⟩
  · exact h1.elim
/-- list(x), tuple(x) -/
def listD : List D → R D
  | [.list ds] => .ok (.list ds)
  | [.tup ds] => .ok (.list ds)
  | _ => .st
def tupleD : List D → R D
  | [.list ds] => .ok (.tup ds)
  | [.tup ds] => .ok (.tup ds)
  | _ => .st
theorem c_tuple {K : PySem.W.Frag} : CallD K tupleD (fun xs H Q => ∃ p ys, xs = [.ref p] ∧ ((SqL K H p ys ∧ ∀ l, H l = none → Q (.ref l) (upd H l (.tup ys))) ∨ (SqT K H p ys ∧ Q (.ref p) H))) := by
  intro W σ F H ds vs Q s l q
  match ds, l, q with
  | [.list es], l, q =>
    obtain ⟨v, rfl, i⟩ := one_of l
    obtain ⟨a, xs, rfl, h, t⟩ := i.list_inv
    refine ⟨a, xs, rfl, .inl ⟨s.seq h, fun p hp => ?_⟩⟩
    have x := Ext.laid (o := .tup xs) s hp
    exact q _ _ _ x (is_tup upd_same (t.mono x.ff))
  | [.tup es], l, q =>
    obtain ⟨v, rfl, i⟩ := one_of l
    obtain ⟨a, xs, rfl, h, t⟩ := i.tup_inv
    exact ⟨a, xs, rfl, .inr ⟨sameT s h, after.now q s i⟩⟩
def CallDN (K : PySem.W.Frag) (f : List D → R D) (r : List V → Hp → VK → Prop) : Prop :=
  ∀ (W : WX) (σ : L2.St) (F H : Hp) (ds : List D) (vs : List V) (Q : VK), Same F H → IsL K F vs ds → afterN K W σ F H (f ds) Q → r vs H Q
theorem c_list {K : PySem.W.Frag} : CallDN K listD (fun xs H Q => ∃ p ys, xs = [.ref p] ∧ (SqL K H p ys ∨ SqT K H p ys) ∧ ∀ l, H l = none → Q (.ref l) (upd H l (.lst ys))) := by
  intro W σ F H ds vs Q s l q
  match ds, l, q with
  | [.list es], l, q =>
    obtain ⟨v, rfl, i⟩ := one_of l
    obtain ⟨a, xs, rfl, h, t⟩ := i.list_inv
    exact ⟨a, xs, rfl, .inl (s.seq h), fun p hp => afterN.now q s hp (show IsC _ _ (.lst xs) (.list es) from t)⟩
  | [.tup es], l, q =>
    obtain ⟨v, rfl, i⟩ := one_of l
    obtain ⟨a, xs, rfl, h, t⟩ := i.tup_inv
    exact ⟨a, xs, rfl, .inr (sameT s h), fun p hp => afterN.now q s hp (show IsC _ _ (.lst xs) (.list es) from t)⟩
theorem n_callTy {x : Str} {p : Pos} {T : String} {f : List D → R D} {r : List V → Hp → VK → Prop} (hc : CallR X (.type T) r) (o : CallDN X.K f r) (hm : X.mg x = none) (ha : DA X F0 H0 m W (e :: es) t) (hg : Gl X x := by rfl) (hv : bootBuiltins x = some (.type T) := by decide +kernel) (hn : x ≠ "__name__" := by decide) (hdb : (x == ("__debug__" : Str)) = false := by decide)
    (he : starEach (e :: es) X.env = (false, eval e X.env) :: starEach es X.env := by rfl) (hpl : (backTo pos (starEach es X.env)).any (·.1) = false := by rfl) : DN X F0 H0 m W (.Call (.Name x p) (e :: es) [] pos) (gA f t) :=
  pe_imp (pe_callTy hc hg hm hv ha hn hdb he hpl) fun σ H Q ⟨ρ, F, r, h⟩ => semA_bindN (k := f) r h fun ds vs F1 H1 _ i1 r1 h1 => o W σ F1 H1 ds vs Q r1.fh i1 h1
/-- is: the slots that it stores -/
def tSemG (K : PySem.W.Frag) (F0 : Bs) (H0 : Hp) (m m' : List Bool) (is : List Nat) (τ : D → Rho → R Rho) : TG := fun v σ H Q => ∃ ρ F d, Rep K F0 H0 m ρ σ F H ∧ Is K F v d ∧ match τ d ρ with
  | .ok ρ' => ∀ σ', Rep K F0 H0 m' ρ' σ' F H → σ'.length = σ.length → (∀ j, j ∉ is → σ'[j]? = σ[j]?) → Q σ' H
  | _ => False
abbrev DG (X : Cx) (F0 : Bs) (H0 : Hp) (m m' : List Bool) (is : List Nat) (tg : Expr) (τ : D → Rho → R Rho) : Prop := PG X tg (tSemG X.K F0 H0 m m' is τ)
theorem pg_imp {tg : Expr} {t t' : TG} (h : PG X tg t) (f : ∀ v σ H Q, t' v σ H Q → t v σ H Q) : PG X tg t' := ⟨fun pins s σ H v u Q I r q => h.run pins s σ H v u Q I r (f v σ H Q q)⟩
def τName (i : Nat) : D → Rho → R Rho := fun d ρ => .ok (ρ.set i (some d))
theorem getElem?_set_cases {α : Type} {l : List α} {i j : Nat} {x y : α} (h : (l.set i x)[j]? = some y) : (j = i ∧ y = x ∧ i < l.length) ∨ (j ≠ i ∧ l[j]? = some y) := by
  by_cases hj : j = i
  · subst hj
    by_cases hl : j < l.length
    · rw [List.getElem?_set_self hl] at h
      exact .inl ⟨rfl, (Option.some.inj h).symm, hl⟩
    · rw [List.getElem?_eq_none (by simpa using hl)] at h
      cases h
  · rw [List.getElem?_set_ne (Ne.symm hj)] at h
    exact .inr ⟨hj, h⟩
theorem mset {m : List Bool} {i j : Nat} (h : (m.set i false)[j]? = some true) : j ≠ i ∧ m[j]? = some true := by
  rcases getElem?_set_cases h with ⟨_, z, _⟩ | z
  · cases z
  · exact z
theorem mset' {m : List Bool} {i j : Nat} (hj : j ≠ i) (b : Bool) : (m.set i b)[j]? = m[j]? := List.getElem?_set_ne (Ne.symm hj)
/-- a slot gets shared data -/
theorem Rep.set {K : PySem.W.Frag} {ρ : Rho} {σ : L2.St} {F H : Hp} {v : V} {d : D} (r : Rep K F0 H0 m ρ σ F H) (i : Nat) (hi : F0.ok i) (h : Is K F v d) : Rep K F0 H0 (m.set i false) (ρ.set i (some d)) (σ.set i (some v)) F H where
  len := by rw [List.length_set, List.length_set, r.len]
  fh := r.fh
  f0 := r.f0
  h0 := r.h0
  new := r.new
  val := fun j e a b => by
    rcases getElem?_set_cases a with ⟨rfl, z, hl⟩ | ⟨hj, z⟩
    · cases z
      exact ⟨v, by rw [List.getElem?_set_self (by rw [r.len]; exact hl)], h⟩
    · rw [List.getElem?_set_ne (Ne.symm hj)]
      exact r.val j e z (by rw [mset' hj] at b; exact b)
  own := fun j e a b => by
    obtain ⟨hj, b⟩ := mset b
    rw [List.getElem?_set_ne (Ne.symm hj)] at a ⊢
    exact r.own j e a b
  apart := fun j k p d1 e1 hjk a b c c' q => by
    obtain ⟨hj, a⟩ := mset a
    obtain ⟨hk, b⟩ := mset b
    rw [List.getElem?_set_ne (Ne.symm hj)] at c q
    rw [List.getElem?_set_ne (Ne.symm hk)] at c' ⊢
    exact r.apart j k p d1 e1 hjk a b c c' q
  bor := fun b hb => by
    obtain ⟨h1, h2, h3, h4⟩ := r.bor b hb
    have ne := hi b hb
    rw [mset' ne, List.getElem?_set_ne (Ne.symm ne), List.getElem?_set_ne (Ne.symm ne)]
    exact ⟨h1, h2, h3, h4⟩
theorem dg_name (i : Nat) {x : Str} (hN : X.N.Nodup) (hi : X.N[i]? = some x := by rfl) (hx : Loc X.env.scope x := by exact Or.inl rfl) (hb : F0.ok i := by exact Bs.ok_of rfl) (hf : X.fn x = true ∨ X.env.scope.names.lookup x = some .local := by first | exact .inl rfl | exact .inr rfl | assumption) :
    DG X F0 H0 m (m.set i false) [i] (.Name x pos) (τName i) := by
  refine pg_imp (pg_name hN hi hx hf) fun v σ H Q ⟨ρ, F, d, r, h, q⟩ => ?_
  exact q _ (r.set i hb h) (List.length_set ..) fun j hj => List.getElem?_set_ne (fun z => hj (by simp [z]))
/-- several -/
def tSemGs (K : PySem.W.Frag) (F0 : Bs) (H0 : Hp) (m m' : List Bool) (is : List Nat) (τ : List D → Rho → R Rho) : TGs := fun vs σ H Q => ∃ ρ F ds, Rep K F0 H0 m ρ σ F H ∧ IsL K F vs ds ∧ match τ ds ρ with
  | .ok ρ' => ∀ σ', Rep K F0 H0 m' ρ' σ' F H → σ'.length = σ.length → (∀ j, j ∉ is → σ'[j]? = σ[j]?) → Q σ' H
  | _ => False
abbrev DGs (X : Cx) (F0 : Bs) (H0 : Hp) (m m' : List Bool) (is : List Nat) (tg : List Expr) (τ : List D → Rho → R Rho) : Prop := PGs X tg (tSemGs X.K F0 H0 m m' is τ)
theorem pgs_imp {tg : List Expr} {t t' : TGs} (h : PGs X tg t) (f : ∀ v σ H Q, t' v σ H Q → t v σ H Q) : PGs X tg t' := ⟨fun pins s σ H v u Q I r q => h.run pins s σ H v u Q I r (f v σ H Q q)⟩
def τNil : List D → Rho → R Rho := fun ds ρ => match ds with
  | [] => .ok ρ
  | _ => .st
def τCons (τ : D → Rho → R Rho) (τs : List D → Rho → R Rho) : List D → Rho → R Rho := fun ds ρ => match ds with
  | d :: r => (τ d ρ).bind fun ρ1 => τs r ρ1
  | [] => .st
theorem dgs_nil : DGs X F0 H0 m m [] [] τNil := by
  refine pgs_imp pgs_nil fun vs σ H Q ⟨ρ, F, ds, r, l, q⟩ => ?_
  cases ds with
  | nil => exact ⟨l.unnil, q σ r rfl fun _ _ => rfl⟩
  | cons d ds => exact q.elim
theorem dgs_cons {m1 m2 : List Bool} {is is2 : List Nat} {τ : D → Rho → R Rho} {τs : List D → Rho → R Rho} (h1 : DG X F0 H0 m m1 is e τ) (h2 : DGs X F0 H0 m1 m2 is2 es τs)
    (hs : (assignEach (e :: es) X.env).map (·.2) = assign e X.env :: (assignEach es X.env).map (·.2) := by rfl) : DGs X F0 H0 m m2 (is ++ is2) (e :: es) (τCons τ τs) := by
  refine pgs_imp (pgs_cons h1 h2 hs) fun vs σ H Q ⟨ρ, F, ds, r, l, q⟩ => ?_
  cases ds with
  | nil => exact q.elim
  | cons d ds =>
    obtain ⟨v, vr, rfl, i, t⟩ := l.uncons
    refine ⟨v, vr, rfl, ρ, F, d, r, i, ?_⟩
    have q' : match (τ d ρ).bind fun ρ1 => τs ds ρ1 with
      | .ok ρ' => ∀ σ', Rep X.K F0 H0 m2 ρ' σ' F H → σ'.length = σ.length → (∀ j, j ∉ is ++ is2 → σ'[j]? = σ[j]?) → Q σ' H
      | _ => False := q
    cases z : τ d ρ with
    | ok ρ1 =>
      rw [z] at q'
      intro σ1 r1 l1 k1
      refine ⟨ρ1, F, ds, r1, t, ?_⟩
      have q2 : match τs ds ρ1 with
        | .ok ρ' => ∀ σ', Rep X.K F0 H0 m2 ρ' σ' F H → σ'.length = σ.length → (∀ j, j ∉ is ++ is2 → σ'[j]? = σ[j]?) → Q σ' H
        | _ => False := q'
      cases z2 : τs ds ρ1 with
      | ok ρ2 =>
        rw [z2] at q2
        intro σ2 r2 l2 k2
        exact q2 σ2 r2 (l2.trans l1) fun j hj => (k2 j fun w => hj (List.mem_append_right _ w)).trans (k1 j fun w => hj (List.mem_append_left _ w))
      | ex x => rw [z2] at q2; exact q2.elim
      | st => rw [z2] at q2; exact q2.elim
    | ex x => rw [z] at q'; exact q'.elim
    | st => rw [z] at q'; exact q'.elim
def τTup (n : Nat) (τs : List D → Rho → R Rho) : D → Rho → R Rho := fun d ρ => match d with
  | .tup ds => if ds.length = n then τs ds ρ else .st
  | _ => .st
theorem dg_tup {m' : List Bool} {is : List Nat} {τs : List D → Rho → R Rho} {k : Nat} {n : Nat} (hc : X.calm = true) (h : DGs X F0 H0 m m' is es τs)
    (hn : (assignEach es X.env).length = n := by rfl) (hst : (assignEach es X.env).findIdx? (·.1) = none := by rfl) : DG X F0 H0 m m' is (.Tuple es k pos) (τTup n τs) := by
  refine pg_imp (pg_tup hc h hn hst) fun v σ H Q ⟨ρ, F, d, r, i, q⟩ => ?_
  cases d with
  | tup ds =>
    obtain ⟨a, xs, rfl, hp, l⟩ := i.tup_inv
    have q' : match (if ds.length = n then τs ds ρ else .st) with
      | .ok ρ' => ∀ σ', Rep X.K F0 H0 m' ρ' σ' F H → σ'.length = σ.length → (∀ j, j ∉ is → σ'[j]? = σ[j]?) → Q σ' H
      | _ => False := q
    by_cases hd : ds.length = n
    · rw [if_pos hd] at q'
      exact ⟨a, xs, rfl, sameT r.fh hp, l.1.trans hd, ρ, F, ds, r, l, q'⟩
    · rw [if_neg hd] at q'
      exact q'.elim
  | _ => exact q.elim
/-- the iterator J yields these -/
def Yl (K : PySem.W.Frag) (J : It) (items : List D) (F : Hp) : Prop := ∀ (i : Nat) (F1 H1 : Hp), Same F F1 → Same F1 H1 →
  (i < items.length → J.go i H1 ∧ ∀ x H2, J.yld i H1 x H2 → ∃ F2 d, items[i]? = some d ∧ Ext F1 H1 F2 H2 ∧ Is K F2 x d) ∧ (items.length ≤ i → J.stop i H1)
def tSemI (K : PySem.W.Frag) (F0 : Bs) (H0 : Hp) (m : List Bool) (W : WX) (g : Rho → R (List D)) : TI := fun σ H Q => ∃ ρ F, Rep K F0 H0 m ρ σ F H ∧ match g ρ with
  | .ok items => ∀ J F' H', Ext F H F' H' → Yl K J items F' → Q J H'
  | .ex x => ∀ cls od F' H', Ext F H F' H' → IsX K F' x cls od → W cls od σ H'
  | .st => False
abbrev DI (X : Cx) (F0 : Bs) (H0 : Hp) (m : List Bool) (W : WX) (tg e : Expr) (g : Rho → R (List D)) : Prop := PI X tg e (tSemI X.K F0 H0 m W g)
theorem pi_imp {tg e : Expr} {t t' : TI} (h : PI X tg e t) (f : ∀ σ H Q, t' σ H Q → t σ H Q) : PI X tg e t' := ⟨fun pins s σ H Q I q => h.run pins s σ H Q I (f σ H Q q)⟩
theorem pi_or2 {tg e : Expr} {t t' : TI} (h : PI X tg e t) (h' : PI X tg e t') : PI X tg e (fun σ H Q => t σ H Q ∨ t' σ H Q) := ⟨fun pins s σ H Q I q => q.elim (h.run pins s σ H Q I) (h'.run pins s σ H Q I)⟩
theorem yl_list {K : PySem.W.Frag} {a : Addr} {xs : List V} {ds : List D} {F : Hp} (h : SqL K F a xs) (l : IsL K F xs ds) : Yl K (Itl K a) ds F := by
  intro i F1 H1 s1 s2
  have h1 : SqL K H1 a xs := (s1.trans s2).seq h
  refine ⟨fun hi => ?_, fun hi => ⟨xs, h1, by rw [l.1]; exact hi⟩⟩
  obtain ⟨x, hx, ix⟩ := l.at (i := i) (d := ds[i]) (by simp [hi])
  refine ⟨⟨xs, x, h1, hx⟩, fun y H2 ⟨e, k⟩ => ?_⟩
  subst e
  have e1 := k xs h1
  rw [hx] at e1
  cases e1
  exact ⟨F1, ds[i], by simp [hi], .refl s2, ix.mono s1⟩
theorem yl_tup {K : PySem.W.Frag} {a : Addr} {xs : List V} {ds : List D} {F : Hp} (h : SqT K F a xs) (l : IsL K F xs ds) : Yl K (Itt K a) ds F := by
  intro i F1 H1 s1 s2
  have h1 : SqT K H1 a xs := sameT (s1.trans s2) h
  refine ⟨fun hi => ?_, fun hi => ⟨xs, h1, by rw [l.1]; exact hi⟩⟩
  obtain ⟨x, hx, ix⟩ := l.at (i := i) (d := ds[i]) (by simp [hi])
  refine ⟨⟨xs, x, h1, hx⟩, fun y H2 ⟨e, k⟩ => ?_⟩
  subst e
  have e1 := k xs h1
  rw [hx] at e1
  cases e1
  exact ⟨F1, ds[i], by simp [hi], .refl s2, ix.mono s1⟩
def signs (s : Str) : List D := s.cps.toList.map fun c => .str ⟨#[c]⟩
theorem yl_str {K : PySem.W.Frag} {s : Str} {F : Hp} : Yl K (Its s) (signs s) F := by
  intro i F1 H1 s1 s2
  have hl : (signs s).length = s.cps.size := by unfold signs; rw [List.length_map, Array.length_toList]
  refine ⟨fun hi => ?_, fun hi => by rw [hl] at hi; exact hi⟩
  rw [hl] at hi
  refine ⟨hi, fun y H2 ⟨e, c, hc, k⟩ => ?_⟩
  subst e k
  exact ⟨F1, .str ⟨#[c]⟩, by unfold signs; rw [List.getElem?_map, Array.getElem?_toList, hc]; rfl, .refl s2, .str _⟩
def itemsD : D → R (List D)
  | .list ds => .ok ds
  | .tup ds => .ok ds
  | .str s => .ok (signs s)
  | _ => .st
def iSeq (g : Rho → R D) : Rho → R (List D) := fun ρ => (g ρ).bind itemsD
theorem di_seq {tg : Expr} (h : DE X F0 H0 m W e g) : DI X F0 H0 m W tg e (iSeq g) := by
  refine pi_imp (pi_or2 (pi_list h) (pi_or2 (pi_tup h) (pi_str h))) fun σ H Q ⟨ρ, F, r, q⟩ => ?_
  unfold iSeq at q
  cases z : g ρ with
  | ok d =>
    rw [z] at q
    cases d with
    | list ds =>
      refine .inl ⟨ρ, F, r, ?_⟩
      rw [z]
      intro v F' H' x i
      obtain ⟨a, xs, rfl, hp, l⟩ := i.list_inv
      exact ⟨a, rfl, ⟨xs, x.fh.seq hp⟩, q (Itl X.K a) F' H' x (yl_list hp l)⟩
    | tup ds =>
      refine .inr (.inl ⟨ρ, F, r, ?_⟩)
      rw [z]
      intro v F' H' x i
      obtain ⟨a, xs, rfl, hp, l⟩ := i.tup_inv
      exact ⟨a, rfl, ⟨xs, sameT x.fh hp⟩, q (Itt X.K a) F' H' x (yl_tup hp l)⟩
    | str s =>
      refine .inr (.inr ⟨ρ, F, r, ?_⟩)
      rw [z]
      intro v F' H' x i
      cases i
      exact ⟨s, rfl, q (Its s) F' H' x yl_str⟩
    | _ => exact q.elim
  | ex x =>
    rw [z] at q
    refine .inl ⟨ρ, F, r, ?_⟩
    rw [z]
    exact q
  | st =>
    rw [z] at q
    exact q.elim
def rngL (lo : Int) (n : Nat) : List D := (List.range n).map fun (k : Nat) => .int (lo + k)
theorem yl_range {K : PySem.W.Frag} {lo : Int} {n : Nat} {F : Hp} : Yl K (Itr lo n) (rngL lo n) F := by
  intro i F1 H1 s1 s2
  have hl : (rngL lo n).length = n := by unfold rngL; simp
  refine ⟨fun hi => ?_, fun hi => by rw [hl] at hi; exact hi⟩
  rw [hl] at hi
  refine ⟨hi, fun y H2 ⟨e, k⟩ => ?_⟩
  subst e k
  refine ⟨F1, .int (lo + i), ?_, .refl s2, .int _⟩
  unfold rngL
  rw [List.getElem?_map, List.getElem?_range hi]
  rfl
def small62 (i : Int) : Bool := decide (-(2 ^ 62) ≤ i) && decide (i < 2 ^ 62)
def afterI (K : PySem.W.Frag) (W : WX) (σ : L2.St) (F H : Hp) (r : R (List D)) (Q : It → Hp → Prop) : Prop := match r with
  | .ok items => ∀ J F' H', Ext F H F' H' → Yl K J items F' → Q J H'
  | .ex x => ∀ cls od F' H', Ext F H F' H' → IsX K F' x cls od → W cls od σ H'
  | .st => False
theorem afterI.ext {K : PySem.W.Frag} {σ : L2.St} {F H F' H' : Hp} {Q : It → Hp → Prop} {r : R (List D)} (h : afterI K W σ F H r Q) (x : Ext F H F' H') : afterI K W σ F' H' r Q := by
  cases r with
  | ok d => exact fun J F2 H2 y i => h J F2 H2 (x.trans y) i
  | ex e => exact fun cls od F2 H2 y i => h cls od F2 H2 (x.trans y) i
  | st => exact h
/-- arguments, then what is walked -/
theorem semA_I {K : PySem.W.Frag} {σ : L2.St} {F H : Hp} {ρ : Rho} {f : List D → R (List D)} {Q : It → Hp → Prop} {Φ : List V → Hp → Prop} (r : Rep K F0 H0 m ρ σ F H) (h : afterI K W σ F H ((t ρ).bind f) Q)
    (k : ∀ ds vs F' H', Ext F H F' H' → IsL K F' vs ds → Rep K F0 H0 m ρ σ F' H' → afterI K W σ F' H' (f ds) Q → Φ vs H') : tSemA K F0 H0 m W t σ H Φ := by
  refine ⟨ρ, F, r, ?_⟩
  cases e : t ρ with
  | ok d =>
    rw [e] at h
    exact fun vs F' H' x i => k d vs F' H' x i (r.ext x) (afterI.ext h x)
  | ex x =>
    rw [e] at h
    exact h
  | st =>
    rw [e] at h
    exact h
def iA (f : List D → R (List D)) (t : Rho → R (List D)) : Rho → R (List D) := fun ρ => (t ρ).bind f
def rangeD1 : List D → R (List D)
  | [.int j] => if small62 j = true then .ok (rngL 0 j.toNat) else .st
  | _ => .st
theorem di_range1 {tg : Expr} {p : Pos} (hm : X.mg "range" = none) (ha : DA X F0 H0 m W [a] t) (hg : Gl X "range" := by rfl) (hs : starEach [a] X.env = [(false, eval a X.env)] := by rfl) : DI X F0 H0 m W tg (.Call (.Name "range" p) [a] [] pos) (iA rangeD1 t) := by
  refine pi_imp (pi_range1 hg hm ha hs) fun σ H Q ⟨ρ, F, r, q⟩ => semA_I (f := rangeD1) r q fun ds vs F1 H1 _ l r1 q1 => ?_
  match ds, l, q1 with
  | [.int j], l, q1 =>
    obtain ⟨v, rfl, i⟩ := one_of l
    cases i
    have q' : afterI X.K W σ F1 H1 (if small62 j = true then .ok (rngL 0 j.toNat) else .st) Q := q1
    by_cases hj : small62 j = true
    · rw [if_pos hj] at q'
      simp only [small62, Bool.and_eq_true, decide_eq_true_eq] at hj
      exact ⟨j, rfl, hj.1, hj.2, q' _ F1 H1 (.refl r1.fh) yl_range⟩
    · rw [if_neg hj] at q'
      exact q'.elim
/-- zip of two lists -/
def zipL : List D → List D → List D
  | a :: as, b :: bs => .tup [a, b] :: zipL as bs
  | _, _ => []
theorem zipL_at : ∀ (as bs : List D) (i : Nat), (zipL as bs)[i]? = (match as[i]?, bs[i]? with | some a, some b => some (.tup [a, b]) | _, _ => none)
  | [], bs, i => by cases bs <;> simp [zipL]
  | a :: as, [], i => by simp [zipL]
  | a :: as, b :: bs, 0 => rfl
  | a :: as, b :: bs, i + 1 => by
    show (zipL as bs)[i]? = _
    rw [zipL_at as bs i]
    rfl
theorem zipL_len : ∀ (as bs : List D), (zipL as bs).length = min as.length bs.length
  | [], bs => by cases bs <;> simp [zipL]
  | a :: as, [] => by simp [zipL]
  | a :: as, b :: bs => by
    show (zipL as bs).length + 1 = _
    rw [zipL_len as bs]
    simp only [List.length_cons]
    omega
def zipD : List D → R (List D)
  | [.list as, .list bs] => .ok (zipL as bs)
  | _ => .st
theorem yl_zip {K : PySem.W.Frag} {a b : Addr} {xs ys : List V} {as bs : List D} {F : Hp} (h : SqL K F a xs) (l : IsL K F xs as) (h' : SqL K F b ys) (l' : IsL K F ys bs) : Yl K (Itz K a b) (zipL as bs) F := by
  intro i F1 H1 s1 s2
  have h1 : SqL K H1 a xs := (s1.trans s2).seq h
  have h2 : SqL K H1 b ys := (s1.trans s2).seq h'
  rw [zipL_len]
  refine ⟨fun hi => ?_, fun hi => ⟨xs, ys, h1, h2, by have := l.1; have := l'.1; omega⟩⟩
  obtain ⟨x, hx, ix⟩ := l.at (i := i) (d := as[i]'(by omega)) (List.getElem?_eq_getElem _)
  obtain ⟨y, hy, iy⟩ := l'.at (i := i) (d := bs[i]'(by omega)) (List.getElem?_eq_getElem _)
  refine ⟨⟨xs, ys, x, y, h1, h2, hx, hy⟩, fun v H2 ⟨T, x', y', e, hT, e2, k1, k2⟩ => ?_⟩
  subst e e2
  have e3 := k1 xs h1
  rw [hx] at e3
  cases e3
  have e4 := k2 ys h2
  rw [hy] at e4
  cases e4
  have xe := Ext.laid (o := .tup [x, y]) s2 hT
  refine ⟨_, .tup [as[i]'(by omega), bs[i]'(by omega)], ?_, xe, is_tup upd_same (IsL.cons ((ix.mono s1).mono xe.ff) (IsL.cons ((iy.mono s1).mono xe.ff) .nil))⟩
  rw [zipL_at, List.getElem?_eq_getElem (by omega), List.getElem?_eq_getElem (by omega)]
theorem di_zip {p tpos : Pos} {elts : List Expr} {kk : Nat} (hm : X.mg "zip" = none) (ha : DA X F0 H0 m W [a, b] t) (hg : Gl X "zip" := by rfl)
    (hs : starEach [a, b] X.env = (false, eval a X.env) :: starEach [b] X.env := by rfl) (hpl : (backTo pos (starEach [b] X.env)).any (·.1) = false := by rfl) : DI X F0 H0 m W (.Tuple elts kk tpos) (.Call (.Name "zip" p) [a, b] [] pos) (iA zipD t) := by
  refine pi_imp (pi_zip hg hm ha hs hpl) fun σ H Q ⟨ρ, F, r, q⟩ => semA_I (f := zipD) r q fun ds vs F1 H1 _ l r1 q1 => ?_
  match ds, l, q1 with
  | [.list as, .list bs], l, q1 =>
    obtain ⟨v, u, rfl, z1, z2⟩ := two_of l
    obtain ⟨a1, xs, rfl, h1, l1⟩ := z1.list_inv
    obtain ⟨b1, ys, rfl, h2, l2⟩ := z2.list_inv
    exact ⟨a1, b1, xs, ys, rfl, r1.fh.seq h1, r1.fh.seq h2, q1 _ F1 H1 (.refl r1.fh) (yl_zip h1 l1 h2 l2)⟩
/-- enumerate of a list -/
def enumL : Nat → List D → List D
  | _, [] => []
  | k, d :: ds => .tup [.int k, d] :: enumL (k + 1) ds
theorem enumL_at : ∀ (ds : List D) (k i : Nat), (enumL k ds)[i]? = (ds[i]?).map fun d => .tup [.int ((k + i : Nat) : Int), d]
  | [], k, i => by simp [enumL]
  | d :: ds, k, 0 => rfl
  | d :: ds, k, i + 1 => by
    show (enumL (k + 1) ds)[i]? = _
    rw [enumL_at ds (k + 1) i, show k + 1 + i = k + (i + 1) by omega]
    rfl
theorem enumL_len : ∀ (ds : List D) (k : Nat), (enumL k ds).length = ds.length
  | [], k => rfl
  | d :: ds, k => by
    show (enumL (k + 1) ds).length + 1 = _
    rw [enumL_len ds (k + 1)]
    rfl
def enumD : List D → R (List D)
  | [.list ds] => .ok (enumL 0 ds)
  | _ => .st
theorem yl_enum {K : PySem.W.Frag} {a : Addr} {xs : List V} {ds : List D} {F : Hp} (h : SqL K F a xs) (l : IsL K F xs ds) : Yl K (Ite K a) (enumL 0 ds) F := by
  intro i F1 H1 s1 s2
  have h1 : SqL K H1 a xs := (s1.trans s2).seq h
  rw [enumL_len]
  refine ⟨fun hi => ?_, fun hi => ⟨xs, h1, by have := l.1; omega⟩⟩
  obtain ⟨x, hx, ix⟩ := l.at (i := i) (d := ds[i]'(by omega)) (List.getElem?_eq_getElem _)
  refine ⟨⟨xs, x, h1, hx⟩, fun v H2 y => ?_⟩
  obtain ⟨T, x', e, hT, e2, k1⟩ := y
  subst e e2
  have e3 := k1 xs h1
  rw [hx] at e3
  cases e3
  have xe := Ext.laid (o := .tup [.int (i : Nat), x]) s2 hT
  refine ⟨_, .tup [.int (i : Nat), ds[i]'(by omega)], ?_, xe, is_tup upd_same (IsL.cons (.int _) (IsL.cons ((ix.mono s1).mono xe.ff) .nil))⟩
  rw [enumL_at, List.getElem?_eq_getElem (by omega)]
  simp
theorem di_enum {p tpos : Pos} {elts : List Expr} {kk : Nat} (hm : X.mg "enumerate" = none) (ha : DA X F0 H0 m W [a] t) (hg : Gl X "enumerate" := by rfl)
    (hs : starEach [a] X.env = [(false, eval a X.env)] := by rfl) : DI X F0 H0 m W (.Tuple elts kk tpos) (.Call (.Name "enumerate" p) [a] [] pos) (iA enumD t) := by
  refine pi_imp (pi_enum hg hm ha hs) fun σ H Q ⟨ρ, F, r, q⟩ => semA_I (f := enumD) r q fun ds vs F1 H1 _ l r1 q1 => ?_
  match ds, l, q1 with
  | [.list as], l, q1 =>
    obtain ⟨v, rfl, z1⟩ := one_of l
    obtain ⟨a1, xs, rfl, h1, l1⟩ := z1.list_inv
    exact ⟨a1, xs, rfl, r1.fh.seq h1, q1 _ F1 H1 (.refl r1.fh) (yl_enum h1 l1)⟩
end
end Pd
namespace Pd
open PySem PySem.Spec PyProof.Rows L2
def noX {α : Type} : R α → R α
  | .ok a => .ok a
  | _ => .st
def wipeR (ρ : Rho) : List Nat → Rho
  | [] => ρ
  | v :: vs => (wipeR ρ vs).set v none
/-- one after another: target, test, element -/
def lcR (τ : D → Rho → R Rho) (p : Rho → R Bool) (ge : Rho → R D) (ρ : Rho) : List D → R (List D)
  | [] => .ok []
  | d :: ds => (τ d ρ).bind fun ρ1 => (p ρ1).bind fun k => if k = true then (ge ρ1).bind fun y => (lcR τ p ge ρ ds).bind fun ys => .ok (y :: ys) else lcR τ p ge ρ ds
def gLc (gi : Rho → R (List D)) (vs : List Nat) (τ : D → Rho → R Rho) (p : Rho → R Bool) (ge : Rho → R D) : Rho → R D := fun ρ => (gi ρ).bind fun items =>
  if items.length ≤ sizeLine then (noX (lcR τ p ge (wipeR ρ vs) items)).bind fun ys => .ok (.list ys) else .st
def W0 : WX := fun _ _ _ _ => False
def bYes : Rho → R Bool := fun _ => .ok true
theorem Rep.wipe1 {K : PySem.W.Frag} {F0 : Bs} {H0 F H : Hp} {m : List Bool} {ρ : Rho} {σ : L2.St} (r : Rep K F0 H0 m ρ σ F H) (i : Nat) (hi : F0.ok i) : Rep K F0 H0 m (ρ.set i none) (σ.set i none) F H where
  len := by rw [List.length_set, List.length_set, r.len]
  fh := r.fh
  f0 := r.f0
  h0 := r.h0
  new := r.new
  val := fun j e a b => by
    rcases getElem?_set_cases a with ⟨_, z, _⟩ | ⟨hj, z⟩
    · cases z
    · rw [List.getElem?_set_ne (Ne.symm hj)]
      exact r.val j e z b
  own := fun j e a b => by
    rcases getElem?_set_cases a with ⟨_, z, _⟩ | ⟨hj, z⟩
    · cases z
    · rw [List.getElem?_set_ne (Ne.symm hj)]
      exact r.own j e z b
  apart := fun j k p d1 e1 hjk a b c c' q => by
    rcases getElem?_set_cases c with ⟨_, z, _⟩ | ⟨hj, z⟩
    · cases z
    · rcases getElem?_set_cases c' with ⟨_, z', _⟩ | ⟨hk, z'⟩
      · cases z'
      · rw [List.getElem?_set_ne (Ne.symm hj)] at q
        rw [List.getElem?_set_ne (Ne.symm hk)]
        exact r.apart j k p d1 e1 hjk a b z z' q
  bor := fun b hb => by
    obtain ⟨h1, h2, h3, h4⟩ := r.bor b hb
    have ne := hi b hb
    rw [List.getElem?_set_ne (Ne.symm ne), List.getElem?_set_ne (Ne.symm ne)]
    exact ⟨h1, h2, h3, h4⟩
theorem ok_all {B : Bs} {vs : List Nat} (h : (vs.all fun i => B.bor.all fun b => !(b.1 == i)) = true) : ∀ v ∈ vs, B.ok v := fun v hv => Bs.ok_of (List.all_eq_true.mp h v hv)
theorem Rep.wipe {K : PySem.W.Frag} {F0 : Bs} {H0 F H : Hp} {m : List Bool} {ρ : Rho} {σ : L2.St} (r : Rep K F0 H0 m ρ σ F H) : ∀ vs : List Nat, (∀ v ∈ vs, F0.ok v) → Rep K F0 H0 m (wipeR ρ vs) (L2.wipe σ vs) F H
  | [], _ => r
  | v :: vs, h => (r.wipe vs fun u hu => h u (by simp [hu])).wipe1 v (h v (by simp))
theorem wipe_same {σ σ2 : L2.St} (l : σ2.length = σ.length) : ∀ {vs : List Nat}, (∀ j, j ∉ vs → σ2[j]? = (L2.wipe σ vs)[j]?) → L2.wipe σ2 vs = L2.wipe σ vs := by
  intro vs h
  apply List.ext_getElem?
  intro j
  have key : ∀ (us : List Nat) (s : L2.St), j ∈ us → (L2.wipe s us)[j]? = if j < s.length then some none else none := by
    intro us s
    induction us with
    | nil => intro hj; cases hj
    | cons u us ih =>
      intro hj
      unfold L2.wipe
      by_cases e : j = u
      · subst e
        by_cases hl : j < s.length
        · rw [if_pos hl, List.getElem?_set_self (by rw [wipe_length]; exact hl)]
        · rw [if_neg hl, List.getElem?_eq_none (by rw [List.length_set, wipe_length]; omega)]
      · rw [List.getElem?_set_ne (Ne.symm e)]
        exact ih ((List.mem_cons.mp hj).resolve_left e)
  have key2 : ∀ (us : List Nat) (s : L2.St), j ∉ us → (L2.wipe s us)[j]? = s[j]? := by
    intro us s
    induction us with
    | nil => intro _; rfl
    | cons u us ih =>
      intro hj
      unfold L2.wipe
      rw [List.getElem?_set_ne (fun e => hj (by simp [e]))]
      exact ih fun z => hj (List.mem_cons_of_mem _ z)
  by_cases hj : j ∈ vs
  · rw [key vs σ2 hj, key vs σ hj, l]
  · rw [key2 vs σ2 hj, h j hj]
section
variable {X : Cx} {F0 : Bs} {H0 : Hp} {m m' : List Bool} {W : WX} {pos : Pos} {elt tg iter : Expr} {ifs : List Expr} {gi : Rho → R (List D)} {τ : D → Rho → R Rho} {p : Rho → R Bool} {ge : Rho → R D}
abbrev DTs (X : Cx) (F0 : Bs) (H0 : Hp) (m : List Bool) (W : WX) (es : List Expr) (g : Rho → R Bool) : Prop := PTs X es (tSemT X.K F0 H0 m W g)
theorem pts_imp {es : List Expr} {t t' : TT} (h : PTs X es t) (f : ∀ σ H Q, t' σ H Q → t σ H Q) : PTs X es t' := ⟨fun pins s σ H Q I q => h.run pins s σ H Q I (f σ H Q q)⟩
theorem dts_nil : DTs X F0 H0 m W [] bYes := pts_imp pts_nil fun σ H Q ⟨ρ, F, r, h⟩ => h F H (.refl r.fh)
theorem lc_sem {K : PySem.W.Frag} {is vs : List Nat} (hw : ∀ v ∈ vs, F0.ok v) (hv : ∀ i ∈ is, i ∈ vs) (σ : L2.St) (H : Hp) (Q : VK) (h : tSemN K F0 H0 m W (gLc gi vs τ p ge) σ H Q) :
    tLc (tSemI K F0 H0 m W gi) (tSemG K F0 H0 m m' is τ) (tSemT K F0 H0 m' W0 p) (tSem K F0 H0 m' W0 ge) vs σ H Q := by
  obtain ⟨ρ, F, r, h⟩ := h
  unfold gLc at h
  refine ⟨ρ, F, r, ?_⟩
  cases z : gi ρ with
  | ex x =>
    rw [z] at h
    exact h
  | st =>
    rw [z] at h
    exact h.elim
  | ok items =>
    rw [z] at h
    intro J F1 H1 x1 y1 Dn hD
    have h1 : afterN K W σ F H (if items.length ≤ sizeLine then (noX (lcR τ p ge (wipeR ρ vs) items)).bind fun ys => .ok (.list ys) else .st) Q := h
    by_cases hz : items.length ≤ sizeLine
    · rw [if_pos hz] at h1
      cases e : lcR τ p ge (wipeR ρ vs) items with
      | ex x => rw [e] at h1; exact h1.elim
      | st => rw [e] at h1; exact h1.elim
      | ok ys =>
        rw [e] at h1
        have r1 := r.ext x1
        -- the invariant
        refine ⟨fun i mm Hc => ∃ Fc acc done rest, Ext F1 H1 Fc Hc ∧ Fc Dn = none ∧ Hc Dn = some (.lst acc) ∧ IsL K Fc acc done ∧ done.length ≤ i ∧ lcR τ p ge (wipeR ρ vs) (items.drop i) = .ok rest ∧ done ++ rest = ys ∧ i ≤ items.length ∧ mm = items.length - i,
          ⟨items.length, F1, [], [], ys, .laid' x1.fh hD, x1.fh.free hD, upd_same, .nil, Nat.le_refl _, e, rfl, Nat.zero_le _, rfl⟩, ?_⟩
        rintro i mm Hc ⟨Fc, acc, done, rest, xc, fD, hDc, ic, dl, ec, ey, hi, rfl⟩
        have x2 := x1.trans xc
        have yc := y1 i Fc Hc xc.ff xc.fh
        by_cases hlt : i < items.length
        · obtain ⟨go, yld⟩ := yc.1 hlt
          refine .inr ⟨go, fun Hn => ∃ Fc acc done rest, Ext F1 H1 Fc Hn ∧ Fc Dn = none ∧ Hn Dn = some (.lst acc) ∧ IsL K Fc acc done ∧ done.length ≤ i + 1 ∧ lcR τ p ge (wipeR ρ vs) (items.drop (i + 1)) = .ok rest ∧ done ++ rest = ys, fun Hn ⟨Fc, acc, done, rest, q1, q2, q3, q4, q5, q6, q7⟩ =>
            ⟨items.length - (i + 1), by omega, Fc, acc, done, rest, q1, q2, q3, q4, q5, q6, q7, hlt, rfl⟩, fun x Hy y => ?_⟩
          obtain ⟨F2, d, hd, xe, ix⟩ := yld x Hy y
          have ed : items.drop i = d :: items.drop (i + 1) := by
            rw [List.drop_eq_getElem_cons hlt]
            rw [List.getElem?_eq_getElem hlt] at hd
            rw [Option.some.inj hd]
          rw [ed] at ec
          have fD2 : F2 Dn = none := xe.nw Dn (by rw [hDc]; simp) fD
          have hD2 : Hy Dn = some (.lst acc) := xe.hh _ _ hDc
          have r2 := ((r1.ext xc).ext xe).wipe vs hw
          refine ⟨wipeR ρ vs, F2, d, r2, ix, ?_⟩
          have ec' : ((τ d (wipeR ρ vs)).bind fun ρ1 => (p ρ1).bind fun k => if k = true then (ge ρ1).bind fun y => (lcR τ p ge (wipeR ρ vs) (items.drop (i + 1))).bind fun ys => .ok (y :: ys) else lcR τ p ge (wipeR ρ vs) (items.drop (i + 1))) = .ok rest := ec
          cases e1 : τ d (wipeR ρ vs) with
          | ex x => rw [e1] at ec'; cases ec'
          | st => rw [e1] at ec'; cases ec'
          | ok ρ1 =>
            rw [e1] at ec'
            intro σ1 r3 l3 k3
            refine ⟨wipe_same (by rw [l3, wipe_length]) fun j hj => k3 j fun z => hj (hv j z), ρ1, F2, r3, ?_⟩
            have ec2 : ((p ρ1).bind fun k => if k = true then (ge ρ1).bind fun y => (lcR τ p ge (wipeR ρ vs) (items.drop (i + 1))).bind fun ys => .ok (y :: ys) else lcR τ p ge (wipeR ρ vs) (items.drop (i + 1))) = .ok rest := ec'
            cases e2 : p ρ1 with
            | ex x => rw [e2] at ec2; cases ec2
            | st => rw [e2] at ec2; cases ec2
            | ok k =>
              rw [e2] at ec2
              intro F3 H3 x3
              have x4 := (xc.trans xe).trans x3
              have fD3 : F3 Dn = none := x3.nw Dn (by rw [hD2]; simp) fD2
              have hD3 : H3 Dn = some (.lst acc) := x3.hh _ _ hD2
              cases k with
              | false =>
                refine iteF ⟨F3, acc, done, rest, x4, fD3, hD3, (ic.mono xe.ff).mono x3.ff, by omega, ec2, ey⟩
              | true =>
                refine iteT ⟨ρ1, F3, r3.ext x3, ?_⟩
                have ec3 : ((ge ρ1).bind fun y => (lcR τ p ge (wipeR ρ vs) (items.drop (i + 1))).bind fun ys => .ok (y :: ys)) = .ok rest := ec2
                cases e3 : ge ρ1 with
                | ex x => rw [e3] at ec3; cases ec3
                | st => rw [e3] at ec3; cases ec3
                | ok y =>
                  rw [e3] at ec3
                  intro v F4 H4 x5 iv
                  have fD4 : F4 Dn = none := x5.nw Dn (by rw [hD3]; simp) fD3
                  have hD4 : H4 Dn = some (.lst acc) := x5.hh _ _ hD3
                  have i4 := ((ic.mono xe.ff).mono x3.ff).mono x5.ff
                  have ec4 : ((lcR τ p ge (wipeR ρ vs) (items.drop (i + 1))).bind fun ys => R.ok (y :: ys)) = .ok rest := ec3
                  cases e4 : lcR τ p ge (wipeR ρ vs) (items.drop (i + 1)) with
                  | ex x => rw [e4] at ec4; cases ec4
                  | st => rw [e4] at ec4; cases ec4
                  | ok ys2 =>
                    rw [e4] at ec4
                    injection ec4 with ec4
                    refine ⟨acc, hD4, by have := ic.1; omega, F4, acc ++ [v], done ++ [y], ys2, ?_, fD4, upd_same, i4.snoc iv, by simp; omega, rfl, ?_⟩
                    · have x6 := x4.trans x5
                      refine ⟨x6.ff, fun b u eb => ?_, fun b u eb => ?_, x6.nw⟩
                      · rw [upd_ne (ne_of_none eb hD)]
                        exact x6.hh b u eb
                      · rw [upd_ne (ne_of_none eb fD4)]
                        exact x6.fh b u eb
                    · rw [List.append_assoc, List.singleton_append, ec4]
                      exact ey
        · have ei : i = items.length := by omega
          subst ei
          rw [List.drop_length] at ec
          have er : rest = [] := by
            have : (R.ok [] : R (List D)) = .ok rest := ec
            injection this with this
            exact this.symm
          subst er
          rw [List.append_nil] at ey
          subst ey
          refine .inl ⟨yc.2 (Nat.le_refl _), h1 Dn (.lst acc) Fc Hc x2 hDc ic fD ?_⟩
          exact x1.hh.free hD
    · rw [if_neg hz] at h1
      exact h1.elim
theorem n_lc {scope : Scope} {own : List (Str × Nat)} {is : List Nat} (hc : X.calm = true) (hN : X.N.Nodup) (hi : DI X F0 H0 m W tg iter gi) (ok : blkC X.N X.env.scope scope own = true)
    (hg : ∀ (s : Shared) (H : Hp) (C : Addr) (cl : List (Str × Addr)) (fp : List Addr), DG (X.blk s H scope (compEnvC scope cl C X.env) fp) F0 H0 m m' is tg τ)
    (ht : ∀ (s : Shared) (H : Hp) (C : Addr) (cl : List (Str × Addr)) (fp : List Addr), DTs (X.blk s H scope (compEnvC scope cl C X.env) fp) F0 H0 m' W0 ifs p)
    (he : ∀ (s : Shared) (H : Hp) (C : Addr) (cl : List (Str × Addr)) (fp : List Addr), DE (X.blk s H scope (compEnvC scope cl C X.env) fp) F0 H0 m' W0 elt ge) (hv : ∀ i ∈ is, i ∈ own.map (·.2)) (hw : ((own.map (·.2)).all fun i => F0.bor.all fun b => !(b.1 == i)) = true := by rfl) (hs : ∀ x, foldedSetIterable iter X.env x = pure x := by intro _; rfl) :
    DN X F0 H0 m W (.ListComp elt [⟨tg, iter, ifs, 0⟩] scope pos) (gLc gi (own.map (·.2)) τ p ge) :=
  pe_imp (pe_lc hc hN hi (blkOk_by ok) hg ht he hs) fun σ H Q h => lc_sem (ok_all hw) hv σ H Q h
end
section
variable {X : Cx} {F0 : Bs} {H0 : Hp} {m : List Bool} {W : WX} {pos : Pos} {o e : Expr} {es : List Expr} {go g : Rho → R D} {t : Rho → R (List D)}
def tyOk (T : String) : D → Bool
  | .str _ => decide (T = "str")
  | .list _ => decide (T = "list")
  | _ => false
theorem tyOk_V {K : PySem.W.Frag} {F H : Hp} {T : String} {v : V} {d : D} (s : Same F H) (i : Is K F v d) (h : tyOk T d = true) : tyV K T v H := by
  cases i with
  | str x => exact (show T = "str" from of_decide_eq_true h)
  | list hl l e => exact .inl ⟨of_decide_eq_true h, _, s.seq hl⟩
  | _ => cases h
def MetD (K : PySem.W.Frag) (f : D → List D → R D) (r : V → List V → Hp → VK → Prop) : Prop :=
  ∀ (W : WX) (σ : L2.St) (F H : Hp) (d : D) (v : V) (ds : List D) (vs : List V) (Q : VK), Same F H → Is K F v d → IsL K F vs ds → after K W σ F H (f d ds) Q → r v vs H Q
def gMt (T : String) (f : D → List D → R D) (go : Rho → R D) (t : Rho → R (List D)) : Rho → R D := fun ρ => (go ρ).bind fun d => if tyOk T d = true then (t ρ).bind fun ds => f d ds else .st
theorem d_met {T : String} {id : String} {name : Str} {apos cpos : Pos} {f : D → List D → R D} {r : V → List V → Hp → VK → Prop} (pa : PlainAttrs T) (slot : Slot T name id) (hty : typeOf (.builtin id) = pure (.type "method_descriptor")) (hm : MtR X id r) (od : MetD X.K f r) (ho : DE X F0 H0 m W o go) (ha : DA X F0 H0 m W (e :: es) t)
    (hbase : attributeBase o name X.env (eval o X.env) = eval o X.env := by rfl)
    (hfew : ((backTo cpos (starEach (e :: es) X.env)).all (fun x => !x.1) && (backToKw cpos (keywordEach [] X.env)).all (fun x => x.1.isSome)
      && decide ((e :: es).length + ([] : List Keyword).length + (if ([] : List Keyword).isEmpty then 0 else 1) < 30)) = true := by rfl)
    (hline : (apos.endLine == cpos.line) = true := by rfl) (hs : starEach (e :: es) X.env = (false, eval e X.env) :: starEach es X.env := by rfl) (hplain : (backTo cpos (starEach es X.env)).any (·.1) = false := by rfl) :
    DE X F0 H0 m W (.Call (.Attribute o name apos) (e :: es) [] cpos) (gMt T f go t) := by
  refine pe_imp (pe_bm pa slot hty hm ho ha hbase hfew hline hs hplain) fun σ H Q ⟨ρ, F, r, h⟩ => ?_
  refine sem_bind (k := fun d => if tyOk T d = true then (t ρ).bind fun ds => f d ds else .st) r h fun d v F1 H1 _ i1 r1 h1 => ?_
  by_cases ht : tyOk T d = true
  · rw [if_pos ht] at h1
    refine ⟨tyOk_V r1.fh i1 ht, semA_bind (k := fun ds => f d ds) r1 h1 fun ds vs F2 H2 x2 i2 r2 h2 => od W σ F2 H2 d v ds vs Q r2.fh (i1.mono x2.ff) i2 h2⟩
  · rw [if_neg ht] at h1
    exact h1.elim
def strsOf : List D → Option (List Str)
  | [] => some []
  | .str s :: r => (strsOf r).map (s :: ·)
  | _ :: _ => none
theorem strs_is {K : PySem.W.Frag} {F : Hp} : ∀ {ds : List D} {vs : List V} {ys : List Str}, IsL K F vs ds → strsOf ds = some ys → vs = ys.map V.str
  | [], vs, ys, l, h => by cases h; exact l.unnil
  | d :: ds, vs, ys, l, h => by
    obtain ⟨x, xr, rfl, i, t⟩ := l.uncons
    cases d with
    | str s =>
      cases i
      have h' : (strsOf ds).map (s :: ·) = some ys := h
      cases e : strsOf ds with
      | none => rw [e] at h'; cases h'
      | some zs =>
        rw [e] at h'
        cases h'
        rw [strs_is t e]
        rfl
    | _ => cases h
def joinOk (a : Str) (ys : List Str) : Bool := decide ((ys.map (·.length)).sum + ys.length * a.length ≤ 16777216)
def joinSeq (a : Str) (ds : List D) : R D := match strsOf ds with
  | some ys => if joinOk a ys = true then .ok (.str (Txt.join a ys)) else .st
  | none => .st
def joinD : D → List D → R D
  | .str a, [.list ds] => joinSeq a ds
  | .str a, [.tup ds] => joinSeq a ds
  | _, _ => .st
theorem o_join {K : PySem.W.Frag} : MetD K joinD (fun x xs H Q => ∃ a p, ∃ ys : List Str, x = .str a ∧ xs = [.ref p] ∧ (SqL K H p (ys.map V.str) ∨ SqT K H p (ys.map V.str)) ∧ (ys.map (·.length)).sum + ys.length * a.length ≤ 16777216 ∧ Q (.str (Txt.join a ys)) H) := by
  intro W σ F H d v ds vs Q s i l q
  cases d with
  | str a =>
    cases i
    match ds, l, q with
    | [.list es], l, q =>
      obtain ⟨v, rfl, i⟩ := one_of l
      obtain ⟨p, xs, rfl, h, t⟩ := i.list_inv
      have q' : after K W σ F H (match strsOf es with | some ys => if joinOk a ys = true then .ok (.str (Txt.join a ys)) else .st | none => .st) Q := q
      cases e : strsOf es with
      | none => rw [e] at q'; exact q'.elim
      | some ys =>
        rw [e] at q'
        have q2 : after K W σ F H (if joinOk a ys = true then .ok (.str (Txt.join a ys)) else .st) Q := q'
        by_cases hz : joinOk a ys = true
        · rw [if_pos hz] at q2
          have e2 := strs_is t e
          subst e2
          exact ⟨a, p, ys, rfl, rfl, .inl (s.seq h), of_decide_eq_true hz, after.now q2 s (.str _)⟩
        · rw [if_neg hz] at q2
          exact q2.elim
    | [.tup es], l, q =>
      obtain ⟨v, rfl, i⟩ := one_of l
      obtain ⟨p, xs, rfl, h, t⟩ := i.tup_inv
      have q' : after K W σ F H (match strsOf es with | some ys => if joinOk a ys = true then .ok (.str (Txt.join a ys)) else .st | none => .st) Q := q
      cases e : strsOf es with
      | none => rw [e] at q'; exact q'.elim
      | some ys =>
        rw [e] at q'
        have q2 : after K W σ F H (if joinOk a ys = true then .ok (.str (Txt.join a ys)) else .st) Q := q'
        by_cases hz : joinOk a ys = true
        · rw [if_pos hz] at q2
          have e2 := strs_is t e
          subst e2
          exact ⟨a, p, ys, rfl, rfl, .inr (sameT s h), of_decide_eq_true hz, after.now q2 s (.str _)⟩
        · rw [if_neg hz] at q2
          exact q2.elim
  | _ => exact q.elim
def spD (K : PySem.W.Frag) (G : List D → R D) : Sp := fun vs H Q E => ∃ ds F, IsL K F vs ds ∧ Same F H ∧ match G ds with
  | .ok d => ∀ v F' H', Ext F H F' H' → Is K F' v d → Q v H'
  | .ex x => ∀ cls od F' H', Ext F H F' H' → IsX K F' x cls od → E cls od H'
  | .st => False
/-- .. that hands back a new object of its own -/
def spN (K : PySem.W.Frag) (G : List D → R D) : Sp := fun vs H Q E => ∃ ds F, IsL K F vs ds ∧ Same F H ∧ match G ds with
  | .ok d => ∀ p o F' H', Ext F H F' H' → H' p = some o → IsC K F' o d → F' p = none → H p = none → Q (.ref p) H'
  | .ex x => ∀ cls od F' H', Ext F H F' H' → IsX K F' x cls od → E cls od H'
  | .st => False
theorem spN_of {K : PySem.W.Frag} {G : List D → R D} {vs : List V} {H : Hp} {Q : VK} {E : XK} (h : spD K G vs H Q E) : spN K G vs H Q E := by
  obtain ⟨ds, F, l, s, h⟩ := h
  refine ⟨ds, F, l, s, ?_⟩
  cases z : G ds with
  | ok d =>
    rw [z] at h
    exact fun p o F' H' x e c f n => h (.ref p) (upd F' p o) H' (x.share e f n) (is_of_c upd_same (c.mono (same_upd f)))
  | ex x =>
    rw [z] at h
    exact h
  | st =>
    rw [z] at h
    exact h
variable {f : Addr} {fd : FuncData} {ps : List Str} {k : Nat} {x : Str} {p : Pos} {G : List D → R D}
theorem d_call (C : FnOk X.prog X.w X.K X.mg X.base (L2.CX X.prog X.w) k f fd ps (spD X.K G)) (hr : Room k X.A) (hm : X.mg x = some (.ref f)) (hk : PySem.W.keepIn X.K (.ref f) = true) (hb : Binds X.K fd ps []) (tk : Takes X W) (ha : DA X F0 H0 m W (e :: es) t) (hg : Gl X x := by rfl)
    (hdb : (x == ("__debug__" : Str)) = false := by decide) (he : starEach (e :: es) X.env = (false, eval e X.env) :: starEach es X.env := by rfl) (hpl : (backTo pos (starEach es X.env)).any (·.1) = false := by rfl) : DE X F0 H0 m W (.Call (.Name x p) (e :: es) [] pos) (gA G t) := by
  refine pe_imp (pe_callS C hr hg hm hk hb (fun σ => passAt tk σ) ha hdb he hpl) fun σ H Q ⟨ρ, F, r, h⟩ => ?_
  refine semA_bind (k := G) r h fun ds vs F1 H1 _ i1 r1 h1 => ⟨ds, F1, i1, r1.fh, ?_⟩
  cases z : G ds with
  | ok d => rw [z] at h1; exact h1
  | ex x => rw [z] at h1; exact h1
  | st => rw [z] at h1; exact h1
end
end Pd
namespace Pd
open PySem PySem.Spec PyProof.Rows L2
/-- what a statement comes to; rn: a new object of the frame's own is handed back -/
inductive S where
  | nx (ρ : Rho) | rt (d : D) | rn (d : D) | rm (d : D) (ρ : Rho) | bk (ρ : Rho) | ct (ρ : Rho) | ex (x : Ex) (ρ : Rho) | st
/-- the slots that are lent -/
def bmask (B : Bs) (n : Nat) : List Bool := match B.bor with
  | [] => []
  | _ => (List.range n).map fun i => B.bor.any fun b => b.1 == i
theorem bm_of {B : Bs} {n i : Nat} (h : (bmask B n)[i]? = some true) : ∃ b ∈ B.bor, b.1 = i := by
  unfold bmask at h
  split at h
  · simp at h
  · rw [List.getElem?_map] at h
    cases e : (List.range n)[i]? with
    | none => rw [e] at h; cases h
    | some k =>
      rw [e] at h
      obtain ⟨hk, e2⟩ := List.getElem?_eq_some_iff.mp e
      have ek : i = k := by simpa using e2
      subst ek
      have h2 : (B.bor.any fun b => b.1 == i) = true := Option.some.inj h
      obtain ⟨b, hb, e3⟩ := List.any_eq_true.mp h2
      exact ⟨b, hb, by simpa using e3⟩
theorem bm_to {B : Bs} {n : Nat} {b : Nat × Addr × Option (D × HO)} (hb : b ∈ B.bor) (hn : b.1 < n) : (bmask B n)[b.1]? = some true := by
  unfold bmask
  split
  · rename_i e
    rw [e] at hb
    cases hb
  · rw [List.getElem?_map, List.getElem?_range hn]
    show some (B.bor.any fun c => c.1 == b.1) = some true
    rw [List.any_eq_true.mpr ⟨b, hb, by simp⟩]
/-- all that the frame owns, but what is lent, is shared from now on -/
theorem Rep.freeze {K : PySem.W.Frag} {F0 : Bs} {H0 F H : Hp} {m : List Bool} {ρ : Rho} {σ : L2.St} (r : Rep K F0 H0 m ρ σ F H) : ∃ F', Rep K F0 H0 (bmask F0 ρ.length) ρ σ F' H ∧ Same F F' := by
  classical
  let O : Addr → Prop := fun p => ∃ (i : Nat) (d : D), ρ[i]? = some (some d) ∧ m[i]? = some true ∧ σ[i]? = some (some (.ref p)) ∧ (bmask F0 ρ.length)[i]? ≠ some true
  let F' : Hp := fun p => if O p then H p else F p
  have sF : Same F F' := fun b u e => by
    show (if O b then H b else F b) = some u
    by_cases h : O b
    · rw [if_pos h]; exact r.fh b u e
    · rw [if_neg h]; exact e
  have bm : ∀ i, (bmask F0 ρ.length)[i]? = some true → m[i]? = some true := fun i h => by
    obtain ⟨b, hb, e⟩ := bm_of h
    rw [← e]
    exact (r.bor b hb).2.1
  refine ⟨F', ⟨r.len, fun b u e => ?_, r.f0.trans sF, r.h0, fun p h f => ?_, fun i d a nb => ?_, fun i d a b => ?_, fun i j p d e hij a b c c' => r.apart i j p d e hij (bm i a) (bm j b) c c', fun b hb => ?_⟩, sF⟩
  · have e' : (if O b then H b else F b) = some u := e
    by_cases h : O b
    · rw [if_pos h] at e'; exact e'
    · rw [if_neg h] at e'; exact r.fh b u e'
  · show (if O p then H p else F p) = none
    by_cases ho : O p
    · obtain ⟨i, d, a, b, c, _⟩ := ho
      obtain ⟨q, o, e1, e2, e3, e4, e5⟩ := r.own i d a b
      rw [c] at e1
      cases e1
      exact absurd e5 h
    · rw [if_neg ho]; exact r.new p h f
  · by_cases b : m[i]? = some true
    · obtain ⟨p, o, e1, e2, e3, e4, e5⟩ := r.own i d a b
      refine ⟨.ref p, e1, is_of_c (o := o) ?_ (e3.mono sF)⟩
      show (if O p then H p else F p) = some o
      rw [if_pos ⟨i, d, a, b, e1, nb⟩]; exact e2
    · obtain ⟨v, e1, e2⟩ := r.val i d a b
      exact ⟨v, e1, e2.mono sF⟩
  · obtain ⟨p, o, e1, e2, e3, e4, e5⟩ := r.own i d a (bm i b)
    refine ⟨p, o, e1, e2, e3.mono sF, ?_, e5⟩
    show (if O p then H p else F p) = none
    have nO : ¬ O p := fun ⟨j, d', a', b', c', nb'⟩ => by
      by_cases hij : i = j
      · subst hij; exact nb' b
      · exact r.apart i j p d d' hij (bm i b) b' a a' e1 c'
    rw [if_neg nO]
    exact e4
  · obtain ⟨h1, h2, ⟨d, h3⟩, h4⟩ := r.bor b hb
    exact ⟨h1, bm_to hb (List.getElem?_eq_some_iff.mp h3).1, ⟨d, h3⟩, h4⟩
/-- all is shared, as if a def of its own began here -/
theorem Rep.all {K : PySem.W.Frag} {F0 : Bs} {H0 F H : Hp} {m : List Bool} {ρ : Rho} {σ : L2.St} (r : Rep K F0 H0 m ρ σ F H) : ∃ F', Rep K ⟨F', []⟩ H [] ρ σ F' H ∧ Same F F' := by
  classical
  let O : Addr → Prop := fun p => ∃ (i : Nat) (d : D), ρ[i]? = some (some d) ∧ m[i]? = some true ∧ σ[i]? = some (some (.ref p))
  let F' : Hp := fun p => if O p then H p else F p
  have sF : Same F F' := fun b u e => by
    show (if O b then H b else F b) = some u
    by_cases h : O b
    · rw [if_pos h]; exact r.fh b u e
    · rw [if_neg h]; exact e
  refine ⟨F', ⟨r.len, fun b u e => ?_, .refl _, .refl _, fun p h f => f, fun i d a _ => ?_, fun i d _ b => by simp at b, fun i j p d e _ a => by simp at a, fun b hb => nomatch hb⟩, sF⟩
  · have e' : (if O b then H b else F b) = some u := e
    by_cases h : O b
    · rw [if_pos h] at e'; exact e'
    · rw [if_neg h] at e'; exact r.fh b u e'
  · by_cases b : m[i]? = some true
    · obtain ⟨p, o, e1, e2, e3, e4, e5⟩ := r.own i d a b
      refine ⟨.ref p, e1, is_of_c (o := o) ?_ (e3.mono sF)⟩
      show (if O p then H p else F p) = some o
      rw [if_pos ⟨i, d, a, b, e1⟩]; exact e2
    · obtain ⟨v, e1, e2⟩ := r.val i d a b
      exact ⟨v, e1, e2.mono sF⟩
theorem Is.monoX {K : PySem.W.Frag} {F F' : Hp} {x : Ex} {cls : Value} {od : Option Addr} (h : IsX K F x cls od) (s : Same F F') : IsX K F' x cls od :=
  ⟨h.1, fun n => let ⟨d, vs, e, a, b⟩ := h.2.1 n; ⟨d, vs, e, s _ _ a, b.mono s⟩, h.2.2⟩
/-- what is lent for reading stands as it stood -/
def BorC (B : Bs) (F H : Hp) : Prop := ∀ b ∈ B.bor, ∀ d o, b.2.2 = some (d, o) → H b.2.1 = some o ∧ F b.2.1 = none
theorem Rep.borC {K : PySem.W.Frag} {F0 : Bs} {H0 F H : Hp} {m : List Bool} {ρ : Rho} {σ : L2.St} (r : Rep K F0 H0 m ρ σ F H) : BorC F0 F H := fun b hb d o e => by
  obtain ⟨h1, h2, h3, h4⟩ := r.bor b hb
  obtain ⟨e1, e2⟩ := h4 d o e
  obtain ⟨p, o', z1, z2, z3, z4, z5⟩ := r.own b.1 d e1 h2
  rw [h1] at z1
  cases z1
  exact ⟨e2, z4⟩
def afterS (K : PySem.W.Frag) (F0 : Bs) (H0 : Hp) (m' mL : List Bool) (W : WX) (Fb : Hp) (r : S) (E : Ends) : Prop := match r with
  | .nx ρ => ∀ σ F H, Rep K F0 H0 m' ρ σ F H → Same Fb F → E.nx σ H
  | .rt d => ∀ v F H, Ext F0.F H0 F H → BorC F0 F H → Is K F v d → E.rt v H
  | .rn d => ∀ p o F H, Ext F0.F H0 F H → BorC F0 F H → H p = some o → IsC K F o d → F p = none → H0 p = none → (∀ b ∈ F0.bor, b.2.1 ≠ p) → E.rt (.ref p) H
  | .rm d ρ => ∀ v σ F H, Rep K F0 H0 (bmask F0 ρ.length) ρ σ F H → Is K F v d → E.rt v H
  | .bk ρ => ∀ σ F H, Rep K F0 H0 mL ρ σ F H → Same Fb F → E.bk σ H
  | .ct ρ => ∀ σ F H, Rep K F0 H0 mL ρ σ F H → Same Fb F → E.ct σ H
  | .ex x ρ => ∀ cls od σ F H, Rep K F0 H0 (bmask F0 ρ.length) ρ σ F H → Same Fb F → IsX K F x cls od → W cls od σ H
  | .st => False
def tSemS (K : PySem.W.Frag) (F0 : Bs) (H0 : Hp) (m m' mL : List Bool) (W : WX) (s : Rho → S) : TS := fun E σ H => ∃ ρ F, Rep K F0 H0 m ρ σ F H ∧ afterS K F0 H0 m' mL W F (s ρ) E
theorem afterS.mono {K : PySem.W.Frag} {F0 : Bs} {H0 F F2 : Hp} {m' mL : List Bool} {W : WX} {r : S} {E : Ends} (h : afterS K F0 H0 m' mL W F r E) (s : Same F F2) : afterS K F0 H0 m' mL W F2 r E := by
  cases r with
  | nx ρ => exact fun σ F' H' r x => h σ F' H' r (s.trans x)
  | bk ρ => exact fun σ F' H' r x => h σ F' H' r (s.trans x)
  | ct ρ => exact fun σ F' H' r x => h σ F' H' r (s.trans x)
  | ex x ρ => exact fun cls od σ F' H' r x => h cls od σ F' H' r (s.trans x)
  | _ => exact h
abbrev DS (X : Cx) (F0 : Bs) (H0 : Hp) (m m' mL : List Bool) (W : WX) (st : Stmt) (s : Rho → S) : Prop := PS X st (tSemS X.K F0 H0 m m' mL W s)
abbrev DSs (X : Cx) (F0 : Bs) (H0 : Hp) (m m' mL : List Bool) (W : WX) (st : List Stmt) (s : Rho → S) : Prop := PSs X st (tSemS X.K F0 H0 m m' mL W s)
/-- what is new is not what is lent -/
theorem Rep.bor_ne {K : PySem.W.Frag} {F0 : Bs} {H0 F H : Hp} {m : List Bool} {ρ : Rho} {σ : L2.St} {p : Addr} (r : Rep K F0 H0 m ρ σ F H) (n : H p = none) : ∀ b ∈ F0.bor, b.2.1 ≠ p := fun b hb z => by
  obtain ⟨h1, h2, ⟨d, h3⟩, _⟩ := r.bor b hb
  obtain ⟨q, o', z1, z2, _⟩ := r.own b.1 d h3 h2
  rw [h1] at z1
  cases z1
  rw [z, n] at z2
  cases z2
theorem Rep.ext0 {K : PySem.W.Frag} {F0 : Bs} {H0 F H : Hp} {m : List Bool} {ρ : Rho} {σ : L2.St} (r : Rep K F0 H0 m ρ σ F H) : Ext F0.F H0 F H := ⟨r.f0, r.h0, r.fh, r.new⟩
section
variable {X : Cx} {F0 : Bs} {H0 : Hp} {m m' m2 mL : List Bool} {W : WX} {pos : Pos} {e : Expr} {st : Stmt} {sts : List Stmt} {g : Rho → R D} {s u : Rho → S}
def sNil : Rho → S := fun ρ => .nx ρ
def sSeq (s u : Rho → S) : Rho → S := fun ρ => match s ρ with
  | .nx ρ1 => u ρ1
  | r => r
theorem ss_nil : DSs X F0 H0 m m mL W [] sNil := pss_imp pss_nil fun E σ H ⟨ρ, F, r, h⟩ => h σ F H r (.refl F)
theorem ss_one (h : DS X F0 H0 m m' mL W st s) : DSs X F0 H0 m m' mL W [st] s := pss_one h
theorem ss_cons (h1 : DS X F0 H0 m m2 mL W st s) (h2 : DSs X F0 H0 m2 m' mL W sts u) : DSs X F0 H0 m m' mL W (st :: sts) (sSeq s u) := by
  refine pss_imp (pss_cons h1 h2) fun E σ H ⟨ρ, F, r, h⟩ => ⟨ρ, F, r, ?_⟩
  unfold sSeq at h
  cases z : s ρ with
  | nx ρ1 =>
    rw [z] at h
    exact fun σ1 F1 H1 r1 x1 => ⟨ρ1, F1, r1, h.mono x1⟩
  | _ => rw [z] at h; exact h
/-- an expression is read, then the rest -/
theorem semS {K : PySem.W.Frag} {σ : L2.St} {F H : Hp} {ρ : Rho} {k : D → S} {E : Ends} {Φ : VK} (r : Rep K F0 H0 m ρ σ F H)
    (h : afterS K F0 H0 m' mL W F (match g ρ with | .ok d => k d | .ex x => .ex x ρ | .st => .st) E)
    (f : ∀ d v F' H', Is K F' v d → Rep K F0 H0 m ρ σ F' H' → Same F F' → afterS K F0 H0 m' mL W F' (k d) E → Φ v H') : tSem K F0 H0 m W g σ H Φ := by
  refine ⟨ρ, F, r, ?_⟩
  cases z : g ρ with
  | ok d =>
    rw [z] at h
    exact fun v F' H' x i => f d v F' H' i (r.ext x) x.ff (h.mono x.ff)
  | ex x =>
    rw [z] at h
    intro cls od F' H' xe i
    obtain ⟨F2, r2, s2⟩ := (r.ext xe).freeze
    exact h cls od σ F2 H' r2 (xe.ff.trans s2) (Is.monoX i s2)
  | st =>
    rw [z] at h
    exact h.elim
theorem semST {K : PySem.W.Frag} {σ : L2.St} {F H : Hp} {ρ : Rho} {p : Rho → R Bool} {k : Bool → S} {E : Ends} {Φ : Bool → Hp → Prop} (r : Rep K F0 H0 m ρ σ F H)
    (h : afterS K F0 H0 m' mL W F (match p ρ with | .ok d => k d | .ex x => .ex x ρ | .st => .st) E)
    (f : ∀ d F' H', Rep K F0 H0 m ρ σ F' H' → Same F F' → afterS K F0 H0 m' mL W F' (k d) E → Φ d H') : tSemT K F0 H0 m W p σ H Φ := by
  refine ⟨ρ, F, r, ?_⟩
  cases z : p ρ with
  | ok d =>
    rw [z] at h
    exact fun F' H' x => f d F' H' (r.ext x) x.ff (h.mono x.ff)
  | ex x =>
    rw [z] at h
    intro cls od F' H' xe i
    obtain ⟨F2, r2, s2⟩ := (r.ext xe).freeze
    exact h cls od σ F2 H' r2 (xe.ff.trans s2) (Is.monoX i s2)
  | st =>
    rw [z] at h
    exact h.elim
/-- .. that makes a new object -/
theorem semSN {K : PySem.W.Frag} {σ : L2.St} {F H : Hp} {ρ : Rho} {k : D → S} {E : Ends} {Φ : VK} (r : Rep K F0 H0 m ρ σ F H)
    (h : afterS K F0 H0 m' mL W F (match g ρ with | .ok d => k d | .ex x => .ex x ρ | .st => .st) E)
    (f : ∀ d p o F' H', H' p = some o → IsC K F' o d → F' p = none → H p = none → Same H H' → Rep K F0 H0 m ρ σ F' H' → Same F F' → afterS K F0 H0 m' mL W F' (k d) E → Φ (.ref p) H') : tSemN K F0 H0 m W g σ H Φ := by
  refine ⟨ρ, F, r, ?_⟩
  cases z : g ρ with
  | ok d =>
    rw [z] at h
    exact fun p o F' H' x e c fn n => f d p o F' H' e c fn n x.hh (r.ext x) x.ff (h.mono x.ff)
  | ex x =>
    rw [z] at h
    intro cls od F' H' xe i
    obtain ⟨F2, r2, s2⟩ := (r.ext xe).freeze
    exact h cls od σ F2 H' r2 (xe.ff.trans s2) (Is.monoX i s2)
  | st =>
    rw [z] at h
    exact h.elim
def sE (g : Rho → R D) (k : Rho → D → S) : Rho → S := fun ρ => match g ρ with
  | .ok d => k ρ d
  | .ex x => .ex x ρ
  | .st => .st
def sDrop (g : Rho → R D) : Rho → S := sE g fun ρ _ => .nx ρ
theorem s_expr (he : DE X F0 H0 m W e g) (hs : swapsWith e none pos.line X.env = pure false := by rfl) : DS X F0 H0 m m mL W (.Expr e pos) (sDrop g) :=
  ps_imp (ps_expr he hs) fun E σ H ⟨ρ, F, r, h⟩ => semS (k := fun _ => .nx ρ) r h fun d v F1 H1 i1 r1 _ h1 => h1 σ F1 H1 r1 (.refl F1)
def sRet (g : Rho → R D) : Rho → S := sE g fun _ d => .rt d
theorem s_ret (he : DE X F0 H0 m W e g) : DS X F0 H0 m m' mL W (.Return (some e) pos) (sRet g) :=
  ps_imp (ps_ret he) fun E σ H ⟨ρ, F, r, h⟩ => semS (k := fun d => .rt d) r h fun d v F1 H1 i1 r1 _ h1 => h1 v F1 H1 r1.ext0 r1.borC i1
def sRetN (g : Rho → R D) : Rho → S := sE g fun _ d => .rn d
theorem s_retN (he : DN X F0 H0 m W e g) : DS X F0 H0 m m' mL W (.Return (some e) pos) (sRetN g) :=
  ps_imp (ps_ret he) fun E σ H ⟨ρ, F, r, h⟩ => semSN (k := fun d => .rn d) r h fun d p o F1 H1 e c f n s r1 _ h1 => h1 p o F1 H1 r1.ext0 r1.borC e c f (r.h0.free n) (r.bor_ne n)
/-- return x, x the frame's own -/
def sRetO (i : Nat) : Rho → S := fun ρ => match ρ[i]? with
  | some (some d) => .rn d
  | _ => .st
theorem s_retO (i : Nat) {x : Str} {p2 : Pos} (hb : F0.ok i := by exact Bs.ok_of rfl) (hN : X.N[i]? = some x := by rfl) (hv : Vis X.env.scope x := by first | exact Or.inl rfl | exact Or.inr (Or.inl rfl) | exact Or.inr (Or.inr rfl)) (hm : m[i]? = some true := by rfl) (hd : (x == ("__debug__" : Str)) = false := by decide)
    (hcd : (x == ("__classdict__" : Str)) = false := by decide) : DS X F0 H0 m m' mL W (.Return (some (.Name x p2)) pos) (sRetO i) := by
  refine ps_imp (ps_ret (pe_var hN hv hd hcd)) fun E σ H ⟨ρ, F, r, h⟩ => ?_
  unfold sRetO at h
  split at h
  · rename_i d e
    obtain ⟨p, o, e1, e2, e3, e4, e5⟩ := r.own i d e hm
    exact ⟨.ref p, e1, h p o F H r.ext0 r.borC e2 e3 e4 e5 fun b hb' z => by
      obtain ⟨h1, h2, ⟨d', h3⟩, _⟩ := r.bor b hb'
      exact r.apart b.1 i p d' d (hb b hb') h2 hm h3 e (z ▸ h1) e1⟩
  · exact h.elim
/-- x = e -/
def sSet (i : Nat) (g : Rho → R D) : Rho → S := sE g fun ρ d => .nx (ρ.set i (some d))
theorem s_set (i : Nat) {x : Str} {p2 : Pos} (hN : X.N.Nodup) (he : DE X F0 H0 m W e g) (hi : X.N[i]? = some x := by rfl) (hx : Loc X.env.scope x := by exact Or.inl rfl) (hb : F0.ok i := by exact Bs.ok_of rfl) (hs : swapsWith e (some (.Name x p2)) pos.line X.env = pure false := by rfl) (hf : X.fn x = true ∨ X.env.scope.names.lookup x = some .local := by first | exact .inl rfl | exact .inr rfl | assumption) :
    DS X F0 H0 m (m.set i false) mL W (.Assign [.Name x p2] e pos) (sSet i g) :=
  ps_imp (ps_set hN hi hx he hs hf) fun E σ H ⟨ρ, F, r, h⟩ => semS (k := fun d => .nx (ρ.set i (some d))) r h fun d v F1 H1 i1 r1 _ h1 => h1 _ F1 H1 (r1.set i hb i1) (.refl F1)
/-- a slot gets an object of the frame's own -/
theorem Rep.setN {K : PySem.W.Frag} {ρ : Rho} {σ : L2.St} {F H : Hp} {p : Addr} {o : HO} {d : D} (r : Rep K F0 H0 m ρ σ F H) (i : Nat) (hi : F0.ok i) (hm : i < m.length) (h : H p = some o) (c : IsC K F o d) (f : F p = none) (n : H0 p = none)
    (ne : ∀ (j : Nat) q e, m[j]? = some true → ρ[j]? = some (some e) → σ[j]? = some (some (.ref q)) → q ≠ p) : Rep K F0 H0 (m.set i true) (ρ.set i (some d)) (σ.set i (some (.ref p))) F H where
  len := by rw [List.length_set, List.length_set, r.len]
  fh := r.fh
  f0 := r.f0
  h0 := r.h0
  new := r.new
  val := fun j e a b => by
    rcases getElem?_set_cases a with ⟨rfl, z, hl⟩ | ⟨hj, z⟩
    · cases z
      rw [List.getElem?_set_self hm] at b
      exact absurd rfl b
    · rw [List.getElem?_set_ne (Ne.symm hj)]
      exact r.val j e z (by rw [mset' hj] at b; exact b)
  own := fun j e a b => by
    rcases getElem?_set_cases a with ⟨rfl, z, hl⟩ | ⟨hj, z⟩
    · cases z
      exact ⟨p, o, by rw [List.getElem?_set_self (by rw [r.len]; exact hl)], h, c, f, n⟩
    · rw [List.getElem?_set_ne (Ne.symm hj)]
      exact r.own j e z (by rw [mset' hj] at b; exact b)
  apart := fun j k q d1 e1 hjk a b c1 c2 e => by
    rcases getElem?_set_cases c1 with ⟨rfl, z, hl⟩ | ⟨hj, z⟩
    · rcases getElem?_set_cases c2 with ⟨rfl, z', hl'⟩ | ⟨hk, z'⟩
      · exact absurd rfl hjk
      · rw [List.getElem?_set_ne (Ne.symm hk)]
        rw [List.getElem?_set_self (by rw [r.len]; exact hl)] at e
        cases e
        intro w
        exact ne k _ e1 (by rw [mset' hk] at b; exact b) z' w rfl
    · rcases getElem?_set_cases c2 with ⟨rfl, z', hl'⟩ | ⟨hk, z'⟩
      · rw [List.getElem?_set_ne (Ne.symm hj)] at e
        rw [List.getElem?_set_self (by rw [r.len]; exact hl')]
        intro w
        cases w
        exact ne j _ d1 (by rw [mset' hj] at a; exact a) z e rfl
      · rw [List.getElem?_set_ne (Ne.symm hj)] at e
        rw [List.getElem?_set_ne (Ne.symm hk)]
        exact r.apart j k q d1 e1 hjk (by rw [mset' hj] at a; exact a) (by rw [mset' hk] at b; exact b) z z' e
  bor := fun b hb => by
    obtain ⟨h1, h2, h3, h4⟩ := r.bor b hb
    have hj := hi b hb
    rw [List.getElem?_set_ne (Ne.symm hj), List.getElem?_set_ne (Ne.symm hj), List.getElem?_set_ne (Ne.symm hj)]
    exact ⟨h1, h2, h3, h4⟩
theorem s_setN (i : Nat) {x : Str} {p2 : Pos} (hN : X.N.Nodup) (he : DN X F0 H0 m W e g) (hm : i < m.length := by decide) (hi : X.N[i]? = some x := by rfl) (hx : Loc X.env.scope x := by exact Or.inl rfl) (hb : F0.ok i := by exact Bs.ok_of rfl) (hs : swapsWith e (some (.Name x p2)) pos.line X.env = pure false := by rfl) (hf : X.fn x = true ∨ X.env.scope.names.lookup x = some .local := by first | exact .inl rfl | exact .inr rfl | assumption) :
    DS X F0 H0 m (m.set i true) mL W (.Assign [.Name x p2] e pos) (sSet i g) :=
  ps_imp (ps_set hN hi hx he hs hf) fun E σ H ⟨ρ, F, r, h⟩ => semSN (k := fun d => .nx (ρ.set i (some d))) r h fun d p o F1 H1 e c f n s r1 _ h1 => h1 _ F1 H1 (r1.setN i hb hm e c f (r.h0.free n) fun j q e' a b c' w => by
    obtain ⟨q', o', e1, e2, _⟩ := r.own j e' b a
    rw [c'] at e1
    cases e1
    rw [w, n] at e2
    cases e2) (.refl F1)
/-- one slot's object is shared from now on -/
theorem Rep.share {K : PySem.W.Frag} {ρ : Rho} {σ : L2.St} {F H : Hp} (r : Rep K F0 H0 m ρ σ F H) (i : Nat) (hi : F0.ok i) : ∃ F', Rep K F0 H0 (m.set i false) ρ σ F' H ∧ Same F F' := by
  have hbor : ∀ b ∈ F0.bor, σ[b.1]? = some (some (.ref b.2.1)) ∧ (m.set i false)[b.1]? = some true ∧ (∃ d, ρ[b.1]? = some (some d)) ∧ ∀ d o, b.2.2 = some (d, o) → ρ[b.1]? = some (some d) ∧ H b.2.1 = some o := fun b hb => by
    obtain ⟨h1, h2, h3, h4⟩ := r.bor b hb
    rw [mset' (hi b hb)]
    exact ⟨h1, h2, h3, h4⟩
  by_cases hm : m[i]? = some true
  · by_cases hd : ∃ d, ρ[i]? = some (some d)
    · obtain ⟨d, hd⟩ := hd
      obtain ⟨p, o, e1, e2, e3, e4, e5⟩ := r.own i d hd hm
      have sF : Same F (upd F p o) := same_upd e4
      refine ⟨upd F p o, ⟨r.len, fun b u e => ?_, r.f0.trans sF, r.h0, fun b h f => ?_, fun j d' a b => ?_, fun j d' a b => ?_, fun j k q d1 e1' hjk a b c c' q' => ?_, hbor⟩, sF⟩
      · by_cases q : b = p
        · subst q; rw [upd_same] at e; rw [e2]; exact e
        · rw [upd_ne q] at e; exact r.fh b u e
      · have q : b ≠ p := fun z => h (z ▸ e5)
        rw [upd_ne q]; exact r.new b h f
      · by_cases hj : j = i
        · subst hj
          rw [hd] at a
          cases a
          exact ⟨.ref p, e1, is_of_c upd_same (e3.mono sF)⟩
        · obtain ⟨v, z1, z2⟩ := r.val j d' a (by rw [mset' hj] at b; exact b)
          exact ⟨v, z1, z2.mono sF⟩
      · obtain ⟨hj, b⟩ := mset b
        obtain ⟨p', o', z1, z2, z3, z4, z5⟩ := r.own j d' a b
        have q : p' ≠ p := fun w => r.apart j i p d' d hj b hm a hd (w ▸ z1) e1
        exact ⟨p', o', z1, z2, z3.mono sF, by rw [upd_ne q]; exact z4, z5⟩
      · obtain ⟨hj, a⟩ := mset a
        obtain ⟨hk, b⟩ := mset b
        exact r.apart j k q d1 e1' hjk a b c c' q'
    · refine ⟨F, ⟨r.len, r.fh, r.f0, r.h0, r.new, fun j d' a b => ?_, fun j d' a b => ?_, fun j k q d1 e1' hjk a b c c' q' => ?_, hbor⟩, .refl F⟩
      · have hj : j ≠ i := fun z => hd ⟨d', z ▸ a⟩
        exact r.val j d' a (by rw [mset' hj] at b; exact b)
      · obtain ⟨hj, b⟩ := mset b
        exact r.own j d' a b
      · obtain ⟨hj, a⟩ := mset a
        obtain ⟨hk, b⟩ := mset b
        exact r.apart j k q d1 e1' hjk a b c c' q'
  · refine ⟨F, ⟨r.len, r.fh, r.f0, r.h0, r.new, fun j d' a b => ?_, fun j d' a b => ?_, fun j k q d1 e1' hjk a b c c' q' => ?_, hbor⟩, .refl F⟩
    · refine r.val j d' a fun z => ?_
      by_cases hj : j = i
      · subst hj; exact hm z
      · rw [mset' hj] at b; exact b z
    · obtain ⟨hj, b⟩ := mset b
      exact r.own j d' a b
    · obtain ⟨hj, a⟩ := mset a
      obtain ⟨hk, b⟩ := mset b
      exact r.apart j k q d1 e1' hjk a b c c' q'
theorem ss_share (i : Nat) (hb : F0.ok i) (h : DSs X F0 H0 (m.set i false) m' mL W sts s) : DSs X F0 H0 m m' mL W sts s := pss_imp h fun E σ H ⟨ρ, F, r, q⟩ => by
  obtain ⟨F', r', x⟩ := r.share i hb
  exact ⟨ρ, F', r', q.mono x⟩
def sIf (p : Rho → R Bool) (s u : Rho → S) : Rho → S := fun ρ => match p ρ with
  | .ok b => if b = true then s ρ else u ρ
  | .ex x => .ex x ρ
  | .st => .st
theorem s_if {c : Expr} {a b : List Stmt} {p : Rho → R Bool} (hc : DT X F0 H0 m W c p) (ha : DSs X F0 H0 m m' mL W a s) (hb : DSs X F0 H0 m m' mL W b u) : DS X F0 H0 m m' mL W (.If c a b pos) (sIf p s u) := by
  refine ps_imp (ps_if hc ha hb) fun E σ H ⟨ρ, F, r, h⟩ => semST (k := fun b => if b = true then s ρ else u ρ) r h fun b F1 H1 r1 _ h1 => ?_
  cases b with
  | true => exact iteT ⟨ρ, F1, r1, h1⟩
  | false => exact iteF ⟨ρ, F1, r1, h1⟩
def forL (τ : D → Rho → R Rho) (b : Rho → S) : List D → Rho → S
  | [], ρ => .nx ρ
  | d :: ds, ρ => match τ d ρ with
    | .ok ρ1 => match b ρ1 with
      | .nx ρ2 => forL τ b ds ρ2
      | .ct ρ2 => forL τ b ds ρ2
      | .bk ρ2 => .nx ρ2
      | r => r
    | _ => .st
def sFor (gi : Rho → R (List D)) (τ : D → Rho → R Rho) (b : Rho → S) : Rho → S := fun ρ => match gi ρ with
  | .ok items => forL τ b items ρ
  | .ex x => .ex x ρ
  | .st => .st
theorem s_for {tg iter : Expr} {body : List Stmt} {gi : Rho → R (List D)} {τ : D → Rho → R Rho} {b : Rho → S} {m1 : List Bool} {is : List Nat} (hp : PassesOwn (model X.prog X.w) X.A X.env X.xe) (hc : X.calm = true) (hi : DI X F0 H0 m W tg iter gi) (hg : DG X F0 H0 m m1 is tg τ) (hb : DSs X F0 H0 m1 m m W body b)
    (hs : ∀ x, foldedSetIterable iter X.env x = pure x := by intro _; rfl) : DS X F0 H0 m m mL W (.For tg iter body [] pos) (sFor gi τ b) := by
  refine ps_imp (ps_for hp hc hi hg hb hs) fun E σ H ⟨ρ, F, r, h⟩ => ⟨ρ, F, r, ?_⟩
  unfold sFor at h
  cases z : gi ρ with
  | ex x =>
    rw [z] at h
    intro cls od F' H' xe i
    obtain ⟨F2, r2, s2⟩ := (r.ext xe).freeze
    exact h cls od σ F2 H' r2 (xe.ff.trans s2) (Is.monoX i s2)
  | st => rw [z] at h; exact h.elim
  | ok items =>
    rw [z] at h
    intro J F1 H1 x1 y1
    refine ⟨fun i mm σ H => ∃ ρ F, Rep X.K F0 H0 m ρ σ F H ∧ Same F1 F ∧ i ≤ items.length ∧ mm = items.length - i ∧ afterS X.K F0 H0 m mL W F (forL τ b (items.drop i) ρ) E, ⟨items.length, ρ, F1, r.ext x1, .refl _, Nat.zero_le _, rfl, h.mono x1.ff⟩, ?_⟩
    rintro i mm σ2 H2 ⟨ρ2, F2, r2, x2, hi, rfl, h2⟩
    have yc := y1 i F2 H2 x2 r2.fh
    by_cases hlt : i < items.length
    · obtain ⟨go, yld⟩ := yc.1 hlt
      refine .inr ⟨go, fun σ3 H3 => ∃ ρ3 F3, Rep X.K F0 H0 m ρ3 σ3 F3 H3 ∧ Same F1 F3 ∧ afterS X.K F0 H0 m mL W F3 (forL τ b (items.drop (i + 1)) ρ3) E, fun σ3 H3 ⟨ρ3, F3, q1, q2, q3⟩ => ⟨items.length - (i + 1), by omega, ρ3, F3, q1, q2, hlt, rfl, q3⟩, fun x Hy y => ?_⟩
      obtain ⟨F3, d, hd, xe, ix⟩ := yld x Hy y
      have ed : items.drop i = d :: items.drop (i + 1) := by
        rw [List.drop_eq_getElem_cons hlt]
        rw [List.getElem?_eq_getElem hlt] at hd
        rw [Option.some.inj hd]
      rw [ed] at h2
      refine ⟨ρ2, F3, d, r2.ext xe, ix, ?_⟩
      have h3 : afterS X.K F0 H0 m mL W F3 (match τ d ρ2 with
        | .ok ρ1 => match b ρ1 with
          | .nx ρ2 => forL τ b (items.drop (i + 1)) ρ2
          | .ct ρ2 => forL τ b (items.drop (i + 1)) ρ2
          | .bk ρ2 => .nx ρ2
          | r => r
        | _ => .st) E := h2.mono xe.ff
      cases z1 : τ d ρ2 with
      | ex x => rw [z1] at h3; exact h3.elim
      | st => rw [z1] at h3; exact h3.elim
      | ok ρ4 =>
        rw [z1] at h3
        intro σ4 r4 _ _
        refine ⟨ρ4, F3, r4, ?_⟩
        have h4 : afterS X.K F0 H0 m mL W F3 (match b ρ4 with
          | .nx ρ2 => forL τ b (items.drop (i + 1)) ρ2
          | .ct ρ2 => forL τ b (items.drop (i + 1)) ρ2
          | .bk ρ2 => .nx ρ2
          | r => r) E := h3
        cases z2 : b ρ4 with
        | nx ρ5 =>
          rw [z2] at h4
          exact fun σ5 F5 H5 r5 x5 => ⟨ρ5, F5, r5, (x2.trans xe.ff).trans x5, h4.mono x5⟩
        | ct ρ5 =>
          rw [z2] at h4
          exact fun σ5 F5 H5 r5 x5 => ⟨ρ5, F5, r5, (x2.trans xe.ff).trans x5, h4.mono x5⟩
        | bk ρ5 =>
          rw [z2] at h4
          exact h4
        | rt d => rw [z2] at h4; exact h4
        | rn d => rw [z2] at h4; exact h4
        | rm d ρ5 => rw [z2] at h4; exact h4
        | ex x ρ5 => rw [z2] at h4; exact h4
        | st => rw [z2] at h4; exact h4
    · have ei : i = items.length := by omega
      subst ei
      rw [List.drop_length] at h2
      exact .inl ⟨yc.2 (Nat.le_refl _), h2 σ2 F2 H2 r2 (.refl F2)⟩
def sAsg (g : Rho → R D) (τ : D → Rho → R Rho) : Rho → S := sE g fun ρ d => match τ d ρ with
  | .ok ρ' => .nx ρ'
  | _ => .st
theorem s_asg {tg : Expr} {τ : D → Rho → R Rho} {is : List Nat} (he : DE X F0 H0 m W e g) (hg : DG X F0 H0 m m' is tg τ) (hs : swapsWithSole [tg] e pos.line X.env = pure false := by rfl) (hw : swappedStores [tg] e X.env = pure none := by rfl)
    (h1 : (assignEach [tg] X.env).map (·.2) = [assign tg X.env] := by rfl) : DS X F0 H0 m m' mL W (.Assign [tg] e pos) (sAsg g τ) := by
  refine ps_imp (ps_asg he hg hs hw h1) fun E σ H ⟨ρ, F, r, h⟩ => semS (k := fun d => match τ d ρ with | .ok ρ' => .nx ρ' | _ => .st) r h fun d v F1 H1 i1 r1 _ h1 => ⟨ρ, F1, d, r1, i1, ?_⟩
  cases z : τ d ρ with
  | ok ρ' =>
    rw [z] at h1
    exact fun σ' r' _ _ => h1 σ' F1 H1 r' (.refl F1)
  | ex x => rw [z] at h1; exact h1
  | st => rw [z] at h1; exact h1
theorem Rep.mut {K : PySem.W.Frag} {ρ : Rho} {σ : L2.St} {F H : Hp} {i : Nat} {p : Addr} {d d' : D} {o' : HO} (r : Rep K F0 H0 m ρ σ F H) (hi : F0.mut i) (hm : m[i]? = some true) (hd : ρ[i]? = some (some d)) (hp : σ[i]? = some (some (.ref p))) (f : F p = none) (n : H0 p = none) (c : IsC K F o' d') :
    Rep K F0 H0 m (ρ.set i (some d')) σ F (upd H p o') where
  len := by rw [List.length_set, r.len]
  fh := fun b u e => by rw [upd_ne (ne_of_none e f)]; exact r.fh b u e
  f0 := r.f0
  h0 := fun b u e => by rw [upd_ne (ne_of_none e n)]; exact r.h0 b u e
  new := r.new
  val := fun j e a b => by
    rcases getElem?_set_cases a with ⟨rfl, z, hl⟩ | ⟨hj, z⟩
    · exact absurd hm b
    · exact r.val j e z b
  own := fun j e a b => by
    rcases getElem?_set_cases a with ⟨rfl, z, hl⟩ | ⟨hj, z⟩
    · cases z
      exact ⟨p, o', hp, upd_same, c, f, n⟩
    · obtain ⟨q, o, z1, z2, z3, z4, z5⟩ := r.own j e z b
      have ne : q ≠ p := fun w => r.apart j i p e d hj b hm z hd (w ▸ z1) hp
      exact ⟨q, o, z1, by rw [upd_ne ne]; exact z2, z3, z4, z5⟩
  apart := fun j k q d1 e1 hjk a b c1 c2 e => by
    have k1 : ∃ d2, ρ[j]? = some (some d2) := by
      rcases getElem?_set_cases c1 with ⟨rfl, _, _⟩ | ⟨_, z⟩
      · exact ⟨d, hd⟩
      · exact ⟨d1, z⟩
    have k2 : ∃ d2, ρ[k]? = some (some d2) := by
      rcases getElem?_set_cases c2 with ⟨rfl, _, _⟩ | ⟨_, z⟩
      · exact ⟨d, hd⟩
      · exact ⟨e1, z⟩
    obtain ⟨d3, z3⟩ := k1
    obtain ⟨d4, z4⟩ := k2
    exact r.apart j k q d3 d4 hjk a b z3 z4 e
  bor := fun b hb => by
    obtain ⟨h1, h2, ⟨e, h3⟩, h4⟩ := r.bor b hb
    by_cases hj : b.1 = i
    · refine ⟨h1, h2, ⟨d', ?_⟩, fun x o z => ?_⟩
      · rw [hj, List.getElem?_set_self (List.getElem?_eq_some_iff.mp hd).1]
      · rw [hi b hb hj] at z
        cases z
    · refine ⟨h1, h2, ⟨e, by rw [List.getElem?_set_ne (Ne.symm hj)]; exact h3⟩, fun x o z => ?_⟩
      obtain ⟨z1, z2⟩ := h4 x o z
      have ne : b.2.1 ≠ p := fun w => r.apart b.1 i p e d hj h2 hm h3 hd (w ▸ h1) hp
      exact ⟨by rw [List.getElem?_set_ne (Ne.symm hj)]; exact z1, by rw [upd_ne ne]; exact z2⟩
def sAppend (i : Nat) (g : Rho → R D) : Rho → S := fun ρ => match ρ[i]? with
  | some (some (.list ds)) => sE g (fun ρ d => if ds.length < sizeLine then .nx (ρ.set i (some (.list (ds ++ [d])))) else .st) ρ
  | _ => .st
theorem s_append (i : Nat) {x : Str} {p2 apos cpos : Pos} (he : DE X F0 H0 m W e g) (hb : F0.mut i := by exact Bs.mut_of rfl) (hm : m[i]? = some true := by rfl) (hN : X.N[i]? = some x := by rfl) (hv : Vis X.env.scope x := by first | exact Or.inl rfl | exact Or.inr (Or.inl rfl) | exact Or.inr (Or.inr rfl)) (hd : (x == ("__debug__" : Str)) = false := by decide)
    (hcd : (x == ("__classdict__" : Str)) = false := by decide) (hsw : swapsWith (.Call (.Attribute (.Name x p2) "append" apos) [e] [] cpos) none pos.line X.env = pure false := by rfl)
    (hbase : attributeBase (.Name x p2) "append" X.env (eval (.Name x p2) X.env) = eval (.Name x p2) X.env := by rfl)
    (hfew : ((backTo cpos (starEach [e] X.env)).all (fun x => !x.1) && (backToKw cpos (keywordEach [] X.env)).all (fun x => x.1.isSome)
      && decide ([e].length + ([] : List Keyword).length + (if ([] : List Keyword).isEmpty then 0 else 1) < 30)) = true := by rfl)
    (hline : (apos.endLine == cpos.line) = true := by rfl) (hs : starEach [e] X.env = (false, eval e X.env) :: starEach [] X.env := by rfl) (hplain : (backTo cpos (starEach [] X.env)).any (·.1) = false := by rfl) :
    DS X F0 H0 m m mL W (.Expr (.Call (.Attribute (.Name x p2) "append" apos) [e] [] cpos) pos) (sAppend i g) := by
  refine ps_imp (ps_expr (pe_bm PySem.F.plainAttrs_list PySem.F.slot_list_append PySem.F.type_list_append mt_append (pe_var hN hv hd hcd) (pa_cons he pa_nil hs) hbase hfew hline hs hplain) hsw) fun E σ H ⟨ρ, F, r, h⟩ => ?_
  unfold sAppend at h
  split at h
  · rename_i ds e1
    obtain ⟨p, o, z1, z2, z3, z4, z5⟩ := r.own i _ e1 hm
    cases o with
    | lst xs =>
      have l : IsL X.K F xs ds := z3
      refine ⟨.ref p, z1, .inl ⟨rfl, xs, .of z2⟩, ?_⟩
      refine semS (k := fun d => if ds.length < sizeLine then .nx (ρ.set i (some (.list (ds ++ [d])))) else .st) r h fun d v F1 H1 i1 r1 x1 h1 => ?_
      by_cases hz : ds.length < sizeLine
      · rw [if_pos hz] at h1
        obtain ⟨p', o', y1, y2, y3, y4, y5⟩ := r1.own i _ e1 hm
        rw [z1] at y1
        cases y1
        cases o' with
        | lst xs' =>
          have l' : IsL X.K F1 xs' ds := y3
          exact ⟨p, xs', v, rfl, rfl, y2, by rw [l'.1]; exact hz, h1 σ F1 _ (r1.mut hb hm e1 z1 y4 y5 (show IsC _ _ (.lst (xs' ++ [v])) (.list (ds ++ [d])) from l'.snoc i1)) (.refl F1)⟩
        | _ => exact y3.elim
      · rw [if_neg hz] at h1
        exact h1.elim
    | _ => exact z3.elim
  · exact h.elim
theorem back_ext {K : PySem.W.Frag} {σ : L2.St} {ρ : Rho} {F F1 H F2 H2 : Hp} (r : Rep K F0 H0 m ρ σ F H) (x : Ext F1 H F2 H2) : Ext F H F H2 := ⟨.refl _, x.hh, r.fh.trans x.hh, fun _ _ f => f⟩
def bScal (p : Rho → R Bool) : Rho → R Bool := fun ρ => noX (p ρ)
theorem pe_some {e : Expr} {t : Hp → Hp → TE} (h : ∀ a b, PE X e (t a b)) : PE X e (fun σ H Q => ∃ a b, t a b σ H Q) := ⟨fun pins s σ H Q I ⟨a, b, q⟩ => (h a b).run pins s σ H Q I q⟩
theorem pt_some {e : Expr} {t : Hp → Hp → TT} (h : ∀ a b, PT X e (t a b)) : PT X e (fun σ H Q => ∃ a b, t a b σ H Q) := ⟨fun pins s σ H Q I ⟨a, b, q⟩ => (h a b).run pins s σ H Q I q⟩
theorem t_scal {p : Rho → R Bool} (h : ∀ Fb Hb : Hp, DT X ⟨Fb, []⟩ Hb [] W0 e p) : DT X F0 H0 m W e (bScal p) := by
  refine pt_imp (pt_some h) fun σ H Q ⟨ρ, F, r, q⟩ => ?_
  obtain ⟨F1, r1, s1⟩ := r.all
  refine ⟨F1, H, ρ, F1, r1, ?_⟩
  unfold bScal at q
  cases z : p ρ with
  | ex x => rw [z] at q; exact q.elim
  | st => rw [z] at q; exact q.elim
  | ok d =>
    rw [z] at q
    exact fun F2 H2 x2 => q F H2 (back_ext r x2)
end
def startR (n : Nat) (ds : List D) : Rho := ds.map some ++ List.replicate (n - ds.length) none
def endS : S → R D
  | .rt d => .ok d
  | .rn d => .ok d
  | .nx _ => .ok .non
  | .ex x _ => .ex x
  | _ => .st
def endN : S → R D
  | .rn d => .ok d
  | .ex x _ => .ex x
  | _ => .st
/-- the def with n names, np of them parameters -/
def runS (n np : Nat) (s : Rho → S) (ds : List D) : R D := if ds.length = np then endS (s (startR n ds)) else .st
def runN (n np : Nat) (s : Rho → S) (ds : List D) : R D := if ds.length = np then endN (s (startR n ds)) else .st
theorem rep_start {K : PySem.W.Frag} {F H : Hp} {N : List Str} {ds : List D} {vs : List V} {m : List Bool} (l : IsL K F vs ds) (s : Same F H) (hm : m.all (!·) = true) : Rep K ⟨F, []⟩ H m (startR N.length ds) (L2.start N vs) F H := by
  have nm : ∀ i : Nat, m[i]? ≠ some true := fun i z => by
    have := List.all_eq_true.mp hm true (List.mem_of_getElem? z)
    cases this
  refine ⟨?_, s, .refl _, .refl _, fun p h f => f, fun i d a _ => ?_, fun i d _ b => absurd b (nm i), fun i j p d e _ a => absurd a (nm i), fun b hb => nomatch hb⟩
  · unfold startR L2.start
    rw [List.length_append, List.length_append, List.length_map, List.length_map, List.length_replicate, List.length_replicate, l.1]
  · unfold startR at a
    by_cases hi : i < ds.length
    · rw [List.getElem?_append_left (by simpa using hi), List.getElem?_map] at a
      cases e : ds[i]? with
      | none => rw [e] at a; cases a
      | some d' =>
        rw [e] at a
        cases a
        obtain ⟨v, e2, i2⟩ := l.at e
        refine ⟨v, ?_, i2⟩
        unfold L2.start
        rw [List.getElem?_append_left (by rw [List.length_map, l.1]; exact hi), List.getElem?_map, e2]
        rfl
    · rw [List.getElem?_append_right (by simpa using hi), List.getElem?_replicate] at a
      split at a <;> cases a
section
variable {P : Program} {w : World} {K : PySem.W.Frag} {mg : Str → Option Value} {base : Heap} {x qual : Str} {params : Arguments} {body : List Stmt} {scope : Scope} {dvs : List V} {kws : List (Str × V)} {f : Addr} {fd : FuncData}
theorem fn_d {N ps : List Str} {k : Nat} {m m' : List Bool} {s : Rho → S} (n : Nat) (Fn : FunD K x qual params body scope dvs kws f fd) (Sc : FnScope N ps scope) (hn : N.length = n) (hm : m.all (!·) = true)
    (hb : ∀ (cdv : Value) (A : Around) (outer : List Env) (st : Shared) (H : Hp) (E : XK) (Fb : Hp), Room k (A.deeper (envOfC qual scope st.heap.objs.size f cdv)) →
      DSs (cxOf (L2.CX P w) P w K mg base N qual scope f cdv A outer st H E) ⟨Fb, []⟩ H m m' [] (fun cls d _ H => E cls d H) body s) : FnOk P w K mg base (L2.CX P w) (k + 1) f fd ps (spD K (runS n ps.length s)) := by
  subst hn
  refine Fn.ok Sc (fun vs H Q E h => ?_) fun cdv A outer st H vs Q E hr h => ?_
  · obtain ⟨ds, F, l, _, h⟩ := h
    unfold runS at h
    by_cases hd : ds.length = ps.length
    · rw [l.1]; exact hd
    · rw [if_neg hd] at h
      exact h.elim
  · obtain ⟨ds, F, l, sm, h⟩ := h
    refine ⟨_, hb cdv A outer st H E F hr, startR N.length ds, F, rep_start l sm hm, ?_⟩
    unfold runS at h
    by_cases hd : ds.length = ps.length
    · rw [if_pos hd] at h
      cases z : s (startR N.length ds) with
      | nx ρ => rw [z] at h; exact fun σ' F' H' r' _ => h .non F' H' r'.ext0 .non
      | rt d => rw [z] at h; exact fun v F' H' x _ i => h v F' H' x i
      | rm d ρ => rw [z] at h; exact h.elim
      | rn d => rw [z] at h; exact fun p o F' H' x _ e c fn n _ => h (.ref p) (upd F' p o) H' (x.share e fn n) (is_of_c upd_same (c.mono (same_upd fn)))
      | bk ρ => rw [z] at h; exact h.elim
      | ct ρ => rw [z] at h; exact h.elim
      | ex x ρ => rw [z] at h; exact fun cls od σ' F' H' r' _ i => h cls od F' H' r'.ext0 i
      | st => rw [z] at h; exact h.elim
    · rw [if_neg hd] at h
      exact h.elim
theorem fn_n {N ps : List Str} {k : Nat} {m m' : List Bool} {s : Rho → S} (n : Nat) (Fn : FunD K x qual params body scope dvs kws f fd) (Sc : FnScope N ps scope) (hn : N.length = n) (hm : m.all (!·) = true)
    (hb : ∀ (cdv : Value) (A : Around) (outer : List Env) (st : Shared) (H : Hp) (E : XK) (Fb : Hp), Room k (A.deeper (envOfC qual scope st.heap.objs.size f cdv)) →
      DSs (cxOf (L2.CX P w) P w K mg base N qual scope f cdv A outer st H E) ⟨Fb, []⟩ H m m' [] (fun cls d _ H => E cls d H) body s) : FnOk P w K mg base (L2.CX P w) (k + 1) f fd ps (spN K (runN n ps.length s)) := by
  subst hn
  refine Fn.ok Sc (fun vs H Q E h => ?_) fun cdv A outer st H vs Q E hr h => ?_
  · obtain ⟨ds, F, l, _, h⟩ := h
    unfold runN at h
    by_cases hd : ds.length = ps.length
    · rw [l.1]; exact hd
    · rw [if_neg hd] at h
      exact h.elim
  · obtain ⟨ds, F, l, sm, h⟩ := h
    refine ⟨_, hb cdv A outer st H E F hr, startR N.length ds, F, rep_start l sm hm, ?_⟩
    unfold runN at h
    by_cases hd : ds.length = ps.length
    · rw [if_pos hd] at h
      cases z : s (startR N.length ds) with
      | nx ρ => rw [z] at h; exact h.elim
      | rt d => rw [z] at h; exact h.elim
      | rm d ρ => rw [z] at h; exact h.elim
      | rn d => rw [z] at h; exact fun p o F' H' x _ e c fn n _ => h p o F' H' x e c fn n
      | bk ρ => rw [z] at h; exact h.elim
      | ct ρ => rw [z] at h; exact h.elim
      | ex x ρ => rw [z] at h; exact fun cls od σ' F' H' r' _ i => h cls od F' H' r'.ext0 i
      | st => rw [z] at h; exact h.elim
    · rw [if_neg hd] at h
      exact h.elim
/-- a def that hands back its own may be taken as one that hands back what is shared -/
theorem FnOk.ofN {k : Nat} {ps : List Str} {G : List D → R D} (h : FnOk P w K mg base (L2.CX P w) k f fd ps (spN K G)) : FnOk P w K mg base (L2.CX P w) k f fd ps (spD K G) := h.imp fun vs H Q E => spN_of
end
/-- the law's own promise -/
theorem law_sp {K : PySem.W.Frag} {G : List D → R D} {H : Hp} {a : Addr} {ns : List Int} (h : SqL K H a (ns.map V.int)) (hG : G [.list (ns.map D.int)] = .ok (.bl true)) : spD K G [.ref a] H (fun v _ => v = .bl true) fun _ _ _ => False := by
  refine ⟨[.list (ns.map D.int)], H, .cons (is_list h ⟨by rw [List.length_map, List.length_map], fun i x d a b => ?_⟩) .nil, .refl H, ?_⟩
  · rw [List.getElem?_map] at a b
    cases e : ns[i]? with
    | none => rw [e] at a; cases a
    | some z =>
      rw [e] at a b
      cases a
      cases b
      exact .int z
  · rw [hG]
    intro v F' H' x i
    cases i
    rfl
end Pd
namespace Pd
open PySem PySem.Spec PyProof.Rows L2
/-- the module's def x does G (shared results); CalN: hands back an object of its own -/
structure CalF (P : Program) (w : World) (K : PySem.W.Frag) (mg : Str → Option Value) (base : Heap) (k : Nat) (x : Str) (ps : List Str) (G : List D → R D) : Prop where
  ex : ∃ f fd, FnOk P w K mg base (L2.CX P w) k f fd ps (spD K G) ∧ mg x = some (.ref f) ∧ PySem.W.keepIn K (.ref f) = true ∧ Binds K fd ps []
section
variable {X : Cx} {F0 : Bs} {H0 : Hp} {m m' mL : List Bool} {W : WX} {pos : Pos} {e : Expr} {es : List Expr} {g : Rho → R D} {t : Rho → R (List D)} {k j : Nat} {x : Str} {ps : List Str} {G : List D → R D} {p : Pos}
theorem d_c (C : CalF X.prog X.w X.K X.mg X.base k x ps G) (hr : Room j X.A) (hj : k ≤ j) (tk : Takes X W) (ha : DA X F0 H0 m W (e :: es) t) (hg : Gl X x := by rfl)
    (hdb : (x == ("__debug__" : Str)) = false := by decide) (he : starEach (e :: es) X.env = (false, eval e X.env) :: starEach es X.env := by rfl) (hpl : (backTo pos (starEach es X.env)).any (·.1) = false := by rfl) : DE X F0 H0 m W (.Call (.Name x p) (e :: es) [] pos) (gA G t) := by
  obtain ⟨f, fd, a, b, c, d⟩ := C.ex
  exact d_call a (hr.mono hj) b c d tk ha hg hdb he hpl
theorem tN_of {K : PySem.W.Frag} {σ : L2.St} {H : Hp} {Q : VK} (h : tSem K F0 H0 m W g σ H Q) : tSemN K F0 H0 m W g σ H Q := by
  obtain ⟨ρ, F, r, h⟩ := h
  exact ⟨ρ, F, r, afterN_of h⟩
section
variable {elt tg iter : Expr} {ifs : List Expr} {gi : Rho → R (List D)} {τ : D → Rho → R Rho} {q : Rho → R Bool} {ge : Rho → R D} {m2 : List Bool}
theorem s_setLc (i : Nat) {y : Str} {py : Pos} {scope : Scope} {own : List (Str × Nat)} {is : List Nat} {spos : Pos} (hc : X.calm = true) (hN : X.N.Nodup) (hi : DI X F0 H0 m W tg iter gi) (ok : blkC X.N X.env.scope scope own = true)
    (hg : ∀ (s : Shared) (H : Hp) (C : Addr) (cl : List (Str × Addr)) (fp : List Addr), DG (X.blk s H scope (compEnvC scope cl C X.env) fp) F0 H0 m m2 is tg τ)
    (ht : ∀ (s : Shared) (H : Hp) (C : Addr) (cl : List (Str × Addr)) (fp : List Addr), DTs (X.blk s H scope (compEnvC scope cl C X.env) fp) F0 H0 m2 W0 ifs q)
    (he : ∀ (s : Shared) (H : Hp) (C : Addr) (cl : List (Str × Addr)) (fp : List Addr), DE (X.blk s H scope (compEnvC scope cl C X.env) fp) F0 H0 m2 W0 elt ge) (hv : ∀ i ∈ is, i ∈ own.map (·.2)) (hb : F0.ok i := by exact Bs.ok_of rfl) (hw : ((own.map (·.2)).all fun i => F0.bor.all fun b => !(b.1 == i)) = true := by rfl) (hy : X.N[i]? = some y := by rfl) (hyl : X.env.scope.names.lookup y = some .local := by rfl)
    (hsw : swapsWith (.ListComp elt [⟨tg, iter, ifs, 0⟩] scope pos) (some (.Name y py)) spos.line X.env = pure true := by exact sw_true rfl rfl rfl (by decide +kernel)) (hs : ∀ x, foldedSetIterable iter X.env x = pure x := by intro _; rfl) :
    DS X F0 H0 m (m.set i false) mL W (.Assign [.Name y py] (.ListComp elt [⟨tg, iter, ifs, 0⟩] scope pos) spos) (sSet i (gLc gi (own.map (·.2)) τ q ge)) :=
  ps_imp (ps_setLc hc hN hy hyl hsw hi (blkOk_by ok) hg ht he hs) fun E σ H ⟨ρ, F, r, h⟩ => lc_sem (ok_all hw) hv σ H _ (tN_of (semS (k := fun d => .nx (ρ.set i (some d))) r h fun d v F1 H1 i1 r1 _ h1 => h1 _ F1 H1 (r1.set i hb i1) (.refl F1)))
end
def bools : List D → Option (List Bool)
  | [] => some []
  | .bl b :: r => (bools r).map (b :: ·)
  | _ :: _ => none
theorem bools_is {K : PySem.W.Frag} {F : Hp} : ∀ {ds : List D} {vs : List V} {ys : List Bool}, IsL K F vs ds → bools ds = some ys → vs = ys.map V.bl
  | [], vs, ys, l, h => by cases h; exact l.unnil
  | d :: ds, vs, ys, l, h => by
    obtain ⟨x, xr, rfl, i, t⟩ := l.uncons
    cases d with
    | bl s =>
      cases i
      have h' : (bools ds).map (s :: ·) = some ys := h
      cases e : bools ds with
      | none => rw [e] at h'; cases h'
      | some zs =>
        rw [e] at h'
        cases h'
        rw [bools_is t e]
        rfl
    | _ => cases h
def allD : List D → R D
  | [.list ds] => match bools ds with
    | some bs => .ok (.bl (bs.all id))
    | none => .st
  | _ => .st
theorem c_all {K : PySem.W.Frag} : CallD K allD (rAll K) := by
  intro W σ F H ds vs Q s l q
  match ds, l, q with
  | [.list es], l, q =>
    obtain ⟨v, rfl, i⟩ := one_of l
    obtain ⟨a, xs, rfl, h, t⟩ := i.list_inv
    have q' : after K W σ F H (match bools es with | some bs => .ok (.bl (bs.all id)) | none => .st) Q := q
    cases e : bools es with
    | none => rw [e] at q'; exact q'.elim
    | some bs =>
      rw [e] at q'
      have e2 := bools_is t e
      subst e2
      exact ⟨a, bs, rfl, s.seq h, after.now q' s (.bl _)⟩
end
def iaddD : D → D → R D
  | .int i, .int j => .ok (.int (i + j))
  | .str a, .str b => if a.length + b.length ≤ sizeLine then .ok (.str (a ++ b)) else .st
  | _, _ => .st
theorem hu65 {A : Around} {k : Nat} (hr : Room k A) : A.units + 65 < cLine := by
  have := hr.un
  omega
theorem _root_.L2.Room.u65 {A : Around} {k : Nat} (hr : Room k A) : A.units + 65 < cLine := hu65 hr
theorem walk_d {l : PySem.W.OpenLaw} {n k : Nat} {q : Program} {loose : List Str} {XP : (Str → Option Value) → Heap → Prop} {YP : World → Heap → Prop} {d : DefRec} {x : Str} {G : List D → R D}
    (hn : l.most = some n) (hz : n ≤ sizeLine) (hdf : d.params.defaults = []) (hr : Room k callerA) (hG : ∀ ns : List Int, ns.length ≤ n → G [.list (ns.map D.int)] = .ok (.bl true))
    (hF : ∀ (w : World) (mg : Str → Option Value) (fa : Addr) (h : Heap), YP w h → h.Ns mainGlobals mg → mg d.name = some (.ref fa) →
      ∃ (K : PySem.W.Frag) (fd : FuncData), K.In h ∧ (∀ (s : Shared) (u : Value), BindsTo s fd ⟨[u], []⟩ [(x, u)]) ∧ ∀ base : Heap, K.In base → base.Ns mainGlobals mg → FnOk l.prog w K mg base (L2.CX l.prog w) k fa fd [x] (spD K G)) :
    PySem.W.WalkO q loose XP YP l.row.toRowW d [] (fun f vs => PySem.call f vs) := by
  refine Att.attach_call hn hdf ?_
  intro w s₀ s₁ mg mb fa o pm cd doc a vs ns Gr Y h1 h2 h3 hm ho hi hl hg
  obtain ⟨K, fd, KX, hb, ok⟩ := hF w mg fa _ Y Gr.T.g hm
  refine law_call (CX := L2.CX l.prog w) KX Gr.T.g Gr.T.b Gr.T.builtins Gr.T.nolimit hg ho hi (Nat.le_trans hl hz) hr ok hb (fun H _ hS => law_sp hS (hG ns hl)) fun H e s' z => ?_
  obtain ⟨_, _, _, _, _, _, _, _, _, _, _, _, z⟩ := z
  exact z.elim
end Pd
namespace Pd
open PySem PySem.Spec PyProof.Rows L2
section
variable {X : Cx} {F0 : Bs} {H0 : Hp} {m m' mL : List Bool} {W : WX} {pos : Pos} {e o : Expr} {es : List Expr} {g go : Rho → R D} {t : Rho → R (List D)} {k j : Nat} {x : Str} {ps : List Str} {G : List D → R D} {p : Pos}
def fldD (cs : List Str) (f : Str) : D → R D
  | .obj c fs => if cs.contains c = true then (match fs.lookup f with
    | some d => .ok d
    | none => .st) else .st
  | _ => .st
def gFld (cs : List Str) (f : Str) (g : Rho → R D) : Rho → R D := fun ρ => (g ρ).bind (fldD cs f)
theorem isK_lookup {K : PySem.W.Frag} {F : Hp} {f : Str} : ∀ {xs : List (Str × V)} {ds : List (Str × D)}, IsK K F xs ds → (∀ d, ds.lookup f = some d → ∃ v, xs.lookup f = some v ∧ Is K F v d) ∧ (ds.lookup f = none → xs.lookup f = none)
  | [], [], _ => ⟨fun d h => by simp at h, fun _ => rfl⟩
  | [], _ :: _, h => by have := h.1; simp at this
  | _ :: _, [], h => by have := h.1; simp at this
  | (a, v) :: xs, (b, d) :: ds, h => by
    obtain ⟨l, e1, e2⟩ := h
    have hk : a = b := e1 0 (a, v) (b, d) rfl rfl
    have hv : Is K F v d := e2 0 (a, v) (b, d) rfl rfl
    have tl : IsK K F xs ds := ⟨by simpa using l, fun i y z q w => e1 (i + 1) y z (by simpa using q) (by simpa using w), fun i y z q w => e2 (i + 1) y z (by simpa using q) (by simpa using w)⟩
    subst hk
    obtain ⟨i1, i2⟩ := isK_lookup (f := f) tl
    by_cases hf : f = a
    · subst hf
      refine ⟨fun z hz => ?_, fun hz => ?_⟩
      · rw [List.lookup_cons_self] at hz ⊢
        cases hz
        exact ⟨v, rfl, hv⟩
      · rw [List.lookup_cons_self] at hz
        cases hz
    · have hb : (f == a) = false := beq_eq_false_iff_ne.mpr hf
      refine ⟨fun z hz => ?_, fun hz => ?_⟩
      · simp only [List.lookup, hb] at hz ⊢
        exact i1 z hz
      · simp only [List.lookup, hb] at hz ⊢
        exact i2 hz
theorem d_fld {f : Str} (cs : List Str) (hc : ∀ c ∈ cs, Cls X.K (He.ga X.K c) ∧ NoAttr X.K (He.ga X.K c) f) (he : DE X F0 H0 m W e g) (hb : attributeBase e f X.env (eval e X.env) = eval e X.env := by rfl) : DE X F0 H0 m W (.Attribute e f pos) (gFld cs f g) := by
  refine pe_imp (pe_fld he hb) fun σ H Q ⟨ρ, F, r, h⟩ => ?_
  refine sem_bind (k := fldD cs f) r h fun d v F1 H1 _ i1 r1 h1 => ?_
  cases d with
  | obj c fs =>
    have h2 : after X.K W σ F1 H1 (if cs.contains c = true then (match fs.lookup f with
      | some d => .ok d
      | none => .st) else .st) Q := h1
    by_cases hz : cs.contains c = true
    · rw [if_pos hz] at h2
      obtain ⟨a, dx, xs, rfl, ha, ik⟩ := i1.obj_inv
      obtain ⟨cl, na⟩ := hc c (by simpa using hz)
      cases q : fs.lookup f with
      | none => rw [q] at h2; exact h2.elim
      | some d =>
        rw [q] at h2
        obtain ⟨v, e1, e2⟩ := (isK_lookup ik).1 d q
        exact ⟨a, _, dx, xs, v, rfl, r1.fh a _ ha, cl, na, e1, after.now h2 r1.fh e2⟩
    · rw [if_neg hz] at h2
      exact h2.elim
  | _ => exact h1.elim
/-- class c's method does G; dv: the defaults that fill up -/
structure CalM (P : Program) (w : World) (K : PySem.W.Frag) (mg : Str → Option Value) (base : Heap) (k : Nat) (c m : Str) (G : List D → R D) : Prop where
  ex : ∃ f fd ps ds dvs dv, FnOk P w K mg base (L2.CX P w) k f fd ps (spD K dv) ∧ Cls K (He.ga K c) ∧ Meth K (He.ga K c) m f ∧ Binds K fd ps ds ∧ Vals dvs ds ∧ ∃ ed : List D, (∀ H, IsL K H dvs ed) ∧ ∀ as, G as = dv (as ++ ed)
structure CalMN (P : Program) (w : World) (K : PySem.W.Frag) (mg : Str → Option Value) (base : Heap) (k : Nat) (c m : Str) (G : List D → R D) : Prop where
  ex : ∃ f fd ps ds dvs dv, FnOk P w K mg base (L2.CX P w) k f fd ps (spN K dv) ∧ Cls K (He.ga K c) ∧ Meth K (He.ga K c) m f ∧ Binds K fd ps ds ∧ Vals dvs ds ∧ ∃ ed : List D, (∀ H, IsL K H dvs ed) ∧ ∀ as, G as = dv (as ++ ed)
theorem run_fnW {CX : CXT} {f : Addr} {fd : FuncData} {sp : Sp} {ds : List Value} {dvs : List V} {E : L2.St → XK} {pins : List (Addr × Obj)} {σ : L2.St} {H : Hp} {s : Shared} {Q : VK} {us : List Value} {vs : List V} (F : FnOk X.prog X.w X.K X.mg X.base CX k f fd ps sp) (hr : Room k X.A) (hb : Binds X.K fd ps ds) (hd : Vals dvs ds) (hx : PassesAt CX X σ (E σ))
    (I : Inv X pins σ H s) (r : Vals vs us) (h : sp (vs ++ dvs) H Q (E σ)) : wpAny (model X.prog X.w) X.A (call (.ref f) us) (EP X pins σ Q) X.xe s := by
  have r2 : Vals (vs ++ dvs) (us ++ ds) := r.append hd
  have hl : (us ++ ds).length = ps.length := by rw [← r2.length]; exact F.len _ _ _ _ h
  refine wpAny_call (codeAny_mono (F.run X.A X.stack s H ⟨us, []⟩ (us ++ ds) (vs ++ dvs) Q (E σ) hr I.env0 (hb s us I.kIn hl) r2 h) fun r s' hq => ?_)
  cases r with
  | error e => exact hx pins H s e s' I hq
  | ok fl =>
    cases fl with
    | ret u => exact I.after hq
    | next => exact False.elim hq
    | brk => exact False.elim hq
    | cont => exact False.elim hq
/-- o.m(..) of an instance of the class at C, what it lets out told at the slots -/
def tMethW (C : Addr) (m : Str) (sp : Sp) (dvs : List V) (E : L2.St → XK) (ta : TE) (t : TA) : TE := fun σ H Q => ta σ H fun x H1 => ∃ a dx fs, x = .ref a ∧ H1 a = some (.ins C dx fs) ∧ fs.lookup m = none ∧
  t σ H1 fun vs H2 => sp (x :: (vs ++ dvs)) H2 Q (E σ)
section
variable {CX : CXT} {C f : Addr} {fd : FuncData} {sp : Sp} {dvs : List V} {ds : List Value} {E : L2.St → XK} {mn : Str} {ta : TE} {tt : TA} {apos : Pos}
theorem pe_methW {pl : Sem Bool} (he : PE X o ta) (c : Cls X.K C) (hm : Meth X.K C mn f) (F : FnOk X.prog X.w X.K X.mg X.base CX k f fd ps sp) (hr : Room k X.A) (hb : Binds X.K fd ps ds) (hd : Vals dvs ds) (hx : ∀ σ, PassesAt CX X σ (E σ)) (ha : PA X (e :: es) tt)
    (hst : starEach (e :: es) X.env = (false, eval e X.env) :: starEach es X.env) (hpl : (backTo pos (starEach es X.env)).any (·.1) = false)
    (ht : eval (.Call (.Attribute o mn apos) (e :: es) [] pos) X.env = (do
      let ov ← eval o X.env
      standAt apos.atName
      let (f, first) ← holding [ov] (getMethod ov mn pl)
      callWith pos f first (backTo pos (starEach (e :: es) X.env)) (backToKw pos (keywordEach [] X.env)))) :
    PE X (.Call (.Attribute o mn apos) (e :: es) [] pos) (tMethW C mn sp dvs E ta tt) := by
  refine ⟨fun pins s σ H Q I h => ?_⟩
  refine PySem.W.methodCall_KW (pl := pl) (thn (he.run pins s σ H _ I h) fun u s1 ⟨x, H1, I1, rx, a, dx, fs, ex, ea, l, q⟩ => ?_) ht
  subst ex
  obtain rfl : u = Value.ref a := rx
  refine getmeth_ok I1 ea c hm l ?_
  refine PySem.W.callWith_K (first := [.ref a]) (h₀ := X.base) I.ok.mod.kin hm.kp (thn (ha.run pos pins s1 σ H1 _ I1 q) fun us s2 ⟨vs, H2, I2, r, q2⟩ => ⟨I2.kIn, ?_⟩) hst hpl
  exact run_fnW (us := .ref a :: us) (vs := .ref a :: vs) F hr hb hd (hx σ) I2 (.cons rfl r) q2
theorem pe_methW0 {pl : Sem Bool} (he : PE X o ta) (c : Cls X.K C) (hm : Meth X.K C mn f) (F : FnOk X.prog X.w X.K X.mg X.base CX k f fd ps sp) (hr : Room k X.A) (hb : Binds X.K fd ps ds) (hd : Vals dvs ds) (hx : ∀ σ, PassesAt CX X σ (E σ))
    (ht : eval (.Call (.Attribute o mn apos) [] [] pos) X.env = (do
      let ov ← eval o X.env
      standAt apos.atName
      let (f, first) ← holding [ov] (getMethod ov mn pl)
      callWith pos f first (backTo pos (starEach [] X.env)) (backToKw pos (keywordEach [] X.env)))) :
    PE X (.Call (.Attribute o mn apos) [] [] pos) (tMethW C mn sp dvs E ta tNil) := by
  refine ⟨fun pins s σ H Q I h => ?_⟩
  refine PySem.W.methodCall_KW (pl := pl) (thn (he.run pins s σ H _ I h) fun u s1 ⟨x, H1, I1, rx, a, dx, fs, ex, ea, l, q⟩ => ?_) ht
  subst ex
  obtain rfl : u = Value.ref a := rx
  refine getmeth_ok I1 ea c hm l ?_
  exact PySem.W.callWith_K0 (first := [.ref a]) I1.kIn hm.kp (run_fnW (us := [.ref a]) (vs := [.ref a]) F hr hb hd (hx σ) I1 (.cons rfl .nil) q)
end
/-- which def an object's method is -/
def metD (tb : List (Str × (List D → R D))) (mn : Str) (d : D) (k : (List D → R D) → R D) : R D := match d with
  | .obj c fs => (match fs.lookup mn with
    | some _ => .st
    | none => match tb.lookup c with
      | some G => k fun as => G (d :: as)
      | none => .st)
  | _ => .st
def gMeth (tb : List (Str × (List D → R D))) (mn : Str) (go : Rho → R D) (t : Rho → R (List D)) : Rho → R D := fun ρ => (go ρ).bind fun d => metD tb mn d fun G => (t ρ).bind G
theorem lookup_mem {α : Type} {c : Str} {G : α} : ∀ {l : List (Str × α)}, l.lookup c = some G → (c, G) ∈ l
  | (a, b) :: r, h => by
    by_cases hc : c = a
    · subst hc
      rw [List.lookup_cons_self] at h
      cases h
      simp
    · have hb : (c == a) = false := beq_eq_false_iff_ne.mpr hc
      simp only [List.lookup, hb] at h
      exact List.mem_cons_of_mem _ (lookup_mem h)
theorem gMeth_row {tb : List (Str × (List D → R D))} {mn : Str} {ρ : Rho} (hne : tb ≠ []) (hs : gMeth tb mn go t ρ ≠ .st) : ∃ q ∈ tb, gMeth [q] mn go t ρ = gMeth tb mn go t ρ := by
  unfold gMeth at hs ⊢
  cases z : go ρ with
  | st => rw [z] at hs; exact absurd rfl hs
  | ex x =>
    obtain ⟨q, hq⟩ := List.exists_mem_of_ne_nil _ hne
    exact ⟨q, hq, rfl⟩
  | ok d =>
    rw [z] at hs
    cases d with
    | obj c fs =>
      have hs2 : (match fs.lookup mn with
        | some _ => R.st
        | none => match tb.lookup c with
          | some G => (t ρ).bind fun as => G (.obj c fs :: as)
          | none => R.st) ≠ .st := hs
      cases z2 : fs.lookup mn with
      | some _ => rw [z2] at hs2; exact absurd rfl hs2
      | none =>
        rw [z2] at hs2
        cases z3 : tb.lookup c with
        | none => rw [z3] at hs2; exact absurd rfl hs2
        | some G =>
          refine ⟨(c, G), lookup_mem z3, ?_⟩
          show (match fs.lookup mn with
            | some _ => R.st
            | none => match List.lookup c [(c, G)] with
              | some G => (t ρ).bind fun as => G (.obj c fs :: as)
              | none => R.st) = (match fs.lookup mn with
            | some _ => R.st
            | none => match tb.lookup c with
              | some G => (t ρ).bind fun as => G (.obj c fs :: as)
              | none => R.st)
          rw [z2, z3, List.lookup_cons_self]
    | _ => exact absurd rfl hs
theorem pe_mem {α : Type} {l : List α} {tt : α → TE} (h : ∀ q ∈ l, PE X e (tt q)) : PE X e (fun σ H Q => ∃ q, q ∈ l ∧ tt q σ H Q) := ⟨fun pins s σ H Q I ⟨q, hq, z⟩ => (h q hq).run pins s σ H Q I z⟩
theorem d_meth {tb : List (Str × (List D → R D))} {mn : Str} (h : ∀ q ∈ tb, DE X F0 H0 m W e (gMeth [q] mn go t)) (hne : tb ≠ [] := by simp) : DE X F0 H0 m W e (gMeth tb mn go t) :=
  pe_imp (pe_mem h) fun σ H Q ⟨ρ, F, r, q⟩ => by
    by_cases hs : gMeth tb mn go t ρ = .st
    · rw [hs] at q
      exact q.elim
    · obtain ⟨z, hz, ez⟩ := gMeth_row hne hs
      exact ⟨z, hz, ρ, F, r, by rw [ez]; exact q⟩
theorem n_meth {tb : List (Str × (List D → R D))} {mn : Str} (h : ∀ q ∈ tb, DN X F0 H0 m W e (gMeth [q] mn go t)) (hne : tb ≠ [] := by simp) : DN X F0 H0 m W e (gMeth tb mn go t) :=
  pe_imp (pe_mem h) fun σ H Q ⟨ρ, F, r, q⟩ => by
    by_cases hs : gMeth tb mn go t ρ = .st
    · rw [hs] at q
      exact q.elim
    · obtain ⟨z, hz, ez⟩ := gMeth_row hne hs
      exact ⟨z, hz, ρ, F, r, by rw [ez]; exact q⟩
theorem meth_sem {new : Bool} {mn c : Str} {dv : List D → R D} {dvs : List V} {ed : List D} (he : ∀ H, IsL X.K H dvs ed) (hG : ∀ as, G as = dv (as ++ ed)) (σ : L2.St) (H : Hp) (Q : VK)
    (h : if new = true then tSemN X.K F0 H0 m W (gMeth [(c, G)] mn go t) σ H Q else tSem X.K F0 H0 m W (gMeth [(c, G)] mn go t) σ H Q) :
    tMethW (He.ga X.K c) mn (if new = true then spN X.K dv else spD X.K dv) dvs (WE W) (tSem X.K F0 H0 m W go) (tSemA X.K F0 H0 m W t) σ H Q := by
  cases new with
  | true =>
    obtain ⟨ρ, F, r, h⟩ := (show tSemN X.K F0 H0 m W (gMeth [(c, G)] mn go t) σ H Q from h)
    refine sem_bindN (k := fun d => metD [(c, G)] mn d fun G => (t ρ).bind G) r h fun d v F1 H1 _ i1 r1 h1 => ?_
    cases d with
    | obj c' fs =>
      obtain ⟨a, dx, xs, rfl, ha, ik⟩ := i1.obj_inv
      have h2 : afterN X.K W σ F1 H1 (match fs.lookup mn with
        | some _ => .st
        | none => match List.lookup c' [(c, G)] with
          | some G => (t ρ).bind fun as => G (.obj c' fs :: as)
          | none => .st) Q := h1
      cases z : fs.lookup mn with
      | some _ => rw [z] at h2; exact h2.elim
      | none =>
        rw [z] at h2
        by_cases hc : c' = c
        · subst hc
          rw [List.lookup_cons_self] at h2
          refine ⟨a, dx, xs, rfl, r1.fh a _ ha, (isK_lookup ik).2 z, ?_⟩
          refine semA_bindN (k := fun as => G (.obj c' fs :: as)) r1 h2 fun ds vs F2 H2 x2 i2 r2 h3 => ?_
          refine ⟨(.obj c' fs :: ds) ++ ed, F2, ?_, r2.fh, ?_⟩
          · exact IsL.append (.cons (.mono (.obj ha ik.1 ik.2.1 ik.2.2) x2.ff) i2) (he F2)
          · have h4 : afterN X.K W σ F2 H2 (G (.obj c' fs :: ds)) Q := h3
            rw [hG] at h4
            cases z4 : dv ((.obj c' fs :: ds) ++ ed) with
            | ok d => rw [z4] at h4; exact h4
            | ex x => rw [z4] at h4; exact h4
            | st => rw [z4] at h4; exact h4
        · have hb : (c' == c) = false := beq_eq_false_iff_ne.mpr hc
          simp only [List.lookup, hb] at h2
          exact h2.elim
    | _ => exact h1.elim
  | false =>
    obtain ⟨ρ, F, r, h⟩ := (show tSem X.K F0 H0 m W (gMeth [(c, G)] mn go t) σ H Q from h)
    refine sem_bind (k := fun d => metD [(c, G)] mn d fun G => (t ρ).bind G) r h fun d v F1 H1 _ i1 r1 h1 => ?_
    cases d with
    | obj c' fs =>
      obtain ⟨a, dx, xs, rfl, ha, ik⟩ := i1.obj_inv
      have h2 : after X.K W σ F1 H1 (match fs.lookup mn with
        | some _ => .st
        | none => match List.lookup c' [(c, G)] with
          | some G => (t ρ).bind fun as => G (.obj c' fs :: as)
          | none => .st) Q := h1
      cases z : fs.lookup mn with
      | some _ => rw [z] at h2; exact h2.elim
      | none =>
        rw [z] at h2
        by_cases hc : c' = c
        · subst hc
          rw [List.lookup_cons_self] at h2
          refine ⟨a, dx, xs, rfl, r1.fh a _ ha, (isK_lookup ik).2 z, ?_⟩
          refine semA_bind (k := fun as => G (.obj c' fs :: as)) r1 h2 fun ds vs F2 H2 x2 i2 r2 h3 => ?_
          refine ⟨(.obj c' fs :: ds) ++ ed, F2, ?_, r2.fh, ?_⟩
          · exact IsL.append (.cons (.mono (.obj ha ik.1 ik.2.1 ik.2.2) x2.ff) i2) (he F2)
          · have h4 : after X.K W σ F2 H2 (G (.obj c' fs :: ds)) Q := h3
            rw [hG] at h4
            cases z4 : dv ((.obj c' fs :: ds) ++ ed) with
            | ok d => rw [z4] at h4; exact h4
            | ex x => rw [z4] at h4; exact h4
            | st => rw [z4] at h4; exact h4
        · have hb : (c' == c) = false := beq_eq_false_iff_ne.mpr hc
          simp only [List.lookup, hb] at h2
          exact h2.elim
    | _ => exact h1.elim
section
variable {mn c : Str} {apos : Pos} {pl : Sem Bool}
theorem d_meth1 (C : CalM X.prog X.w X.K X.mg X.base k c mn G) (hr : Room j X.A) (hj : k ≤ j) (tk : Takes X W) (ho : DE X F0 H0 m W o go) (ha : DA X F0 H0 m W (e :: es) t)
    (hst : starEach (e :: es) X.env = (false, eval e X.env) :: starEach es X.env) (hpl : (backTo pos (starEach es X.env)).any (·.1) = false)
    (ht : eval (.Call (.Attribute o mn apos) (e :: es) [] pos) X.env = (do
      let ov ← eval o X.env
      standAt apos.atName
      let (f, first) ← holding [ov] (getMethod ov mn pl)
      callWith pos f first (backTo pos (starEach (e :: es) X.env)) (backToKw pos (keywordEach [] X.env)))) : DE X F0 H0 m W (.Call (.Attribute o mn apos) (e :: es) [] pos) (gMeth [(c, G)] mn go t) := by
  obtain ⟨f, fd, ps, ds, dvs, dv, F, cl, hm, hb, hd, ed, he, hG⟩ := C.ex
  exact pe_imp (pe_methW ho cl hm F (hr.mono hj) hb hd (fun σ => passAt tk σ) ha hst hpl ht) fun σ H Q h => meth_sem (new := false) he hG σ H Q h
theorem n_meth1 (C : CalMN X.prog X.w X.K X.mg X.base k c mn G) (hr : Room j X.A) (hj : k ≤ j) (tk : Takes X W) (ho : DE X F0 H0 m W o go) (ha : DA X F0 H0 m W (e :: es) t)
    (hst : starEach (e :: es) X.env = (false, eval e X.env) :: starEach es X.env) (hpl : (backTo pos (starEach es X.env)).any (·.1) = false)
    (ht : eval (.Call (.Attribute o mn apos) (e :: es) [] pos) X.env = (do
      let ov ← eval o X.env
      standAt apos.atName
      let (f, first) ← holding [ov] (getMethod ov mn pl)
      callWith pos f first (backTo pos (starEach (e :: es) X.env)) (backToKw pos (keywordEach [] X.env)))) : DN X F0 H0 m W (.Call (.Attribute o mn apos) (e :: es) [] pos) (gMeth [(c, G)] mn go t) := by
  obtain ⟨f, fd, ps, ds, dvs, dv, F, cl, hm, hb, hd, ed, he, hG⟩ := C.ex
  exact pe_imp (pe_methW ho cl hm F (hr.mono hj) hb hd (fun σ => passAt tk σ) ha hst hpl ht) fun σ H Q h => meth_sem (new := true) he hG σ H Q h
theorem da_nil0 (σ : L2.St) (H : Hp) (Q : List V → Hp → Prop) (h : tSemA X.K F0 H0 m W aNil σ H Q) : tNil σ H Q := by
  obtain ⟨ρ, F, r, h⟩ := h
  exact h [] F H (.refl r.fh) .nil
theorem tMethW_imp {C : Addr} {sp : Sp} {dvs : List V} {E : L2.St → XK} {ta : TE} {t1 t2 : TA} (h : ∀ σ H Q, t1 σ H Q → t2 σ H Q) (mono : ∀ σ H (Q Q' : VK), (∀ v H', Q v H' → Q' v H') → ta σ H Q → ta σ H Q') (σ : L2.St) (H : Hp) (Q : VK) : tMethW C mn sp dvs E ta t1 σ H Q → tMethW C mn sp dvs E ta t2 σ H Q :=
  mono σ H _ _ fun v H' ⟨a, dx, fs, z1, z2, z3, z4⟩ => ⟨a, dx, fs, z1, z2, z3, h _ _ _ z4⟩
theorem tSem_mono (σ : L2.St) (H : Hp) (Q Q' : VK) (h : ∀ v H', Q v H' → Q' v H') : tSem X.K F0 H0 m W go σ H Q → tSem X.K F0 H0 m W go σ H Q' := fun ⟨ρ, F, r, q⟩ => by
  refine ⟨ρ, F, r, ?_⟩
  cases z : go ρ with
  | ok d => rw [z] at q; exact fun v F' H' x i => h _ _ (q v F' H' x i)
  | ex x => rw [z] at q; exact q
  | st => rw [z] at q; exact q
theorem d_meth0 (C : CalM X.prog X.w X.K X.mg X.base k c mn G) (hr : Room j X.A) (hj : k ≤ j) (tk : Takes X W) (ho : DE X F0 H0 m W o go)
    (ht : eval (.Call (.Attribute o mn apos) [] [] pos) X.env = (do
      let ov ← eval o X.env
      standAt apos.atName
      let (f, first) ← holding [ov] (getMethod ov mn pl)
      callWith pos f first (backTo pos (starEach [] X.env)) (backToKw pos (keywordEach [] X.env)))) : DE X F0 H0 m W (.Call (.Attribute o mn apos) [] [] pos) (gMeth [(c, G)] mn go aNil) := by
  obtain ⟨f, fd, ps, ds, dvs, dv, F, cl, hm, hb, hd, ed, he, hG⟩ := C.ex
  exact pe_imp (pe_methW0 ho cl hm F (hr.mono hj) hb hd (fun σ => passAt tk σ) ht) fun σ H Q h => tMethW_imp (fun σ H Q => da_nil0 σ H Q) (fun σ H Q Q' => tSem_mono σ H Q Q') σ H Q (meth_sem (new := false) he hG σ H Q h)
theorem n_meth0 (C : CalMN X.prog X.w X.K X.mg X.base k c mn G) (hr : Room j X.A) (hj : k ≤ j) (tk : Takes X W) (ho : DE X F0 H0 m W o go)
    (ht : eval (.Call (.Attribute o mn apos) [] [] pos) X.env = (do
      let ov ← eval o X.env
      standAt apos.atName
      let (f, first) ← holding [ov] (getMethod ov mn pl)
      callWith pos f first (backTo pos (starEach [] X.env)) (backToKw pos (keywordEach [] X.env)))) : DN X F0 H0 m W (.Call (.Attribute o mn apos) [] [] pos) (gMeth [(c, G)] mn go aNil) := by
  obtain ⟨f, fd, ps, ds, dvs, dv, F, cl, hm, hb, hd, ed, he, hG⟩ := C.ex
  exact pe_imp (pe_methW0 ho cl hm F (hr.mono hj) hb hd (fun σ => passAt tk σ) ht) fun σ H Q h => tMethW_imp (fun σ H Q => da_nil0 σ H Q) (fun σ H Q Q' => tSem_mono σ H Q Q') σ H Q (meth_sem (new := true) he hG σ H Q h)
end
theorem fm {α : Type} {p : α → Prop} {a : α} {l : List α} (h : p a) (t : ∀ x ∈ l, p x) : ∀ x ∈ a :: l, p x := List.forall_mem_cons.mpr ⟨h, t⟩
theorem fn0 {α : Type} {p : α → Prop} : ∀ x ∈ ([] : List α), p x := fun _ h => (nomatch h)
/-- what a class of exceptions without an __init__ of its own must have -/
structure ExcK (K : PySem.W.Frag) (mg : Str → Option Value) (x : Str) : Prop where
  q : PySem.W.excIn K (He.ga K x) He.veBase "ValueError.__new__" = true
  kC : PySem.W.keepIn K (.ref (He.ga K x)) = true
  sb : PySem.W.subIn K (.ref (He.ga K x)) (.type "BaseException") = some true
  ty : PySem.W.typeIn K (.ref (He.ga K x)) = some (.type "type")
  gC : mg x = some (.ref (He.ga K x))
abbrev ExcF (X : Cx) (x : Str) : Prop := ExcK X.K X.mg x
def sRaise (x : Str) : Rho → S := fun ρ => .ex ⟨x, []⟩ ρ
theorem s_raise {msg : Str} {i : Nat} {p2 pos' : Pos} (Fx : ExcF X x) (hc : X.calm = true) (tk : Takes X W) (hg : Gl X x := by rfl) (hdb : (x == ("__debug__" : Str)) = false := by decide) :
    DS X F0 H0 m m' mL W (.Raise (some (.Call (.Name x p) [.Constant (.str msg) i p2] [] pos')) none pos) (sRaise x) :=
  ps_imp (ps_raise hc tk (pmk_own F.excBase_ValueError Fx.q Fx.gC Fx.kC (raises_own Fx.sb Fx.ty) hg hdb)) fun E σ H ⟨ρ, F, r, h⟩ => by
    obtain ⟨F', r', s1⟩ := r.freeze
    exact h _ none σ F' H r' s1 ⟨rfl, fun z => absurd rfl z, fun _ => rfl⟩
theorem Rep.nomask {K : PySem.W.Frag} {ρ : Rho} {σ : L2.St} {F H : Hp} (r : Rep K F0 H0 m ρ σ F H) (h1 : m.all (!·) = true) (h2 : m'.all (!·) = true) : Rep K F0 H0 m' ρ σ F H := by
  have nm : ∀ {m : List Bool}, m.all (!·) = true → ∀ i : Nat, m[i]? ≠ some true := fun h i z => by
    have := List.all_eq_true.mp h true (List.mem_of_getElem? z)
    cases this
  exact ⟨r.len, r.fh, r.f0, r.h0, r.new, fun i d a _ => r.val i d a (nm h1 i), fun i d _ b => absurd b (nm h2 i), fun i j p d e _ a => absurd a (nm h2 i), fun b hb => absurd (r.bor b hb).2.1 (nm h1 _)⟩
def noXS : S → S
  | .ex _ _ => .st
  | r => r
/-- which exceptions a clause catches -/
def sTry (tb : List (Str × Bool)) (s u : Rho → S) : Rho → S := fun ρ => match s ρ with
  | .ex x ρ1 => (match tb.lookup x.cls with
    | some true => noXS (u ρ1)
    | some false => .ex x ρ1
    | none => .st)
  | r => r
theorem afterS.noX {K : PySem.W.Frag} {Fb : Hp} {r : S} {E : Ends} (h : afterS K F0 H0 m' mL W Fb (noXS r) E) : afterS K F0 H0 m' mL W0 Fb r E := by
  cases r with
  | ex x ρ => exact h.elim
  | _ => exact h
/-- the class that a clause names, and what it catches -/
structure CatF (X : Cx) (x : Str) (c : Value) (tb : List (Str × Bool)) : Prop where
  nm : Names X x c
  ex : ∀ q ∈ tb, PySem.W.exmOne X.K (.ref (He.ga X.K q.1)) c = some q.2
theorem s_try_only {body suite : List Stmt} {b₀ : Stmt} {np pos' : Pos} {c : Value} {mh : List Bool} {tb : List (Str × Bool)} {s u : Rho → S} (hs : X.stack = X.env :: X.outer) (hf : X.env.frame = some X.env.locals) (Ct : CatF X x c tb) (tk : Takes X W) (h0 : F0.bor = [])
    (hb : ∀ (W : WX) (pn : List (Addr × Obj)) (xe : Value → Shared → Prop), Takes (X.tr pn xe) W → DSs (X.tr pn xe) F0 H0 m m' mL W body s) (hmh : mh.all (!·) = true)
    (hsu : ∀ (a : Addr) (pn : List (Addr × Obj)), DSs (X.suite a pn) F0 H0 mh m' mL W0 (b₀ :: suite) u) :
    DS X F0 H0 m m' mL W (.Try body [.ExceptHandler (some (.Name x np)) none (b₀ :: suite) pos'] [] [] pos) (sTry tb s u) := by
  refine ps_imp (ps_try_only (tb := fun W => tSemS X.K F0 H0 m m' mL W s) (ts := fun _ _ _ => tSemS X.K F0 H0 mh m' mL W0 u) hs hf Ct.nm tk (fun W pn xe t _ => hb W pn xe t) fun a oe cls d pn _ _ => hsu a _) fun E σ H ⟨ρ, F, r, h⟩ => ?_
  refine ⟨ρ, F, r, ?_⟩
  unfold sTry at h
  cases z : s ρ with
  | ex x1 ρ1 =>
    rw [z] at h
    intro cls od σ1 F1 H1 r1 s1 i1
    have h2 : afterS X.K F0 H0 m' mL W F (match tb.lookup x1.cls with
      | some true => noXS (u ρ1)
      | some false => .ex x1 ρ1
      | none => .st) E := h
    cases q : tb.lookup x1.cls with
    | none => rw [q] at h2; exact h2.elim
    | some b =>
      rw [q] at h2
      refine ⟨b, ?_, fun e a na => ?_, fun e => ?_⟩
      · rw [i1.1]
        exact Ct.ex _ (lookup_mem q)
      · subst e
        refine ⟨ρ1, F1, r1.nomask ?_ hmh, (afterS.noX h2).mono s1⟩
        unfold bmask
        rw [h0]
        rfl
      · subst e
        exact h2 cls od σ1 F1 H1 r1 s1 i1
  | nx _ => rw [z] at h; exact h
  | rt _ => rw [z] at h; exact h
  | rn _ => rw [z] at h; exact h
  | rm _ _ => rw [z] at h; exact h
  | bk _ => rw [z] at h; exact h
  | ct _ => rw [z] at h; exact h
  | st => rw [z] at h; exact h.elim
end
end Pd
namespace Pd
open PySem PySem.Spec PyProof.Rows L2
section
variable {X : Cx} {K : PySem.W.Frag} {F0 : Bs} {H0 : Hp} {m m' mL : List Bool} {W : WX} {pos : Pos} {a b c e o : Expr} {es : List Expr} {g gi : Rho → R D} {t : Rho → R (List D)}
theorem n_dict0 : DN X F0 H0 m W (.Dict [] [] pos) (gC (.dict false [])) :=
  pe_imp pe_dnewK fun σ H Q ⟨ρ, F, r, h⟩ => fun p hp => afterN.now h r.fh hp (show IsC _ _ (.dK []) (.dict false []) from ⟨rfl, rfl, fun i x d a _ => by simp at a, fun i x d a _ => by simp at a⟩)
theorem IsL.set {F : Hp} {xs : List V} {ds : List D} {v : V} {d : D} (l : IsL K F xs ds) (h : Is K F v d) (j : Nat) : IsL K F (xs.set j v) (ds.set j d) := by
  refine ⟨by rw [List.length_set, List.length_set]; exact l.1, fun i x e a b => ?_⟩
  rcases getElem?_set_cases a with ⟨rfl, z, hl⟩ | ⟨hj, z⟩
  · rw [List.getElem?_set_self (by rw [← l.1]; exact hl)] at b
    cases b
    subst z
    exact h
  · rw [List.getElem?_set_ne (Ne.symm hj)] at b
    exact l.2 i x e z b
def catD : D → D → R D
  | .list a, .list b => if a.length + b.length ≤ sizeLine then .ok (.list (a ++ b)) else .st
  | _, _ => .st
end
end Pd
namespace Pd
open PySem PySem.Spec PyProof.Rows L2
noncomputable def pick (f : Addr → S) : S := open Classical in if ∀ a, f a = f 0 then f 0 else .st
end Pd
namespace PySem.SeqAt
open PySem PySem.F
theorem dict_eq_declines_str (l : Addr) (es : Array DictEntry) (n : Nat) (dd : Option Addr) (sl : Array (Option Value)) (b : Str) (u : Tok) :
    Meets (Builtin.«dict.__eq__» ⟨[.ref l, .str b u], []⟩) (fun _ R s => s.heap.get? l = some { cls := .type "dict", dict := dd, data := .dict es n, slots := sl } ∧ R (.ok (.ret .notImplemented)) s) :=
  .of_wp fun prog w A R s h => by obtain ⟨hp, g, d, tk, os⟩ := s; obtain ⟨hl, h⟩ := h; have f1 := F.sub_str_dict; wp_walk using wpAny_loadPart' hl, wpAny_load hl; exact ⟨_, rfl, h⟩
theorem str_eq_declines_dict (b : Str) (u : Tok) (l : Addr) (c : Value) (es : Array DictEntry) (n : Nat) (dd : Option Addr) (sl : Array (Option Value)) :
    Meets (Builtin.«str.__eq__» ⟨[.str b u, .ref l], []⟩) (fun _ R s => s.heap.get? l = some { cls := c, dict := dd, data := .dict es n, slots := sl } ∧ R (.ok (.ret .notImplemented)) s) :=
  .of_wp fun prog w A R s h => by obtain ⟨hp, g, d, tk, os⟩ := s; obtain ⟨hl, h⟩ := h; wp_walk using wpAny_loadPart' hl, wpAny_load hl; exact ⟨_, rfl, h⟩
section
variable {A : Around} {s : Shared}
theorem RcAt.dict_str {l : Addr} {es : Array DictEntry} {n : Nat} {dd : Option Addr} {sl : Array (Option Value)} (b : Str) (u : Tok) (ho : s.heap.get? l = some { cls := .type "dict", dict := dd, data := .dict es n, slots := sl }) (hu : A.units < cLine) : RcAt A s (.ref l) (.str b u) false := fun prog w E Q h =>
  rc_eq_decline_or (k := false) ⟨_, ho, rfl⟩ (typeIs_str s b u) (by decide) F.sub_str_dict F.slot_dict_eq F.slot_str_eq_refl
    (fun _ hq => call_meets F.slot_dict_eq ⟨_, ho, rfl⟩ F.entry_dict_eq (F.args_dict_eq_2 _ _) (dict_eq_declines_str l es n dd sl b u) ⟨ho, hq⟩)
    (fun _ hq => call_meets F.slot_str_eq_refl (typeIs_str s b u) F.entry_str_eq (F.args_str_eq_2 _ _) (str_eq_declines_dict b u l (.type "dict") es n dd sl) ⟨ho, hq⟩)
    (fun _ hq => wpAny_of_eq (rfl : isSame (.ref l) (.str b u) = pure false) hq) (.inr hu) h
theorem RcAt.str_dict {l : Addr} {es : Array DictEntry} {n : Nat} {dd : Option Addr} {sl : Array (Option Value)} (b : Str) (u : Tok) (ho : s.heap.get? l = some { cls := .type "dict", dict := dd, data := .dict es n, slots := sl }) (hu : A.units < cLine) : RcAt A s (.str b u) (.ref l) false := fun prog w E Q h =>
  rc_eq_decline_or (k := false) (typeIs_str s b u) ⟨_, ho, rfl⟩ (by decide) F.sub_dict_str F.slot_str_eq F.slot_dict_eq_refl
    (fun _ hq => call_meets F.slot_str_eq (typeIs_str s b u) F.entry_str_eq (F.args_str_eq_2 _ _) (str_eq_declines_dict b u l (.type "dict") es n dd sl) ⟨ho, hq⟩)
    (fun _ hq => call_meets F.slot_dict_eq_refl ⟨_, ho, rfl⟩ F.entry_dict_eq (F.args_dict_eq_2 _ _) (dict_eq_declines_str l es n dd sl b u) ⟨ho, hq⟩)
    (fun _ hq => wpAny_of_eq (rfl : isSame (.str b u) (.ref l) = pure false) hq) (.inr hu) h
end
end PySem.SeqAt
namespace Pd
open PySem PySem.Spec PyProof.Rows L2
section
variable {X : Cx} {K : PySem.W.Frag}
def rEqDS : R2 := fun x y H Q => ∃ (a : Addr) (kvs : List (Key × V)) (s : Str), Rd H a (.dK kvs) ∧ ((x = .ref a ∧ y = .str s) ∨ (x = .str s ∧ y = .ref a)) ∧ Q (.bl false) H
theorem dict_at {pins : List (Addr × Obj)} {σ : L2.St} {H : Hp} {s : Shared} {a : Addr} {kvs : List (Key × V)} (I : Inv X pins σ H s) (ha : Rd H a (.dK kvs)) : ∃ (es : Array DictEntry) (n : Nat) (dd : Option Addr) (sl : Array (Option Value)), s.heap.get? a = some { cls := .type "dict", dict := dd, data := .dict es n, slots := sl } := by
  rcases ha with ha | ⟨ob, ha⟩
  · obtain ⟨_, _, vs, _, o, es, ep, h1, h2, h3, _⟩ := (show ObjOk X.prog X.w H s.heap a (.dK kvs) from I.hok a _ ha)
    obtain ⟨oc, od, dt, sl⟩ := o
    obtain ⟨h4, h5⟩ := h2
    simp only at h3 h4 h5
    subst h3 h4
    exact ⟨es, ep, od, sl, h1⟩
  · obtain ⟨_, _, _, vs, _, o, es, ep, h1, h2, h3, _⟩ := (show ObjOk X.prog X.w H s.heap a (.frz ob (.dK kvs)) from I.hok a _ ha)
    obtain ⟨oc, od, dt, sl⟩ := o
    obtain ⟨h4, h5⟩ := h2
    simp only at h3 h4 h5
    subst h3 h4
    exact ⟨es, ep, od, sl, h1⟩
theorem op_eqDS (hu : X.A.units < cLine) : OpR X (compareOp .Eq) rEqDS := by
  intro pins s σ H x y v u Q I rx ry h
  obtain ⟨a, kvs, z, ha, hxy, q⟩ := h
  obtain ⟨es, ep, od, sl, h1⟩ := dict_at I ha
  rcases hxy with ⟨rfl, rfl⟩ | ⟨rfl, rfl⟩
  · cases (show v = Value.ref a from rx)
    obtain ⟨t, rfl⟩ := ry
    exact SeqAt.RcAt.dict_str z t h1 hu X.prog X.w _ _ ⟨.bl false, H, I, rfl, q⟩
  · cases (show u = Value.ref a from ry)
    obtain ⟨t, rfl⟩ := rx
    exact SeqAt.RcAt.str_dict z t h1 hu X.prog X.w _ _ ⟨.bl false, H, I, rfl, q⟩
def rEqT0 (K : PySem.W.Frag) : R2 := fun x y H Q => ∃ (a b : Addr) (xs : List V), x = .ref a ∧ y = .ref b ∧ SqT K H a xs ∧ SqT K H b [] ∧ Q (.bl xs.isEmpty) H
theorem vals_nil {us : List Value} (r : Vals [] us) : us = [] := by cases r; rfl
theorem vals_empty {xs : List V} {us : List Value} (r : Vals xs us) : ((List.range (min us.toArray.size (#[] : Array Value).size)).all (fun _ => true) && us.toArray.size == (#[] : Array Value).size) = xs.isEmpty := by
  have l := r.length
  cases r with
  | nil => rfl
  | cons a b => simp
theorem op_eqT0 (hu : X.A.units < cLine) : OpR X (compareOp .Eq) (rEqT0 X.K) := by
  intro pins s σ H x y v u Q I rx ry h
  obtain ⟨a, b, xs, rfl, rfl, ha, hb, q⟩ := h
  cases (show v = Value.ref a from rx)
  cases (show u = Value.ref b from ry)
  obtain ⟨us, r1, p1, _⟩ := I.tuple ha
  obtain ⟨ws, r2, p2, _⟩ := I.tuple hb
  have e2 := vals_nil r2
  subst e2
  refine SeqAt.RcAt.tuples (e := fun _ => true) p1 p2 hu (fun j h1 h2 => absurd h2 (Nat.not_lt_zero j)) X.prog X.w _ _ ?_
  rw [vals_empty r1]
  exact ⟨.bl xs.isEmpty, H, I, rfl, q⟩
def rEqX (K : PySem.W.Frag) : R2 := fun x y H Q => rEq2 K x y H Q ∨ (rEqDS x y H Q ∨ rEqT0 K x y H Q)
theorem hu_le {A : Around} (h : A.units + 64 < cLine) : A.units < cLine := by omega
theorem op_eqX (hu : X.A.units + 64 < cLine) : OpR X (compareOp .Eq) (rEqX X.K) := (op_eq2 hu).or ((op_eqDS (hu_le hu)).or (op_eqT0 (hu_le hu)))
def isDS : D → D → Bool
  | .dict _ _, .str _ => true
  | .str _, .dict _ _ => true
  | _, _ => false
def isDS' : D → D → Bool
  | .dict _ _, .str _ => true
  | _, _ => false
def isT0 : D → D → Option Bool
  | .tup ds, .tup [] => some ds.isEmpty
  | _, _ => none
def eqXD (d e : D) : R D := match isT0 d e with
  | some b => .ok (.bl b)
  | none => if isDS d e = true then .ok (.bl false) else eqD d e
theorem isT0_ok {d e : D} {b : Bool} (h : isT0 d e = some b) : ∃ ds, d = .tup ds ∧ e = .tup [] ∧ b = ds.isEmpty := by
  unfold isT0 at h
  split at h
  · cases h; exact ⟨_, rfl, rfl, rfl⟩
  · cases h
theorem isL_emp {F : Hp} {xs : List V} {ds : List D} (l : IsL K F xs ds) : xs.isEmpty = ds.isEmpty := l.empty
def neXD (d e : D) : R D := match isT0 d e with
  | some b => .ok (.bl (!b))
  | none => if isDS' d e = true then .ok (.bl true) else neD d e
theorem o_eqX : OpD K eqXD (rEqX K) := by
  intro W σ F H d e v u Q s i j q
  unfold eqXD at q
  cases zt : isT0 d e with
  | some b =>
    obtain ⟨ds, rfl, rfl, rfl⟩ := isT0_ok zt
    obtain ⟨a, xs, rfl, h1, l1⟩ := i.tup_inv
    obtain ⟨b, ys, rfl, h2, l2⟩ := j.tup_inv
    have e2 := l2.unnil
    subst e2
    rw [zt] at q
    refine .inr (.inr ⟨a, b, xs, rfl, rfl, sameT s h1, sameT s h2, ?_⟩)
    rw [isL_emp l1]
    exact after.now q s (.bl _)
  | none =>
  rw [zt] at q
  by_cases hz : isDS d e = true
  · rw [if_pos hz] at q
    cases d with
    | dict lk kvs =>
      cases e with
      | str y =>
        obtain ⟨a, xs, rfl, h, _⟩ := i.dict_inv
        cases j
        exact .inr (.inl ⟨a, xs, y, sameR s h.rd, .inl ⟨rfl, rfl⟩, after.now q s (.bl _)⟩)
      | _ => cases hz
    | str y =>
      cases e with
      | dict lk kvs =>
        obtain ⟨a, xs, rfl, h, _⟩ := j.dict_inv
        cases i
        exact .inr (.inl ⟨a, xs, y, sameR s h.rd, .inr ⟨rfl, rfl⟩, after.now q s (.bl _)⟩)
      | _ => cases hz
    | _ => cases hz
  · simp only [if_neg hz] at q
    exact .inl (o_eq W σ F H d e v u Q s i j q)
end
end Pd
namespace Pd
open PySem PySem.Spec PyProof.Rows L2
mutual
def D.sub (A : List Addr) : D → D
  | .non => .non
  | .bl b => .bl b
  | .int i => .int i
  | .str s => .str s
  | .list xs => .list (D.subAll A xs)
  | .tup xs => .tup (D.subAll A xs)
  | .dict lk kvs => .dict lk (D.subK A kvs)
  | .dictT kvs => .dictT (D.subT A kvs)
  | .obj c fs => .obj c (D.subF A fs)
  | .loc k => match A[k]? with
    | some a => .adr a
    | none => .loc k
  | .tpx xs => .tpx (D.subAll A xs)
  | .exc c fs => .exc c fs
  | .adr a => .adr a
def D.subAll (A : List Addr) : List D → List D
  | [] => []
  | d :: ds => D.sub A d :: D.subAll A ds
def D.subK (A : List Addr) : List (Key × D) → List (Key × D)
  | [] => []
  | (k, d) :: ds => (k, D.sub A d) :: D.subK A ds
def D.subT (A : List Addr) : List (List Key × D) → List (List Key × D)
  | [] => []
  | (k, d) :: ds => (k, D.sub A d) :: D.subT A ds
def D.subF (A : List Addr) : List (Str × D) → List (Str × D)
  | [] => []
  | (k, d) :: ds => (k, D.sub A d) :: D.subF A ds
end
theorem subAll_map (A : List Addr) : ∀ ds : List D, D.subAll A ds = ds.map (D.sub A)
  | [] => rfl
  | d :: ds => congrArg (D.sub A d :: ·) (subAll_map A ds)
theorem subK_map (A : List Addr) : ∀ ds : List (Key × D), D.subK A ds = ds.map fun q => (q.1, q.2.sub A)
  | [] => rfl
  | d :: ds => congrArg ((d.1, D.sub A d.2) :: ·) (subK_map A ds)
theorem subF_map (A : List Addr) : ∀ ds : List (Str × D), D.subF A ds = ds.map fun q => (q.1, q.2.sub A)
  | [] => rfl
  | d :: ds => congrArg ((d.1, D.sub A d.2) :: ·) (subF_map A ds)
section
variable {K : PySem.W.Frag} {F F' : Hp} {κ : Type}
theorem IsK.nil : IsK (κ := κ) K F [] [] := ⟨rfl, fun i x d a _ => by simp at a, fun i x d a _ => by simp at a⟩
theorem IsK.cons {k : κ} {x : V} {d : D} {xs : List (κ × V)} {ds : List (κ × D)} (h : Is K F x d) (t : IsK K F xs ds) : IsK K F ((k, x) :: xs) ((k, d) :: ds) := by
  refine ⟨by simp [t.1], fun i y e a b => ?_, fun i y e a b => ?_⟩
  · cases i with
    | zero => simp at a b; subst a; subst b; rfl
    | succ i => exact t.2.1 i y e (by simpa using a) (by simpa using b)
  · cases i with
    | zero => simp at a b; subst a; subst b; exact h
    | succ i => exact t.2.2 i y e (by simpa using a) (by simpa using b)
theorem IsK.uncons {k : κ} {d : D} {xs : List (κ × V)} {ds : List (κ × D)} (h : IsK K F xs ((k, d) :: ds)) : ∃ x xr, xs = (k, x) :: xr ∧ Is K F x d ∧ IsK K F xr ds := by
  obtain ⟨l, e1, e2⟩ := h
  cases xs with
  | nil => simp at l
  | cons y xr =>
    obtain ⟨k', x⟩ := y
    obtain rfl : k' = k := e1 0 (k', x) (k, d) rfl rfl
    exact ⟨x, xr, rfl, e2 0 _ (k', d) rfl rfl, by simpa using l, fun i y z a b => e1 (i + 1) y z (by simpa using a) (by simpa using b), fun i y z a b => e2 (i + 1) y z (by simpa using a) (by simpa using b)⟩
theorem IsK.unnil {xs : List (κ × V)} (h : IsK (κ := κ) K F xs []) : xs = [] := by
  have l := h.1
  cases xs with
  | nil => rfl
  | cons _ _ => simp at l
end
mutual
theorem is_sub {K : PySem.W.Frag} {F : Hp} {A t : List Addr} : ∀ (d : D) (v : V), Is K F v (d.sub A) → Is K F v (d.sub (A ++ t))
  | .non, _, h => h
  | .bl _, _, h => h
  | .int _, _, h => h
  | .str _, _, h => h
  | .tpx xs, v, h => by
    obtain ⟨a, ys, rfl, hs, l⟩ := (show Is K F v (.tpx (D.subAll A xs)) from h).tpx_inv
    have l2 := isL_sub (t := t) xs ys l
    exact .tpx hs l2.1 l2.2
  | .exc _ _, _, h => h
  | .adr _, _, h => h
  | .list xs, v, h => by
    obtain ⟨a, ys, rfl, hs, l⟩ := (show Is K F v (.list (D.subAll A xs)) from h).list_inv
    exact is_list hs (isL_sub xs ys l)
  | .tup xs, v, h => by
    obtain ⟨a, ys, rfl, hs, l⟩ := (show Is K F v (.tup (D.subAll A xs)) from h).tup_inv0
    exact is_tup hs (isL_sub xs ys l)
  | .dict lk xs, v, h => by
    obtain ⟨a, ys, rfl, hs, l⟩ := (show Is K F v (.dict lk (D.subK A xs)) from h).dict_inv
    have l2 := isK_sub (t := t) xs ys l
    exact .dict hs l2.1 l2.2.1 l2.2.2
  | .dictT xs, v, h => by
    cases (show Is K F v (.dictT (D.subT A xs)) from h) with
    | dictT hs l1 l2 l3 =>
      have l2 := isT_sub (t := t) xs _ ⟨l1, l2, l3⟩
      exact .dictT hs l2.1 l2.2.1 l2.2.2
  | .obj c xs, v, h => by
    obtain ⟨a, dx, ys, rfl, hs, l⟩ := (show Is K F v (.obj c (D.subF A xs)) from h).obj_inv
    have l2 := isF_sub (t := t) xs ys l
    exact .obj hs l2.1 l2.2.1 l2.2.2
  | .loc k, v, h => by
    have h' : Is K F v (match A[k]? with | some a => .adr a | none => .loc k) := h
    show Is K F v (match (A ++ t)[k]? with | some a => .adr a | none => .loc k)
    cases e : A[k]? with
    | none => rw [e] at h'; cases h'
    | some a =>
      rw [e] at h'
      rw [List.getElem?_append_left (List.getElem?_eq_some_iff.mp e).1, e]
      exact h'
theorem isL_sub {K : PySem.W.Frag} {F : Hp} {A t : List Addr} : ∀ (ds : List D) (vs : List V), IsL K F vs (D.subAll A ds) → IsL K F vs (D.subAll (A ++ t) ds)
  | [], vs, h => h
  | d :: ds, vs, h => by
    obtain ⟨x, xr, rfl, i, l⟩ := (show IsL K F vs (D.sub A d :: D.subAll A ds) from h).uncons
    exact .cons (is_sub d x i) (isL_sub ds xr l)
theorem isK_sub {K : PySem.W.Frag} {F : Hp} {A t : List Addr} : ∀ (ds : List (Key × D)) (vs : List (Key × V)), IsK K F vs (D.subK A ds) → IsK K F vs (D.subK (A ++ t) ds)
  | [], vs, h => h
  | (k, d) :: ds, vs, h => by
    obtain ⟨x, xr, rfl, i, l⟩ := (show IsK K F vs ((k, D.sub A d) :: D.subK A ds) from h).uncons
    exact .cons (is_sub d x i) (isK_sub ds xr l)
theorem isT_sub {K : PySem.W.Frag} {F : Hp} {A t : List Addr} : ∀ (ds : List (List Key × D)) (vs : List (List Key × V)), IsK K F vs (D.subT A ds) → IsK K F vs (D.subT (A ++ t) ds)
  | [], vs, h => h
  | (k, d) :: ds, vs, h => by
    obtain ⟨x, xr, rfl, i, l⟩ := (show IsK K F vs ((k, D.sub A d) :: D.subT A ds) from h).uncons
    exact .cons (is_sub d x i) (isT_sub ds xr l)
theorem isF_sub {K : PySem.W.Frag} {F : Hp} {A t : List Addr} : ∀ (ds : List (Str × D)) (vs : List (Str × V)), IsK K F vs (D.subF A ds) → IsK K F vs (D.subF (A ++ t) ds)
  | [], vs, h => h
  | (k, d) :: ds, vs, h => by
    obtain ⟨x, xr, rfl, i, l⟩ := (show IsK K F vs ((k, D.sub A d) :: D.subF A ds) from h).uncons
    exact .cons (is_sub d x i) (isF_sub ds xr l)
end
/-- true: there may be numbers in it -/
abbrev P := Bool × D
def P.at (A : List Addr) (p : P) : D := match p.1 with
  | true => p.2.sub A
  | false => p.2
abbrev RhoQ := List (Option P)
abbrev Mem := List P
theorem P.mono {K : PySem.W.Frag} {F F' : Hp} {A t : List Addr} {v : V} {p : P} (h : Is K F v (p.at A)) (s : Same F F') : Is K F' v (p.at (A ++ t)) := by
  obtain ⟨b, d⟩ := p
  cases b with
  | false => exact Is.mono (show Is K F v d from h) s
  | true => exact (is_sub d v h).mono s
theorem isC_sub {K : PySem.W.Frag} {F : Hp} {A t : List Addr} {o : HO} : ∀ (d : D), IsC K F o (d.sub A) → IsC K F o (d.sub (A ++ t))
  | .list xs, h => by cases o <;> first | exact isL_sub xs _ h | exact h.elim
  | .dict lk xs, h => by cases o <;> first | exact ⟨h.1, isK_sub xs _ h.2⟩ | exact ⟨h.1, h.2.choose, h.2.choose_spec.1, isK_sub xs _ h.2.choose_spec.2⟩ | exact h.elim
  | .dictT xs, h => by cases o <;> first | exact isT_sub xs _ h | exact h.elim
  | .obj c xs, h => by cases o <;> first | exact ⟨h.1, isF_sub xs _ h.2⟩ | exact h.elim
  | .non, h => by cases o <;> exact h.elim
  | .bl _, h => by cases o <;> exact h.elim
  | .int _, h => by cases o <;> exact h.elim
  | .str _, h => by cases o <;> exact h.elim
  | .tup _, h => by cases o <;> exact h.elim
  | .tpx _, h => by cases o <;> exact h.elim
  | .exc _ _, h => by cases o <;> exact h.elim
  | .adr _, h => by cases o <;> exact h.elim
  | .loc k, h => by
    have h' : IsC K F o (match A[k]? with | some a => .adr a | none => .loc k) := h
    split at h' <;> cases o <;> exact h'.elim
theorem P.monoC {K : PySem.W.Frag} {F F' : Hp} {A t : List Addr} {o : HO} {p : P} (h : IsC K F o (p.at A)) (s : Same F F') : IsC K F' o (p.at (A ++ t)) := by
  obtain ⟨b, d⟩ := p
  cases b with
  | false => exact IsC.mono (show IsC K F o d from h) s
  | true => exact (isC_sub d h).mono s
/-- what stands at the numbers -/
structure Cells (K : PySem.W.Frag) (F H : Hp) (A : List Addr) (M : Mem) : Prop where
  fh : Same F H
  len : A.length = M.length
  nd : A.Nodup
  dj : ∀ a ∈ A, F a = none
  at_ : ∀ (k : Nat) p, M[k]? = some p → ∃ a o, A[k]? = some a ∧ H a = some o ∧ IsC K F o (p.at A)
/-- from an earlier state to a later one -/
structure ExtQ (F H : Hp) (A : List Addr) (F' H' : Hp) (A' : List Addr) : Prop where
  ff : Same F F'
  pre : ∃ t, A' = A ++ t
  hh : ∀ a o, H a = some o → a ∉ A → H' a = some o
  fz : ∀ a ∈ A, ∀ ob u, H a = some (.frz ob u) → H' a = some (.frz ob u)
  nw : ∀ p, H p ≠ none → F p = none → p ∉ A → F' p = none ∧ p ∉ A'
section
variable {K : PySem.W.Frag} {F H F1 H1 F2 H2 : Hp} {A A1 A2 : List Addr} {M M1 : Mem}
theorem ExtQ.refl : ExtQ F H A F H A := ⟨.refl _, ⟨[], by simp⟩, fun _ _ h _ => h, fun _ _ _ _ h => h, fun p _ f n => ⟨f, n⟩⟩
theorem ExtQ.trans (a : ExtQ F H A F1 H1 A1) (c : Cells K F1 H1 A1 M1) (b : ExtQ F1 H1 A1 F2 H2 A2) : ExtQ F H A F2 H2 A2 := by
  obtain ⟨t, e⟩ := a.pre
  obtain ⟨u, e2⟩ := b.pre
  have out : ∀ p o, H p = some o → p ∉ A → p ∉ A1 := fun p o h n => by
    cases z : F p with
    | none => exact (a.nw p (by rw [h]; simp) z n).2
    | some o' =>
      intro m
      have := c.dj p m
      rw [a.ff p o' z] at this
      cases this
  refine ⟨a.ff.trans b.ff, ⟨t ++ u, by rw [e2, e, List.append_assoc]⟩, fun p o h n => b.hh p o (a.hh p o h n) (out p o h n), fun p m ob u h => b.fz p (by rw [e]; exact List.mem_append_left _ m) ob u (a.fz p m ob u h), fun p h f n => ?_⟩
  obtain ⟨f1, n1⟩ := a.nw p h f n
  refine b.nw p (fun z => ?_) f1 n1
  cases q : H p with
  | none => exact h q
  | some o => rw [a.hh p o q n] at z; cases z
/-- a pure step -/
theorem ExtQ.pure (c : Cells K F H A M) (x : Ext F H F1 H1) : ExtQ F H A F1 H1 A ∧ Cells K F1 H1 A M := by
  have inH : ∀ a ∈ A, H a ≠ none := fun a m z => by
    obtain ⟨k, hk⟩ := List.mem_iff_getElem?.mp m
    obtain ⟨p, hp⟩ : ∃ p, M[k]? = some p := by
      have : k < M.length := by rw [← c.len]; exact (List.getElem?_eq_some_iff.mp hk).1
      exact ⟨M[k], by simp [this]⟩
    obtain ⟨a', o, e1, e2, _⟩ := c.at_ k p hp
    rw [hk] at e1
    cases e1
    rw [z] at e2
    cases e2
  refine ⟨⟨x.ff, ⟨[], by simp⟩, fun a o h _ => x.hh a o h, fun a _ ob u h => x.hh a _ h, fun p h f n => ⟨x.nw p h f, n⟩⟩, x.fh, c.len, c.nd, fun a m => x.nw a (inH a m) (c.dj a m), fun k p hp => ?_⟩
  obtain ⟨a, o, e1, e2, e3⟩ := c.at_ k p hp
  refine ⟨a, o, e1, x.hh a o e2, ?_⟩
  have := P.monoC (t := []) e3 x.ff
  rwa [List.append_nil] at this
/-- a new object, that may change -/
theorem ExtQ.alloc {p : Addr} {o : HO} {q : P} (c : Cells K F H A M) (h : H p = some o) (f : F p = none) (n : p ∉ A) (i : IsC K F o (q.at A)) : Cells K F H (A ++ [p]) (M ++ [q]) := by
  refine ⟨c.fh, by simp [c.len], ?_, fun a m => ?_, fun k z hz => ?_⟩
  · rw [List.nodup_append]
    exact ⟨c.nd, by simp, fun a ha b hb => by simp at hb; subst hb; exact fun e => n (e ▸ ha)⟩
  · rcases List.mem_append.mp m with m | m
    · exact c.dj a m
    · simp at m; subst m; exact f
  · by_cases hk : k < M.length
    · rw [List.getElem?_append_left hk] at hz
      obtain ⟨a, o', e1, e2, e3⟩ := c.at_ k z hz
      exact ⟨a, o', by rw [List.getElem?_append_left (by rw [c.len]; exact hk)]; exact e1, e2, P.monoC e3 (.refl F)⟩
    · rw [List.getElem?_append_right (by omega)] at hz
      have hk2 : k - M.length = 0 := by
        have := (List.getElem?_eq_some_iff.mp hz).1
        simp at this
        omega
      rw [hk2] at hz
      cases hz
      refine ⟨p, o, ?_, h, P.monoC i (.refl F)⟩
      rw [List.getElem?_append_right (by rw [c.len]; omega), c.len, hk2]
      rfl
/-- an object changes -/
theorem Cells.put {k : Nat} {a : Addr} {o : HO} {q : P} (c : Cells K F H A M) (ha : A[k]? = some a) (i : IsC K F o (q.at A)) : Cells K F (upd H a o) A (M.set k q) := by
  have mA : a ∈ A := List.mem_iff_getElem?.mpr ⟨k, ha⟩
  refine ⟨fun b u e => ?_, by simp [c.len], c.nd, c.dj, fun j z hz => ?_⟩
  · have nz : b ≠ a := fun z => by
      rw [z, c.dj a mA] at e
      cases e
    rw [upd_ne nz]
    exact c.fh b u e
  · rcases getElem?_set_cases hz with ⟨rfl, e, hl⟩ | ⟨hj, e⟩
    · cases e
      exact ⟨a, o, ha, upd_same, i⟩
    · obtain ⟨b, u, e1, e2, e3⟩ := c.at_ j z e
      refine ⟨b, u, e1, ?_, e3⟩
      have nz : b ≠ a := fun w => hj (by
        subst w
        have l1 := (List.getElem?_eq_some_iff.mp e1)
        have l2 := (List.getElem?_eq_some_iff.mp ha)
        exact (List.getElem_inj c.nd).mp (l1.2.trans l2.2.symm))
      rw [upd_ne nz]
      exact e2
theorem ExtQ.put {k : Nat} {a : Addr} {o o0 : HO} {q : P} (c : Cells K F H A M) (ha : A[k]? = some a) (i : IsC K F o (q.at A)) (h0 : H a = some o0) (n0 : ∀ ob u, o0 ≠ .frz ob u := by intro _ _ z; cases z) : ExtQ F H A F (upd H a o) A ∧ Cells K F (upd H a o) A (M.set k q) := by
  have mA : a ∈ A := List.mem_iff_getElem?.mpr ⟨k, ha⟩
  have nzA : ∀ b : Addr, b ∉ A → b ≠ a := fun b nb z => nb (by rw [z]; exact mA)
  refine ⟨⟨.refl _, ⟨[], by simp⟩, fun b u e nb => by rw [upd_ne (nzA b nb)]; exact e, fun b _ ob u e => by
    rw [upd_ne (fun z => by rw [z, h0] at e; exact n0 ob u (Option.some.inj e))]
    exact e, fun p _ f n => ⟨f, n⟩⟩, c.put ha i⟩
end
structure QB where
  F : Hp
  H : Hp
  A : List Addr
structure RepQ (K : PySem.W.Frag) (B : QB) (ρ : RhoQ) (M : Mem) (σ : L2.St) (F H : Hp) (A : List Addr) : Prop where
  len : σ.length = ρ.length
  cl : Cells K F H A M
  ext : ExtQ B.F B.H B.A F H A
  val : ∀ (i : Nat) p, ρ[i]? = some (some p) → ∃ v, σ[i]? = some (some v) ∧ Is K F v (p.at A)
theorem RepQ.to {K : PySem.W.Frag} {B : QB} {ρ : RhoQ} {M M' : Mem} {σ : L2.St} {F H F' H' : Hp} {A A' : List Addr} (r : RepQ K B ρ M σ F H A) (x : ExtQ F H A F' H' A') (c : Cells K F' H' A' M') : RepQ K B ρ M' σ F' H' A' := by
  refine ⟨r.len, c, r.ext.trans r.cl x, fun i p h => ?_⟩
  obtain ⟨v, e, h⟩ := r.val i p h
  obtain ⟨t, rfl⟩ := x.pre
  exact ⟨v, e, P.mono h x.ff⟩
/-- what of the slots is without numbers -/
def clR (ρ : RhoQ) : Rho := ρ.map fun
  | some (false, d) => some d
  | _ => none
theorem RepQ.clean {K : PySem.W.Frag} {B : QB} {ρ : RhoQ} {M : Mem} {σ : L2.St} {F H : Hp} {A : List Addr} (r : RepQ K B ρ M σ F H A) : Rep K ⟨F, []⟩ H [] (clR ρ) σ F H := by
  refine ⟨by unfold clR; rw [List.length_map]; exact r.len, r.cl.fh, .refl _, .refl _, fun p h f => f, fun i d a _ => ?_, fun i d _ b => by simp at b, fun i j p d e _ a => by simp at a, fun b hb => nomatch hb⟩
  unfold clR at a
  rw [List.getElem?_map] at a
  cases e : ρ[i]? with
  | none => rw [e] at a; cases a
  | some q =>
    rw [e] at a
    cases q with
    | none => cases a
    | some p =>
      obtain ⟨b, d'⟩ := p
      cases b with
      | true => cases a
      | false =>
        cases a
        exact r.val i (false, d) e
inductive RQ (α : Type) where
  | ok (a : α) (M : Mem) | ex (x : Ex) (M : Mem) | st
def RQ.bind {α β : Type} (r : RQ α) (f : α → Mem → RQ β) : RQ β := match r with
  | .ok a M => f a M
  | .ex x M => .ex x M
  | .st => .st
def R.up {α β : Type} (r : R α) (M : Mem) (f : α → β) : RQ β := match r with
  | .ok a => .ok (f a) M
  | .ex x => .ex x M
  | .st => .st
abbrev GQ := RhoQ → Mem → RQ P
abbrev GQA := RhoQ → Mem → RQ (List P)
def IsLP (K : PySem.W.Frag) (F : Hp) (A : List Addr) (vs : List V) (ps : List P) : Prop := IsL K F vs (ps.map (P.at A))
def ExK (K : PySem.W.Frag) (W : WX) (σ : L2.St) (F H : Hp) (A : List Addr) (x : Ex) (M : Mem) : Prop := ∀ cls od F' H' A', ExtQ F H A F' H' A' → Cells K F' H' A' M → IsX K F' x cls od → W cls od σ H'
def afterQ (K : PySem.W.Frag) (W : WX) (σ : L2.St) (F H : Hp) (A : List Addr) (r : RQ P) (Q : VK) : Prop := match r with
  | .ok p M => ∀ v F' H' A', ExtQ F H A F' H' A' → Cells K F' H' A' M → Is K F' v (p.at A') → Q v H'
  | .ex x M => ExK K W σ F H A x M
  | .st => False
def tSemQ (K : PySem.W.Frag) (B : QB) (W : WX) (g : GQ) : TE := fun σ H Q => ∃ ρ M F A, RepQ K B ρ M σ F H A ∧ afterQ K W σ F H A (g ρ M) Q
abbrev DQ (X : Cx) (B : QB) (W : WX) (e : Expr) (g : GQ) : Prop := PE X e (tSemQ X.K B W g)
def tSemQA (K : PySem.W.Frag) (B : QB) (W : WX) (g : GQA) : TA := fun σ H Q => ∃ ρ M F A, RepQ K B ρ M σ F H A ∧ match g ρ M with
  | .ok ps M => ∀ vs F' H' A', ExtQ F H A F' H' A' → Cells K F' H' A' M → IsLP K F' A' vs ps → Q vs H'
  | .ex x M => ExK K W σ F H A x M
  | .st => False
abbrev DQA (X : Cx) (B : QB) (W : WX) (es : List Expr) (g : GQA) : Prop := PA X es (tSemQA X.K B W g)
section
variable {K : PySem.W.Frag} {B : QB} {W : WX} {F H F1 H1 : Hp} {A A1 : List Addr} {M M1 : Mem} {ρ : RhoQ} {σ : L2.St} {Q : VK}
theorem ExK.ext {x : Ex} {M2 : Mem} (h : ExK K W σ F H A x M2) (e : ExtQ F H A F1 H1 A1) (c : Cells K F1 H1 A1 M1) : ExK K W σ F1 H1 A1 x M2 := fun cls od F' H' A' y cy i => h cls od F' H' A' (e.trans c y) cy i
theorem afterQ.ext {r : RQ P} (h : afterQ K W σ F H A r Q) (e : ExtQ F H A F1 H1 A1) (c : Cells K F1 H1 A1 M1) : afterQ K W σ F1 H1 A1 r Q := by
  cases r with
  | ok p M2 => exact fun v F' H' A' y cy i => h v F' H' A' (e.trans c y) cy i
  | ex x M2 => exact ExK.ext (M1 := M1) h e c
  | st => exact h
/-- one part is read, then the rest -/
theorem semQ_bind {g : GQ} {k : P → Mem → RQ P} {Φ : VK} (r : RepQ K B ρ M σ F H A) (h : afterQ K W σ F H A ((g ρ M).bind k) Q)
    (f : ∀ p M1 v F1 H1 A1, ExtQ F H A F1 H1 A1 → Is K F1 v (p.at A1) → RepQ K B ρ M1 σ F1 H1 A1 → afterQ K W σ F1 H1 A1 (k p M1) Q → Φ v H1) : tSemQ K B W g σ H Φ := by
  refine ⟨ρ, M, F, A, r, ?_⟩
  cases e : g ρ M with
  | ok p M1 =>
    rw [e] at h
    exact fun v F' H' A' x c i => f p M1 v F' H' A' x i (r.to x c) (afterQ.ext (M1 := M1) h x c)
  | ex x M1 =>
    rw [e] at h
    exact h
  | st =>
    rw [e] at h
    exact h
theorem semQA_bind {g : GQA} {k : List P → Mem → RQ P} {Φ : List V → Hp → Prop} (r : RepQ K B ρ M σ F H A) (h : afterQ K W σ F H A ((g ρ M).bind k) Q)
    (f : ∀ ps M1 vs F1 H1 A1, ExtQ F H A F1 H1 A1 → IsLP K F1 A1 vs ps → RepQ K B ρ M1 σ F1 H1 A1 → afterQ K W σ F1 H1 A1 (k ps M1) Q → Φ vs H1) : tSemQA K B W g σ H Φ := by
  refine ⟨ρ, M, F, A, r, ?_⟩
  cases e : g ρ M with
  | ok p M1 =>
    rw [e] at h
    exact fun v F' H' A' x c i => f p M1 v F' H' A' x i (r.to x c) (afterQ.ext (M1 := M1) h x c)
  | ex x M1 =>
    rw [e] at h
    exact h
  | st =>
    rw [e] at h
    exact h
theorem afterQ.now {p : P} (h : afterQ K W σ F H A (.ok p M) Q) (c : Cells K F H A M) {v : V} (i : Is K F v (p.at A)) : Q v H := h v F H A .refl c i
end
/-- without numbers -/
def qP (g : Rho → R D) : GQ := fun ρ M => (g (clR ρ)).up M fun d => (false, d)
def qPA (g : Rho → R (List D)) : GQA := fun ρ M => (g (clR ρ)).up M fun ds => ds.map fun d => (false, d)
/-- a new object -/
def qNew (g : Rho → R D) : GQ := fun ρ M => match g (clR ρ) with
  | .ok d => .ok (true, .loc M.length) (M ++ [(false, d)])
  | .ex x => .ex x M
  | .st => .st
def qVar (i : Nat) : GQ := fun ρ M => match ρ[i]? with
  | some (some p) => .ok p M
  | _ => .st
section
variable {X : Cx} {B : QB} {W : WX} {pos : Pos} {e : Expr} {es : List Expr} {g : Rho → R D}
theorem q_pure (h : ∀ Fb Hb : Hp, DE X ⟨Fb, []⟩ Hb [] W e g) : DQ X B W e (qP g) := by
  refine pe_imp (pe_some h) fun σ H Q ⟨ρ, M, F, A, r, q⟩ => ⟨F, H, clR ρ, F, r.clean, ?_⟩
  unfold qP at q
  cases z : g (clR ρ) with
  | ok d =>
    rw [z] at q
    exact fun v F' H' x i => let ⟨a, b⟩ := ExtQ.pure r.cl x; q v F' H' A a b i
  | ex x =>
    rw [z] at q
    exact fun cls od F' H' y i => let ⟨a, b⟩ := ExtQ.pure r.cl y; q cls od F' H' A a b i
  | st =>
    rw [z] at q
    exact q
theorem q_new (h : ∀ Fb Hb : Hp, DN X ⟨Fb, []⟩ Hb [] W e g) : DQ X B W e (qNew g) := by
  refine pe_imp (pe_some h) fun σ H Q ⟨ρ, M, F, A, r, q⟩ => ⟨F, H, clR ρ, F, r.clean, ?_⟩
  unfold qNew at q
  cases z : g (clR ρ) with
  | ok d =>
    rw [z] at q
    intro p o F' H' x e1 c f n
    obtain ⟨a, b⟩ := ExtQ.pure r.cl x
    have nA : p ∉ A := fun m => by
      obtain ⟨k, hk⟩ := List.mem_iff_getElem?.mp m
      obtain ⟨y, hy⟩ : ∃ p, M[k]? = some p := by
        have : k < M.length := by rw [← r.cl.len]; exact (List.getElem?_eq_some_iff.mp hk).1
        exact ⟨M[k], by simp [this]⟩
      obtain ⟨a', o, e1, e2, _⟩ := r.cl.at_ k y hy
      rw [hk] at e1
      cases e1
      rw [n] at e2
      cases e2
    have c2 := ExtQ.alloc (q := (false, d)) b e1 f nA c
    refine q (.ref p) F' H' (A ++ [p]) ⟨a.ff, ⟨[p], rfl⟩, a.hh, a.fz, fun u hu fu nu => ?_⟩ c2 ?_
    · obtain ⟨z1, z2⟩ := a.nw u hu fu nu
      exact ⟨z1, fun m => by
        rcases List.mem_append.mp m with m | m
        · exact z2 m
        · simp at m; subst m; exact hu n⟩
    · show Is X.K F' (.ref p) (match (A ++ [p])[M.length]? with | some a => .adr a | none => .loc M.length)
      rw [← r.cl.len, List.getElem?_append_right (Nat.le_refl _), Nat.sub_self]
      exact .adr p
  | ex x =>
    rw [z] at q
    exact fun cls od F' H' y i => let ⟨a, b⟩ := ExtQ.pure r.cl y; q cls od F' H' A a b i
  | st =>
    rw [z] at q
    exact q
theorem qa_pure {t : Rho → R (List D)} (h : ∀ Fb Hb : Hp, DA X ⟨Fb, []⟩ Hb [] W es t) : DQA X B W es (qPA t) := by
  have : PA X es (fun σ H Q => ∃ a b, tSemA X.K ⟨a, []⟩ b [] W t σ H Q) := ⟨fun pos pins s σ H Q I ⟨a, b, q⟩ => (h a b).run pos pins s σ H Q I q⟩
  refine pa_imp this fun σ H Q ⟨ρ, M, F, A, r, q⟩ => ⟨F, H, clR ρ, F, r.clean, ?_⟩
  unfold qPA at q
  cases z : t (clR ρ) with
  | ok d =>
    rw [z] at q
    refine fun v F' H' x i => let ⟨a, b⟩ := ExtQ.pure r.cl x; q v F' H' A a b ?_
    show IsL X.K F' v ((d.map fun d => (false, d)).map (P.at A))
    rw [List.map_map]
    have e : (P.at A ∘ fun d => (false, d)) = (id : D → D) := rfl
    rw [e, List.map_id]
    exact i
  | ex x =>
    rw [z] at q
    exact fun cls od F' H' y i => let ⟨a, b⟩ := ExtQ.pure r.cl y; q cls od F' H' A a b i
  | st =>
    rw [z] at q
    exact q
theorem q_var (i : Nat) {x : Str} (hN : X.N[i]? = some x := by rfl) (hv : Vis X.env.scope x := by first | exact Or.inl rfl | exact Or.inr (Or.inl rfl) | exact Or.inr (Or.inr rfl)) (hd : (x == ("__debug__" : Str)) = false := by decide)
    (hcd : (x == ("__classdict__" : Str)) = false := by decide) : DQ X B W (.Name x pos) (qVar i) := by
  refine pe_imp (pe_var hN hv hd hcd) fun σ H Q ⟨ρ, M, F, A, r, q⟩ => ?_
  unfold qVar at q
  split at q
  · rename_i p e
    obtain ⟨v, e1, e2⟩ := r.val i p e
    exact ⟨v, e1, afterQ.now q r.cl e2⟩
  · exact q.elim
end
end Pd
namespace Pd
open PySem PySem.Spec PyProof.Rows L2
inductive SQ where
  | nx (ρ : RhoQ) (M : Mem) | rt (p : P) (M : Mem) | bk (ρ : RhoQ) (M : Mem) | ct (ρ : RhoQ) (M : Mem) | ex (x : Ex) (ρ : RhoQ) (M : Mem) | st
abbrev SQF := RhoQ → Mem → SQ
/-- more is there -/
def Grow (F : Hp) (A : List Addr) (F' : Hp) (A' : List Addr) : Prop := Same F F' ∧ ∃ t, A' = A ++ t
theorem Grow.refl {F : Hp} {A : List Addr} : Grow F A F A := ⟨.refl _, [], by simp⟩
theorem Grow.trans {F F1 F2 : Hp} {A A1 A2 : List Addr} (a : Grow F A F1 A1) (b : Grow F1 A1 F2 A2) : Grow F A F2 A2 := by
  obtain ⟨s, t, e⟩ := a
  obtain ⟨s2, t2, e2⟩ := b
  exact ⟨s.trans s2, t ++ t2, by rw [e2, e, List.append_assoc]⟩
theorem ExtQ.grow {F H F' H' : Hp} {A A' : List Addr} (x : ExtQ F H A F' H' A') : Grow F A F' A' := ⟨x.ff, x.pre⟩
theorem Grow.is {K : PySem.W.Frag} {F F' : Hp} {A A' : List Addr} {v : V} {p : P} (g : Grow F A F' A') (h : Is K F v (p.at A)) : Is K F' v (p.at A') := by
  obtain ⟨s, t, rfl⟩ := g
  exact P.mono h s
def afterQS (K : PySem.W.Frag) (B : QB) (W : WX) (Fb : Hp) (Ab : List Addr) (r : SQ) (E : Ends) : Prop := match r with
  | .nx ρ M => ∀ σ F H A, RepQ K B ρ M σ F H A → Grow Fb Ab F A → E.nx σ H
  | .rt p M => ∀ v F H A, ExtQ B.F B.H B.A F H A → Cells K F H A M → Is K F v (p.at A) → E.rt v H
  | .bk ρ M => ∀ σ F H A, RepQ K B ρ M σ F H A → Grow Fb Ab F A → E.bk σ H
  | .ct ρ M => ∀ σ F H A, RepQ K B ρ M σ F H A → Grow Fb Ab F A → E.ct σ H
  | .ex x ρ M => ∀ cls od σ F H A, RepQ K B ρ M σ F H A → Grow Fb Ab F A → IsX K F x cls od → W cls od σ H
  | .st => False
def tSemQS (K : PySem.W.Frag) (B : QB) (W : WX) (s : SQF) : TS := fun E σ H => ∃ ρ M F A, RepQ K B ρ M σ F H A ∧ afterQS K B W F A (s ρ M) E
theorem afterQS.mono {K : PySem.W.Frag} {B : QB} {W : WX} {F F2 : Hp} {A A2 : List Addr} {r : SQ} {E : Ends} (h : afterQS K B W F A r E) (s : Grow F A F2 A2) : afterQS K B W F2 A2 r E := by
  cases r with
  | nx ρ M => exact fun σ F' H' A' r x => h σ F' H' A' r (s.trans x)
  | bk ρ M => exact fun σ F' H' A' r x => h σ F' H' A' r (s.trans x)
  | ct ρ M => exact fun σ F' H' A' r x => h σ F' H' A' r (s.trans x)
  | ex x ρ M => exact fun cls od σ F' H' A' r x => h cls od σ F' H' A' r (s.trans x)
  | _ => exact h
abbrev DQS (X : Cx) (B : QB) (W : WX) (st : Stmt) (s : SQF) : Prop := PS X st (tSemQS X.K B W s)
abbrev DQSs (X : Cx) (B : QB) (W : WX) (st : List Stmt) (s : SQF) : Prop := PSs X st (tSemQS X.K B W s)
def tSemQT (K : PySem.W.Frag) (B : QB) (W : WX) (g : RhoQ → Mem → RQ Bool) : TT := fun σ H Q => ∃ ρ M F A, RepQ K B ρ M σ F H A ∧ match g ρ M with
  | .ok b M => ∀ F' H' A', ExtQ F H A F' H' A' → Cells K F' H' A' M → Q b H'
  | .ex x M => ExK K W σ F H A x M
  | .st => False
abbrev DQT (X : Cx) (B : QB) (W : WX) (e : Expr) (g : RhoQ → Mem → RQ Bool) : Prop := PT X e (tSemQT X.K B W g)
def qT (g : Rho → R Bool) : RhoQ → Mem → RQ Bool := fun ρ M => (g (clR ρ)).up M id
section
variable {X : Cx} {B : QB} {W : WX} {pos : Pos} {e : Expr} {st : Stmt} {sts : List Stmt} {g : GQ} {s u : SQF}
theorem qt_pure {p : Rho → R Bool} (h : ∀ Fb Hb : Hp, DT X ⟨Fb, []⟩ Hb [] W e p) : DQT X B W e (qT p) := by
  refine pt_imp (pt_some h) fun σ H Q ⟨ρ, M, F, A, r, q⟩ => ⟨F, H, clR ρ, F, r.clean, ?_⟩
  unfold qT at q
  cases z : p (clR ρ) with
  | ok d =>
    rw [z] at q
    exact fun F' H' x => let ⟨a, b⟩ := ExtQ.pure r.cl x; q F' H' A a b
  | ex x =>
    rw [z] at q
    exact fun cls od F' H' y i => let ⟨a, b⟩ := ExtQ.pure r.cl y; q cls od F' H' A a b i
  | st =>
    rw [z] at q
    exact q
def sqNil : SQF := fun ρ M => .nx ρ M
def sqSeq (s u : SQF) : SQF := fun ρ M => match s ρ M with
  | .nx ρ1 M1 => u ρ1 M1
  | r => r
theorem qss_nil : DQSs X B W [] sqNil := pss_imp pss_nil fun E σ H ⟨ρ, M, F, A, r, h⟩ => h σ F H A r .refl
theorem qss_one (h : DQS X B W st s) : DQSs X B W [st] s := pss_one h
theorem qss_cons (h1 : DQS X B W st s) (h2 : DQSs X B W sts u) : DQSs X B W (st :: sts) (sqSeq s u) := by
  refine pss_imp (pss_cons h1 h2) fun E σ H ⟨ρ, M, F, A, r, h⟩ => ⟨ρ, M, F, A, r, ?_⟩
  unfold sqSeq at h
  cases z : s ρ M with
  | nx ρ1 M1 =>
    rw [z] at h
    exact fun σ1 F1 H1 A1 r1 x1 => ⟨ρ1, M1, F1, A1, r1, h.mono x1⟩
  | _ => rw [z] at h; exact h
/-- an expression is read, then the rest -/
theorem semQS {K : PySem.W.Frag} {σ : L2.St} {F H : Hp} {A : List Addr} {ρ : RhoQ} {M : Mem} {k : P → Mem → SQ} {E : Ends} {Φ : VK} (r : RepQ K B ρ M σ F H A)
    (h : afterQS K B W F A (match g ρ M with | .ok p M1 => k p M1 | .ex x M1 => .ex x ρ M1 | .st => .st) E)
    (f : ∀ p M1 v F1 H1 A1, Is K F1 v (p.at A1) → RepQ K B ρ M1 σ F1 H1 A1 → Grow F A F1 A1 → afterQS K B W F1 A1 (k p M1) E → Φ v H1) : tSemQ K B W g σ H Φ := by
  refine ⟨ρ, M, F, A, r, ?_⟩
  cases z : g ρ M with
  | ok p M1 =>
    rw [z] at h
    exact fun v F' H' A' x c i => f p M1 v F' H' A' i (r.to x c) x.grow (h.mono x.grow)
  | ex x M1 =>
    rw [z] at h
    exact fun cls od F' H' A' x c i => h cls od σ F' H' A' (r.to x c) x.grow i
  | st =>
    rw [z] at h
    exact h.elim
theorem semQST {K : PySem.W.Frag} {σ : L2.St} {F H : Hp} {A : List Addr} {ρ : RhoQ} {M : Mem} {g : RhoQ → Mem → RQ Bool} {k : Bool → Mem → SQ} {E : Ends} {Φ : Bool → Hp → Prop} (r : RepQ K B ρ M σ F H A)
    (h : afterQS K B W F A (match g ρ M with | .ok p M1 => k p M1 | .ex x M1 => .ex x ρ M1 | .st => .st) E)
    (f : ∀ p M1 F1 H1 A1, RepQ K B ρ M1 σ F1 H1 A1 → Grow F A F1 A1 → afterQS K B W F1 A1 (k p M1) E → Φ p H1) : tSemQT K B W g σ H Φ := by
  refine ⟨ρ, M, F, A, r, ?_⟩
  cases z : g ρ M with
  | ok p M1 =>
    rw [z] at h
    exact fun F' H' A' x c => f p M1 F' H' A' (r.to x c) x.grow (h.mono x.grow)
  | ex x M1 =>
    rw [z] at h
    exact fun cls od F' H' A' x c i => h cls od σ F' H' A' (r.to x c) x.grow i
  | st =>
    rw [z] at h
    exact h.elim
def sqE (g : GQ) (k : RhoQ → P → Mem → SQ) : SQF := fun ρ M => match g ρ M with
  | .ok p M1 => k ρ p M1
  | .ex x M1 => .ex x ρ M1
  | .st => .st
def sqRet (g : GQ) : SQF := sqE g fun _ p M => .rt p M
theorem qs_ret (he : DQ X B W e g) : DQS X B W (.Return (some e) pos) (sqRet g) :=
  ps_imp (ps_ret he) fun E σ H ⟨ρ, M, F, A, r, h⟩ => semQS (k := fun p M1 => .rt p M1) r h fun p M1 v F1 H1 A1 i1 r1 _ h1 => h1 v F1 H1 A1 r1.ext r1.cl i1
theorem RepQ.set {K : PySem.W.Frag} {ρ : RhoQ} {M : Mem} {σ : L2.St} {F H : Hp} {A : List Addr} {v : V} {p : P} (r : RepQ K B ρ M σ F H A) (i : Nat) (h : Is K F v (p.at A)) : RepQ K B (ρ.set i (some p)) M (σ.set i (some v)) F H A := by
  refine ⟨by rw [List.length_set, List.length_set, r.len], r.cl, r.ext, fun j q a => ?_⟩
  rcases getElem?_set_cases a with ⟨rfl, z, hl⟩ | ⟨hj, z⟩
  · cases z
    exact ⟨v, by rw [List.getElem?_set_self (by rw [r.len]; exact hl)], h⟩
  · rw [List.getElem?_set_ne (Ne.symm hj)]
    exact r.val j q z
def sqSet (i : Nat) (g : GQ) : SQF := sqE g fun ρ p M => .nx (ρ.set i (some p)) M
theorem qs_set (i : Nat) {x : Str} {p2 : Pos} (hN : X.N.Nodup) (he : DQ X B W e g) (hi : X.N[i]? = some x := by rfl) (hx : Loc X.env.scope x := by exact Or.inl rfl) (hs : swapsWith e (some (.Name x p2)) pos.line X.env = pure false := by rfl) (hf : X.fn x = true ∨ X.env.scope.names.lookup x = some .local := by first | exact .inl rfl | exact .inr rfl | assumption) :
    DQS X B W (.Assign [.Name x p2] e pos) (sqSet i g) :=
  ps_imp (ps_set hN hi hx he hs hf) fun E σ H ⟨ρ, M, F, A, r, h⟩ => semQS (k := fun p M1 => .nx (ρ.set i (some p)) M1) r h fun p M1 v F1 H1 A1 i1 r1 _ h1 => h1 _ F1 H1 A1 (r1.set i i1) .refl
abbrev TQ := P → RhoQ → Option RhoQ
def tSemGQ (K : PySem.W.Frag) (B : QB) (τ : TQ) : TG := fun v σ H Q => ∃ ρ M F A p, RepQ K B ρ M σ F H A ∧ Is K F v (p.at A) ∧ match τ p ρ with
  | some ρ' => ∀ σ', RepQ K B ρ' M σ' F H A → Q σ' H
  | none => False
abbrev DQG (X : Cx) (B : QB) (tg : Expr) (τ : TQ) : Prop := PG X tg (tSemGQ X.K B τ)
def tqName (i : Nat) : TQ := fun p ρ => some (ρ.set i (some p))
theorem qg_name (i : Nat) {x : Str} (hN : X.N.Nodup) (hi : X.N[i]? = some x := by rfl) (hx : Loc X.env.scope x := by exact Or.inl rfl) (hf : X.fn x = true ∨ X.env.scope.names.lookup x = some .local := by first | exact .inl rfl | exact .inr rfl | assumption) :
    DQG X B (.Name x pos) (tqName i) :=
  pg_imp (pg_name hN hi hx hf) fun v σ H Q ⟨ρ, M, F, A, p, r, h, q⟩ => q _ (r.set i h)
abbrev TQs := List P → RhoQ → Option RhoQ
def tSemGQs (K : PySem.W.Frag) (B : QB) (τ : TQs) : TGs := fun vs σ H Q => ∃ ρ M F A ps, RepQ K B ρ M σ F H A ∧ IsLP K F A vs ps ∧ match τ ps ρ with
  | some ρ' => ∀ σ', RepQ K B ρ' M σ' F H A → Q σ' H
  | none => False
abbrev DQGs (X : Cx) (B : QB) (tg : List Expr) (τ : TQs) : Prop := PGs X tg (tSemGQs X.K B τ)
def tqNil : TQs := fun ps ρ => match ps with
  | [] => some ρ
  | _ => none
def tqCons (τ : TQ) (τs : TQs) : TQs := fun ps ρ => match ps with
  | p :: r => (τ p ρ).bind fun ρ1 => τs r ρ1
  | [] => none
theorem qgs_nil : DQGs X B [] tqNil := by
  refine pgs_imp pgs_nil fun vs σ H Q ⟨ρ, M, F, A, ps, r, l, q⟩ => ?_
  cases ps with
  | nil => exact ⟨l.unnil, q σ r⟩
  | cons d ds => exact q.elim
theorem qgs_cons {es : List Expr} {τ : TQ} {τs : TQs} (h1 : DQG X B e τ) (h2 : DQGs X B es τs)
    (hs : (assignEach (e :: es) X.env).map (·.2) = assign e X.env :: (assignEach es X.env).map (·.2) := by rfl) : DQGs X B (e :: es) (tqCons τ τs) := by
  refine pgs_imp (pgs_cons h1 h2 hs) fun vs σ H Q ⟨ρ, M, F, A, ps, r, l, q⟩ => ?_
  cases ps with
  | nil => exact q.elim
  | cons d ds =>
    obtain ⟨v, vr, rfl, i, t⟩ := (show IsL X.K F vs (d.at A :: ds.map (P.at A)) from l).uncons
    refine ⟨v, vr, rfl, ρ, M, F, A, d, r, i, ?_⟩
    have q' : match (τ d ρ).bind fun ρ1 => τs ds ρ1 with
      | some ρ' => ∀ σ', RepQ X.K B ρ' M σ' F H A → Q σ' H
      | none => False := q
    cases z : τ d ρ with
    | none => rw [z] at q'; exact q'.elim
    | some ρ1 =>
      rw [z] at q'
      exact fun σ1 r1 => ⟨ρ1, M, F, A, ds, r1, t, q'⟩
def tqTup (n : Nat) (τs : TQs) : TQ := fun p ρ => match p with
  | (b, .tup ds) => if ds.length = n then τs (ds.map fun d => (b, d)) ρ else none
  | _ => none
theorem at_tup {K : PySem.W.Frag} {F : Hp} {A : List Addr} {v : V} {b : Bool} {ds : List D} (h : Is K F v (P.at A (b, .tup ds))) : ∃ a xs, v = .ref a ∧ SqT K F a xs ∧ IsLP K F A xs (ds.map fun d => (b, d)) := by
  cases b with
  | false =>
    obtain ⟨a, xs, e, hp, l⟩ := (show Is K F v (.tup ds) from h).tup_inv
    refine ⟨a, xs, e, hp, ?_⟩
    show IsL K F xs ((ds.map fun d => (false, d)).map (P.at A))
    rw [List.map_map, show (P.at A ∘ fun d => (false, d)) = (id : D → D) from rfl, List.map_id]
    exact l
  | true =>
    obtain ⟨a, xs, e, hp, l⟩ := (show Is K F v (.tup (D.subAll A ds)) from h).tup_inv
    refine ⟨a, xs, e, hp, ?_⟩
    show IsL K F xs ((ds.map fun d => (true, d)).map (P.at A))
    rw [List.map_map, show (P.at A ∘ fun d => (true, d)) = D.sub A from rfl, ← subAll_map]
    exact l
theorem qg_tup {es : List Expr} {τs : TQs} {k : Nat} {n : Nat} (hc : X.calm = true) (h : DQGs X B es τs)
    (hn : (assignEach es X.env).length = n := by rfl) (hst : (assignEach es X.env).findIdx? (·.1) = none := by rfl) : DQG X B (.Tuple es k pos) (tqTup n τs) := by
  refine pg_imp (pg_tup hc h hn hst) fun v σ H Q ⟨ρ, M, F, A, p, r, i, q⟩ => ?_
  obtain ⟨b, d⟩ := p
  cases d with
  | tup ds =>
    obtain ⟨a, xs, rfl, hp, l⟩ := at_tup i
    have q' : match (if ds.length = n then τs (ds.map fun d => (b, d)) ρ else none) with
      | some ρ' => ∀ σ', RepQ X.K B ρ' M σ' F H A → Q σ' H
      | none => False := q
    by_cases hd : ds.length = n
    · rw [if_pos hd] at q'
      exact ⟨a, xs, rfl, sameT r.cl.fh hp, by rw [l.1]; simpa using hd, ρ, M, F, A, _, r, l, q'⟩
    · rw [if_neg hd] at q'
      exact q'.elim
  | _ => exact q.elim
def sqIf (p : RhoQ → Mem → RQ Bool) (s u : SQF) : SQF := fun ρ M => match p ρ M with
  | .ok b M1 => if b = true then s ρ M1 else u ρ M1
  | .ex x M1 => .ex x ρ M1
  | .st => .st
theorem qs_if {c : Expr} {a b : List Stmt} {p : RhoQ → Mem → RQ Bool} (hc : DQT X B W c p) (ha : DQSs X B W a s) (hb : DQSs X B W b u) : DQS X B W (.If c a b pos) (sqIf p s u) := by
  refine ps_imp (ps_if hc ha hb) fun E σ H ⟨ρ, M, F, A, r, h⟩ => semQST (k := fun b M1 => if b = true then s ρ M1 else u ρ M1) r h fun b M1 F1 H1 A1 r1 _ h1 => ?_
  cases b with
  | true => exact iteT ⟨ρ, M1, F1, A1, r1, h1⟩
  | false => exact iteF ⟨ρ, M1, F1, A1, r1, h1⟩
def forLQ (τ : TQ) (b : SQF) : List P → SQF
  | [], ρ, M => .nx ρ M
  | d :: ds, ρ, M => match τ d ρ with
    | some ρ1 => match b ρ1 M with
      | .nx ρ2 M2 => forLQ τ b ds ρ2 M2
      | .ct ρ2 M2 => forLQ τ b ds ρ2 M2
      | .bk ρ2 M2 => .nx ρ2 M2
      | r => r
    | none => .st
theorem pi_some {tg e : Expr} {t : Hp → Hp → TI} (h : ∀ a b, PI X tg e (t a b)) : PI X tg e (fun σ H Q => ∃ a b, t a b σ H Q) := ⟨fun pins s σ H Q I ⟨a, b, q⟩ => (h a b).run pins s σ H Q I q⟩
def sqRaise (x : Str) : SQF := fun ρ M => .ex ⟨x, []⟩ ρ M
theorem qs_raise {x msg : Str} {i : Nat} {p p2 pos' : Pos} (Fx : ExcF X x) (hc : X.calm = true) (tk : Takes X W) (hg : Gl X x := by rfl) (hdb : (x == ("__debug__" : Str)) = false := by decide) :
    DQS X B W (.Raise (some (.Call (.Name x p) [.Constant (.str msg) i p2] [] pos')) none pos) (sqRaise x) :=
  ps_imp (ps_raise hc tk (pmk_own F.excBase_ValueError Fx.q Fx.gC Fx.kC (raises_own Fx.sb Fx.ty) hg hdb)) fun E σ H ⟨ρ, M, F, A, r, h⟩ =>
    h _ none σ F H A r .refl ⟨rfl, fun z => absurd rfl z, fun _ => rfl⟩
end
end Pd
namespace Pd
open PySem PySem.Spec PyProof.Rows L2
mutual
theorem is_clean {K : PySem.W.Frag} {F : Hp} {A : List Addr} : ∀ (d : D) (v : V), Is K F v d → d.sub A = d
  | .non, _, _ => rfl
  | .bl _, _, _ => rfl
  | .int _, _, _ => rfl
  | .str _, _, _ => rfl
  | .tpx xs, v, h => by
    obtain ⟨a, ys, rfl, hs, l⟩ := h.tpx_inv
    exact congrArg D.tpx (isL_clean xs ys l)
  | .exc _ _, _, _ => rfl
  | .adr _, _, _ => rfl
  | .list xs, v, h => by
    obtain ⟨a, ys, rfl, hs, l⟩ := h.list_inv
    exact congrArg D.list (isL_clean xs ys l)
  | .tup xs, v, h => by
    obtain ⟨a, ys, rfl, hs, l⟩ := h.tup_inv
    exact congrArg D.tup (isL_clean xs ys l)
  | .dict lk xs, v, h => by
    obtain ⟨a, ys, rfl, hs, l⟩ := h.dict_inv
    exact congrArg (D.dict lk) (isK_clean xs ys l)
  | .dictT xs, v, h => by
    cases h with
    | dictT hs l1 l2 l3 => exact congrArg D.dictT (isT_clean xs _ ⟨l1, l2, l3⟩)
  | .obj c xs, v, h => by
    obtain ⟨a, dx, ys, rfl, hs, l⟩ := h.obj_inv
    exact congrArg (D.obj c) (isF_clean xs ys l)
  | .loc k, v, h => by cases h
theorem isL_clean {K : PySem.W.Frag} {F : Hp} {A : List Addr} : ∀ (ds : List D) (vs : List V), IsL K F vs ds → D.subAll A ds = ds
  | [], vs, h => rfl
  | d :: ds, vs, h => by
    obtain ⟨x, xr, rfl, i, l⟩ := h.uncons
    show D.sub A d :: D.subAll A ds = d :: ds
    rw [is_clean d x i, isL_clean ds xr l]
theorem isK_clean {K : PySem.W.Frag} {F : Hp} {A : List Addr} : ∀ (ds : List (Key × D)) (vs : List (Key × V)), IsK K F vs ds → D.subK A ds = ds
  | [], vs, h => rfl
  | (k, d) :: ds, vs, h => by
    obtain ⟨x, xr, rfl, i, l⟩ := h.uncons
    show (k, D.sub A d) :: D.subK A ds = (k, d) :: ds
    rw [is_clean d x i, isK_clean ds xr l]
theorem isT_clean {K : PySem.W.Frag} {F : Hp} {A : List Addr} : ∀ (ds : List (List Key × D)) (vs : List (List Key × V)), IsK K F vs ds → D.subT A ds = ds
  | [], vs, h => rfl
  | (k, d) :: ds, vs, h => by
    obtain ⟨x, xr, rfl, i, l⟩ := h.uncons
    show (k, D.sub A d) :: D.subT A ds = (k, d) :: ds
    rw [is_clean d x i, isT_clean ds xr l]
theorem isF_clean {K : PySem.W.Frag} {F : Hp} {A : List Addr} : ∀ (ds : List (Str × D)) (vs : List (Str × V)), IsK K F vs ds → D.subF A ds = ds
  | [], vs, h => rfl
  | (k, d) :: ds, vs, h => by
    obtain ⟨x, xr, rfl, i, l⟩ := h.uncons
    show (k, D.sub A d) :: D.subF A ds = (k, d) :: ds
    rw [is_clean d x i, isF_clean ds xr l]
end
theorem at_up {K : PySem.W.Frag} {F : Hp} {A : List Addr} {v : V} {p : P} (h : Is K F v (p.at A)) (b : Bool) : Is K F v (P.at A (p.1 || b, p.2)) := by
  obtain ⟨c, d⟩ := p
  cases c with
  | true => exact h
  | false =>
    cases b with
    | false => exact h
    | true =>
      show Is K F v (d.sub A)
      rw [is_clean d v h]
      exact h
mutual
def D.put (f : Nat → Option D) : D → Option D
  | .non => some .non
  | .bl b => some (.bl b)
  | .int i => some (.int i)
  | .str s => some (.str s)
  | .list xs => (D.putAll f xs).map .list
  | .tup xs => (D.putAll f xs).map .tup
  | .dict lk xs => (D.putK f xs).map (.dict lk)
  | .dictT xs => (D.putT f xs).map .dictT
  | .obj c xs => (D.putFl f xs).map (.obj c)
  | .loc k => f k
  | .tpx xs => (D.putAll f xs).map .tpx
  | .exc c fs => some (.exc c fs)
  | .adr _ => none
def D.putAll (f : Nat → Option D) : List D → Option (List D)
  | [] => some []
  | d :: ds => (D.put f d).bind fun e => (D.putAll f ds).map (e :: ·)
def D.putK (f : Nat → Option D) : List (Key × D) → Option (List (Key × D))
  | [] => some []
  | (k, d) :: ds => (D.put f d).bind fun e => (D.putK f ds).map ((k, e) :: ·)
def D.putT (f : Nat → Option D) : List (List Key × D) → Option (List (List Key × D))
  | [] => some []
  | (k, d) :: ds => (D.put f d).bind fun e => (D.putT f ds).map ((k, e) :: ·)
def D.putFl (f : Nat → Option D) : List (Str × D) → Option (List (Str × D))
  | [] => some []
  | (k, d) :: ds => (D.put f d).bind fun e => (D.putFl f ds).map ((k, e) :: ·)
end
section
variable {K : PySem.W.Frag} {F F' : Hp} {A : List Addr} {f : Nat → Option D}
mutual
theorem is_put (hf : ∀ k a e, A[k]? = some a → f k = some e → Is K F' (.ref a) e) (s : Same F F') : ∀ (d : D) (v : V) (e : D), Is K F v (d.sub A) → d.put f = some e → Is K F' v e
  | .non, v, e, h, q => by cases q; exact h.mono s
  | .bl _, v, e, h, q => by cases q; exact h.mono s
  | .int _, v, e, h, q => by cases q; exact h.mono s
  | .str _, v, e, h, q => by cases q; exact h.mono s
  | .tpx xs, v, e, h, q => by
    obtain ⟨a, ys, rfl, hs, l⟩ := (show Is K F v (.tpx (D.subAll A xs)) from h).tpx_inv
    obtain ⟨es, q1, rfl⟩ := Option.map_eq_some_iff.mp (show (D.putAll f xs).map D.tpx = some e from q)
    have l2 := isL_put hf s xs ys es l q1
    exact .tpx (TpX.mono hs s) l2.1 l2.2
  | .exc _ _, v, e, h, q => by cases q; exact h.mono s
  | .adr _, v, e, h, q => by cases q
  | .list xs, v, e, h, q => by
    obtain ⟨a, ys, rfl, hs, l⟩ := (show Is K F v (.list (D.subAll A xs)) from h).list_inv
    obtain ⟨es, q1, rfl⟩ := Option.map_eq_some_iff.mp (show (D.putAll f xs).map D.list = some e from q)
    exact is_list (s.seq hs) (isL_put hf s xs ys es l q1)
  | .tup xs, v, e, h, q => by
    obtain ⟨a, ys, rfl, hs, l⟩ := (show Is K F v (.tup (D.subAll A xs)) from h).tup_inv0
    obtain ⟨es, q1, rfl⟩ := Option.map_eq_some_iff.mp (show (D.putAll f xs).map D.tup = some e from q)
    exact is_tup (s _ _ hs) (isL_put hf s xs ys es l q1)
  | .dict lk xs, v, e, h, q => by
    obtain ⟨a, ys, rfl, hs, l⟩ := (show Is K F v (.dict lk (D.subK A xs)) from h).dict_inv
    obtain ⟨es, q1, rfl⟩ := Option.map_eq_some_iff.mp (show (D.putK f xs).map (D.dict lk) = some e from q)
    have l2 := isK_put hf s xs ys es l q1
    exact .dict (sameRL s hs) l2.1 l2.2.1 l2.2.2
  | .dictT xs, v, e, h, q => by
    cases (show Is K F v (.dictT (D.subT A xs)) from h) with
    | dictT hs l1 l2 l3 =>
      obtain ⟨es, q1, rfl⟩ := Option.map_eq_some_iff.mp (show (D.putT f xs).map D.dictT = some e from q)
      have l2 := isT_put hf s xs _ es ⟨l1, l2, l3⟩ q1
      exact .dictT (s _ _ hs) l2.1 l2.2.1 l2.2.2
  | .obj c xs, v, e, h, q => by
    obtain ⟨a, dx, ys, rfl, hs, l⟩ := (show Is K F v (.obj c (D.subF A xs)) from h).obj_inv
    obtain ⟨es, q1, rfl⟩ := Option.map_eq_some_iff.mp (show (D.putFl f xs).map (D.obj c) = some e from q)
    have l2 := isF_put hf s xs ys es l q1
    exact .obj (s _ _ hs) l2.1 l2.2.1 l2.2.2
  | .loc k, v, e, h, q => by
    have h' : Is K F v (match A[k]? with | some a => .adr a | none => .loc k) := h
    cases z : A[k]? with
    | none => rw [z] at h'; cases h'
    | some a =>
      rw [z] at h'
      cases h'
      exact hf k a e z q
theorem isL_put (hf : ∀ k a e, A[k]? = some a → f k = some e → Is K F' (.ref a) e) (s : Same F F') : ∀ (ds : List D) (vs : List V) (es : List D), IsL K F vs (D.subAll A ds) → D.putAll f ds = some es → IsL K F' vs es
  | [], vs, es, h, q => by cases q; exact h.mono s
  | d :: ds, vs, es, h, q => by
    obtain ⟨x, xr, rfl, i, l⟩ := (show IsL K F vs (D.sub A d :: D.subAll A ds) from h).uncons
    obtain ⟨e, q1, q2⟩ := Option.bind_eq_some_iff.mp (show (D.put f d).bind (fun e => (D.putAll f ds).map (e :: ·)) = some es from q)
    obtain ⟨er, q3, rfl⟩ := Option.map_eq_some_iff.mp q2
    exact .cons (is_put hf s d x e i q1) (isL_put hf s ds xr er l q3)
theorem isK_put (hf : ∀ k a e, A[k]? = some a → f k = some e → Is K F' (.ref a) e) (s : Same F F') : ∀ (ds : List (Key × D)) (vs : List (Key × V)) (es : List (Key × D)), IsK K F vs (D.subK A ds) → D.putK f ds = some es → IsK K F' vs es
  | [], vs, es, h, q => by cases q; exact h.mono s
  | (k, d) :: ds, vs, es, h, q => by
    obtain ⟨x, xr, rfl, i, l⟩ := (show IsK K F vs ((k, D.sub A d) :: D.subK A ds) from h).uncons
    obtain ⟨e, q1, q2⟩ := Option.bind_eq_some_iff.mp (show (D.put f d).bind (fun e => (D.putK f ds).map ((k, e) :: ·)) = some es from q)
    obtain ⟨er, q3, rfl⟩ := Option.map_eq_some_iff.mp q2
    exact .cons (is_put hf s d x e i q1) (isK_put hf s ds xr er l q3)
theorem isT_put (hf : ∀ k a e, A[k]? = some a → f k = some e → Is K F' (.ref a) e) (s : Same F F') : ∀ (ds : List (List Key × D)) (vs : List (List Key × V)) (es : List (List Key × D)), IsK K F vs (D.subT A ds) → D.putT f ds = some es → IsK K F' vs es
  | [], vs, es, h, q => by cases q; exact h.mono s
  | (k, d) :: ds, vs, es, h, q => by
    obtain ⟨x, xr, rfl, i, l⟩ := (show IsK K F vs ((k, D.sub A d) :: D.subT A ds) from h).uncons
    obtain ⟨e, q1, q2⟩ := Option.bind_eq_some_iff.mp (show (D.put f d).bind (fun e => (D.putT f ds).map ((k, e) :: ·)) = some es from q)
    obtain ⟨er, q3, rfl⟩ := Option.map_eq_some_iff.mp q2
    exact .cons (is_put hf s d x e i q1) (isT_put hf s ds xr er l q3)
theorem isF_put (hf : ∀ k a e, A[k]? = some a → f k = some e → Is K F' (.ref a) e) (s : Same F F') : ∀ (ds : List (Str × D)) (vs : List (Str × V)) (es : List (Str × D)), IsK K F vs (D.subF A ds) → D.putFl f ds = some es → IsK K F' vs es
  | [], vs, es, h, q => by cases q; exact h.mono s
  | (k, d) :: ds, vs, es, h, q => by
    obtain ⟨x, xr, rfl, i, l⟩ := (show IsK K F vs ((k, D.sub A d) :: D.subF A ds) from h).uncons
    obtain ⟨e, q1, q2⟩ := Option.bind_eq_some_iff.mp (show (D.put f d).bind (fun e => (D.putFl f ds).map ((k, e) :: ·)) = some es from q)
    obtain ⟨er, q3, rfl⟩ := Option.map_eq_some_iff.mp q2
    exact .cons (is_put hf s d x e i q1) (isF_put hf s ds xr er l q3)
end
theorem isC_put (hf : ∀ k a e, A[k]? = some a → f k = some e → Is K F' (.ref a) e) (s : Same F F') {o : HO} : ∀ (d e : D), IsC K F o (d.sub A) → d.put f = some e → IsC K F' o e
  | .list xs, e, h, q => by
    obtain ⟨es, q1, rfl⟩ := Option.map_eq_some_iff.mp (show (D.putAll f xs).map D.list = some e from q)
    cases o <;> first | exact isL_put hf s xs _ es h q1 | exact h.elim
  | .dict lk xs, e, h, q => by
    obtain ⟨es, q1, rfl⟩ := Option.map_eq_some_iff.mp (show (D.putK f xs).map (D.dict lk) = some e from q)
    cases o <;> first | exact ⟨h.1, isK_put hf s xs _ es h.2 q1⟩ | exact ⟨h.1, h.2.choose, h.2.choose_spec.1, isK_put hf s xs _ es h.2.choose_spec.2 q1⟩ | exact h.elim
  | .dictT xs, e, h, q => by
    obtain ⟨es, q1, rfl⟩ := Option.map_eq_some_iff.mp (show (D.putT f xs).map D.dictT = some e from q)
    cases o <;> first | exact isT_put hf s xs _ es h q1 | exact h.elim
  | .obj c xs, e, h, q => by
    obtain ⟨es, q1, rfl⟩ := Option.map_eq_some_iff.mp (show (D.putFl f xs).map (D.obj c) = some e from q)
    cases o <;> first | exact ⟨h.1, isF_put hf s xs _ es h.2 q1⟩ | exact h.elim
  | .non, e, h, q => by cases o <;> exact h.elim
  | .bl _, e, h, q => by cases o <;> exact h.elim
  | .int _, e, h, q => by cases o <;> exact h.elim
  | .str _, e, h, q => by cases o <;> exact h.elim
  | .tup _, e, h, q => by cases o <;> exact h.elim
  | .tpx _, e, h, q => by cases o <;> exact h.elim
  | .exc _ _, e, h, q => by cases o <;> exact h.elim
  | .adr _, e, h, q => by cases o <;> exact h.elim
  | .loc k, e, h, q => by
    have h' : IsC K F o (match A[k]? with | some a => .adr a | none => .loc k) := h
    split at h' <;> cases o <;> exact h'.elim
end
/-- what the numbers hold, n deep -/
def memD (M : Mem) : Nat → Nat → Option D
  | 0, _ => none
  | n + 1, k => match M[k]? with
    | some (false, d) => some d
    | some (true, d) => d.put (memD M n)
    | none => none
def P.full (M : Mem) (p : P) : Option D := match p with
  | (false, d) => some d
  | (true, d) => d.put (memD M M.length)
/-- all is shared -/
def frzF (F H : Hp) (A : List Addr) : Hp := open Classical in fun a => if a ∈ A then H a else F a
section
variable {K : PySem.W.Frag} {F H : Hp} {A : List Addr} {M : Mem}
theorem frz_same (c : Cells K F H A M) : Same F (frzF F H A) ∧ Same (frzF F H A) H := by
  refine ⟨fun b u e => ?_, fun b u e => ?_⟩
  · unfold frzF
    rw [if_neg (fun m => by rw [c.dj b m] at e; cases e)]
    exact e
  · unfold frzF at e
    by_cases m : b ∈ A
    · rw [if_pos m] at e; exact e
    · rw [if_neg m] at e; exact c.fh b u e
theorem memD_is (c : Cells K F H A M) : ∀ (n k : Nat) (a : Addr) (e : D), A[k]? = some a → memD M n k = some e → Is K (frzF F H A) (.ref a) e
  | 0, k, a, e, ha, q => by cases q
  | n + 1, k, a, e, ha, q => by
    have q' : (match M[k]? with
      | some (false, d) => some d
      | some (true, d) => d.put (memD M n)
      | none => none) = some e := q
    cases z : M[k]? with
    | none => rw [z] at q'; cases q'
    | some p =>
      obtain ⟨b, d⟩ := p
      rw [z] at q'
      obtain ⟨a', o, e1, e2, e3⟩ := c.at_ k _ z
      rw [ha] at e1
      cases e1
      have hF : frzF F H A a = some o := by
        unfold frzF
        rw [if_pos (List.mem_iff_getElem?.mpr ⟨k, ha⟩)]
        exact e2
      cases b with
      | false =>
        rw [← Option.some.inj q']
        exact is_of_c hF (IsC.mono (show IsC K F o d from e3) (frz_same c).1)
      | true => exact is_of_c hF (isC_put (fun j b e' hb qe => memD_is c n j b e' hb qe) (frz_same c).1 d e e3 q')
theorem full_is (c : Cells K F H A M) {v : V} {p : P} {e : D} (h : Is K F v (p.at A)) (q : p.full M = some e) : Is K (frzF F H A) v e := by
  obtain ⟨b, d⟩ := p
  cases b with
  | false =>
    rw [← Option.some.inj (show some d = some e from q)]
    exact Is.mono (show Is K F v d from h) (frz_same c).1
  | true => exact is_put (fun j b e' hb qe => memD_is c _ j b e' hb qe) (frz_same c).1 d v e h q
end
abbrev GF := List P → Mem → RQ P
def spQ (K : PySem.W.Frag) (G : GF) : Sp := fun vs H Q E => ∃ ps M F A, IsLP K F A vs ps ∧ Cells K F H A M ∧ match G ps M with
  | .ok p M' => ∀ v F' H' A', ExtQ F H A F' H' A' → Cells K F' H' A' M' → Is K F' v (p.at A') → Q v H'
  | .ex x M' => ∀ cls od F' H' A', ExtQ F H A F' H' A' → Cells K F' H' A' M' → IsX K F' x cls od → E cls od H'
  | .st => False
def RQ.down (r : RQ P) : R D := match r with
  | .ok p M => (match p.full M with
    | some d => .ok d
    | none => .st)
  | .ex x _ => .ex x
  | .st => .st
/-- called with what has no numbers -/
def GF.down (G : GF) : List D → R D := fun ds => (G (ds.map fun d => (false, d)) []).down
theorem islp_clean {K : PySem.W.Frag} {F : Hp} {A : List Addr} {vs : List V} {ds : List D} (l : IsL K F vs ds) : IsLP K F A vs (ds.map fun d => (false, d)) := by
  show IsL K F vs ((ds.map fun d => (false, d)).map (P.at A))
  rw [List.map_map, show (P.at A ∘ fun d => (false, d)) = (id : D → D) from rfl, List.map_id]
  exact l
theorem spQ_of {K : PySem.W.Frag} {G : GF} {vs : List V} {H : Hp} {Q : VK} {E : XK} (h : spD K G.down vs H Q E) : spQ K G vs H Q E := by
  obtain ⟨ds, F, l, s, h⟩ := h
  have c0 : Cells K F H [] [] := ⟨s, rfl, .nil, fun a m => (nomatch m), fun k p hp => by simp at hp⟩
  refine ⟨_, [], F, [], islp_clean l, c0, ?_⟩
  unfold GF.down at h
  cases z : G (ds.map fun d => (false, d)) [] with
  | ok p M =>
    rw [z] at h
    intro v F' H' A' x c i
    have h' : match (match p.full M with | some d => R.ok d | none => R.st) with
      | .ok d => ∀ v F' H', Ext F H F' H' → Is K F' v d → Q v H'
      | .ex x => ∀ cls od F' H', Ext F H F' H' → IsX K F' x cls od → E cls od H'
      | .st => False := h
    cases z2 : p.full M with
    | none => rw [z2] at h'; exact h'.elim
    | some d =>
      rw [z2] at h'
      obtain ⟨s1, s2⟩ := frz_same c
      refine h' v (frzF F' H' A') H' ⟨x.ff.trans s1, fun a o e => x.hh a o e (by simp), s2, fun p hp fp => ?_⟩ (full_is c i z2)
      obtain ⟨y1, y2⟩ := x.nw p hp fp (by simp)
      unfold frzF
      rw [if_neg y2]
      exact y1
  | ex x M =>
    rw [z] at h
    intro cls od F' H' A' x2 c i
    exact h cls od F' H' ⟨x2.ff, fun a o e => x2.hh a o e (by simp), c.fh, fun p hp fp => (x2.nw p hp fp (by simp)).1⟩ i
  | st => rw [z] at h; exact h
theorem FnOk.down {P : Program} {w : World} {K : PySem.W.Frag} {mg : Str → Option Value} {base : Heap} {CX : CXT} {k : Nat} {f : Addr} {fd : FuncData} {ps : List Str} {G : GF} (F : FnOk P w K mg base CX k f fd ps (spQ K G)) : FnOk P w K mg base CX k f fd ps (spD K G.down) :=
  F.imp fun vs H Q E h => spQ_of h
def startQ (n : Nat) (ps : List P) : RhoQ := ps.map some ++ List.replicate (n - ps.length) none
def endQ : SQ → RQ P
  | .rt p M => .ok p M
  | .nx _ M => .ok (false, .non) M
  | .ex x _ M => .ex x M
  | _ => .st
def runQ (n np : Nat) (s : SQF) : GF := fun ps M => if ps.length = np then endQ (s (startQ n ps) M) else .st
theorem repQ_start {K : PySem.W.Frag} {F H : Hp} {A : List Addr} {M : Mem} {N : List Str} {ps : List P} {vs : List V} (l : IsLP K F A vs ps) (c : Cells K F H A M) : RepQ K ⟨F, H, A⟩ (startQ N.length ps) M (L2.start N vs) F H A := by
  have ll : vs.length = ps.length := by rw [l.1, List.length_map]
  refine ⟨?_, c, .refl, fun i p a => ?_⟩
  · unfold startQ L2.start
    rw [List.length_append, List.length_append, List.length_map, List.length_map, List.length_replicate, List.length_replicate, ll]
  · unfold startQ at a
    by_cases hi : i < ps.length
    · rw [List.getElem?_append_left (by simpa using hi), List.getElem?_map] at a
      cases e : ps[i]? with
      | none => rw [e] at a; cases a
      | some p' =>
        rw [e] at a
        cases a
        obtain ⟨v, e2, i2⟩ := IsL.at (K := K) (H := F) l (i := i) (d := p.at A) (by rw [List.getElem?_map, e]; rfl)
        refine ⟨v, ?_, i2⟩
        unfold L2.start
        rw [List.getElem?_append_left (by rw [List.length_map, ll]; exact hi), List.getElem?_map, e2]
        rfl
    · rw [List.getElem?_append_right (by simpa using hi), List.getElem?_replicate] at a
      split at a <;> cases a
section
variable {P' : Program} {w : World} {K : PySem.W.Frag} {mg : Str → Option Value} {base : Heap} {x qual : Str} {params : Arguments} {body : List Stmt} {scope : Scope} {dvs : List V} {kws : List (Str × V)} {f : Addr} {fd : FuncData}
theorem fn_q {N ps : List Str} {k : Nat} {s : SQF} (n : Nat) (Fn : FunD K x qual params body scope dvs kws f fd) (Sc : FnScope N ps scope) (hn : N.length = n)
    (hb : ∀ (cdv : Value) (A : Around) (outer : List Env) (st : Shared) (H : Hp) (E : XK) (B : QB), Room k (A.deeper (envOfC qual scope st.heap.objs.size f cdv)) →
      DQSs (cxOf (L2.CX P' w) P' w K mg base N qual scope f cdv A outer st H E) B (fun cls d _ H => E cls d H) body s) : FnOk P' w K mg base (L2.CX P' w) (k + 1) f fd ps (spQ K (runQ n ps.length s)) := by
  subst hn
  refine Fn.ok Sc (fun vs H Q E h => ?_) fun cdv A outer st H vs Q E hr h => ?_
  · obtain ⟨ds, M, F, A, l, _, h⟩ := h
    unfold runQ at h
    by_cases hd : ds.length = ps.length
    · rw [l.1, List.length_map]; exact hd
    · rw [if_neg hd] at h
      exact h.elim
  · obtain ⟨ds, M, F, A', l, c, h⟩ := h
    refine ⟨_, hb cdv A outer st H E ⟨F, H, A'⟩ hr, startQ N.length ds, M, F, A', repQ_start l c, ?_⟩
    unfold runQ at h
    by_cases hd : ds.length = ps.length
    · rw [if_pos hd] at h
      cases z : s (startQ N.length ds) M with
      | nx ρ M1 => rw [z] at h; exact fun σ' F' H' A2 r' _ => h .non F' H' A2 r'.ext r'.cl .non
      | rt p M1 => rw [z] at h; exact fun v F' H' A2 x c i => h v F' H' A2 x c i
      | bk ρ => rw [z] at h; exact h.elim
      | ct ρ => rw [z] at h; exact h.elim
      | ex x ρ M1 => rw [z] at h; exact fun cls od σ' F' H' A2 r' _ i => h cls od F' H' A2 r'.ext r'.cl i
      | st => rw [z] at h; exact h.elim
    · rw [if_neg hd] at h
      exact h.elim
end
structure MetQ (P' : Program) (w : World) (K : PySem.W.Frag) (mg : Str → Option Value) (base : Heap) (k : Nat) (c m : Str) (G : GF) : Prop where
  ex : ∃ f fd ps ds dvs dv, FnOk P' w K mg base (L2.CX P' w) k f fd ps (spQ K dv) ∧ Cls K (He.ga K c) ∧ Meth K (He.ga K c) m f ∧ Binds K fd ps ds ∧ Vals dvs ds ∧ ∃ ed : List D, (∀ H, IsL K H dvs ed) ∧ ∀ as M, G as M = dv (as ++ ed.map fun d => (false, d)) M
/-- class x, made by its __init__ -/
structure MkQ (P' : Program) (w : World) (K : PySem.W.Frag) (mg : Str → Option Value) (base : Heap) (k : Nat) (x : Str) (G : GF) : Prop where
  ex : ∃ f fd ps ds dvs dv, FnOk P' w K mg base (L2.CX P' w) k f fd ps (spQ K dv) ∧ mg x = some (.ref (He.ga K x)) ∧ Mk K (He.ga K x) f ∧ Binds K fd ps ds ∧ Vals dvs ds ∧ ∃ ed : List D, (∀ H, IsL K H dvs ed) ∧ ∀ as M, G as M = dv (as ++ ed.map fun d => (false, d)) M
def aqNil : GQA := fun _ M => .ok [] M
def aqCons (g : GQ) (t : GQA) : GQA := fun ρ M => (g ρ M).bind fun p M1 => (t ρ M1).bind fun ps M2 => .ok (p :: ps) M2
def qCall (G : GF) (t : GQA) : GQ := fun ρ M => (t ρ M).bind G
section
variable {X : Cx} {B : QB} {W : WX} {pos : Pos} {e o : Expr} {es : List Expr} {g go : GQ} {t : GQA} {k j : Nat} {x : Str} {p : Pos} {G : GF}
theorem qa_nil : DQA X B W [] aqNil := pa_imp pa_nil fun σ H Q ⟨ρ, M, F, A, r, h⟩ => h [] F H A .refl r.cl .nil
theorem qa_cons (h1 : DQ X B W e g) (h2 : DQA X B W es t) (hs : starEach (e :: es) X.env = (false, eval e X.env) :: starEach es X.env := by rfl) : DQA X B W (e :: es) (aqCons g t) := by
  refine pa_imp (pa_cons h1 h2 hs) fun σ H Q ⟨ρ, M, F, A, r, h⟩ => ⟨ρ, M, F, A, r, ?_⟩
  unfold aqCons at h
  cases z : g ρ M with
  | st => rw [z] at h; exact h.elim
  | ex x M1 => rw [z] at h; exact h
  | ok p M1 =>
    rw [z] at h
    intro v F1 H1 A1 x1 c1 i1
    refine ⟨ρ, M1, F1, A1, r.to x1 c1, ?_⟩
    have h' : match (t ρ M1).bind fun ps M2 => RQ.ok (p :: ps) M2 with
      | .ok ps M => ∀ vs F' H' A', ExtQ F H A F' H' A' → Cells X.K F' H' A' M → IsLP X.K F' A' vs ps → Q vs H'
      | .ex x M => ExK X.K W σ F H A x M
      | .st => False := h
    cases z2 : t ρ M1 with
    | st => rw [z2] at h'; exact h'.elim
    | ex x M2 => rw [z2] at h'; exact ExK.ext (M1 := M1) h' x1 c1
    | ok ps M2 =>
      rw [z2] at h'
      intro vs F2 H2 A2 x2 c2 i2
      refine h' (v :: vs) F2 H2 A2 (x1.trans c1 x2) c2 ?_
      exact IsL.cons (K := X.K) (H := F2) (x2.grow.is i1) i2
theorem islp_app {K : PySem.W.Frag} {F : Hp} {A : List Addr} {vs dvs : List V} {ps : List P} {ed : List D} (l : IsLP K F A vs ps) (he : ∀ H, IsL K H dvs ed) : IsLP K F A (vs ++ dvs) (ps ++ ed.map fun d => (false, d)) := by
  have : IsL K F (vs ++ dvs) (ps.map (P.at A) ++ (ed.map fun d => (false, d)).map (P.at A)) := IsL.append l (islp_clean (he F))
  rw [← List.map_append] at this
  exact this
def objP (M : Mem) : P → Option (Bool × Str × List (Str × D))
  | (b, .obj c fs) => some (b, c, fs)
  | (true, .loc k) => match M[k]? with
    | some (b, .obj c fs) => some (b, c, fs)
    | _ => none
  | _ => none
theorem isF_at {K : PySem.W.Frag} {F : Hp} {A : List Addr} {b : Bool} {fs : List (Str × D)} {xs : List (Str × V)} {c : Str} {a : Addr} {o : HO} (h : IsC K F o (P.at A (b, .obj c fs))) : ∃ dx xs, o = .ins (He.ga K c) dx xs ∧ IsK K F xs (fs.map fun q => (q.1, P.at A (b, q.2))) := by
  cases b with
  | false =>
    cases o <;> first | exact (show False from h).elim | skip
    rename_i C dx xs
    obtain ⟨e, l⟩ := (show C = He.ga K c ∧ IsK K F xs fs from h)
    subst e
    refine ⟨dx, xs, rfl, ?_⟩
    have : (fs.map fun q => (q.1, P.at A (false, q.2))) = fs := by
      have : (fun q : Str × D => (q.1, P.at A (false, q.2))) = id := rfl
      rw [this, List.map_id]
    rw [this]
    exact l
  | true =>
    cases o <;> first | exact (show False from h).elim | skip
    rename_i C dx xs
    obtain ⟨e, l⟩ := (show C = He.ga K c ∧ IsK K F xs (D.subF A fs) from h)
    subst e
    refine ⟨dx, xs, rfl, ?_⟩
    rw [subF_map] at l
    exact l
theorem objP_is {K : PySem.W.Frag} {F H : Hp} {A : List Addr} {M : Mem} {v : V} {p : P} {b : Bool} {c : Str} {fs : List (Str × D)} (cl : Cells K F H A M) (i : Is K F v (p.at A)) (h : objP M p = some (b, c, fs)) :
    ∃ a dx xs, v = .ref a ∧ H a = some (.ins (He.ga K c) dx xs) ∧ IsK K F xs (fs.map fun q => (q.1, P.at A (b, q.2))) := by
  unfold objP at h
  split at h
  · rename_i b' c' fs'
    cases h
    cases b with
    | false =>
      obtain ⟨a, dx, xs, e, ha, l⟩ := (show Is K F v (.obj c fs) from i).obj_inv
      refine ⟨a, dx, xs, e, cl.fh _ _ ha, ?_⟩
      have : (fs.map fun q => (q.1, P.at A (false, q.2))) = fs := by
        have : (fun q : Str × D => (q.1, P.at A (false, q.2))) = id := rfl
        rw [this, List.map_id]
      rw [this]
      exact l
    | true =>
      obtain ⟨a, dx, xs, e, ha, l⟩ := (show Is K F v (.obj c (D.subF A fs)) from i).obj_inv
      refine ⟨a, dx, xs, e, cl.fh _ _ ha, ?_⟩
      rw [subF_map] at l
      exact l
  · rename_i k
    split at h
    · rename_i b' c' fs' e
      cases h
      have i' : Is K F v (match A[k]? with | some a => .adr a | none => .loc k) := i
      obtain ⟨a, o, e1, e2, e3⟩ := cl.at_ k _ e
      rw [e1] at i'
      cases i'
      obtain ⟨dx, xs, rfl, l⟩ := isF_at (xs := []) (a := a) e3
      exact ⟨a, dx, xs, rfl, e2, l⟩
    · cases h
  · cases h
theorem lookup_map {f : Str} {gg : D → D} : ∀ {fs : List (Str × D)}, (fs.map fun q => (q.1, gg q.2)).lookup f = (fs.lookup f).map gg
  | [] => rfl
  | (a, d) :: r => by
    by_cases hf : f = a
    · subst hf
      rw [List.map_cons, List.lookup_cons_self, List.lookup_cons_self]
      rfl
    · have hb : (f == a) = false := beq_eq_false_iff_ne.mpr hf
      rw [List.map_cons]
      simp only [List.lookup, hb]
      exact lookup_map
def qFld (cs : List Str) (f : Str) (g : GQ) : GQ := fun ρ M => (g ρ M).bind fun p M1 => match objP M1 p with
  | some (b, c, fs) => if cs.contains c = true then (match fs.lookup f with
    | some d => .ok (b, d) M1
    | none => .st) else .st
  | none => .st
theorem q_fld {f : Str} (cs : List Str) (hc : ∀ c ∈ cs, Cls X.K (He.ga X.K c) ∧ NoAttr X.K (He.ga X.K c) f) (he : DQ X B W e g) (hb : attributeBase e f X.env (eval e X.env) = eval e X.env := by rfl) : DQ X B W (.Attribute e f pos) (qFld cs f g) := by
  refine pe_imp (pe_fld he hb) fun σ H Q ⟨ρ, M, F, A, r, h⟩ => ?_
  refine semQ_bind (k := fun p M1 => match objP M1 p with
    | some (b, c, fs) => if cs.contains c = true then (match fs.lookup f with
      | some d => .ok (b, d) M1
      | none => .st) else .st
    | none => .st) r h fun p M1 v F1 H1 A1 _ i1 r1 h1 => ?_
  cases z : objP M1 p with
  | none => rw [z] at h1; exact h1.elim
  | some q =>
    obtain ⟨b, c, fs⟩ := q
    rw [z] at h1
    have h2 : afterQ X.K W σ F1 H1 A1 (if cs.contains c = true then (match fs.lookup f with
      | some d => .ok (b, d) M1
      | none => .st) else .st) Q := h1
    by_cases hz : cs.contains c = true
    · rw [if_pos hz] at h2
      obtain ⟨a, dx, xs, rfl, ha, ik⟩ := objP_is r1.cl i1 z
      obtain ⟨cl, na⟩ := hc c (by simpa using hz)
      cases q : fs.lookup f with
      | none => rw [q] at h2; exact h2.elim
      | some d =>
        rw [q] at h2
        obtain ⟨v, e1, e2⟩ := (isK_lookup ik).1 (P.at A1 (b, d)) (by rw [lookup_map (gg := fun d => P.at A1 (b, d)), q]; rfl)
        exact ⟨a, _, dx, xs, v, rfl, ha, cl, na, e1, afterQ.now h2 r1.cl e2⟩
    · rw [if_neg hz] at h2
      exact h2.elim
end
end Pd
namespace Pd
open PySem PySem.Spec PyProof.Rows L2
def metQ (tb : List (Str × GF)) (mn : Str) (p : P) (M : Mem) (k : GF → RQ P) : RQ P := match objP M p with
  | some (_, c, fs) => (match fs.lookup mn with
    | some _ => .st
    | none => match tb.lookup c with
      | some G => k G
      | none => .st)
  | none => .st
def qMeth (tb : List (Str × GF)) (mn : Str) (go : GQ) (t : GQA) : GQ := fun ρ M => (go ρ M).bind fun p M1 => metQ tb mn p M1 fun G => (t ρ M1).bind fun ps M2 => G (p :: ps) M2
section
variable {X : Cx} {B : QB} {W : WX} {pos apos : Pos} {e o : Expr} {es : List Expr} {g go : GQ} {t : GQA} {k j : Nat} {x mn c : Str} {p : Pos} {G : GF} {pl : Sem Bool}
theorem qMeth_row {tb : List (Str × GF)} {ρ : RhoQ} {M : Mem} (hne : tb ≠ []) (hs : qMeth tb mn go t ρ M ≠ .st) : ∃ q ∈ tb, qMeth [q] mn go t ρ M = qMeth tb mn go t ρ M := by
  unfold qMeth at hs ⊢
  cases z : go ρ M with
  | st => rw [z] at hs; exact absurd rfl hs
  | ex x M1 =>
    obtain ⟨q, hq⟩ := List.exists_mem_of_ne_nil _ hne
    exact ⟨q, hq, rfl⟩
  | ok p M1 =>
    rw [z] at hs
    have hs2 : metQ tb mn p M1 (fun G => (t ρ M1).bind fun ps M2 => G (p :: ps) M2) ≠ .st := hs
    unfold metQ at hs2
    show ∃ q ∈ tb, metQ [q] mn p M1 (fun G => (t ρ M1).bind fun ps M2 => G (p :: ps) M2) = metQ tb mn p M1 (fun G => (t ρ M1).bind fun ps M2 => G (p :: ps) M2)
    unfold metQ
    cases z1 : objP M1 p with
    | none => rw [z1] at hs2; exact absurd rfl hs2
    | some q =>
      obtain ⟨b, c, fs⟩ := q
      rw [z1] at hs2
      have hs3 : (match fs.lookup mn with
        | some _ => RQ.st
        | none => match tb.lookup c with
          | some G => (t ρ M1).bind fun ps M2 => G (p :: ps) M2
          | none => RQ.st) ≠ .st := hs2
      cases z2 : fs.lookup mn with
      | some _ => rw [z2] at hs3; exact absurd rfl hs3
      | none =>
        rw [z2] at hs3
        cases z3 : tb.lookup c with
        | none => rw [z3] at hs3; exact absurd rfl hs3
        | some G =>
          refine ⟨(c, G), lookup_mem z3, ?_⟩
          show (match fs.lookup mn with
            | some _ => RQ.st
            | none => match List.lookup c [(c, G)] with
              | some G => (t ρ M1).bind fun ps M2 => G (p :: ps) M2
              | none => RQ.st) = (match fs.lookup mn with
            | some _ => RQ.st
            | none => match tb.lookup c with
              | some G => (t ρ M1).bind fun ps M2 => G (p :: ps) M2
              | none => RQ.st)
          rw [z2, z3, List.lookup_cons_self]
theorem q_meth {tb : List (Str × GF)} (h : ∀ q ∈ tb, DQ X B W e (qMeth [q] mn go t)) (hne : tb ≠ [] := by simp) : DQ X B W e (qMeth tb mn go t) :=
  pe_imp (pe_mem h) fun σ H Q ⟨ρ, M, F, A, r, q⟩ => by
    by_cases hs : qMeth tb mn go t ρ M = .st
    · rw [hs] at q
      exact q.elim
    · obtain ⟨z, hz, ez⟩ := qMeth_row hne hs
      exact ⟨z, hz, ρ, M, F, A, r, by rw [ez]; exact q⟩
theorem methQ_sem {dv : GF} {dvs : List V} {ed : List D} (he : ∀ H, IsL X.K H dvs ed) (hG : ∀ as M, G as M = dv (as ++ ed.map fun d => (false, d)) M) (σ : L2.St) (H : Hp) (Q : VK) (h : tSemQ X.K B W (qMeth [(c, G)] mn go t) σ H Q) :
    tMethW (He.ga X.K c) mn (spQ X.K dv) dvs (WE W) (tSemQ X.K B W go) (tSemQA X.K B W t) σ H Q := by
  obtain ⟨ρ, M, F, A, r, h⟩ := h
  refine semQ_bind (k := fun p M1 => metQ [(c, G)] mn p M1 fun G => (t ρ M1).bind fun ps M2 => G (p :: ps) M2) r h fun p M1 v F1 H1 A1 _ i1 r1 h1 => ?_
  unfold metQ at h1
  cases z1 : objP M1 p with
  | none => rw [z1] at h1; exact h1.elim
  | some q =>
    obtain ⟨b, c', fs⟩ := q
    rw [z1] at h1
    have h2 : afterQ X.K W σ F1 H1 A1 (match fs.lookup mn with
      | some _ => .st
      | none => match List.lookup c' [(c, G)] with
        | some G => (t ρ M1).bind fun ps M2 => G (p :: ps) M2
        | none => .st) Q := h1
    obtain ⟨a, dx, xs, rfl, ha, ik⟩ := objP_is r1.cl i1 z1
    cases z : fs.lookup mn with
    | some _ => rw [z] at h2; exact h2.elim
    | none =>
      rw [z] at h2
      by_cases hc : c' = c
      · subst hc
        rw [List.lookup_cons_self] at h2
        refine ⟨a, dx, xs, rfl, ha, (isK_lookup ik).2 (by rw [lookup_map (gg := fun d => P.at A1 (b, d)), z]; rfl), ?_⟩
        refine semQA_bind (k := fun ps M2 => G (p :: ps) M2) r1 h2 fun ps M2 vs F2 H2 A2 x2 i2 r2 h3 => ?_
        refine ⟨_, M2, F2, A2, islp_app (ps := p :: ps) (IsL.cons (K := X.K) (H := F2) (x2.grow.is i1) i2) he, r2.cl, ?_⟩
        have h4 : afterQ X.K W σ F2 H2 A2 (G (p :: ps) M2) Q := h3
        rw [hG] at h4
        cases z4 : dv ((p :: ps) ++ ed.map fun d => (false, d)) M2 with
        | ok d M3 => rw [z4] at h4; exact h4
        | ex x M3 => rw [z4] at h4; exact h4
        | st => rw [z4] at h4; exact h4
      · have hb : (c' == c) = false := beq_eq_false_iff_ne.mpr hc
        simp only [List.lookup, hb] at h2
        exact h2.elim
theorem q_meth1 (C : MetQ X.prog X.w X.K X.mg X.base k c mn G) (hr : Room j X.A) (hj : k ≤ j) (tk : Takes X W) (ho : DQ X B W o go) (ha : DQA X B W (e :: es) t)
    (hst : starEach (e :: es) X.env = (false, eval e X.env) :: starEach es X.env) (hpl : (backTo pos (starEach es X.env)).any (·.1) = false)
    (ht : eval (.Call (.Attribute o mn apos) (e :: es) [] pos) X.env = (do
      let ov ← eval o X.env
      standAt apos.atName
      let (f, first) ← holding [ov] (getMethod ov mn pl)
      callWith pos f first (backTo pos (starEach (e :: es) X.env)) (backToKw pos (keywordEach [] X.env)))) : DQ X B W (.Call (.Attribute o mn apos) (e :: es) [] pos) (qMeth [(c, G)] mn go t) := by
  obtain ⟨f, fd, ps, ds, dvs, dv, F, cl, hm, hb, hd, ed, he, hG⟩ := C.ex
  exact pe_imp (pe_methW ho cl hm F (hr.mono hj) hb hd (fun σ => passAt tk σ) ha hst hpl ht) fun σ H Q h => methQ_sem he hG σ H Q h
theorem tSemQ_mono (σ : L2.St) (H : Hp) (Q Q' : VK) (h : ∀ v H', Q v H' → Q' v H') : tSemQ X.K B W go σ H Q → tSemQ X.K B W go σ H Q' := fun ⟨ρ, M, F, A, r, q⟩ => by
  refine ⟨ρ, M, F, A, r, ?_⟩
  cases z : go ρ M with
  | ok d M1 => rw [z] at q; exact fun v F' H' A' x c i => h _ _ (q v F' H' A' x c i)
  | ex x M1 => rw [z] at q; exact q
  | st => rw [z] at q; exact q
theorem q_meth0 (C : MetQ X.prog X.w X.K X.mg X.base k c mn G) (hr : Room j X.A) (hj : k ≤ j) (tk : Takes X W) (ho : DQ X B W o go)
    (ht : eval (.Call (.Attribute o mn apos) [] [] pos) X.env = (do
      let ov ← eval o X.env
      standAt apos.atName
      let (f, first) ← holding [ov] (getMethod ov mn pl)
      callWith pos f first (backTo pos (starEach [] X.env)) (backToKw pos (keywordEach [] X.env)))) : DQ X B W (.Call (.Attribute o mn apos) [] [] pos) (qMeth [(c, G)] mn go aqNil) := by
  obtain ⟨f, fd, ps, ds, dvs, dv, F, cl, hm, hb, hd, ed, he, hG⟩ := C.ex
  exact pe_imp (pe_methW0 ho cl hm F (hr.mono hj) hb hd (fun σ => passAt tk σ) ht) fun σ H Q h => tMethW_imp (fun σ H Q (h : tSemQA X.K B W aqNil σ H Q) => by
    obtain ⟨ρ, M, F, A, r, h⟩ := h
    exact h [] F H A .refl r.cl .nil) (fun σ H Q Q' => tSemQ_mono σ H Q Q') σ H Q (methQ_sem he hG σ H Q h)
end
section
variable {X : Cx} {CX : CXT} {W : WX} {C f : Addr} {fd : FuncData} {ps : List Str} {sp : Sp} {dvs : List V} {ds : List Value} {E : L2.St → XK} {k : Nat} {x : Str} {p pos : Pos} {e : Expr} {es : List Expr} {tt : TA}
theorem run_makeW {pins : List (Addr × Obj)} {σ : L2.St} {H : Hp} {s : Shared} {Q : VK} {us : List Value} {vs : List V} (M : Mk X.K C f) (F : FnOk X.prog X.w X.K X.mg X.base CX k f fd ps sp) (hr : Room (k + 1) X.A) (hb : Binds X.K fd ps ds) (hd : Vals dvs ds)
    (hx : PassesAt CX X σ (E σ)) (I : Inv X pins σ H s) (r : Vals vs us)
    (h : ∀ x dx, H x = none → H dx = none → dx ≠ x → sp (.ref x :: (vs ++ dvs)) (upd (upd H dx (.own x)) x (.ins C dx [])) (fun v H2 => v = .non ∧ Q (.ref x) H2) (E σ)) :
    wpAny (model X.prog X.w) X.A (call (.ref C) us) (EP X pins σ Q) X.xe s := by
  have hq := h (s.heap.objs.size + 1) s.heap.objs.size (I.hok.fresh (Nat.le_succ _)) (I.hok.fresh (Nat.le_refl _)) (Nat.ne_of_lt (Nat.lt_succ_self _))
  have I2 := Inv.made (C := C) I
  have r2 : Vals (V.ref (s.heap.objs.size + 1) :: (vs ++ dvs)) (Value.ref (s.heap.objs.size + 1) :: (us ++ ds)) := .cons rfl (r.append hd)
  have hl : (Value.ref (s.heap.objs.size + 1) :: us ++ ds).length = ps.length := by
    have e := r2.length
    rw [F.len _ _ _ _ hq] at e
    exact e.symm
  refine wpAny_call (make_map (f := f) I.kIn M.makes M.init (beq_iff_eq.mp M.fn) (codeAny_mono (F.run _ X.stack _ _ ⟨Value.ref (s.heap.objs.size + 1) :: us, []⟩ (Value.ref (s.heap.objs.size + 1) :: (us ++ ds)) _ _ (E σ) (hr.make C us [])
    (I2.env0.make C us []) (hb _ (Value.ref (s.heap.objs.size + 1) :: us) I2.kIn hl) r2 hq) fun r s' hq' => ?_))
  cases r with
  | error e => exact hx pins _ _ e s' I2 hq'
  | ok fl =>
    cases fl with
    | ret u =>
      obtain ⟨v, H', I3, rv, ev, q3⟩ := I2.after hq'
      subst ev
      exact ⟨rv, ⟨V.ref (s.heap.objs.size + 1), H', I3, rfl, q3⟩⟩
    | next => exact False.elim hq'
    | brk => exact False.elim hq'
    | cont => exact False.elim hq'
def tMakeW (C : Addr) (sp : Sp) (dvs : List V) (E : L2.St → XK) (t : TA) : TE := fun σ H Q => t σ H fun vs H1 => ∀ x dx, H1 x = none → H1 dx = none → dx ≠ x →
  sp (.ref x :: (vs ++ dvs)) (upd (upd H1 dx (.own x)) x (.ins C dx [])) (fun v H2 => v = .non ∧ Q (.ref x) H2) (E σ)
theorem pe_makeW (M : Mk X.K C f) (F : FnOk X.prog X.w X.K X.mg X.base CX k f fd ps sp) (hr : Room (k + 1) X.A) (hg : Gl X x) (hm : X.mg x = some (.ref C)) (hb : Binds X.K fd ps ds) (hd : Vals dvs ds) (hx : ∀ σ, PassesAt CX X σ (E σ))
    (ha : PA X (e :: es) tt) (hdb : (x == ("__debug__" : Str)) = false) (he : starEach (e :: es) X.env = (false, eval e X.env) :: starEach es X.env) (hpl : (backTo pos (starEach es X.env)).any (·.1) = false) :
    PE X (.Call (.Name x p) (e :: es) [] pos) (tMakeW C sp dvs E tt) := by
  refine ⟨fun pins s σ H Q I h => ?_⟩
  refine wpAny_Call_Name_kw (ld_glob I hg hm ?_ hdb)
  refine PySem.W.callWith_K (h₀ := X.base) I.ok.mod.kin M.kp (thn (ha.run pos pins s σ H _ I h) fun us s1 ⟨vs, H1, I1, r, q⟩ => ⟨I1.kIn, ?_⟩) he hpl
  exact run_makeW M F hr hb hd (hx σ) I1 r q
end
/-- a new object of class c, then its __init__ -/
def mkQ (c : Str) (G : GF) : GF := fun ps M => match G ((true, .loc M.length) :: ps) (M ++ [(false, .obj c [])]) with
  | .ok (_, .non) M1 => .ok (true, .loc M.length) M1
  | .ok _ _ => .st
  | .ex x M1 => .ex x M1
  | .st => .st
section
variable {K : PySem.W.Frag} {F H : Hp} {A : List Addr} {M : Mem} {c : Str}
theorem Cells.fresh (cl : Cells K F H A M) {a : Addr} (n : H a = none) : a ∉ A := fun m => by
  obtain ⟨k, hk⟩ := List.mem_iff_getElem?.mp m
  obtain ⟨p, hp⟩ : ∃ p, M[k]? = some p := by
    have : k < M.length := by rw [← cl.len]; exact (List.getElem?_eq_some_iff.mp hk).1
    exact ⟨M[k], by simp [this]⟩
  obtain ⟨a', o, e1, e2, _⟩ := cl.at_ k p hp
  rw [hk] at e1
  cases e1
  rw [n] at e2
  cases e2
theorem made_cells {y dx : Addr} (cl : Cells K F H A M) (hy : H y = none) (hd : H dx = none) (ne : dx ≠ y) :
    ExtQ F H A F (upd (upd H dx (.own y)) y (.ins (He.ga K c) dx [])) (A ++ [y]) ∧ Cells K F (upd (upd H dx (.own y)) y (.ins (He.ga K c) dx [])) (A ++ [y]) (M ++ [(false, .obj c [])]) := by
  have hy1 : upd H dx (.own y) y = none := by rw [upd_ne (Ne.symm ne)]; exact hy
  have x : Ext F H F (upd (upd H dx (.own y)) y (.ins (He.ga K c) dx [])) := (Ext.laid' cl.fh hd).trans (Ext.laid' (cl.fh.trans (same_upd hd)) hy1)
  obtain ⟨e1, c1⟩ := ExtQ.pure cl x
  have c2 := ExtQ.alloc (p := y) (o := .ins (He.ga K c) dx []) (q := (false, .obj c [])) c1 upd_same (cl.fh.free hy) (cl.fresh hy) ⟨rfl, .nil⟩
  refine ⟨⟨e1.ff, ⟨[y], rfl⟩, e1.hh, e1.fz, fun u hu fu nu => ?_⟩, c2⟩
  obtain ⟨z1, z2⟩ := e1.nw u hu fu nu
  refine ⟨z1, fun m => ?_⟩
  rcases List.mem_append.mp m with m | m
  · exact z2 m
  · simp at m
    subst m
    exact hu hy
theorem loc_at {n : Nat} {y : Addr} {v : V} (h : A[n]? = some y) : (P.at A (true, .loc n)) = .adr y := by
  show (match A[n]? with | some a => D.adr a | none => .loc n) = .adr y
  rw [h]
/-- the promise of an __init__, as the maker's -/
theorem mk_sem {dv G : GF} {dvs vs : List V} {ed : List D} {ps : List P} {W : WX} {σ : L2.St} {Q : VK} {y dx : Addr} (he : ∀ H, IsL K H dvs ed) (hG : ∀ as M, G as M = dv (as ++ ed.map fun d => (false, d)) M)
    (cl : Cells K F H A M) (l : IsLP K F A vs ps) (h : afterQ K W σ F H A (mkQ c G ps M) Q) (hy : H y = none) (hd : H dx = none) (ne : dx ≠ y) :
    spQ K dv (.ref y :: (vs ++ dvs)) (upd (upd H dx (.own y)) y (.ins (He.ga K c) dx [])) (fun v H2 => v = .non ∧ Q (.ref y) H2) (WE W σ) := by
  obtain ⟨x, c2⟩ := made_cells (c := c) cl hy hd ne
  have hAy : (A ++ [y])[M.length]? = some y := by
    rw [← cl.len, List.getElem?_append_right (Nat.le_refl _), Nat.sub_self]
    rfl
  have l2 : IsLP K F (A ++ [y]) (.ref y :: vs) ((true, .loc M.length) :: ps) := by
    refine IsL.cons (K := K) (H := F) ?_ ?_
    · show Is K F (.ref y) (P.at (A ++ [y]) (true, .loc M.length))
      rw [loc_at (v := .non) hAy]
      exact .adr y
    · refine ⟨by rw [l.1]; simp, fun i v d e1 e2 => ?_⟩
      rw [List.getElem?_map] at e2
      cases z : ps[i]? with
      | none => rw [z] at e2; cases e2
      | some p =>
        rw [z] at e2
        cases e2
        exact P.mono (l.2 i v (p.at A) e1 (by rw [List.getElem?_map, z]; rfl)) (.refl F)
  refine ⟨_, M ++ [(false, .obj c [])], F, A ++ [y], islp_app l2 he, c2, ?_⟩
  unfold mkQ at h
  rw [hG] at h
  cases z : dv (((true, .loc M.length) :: ps) ++ ed.map fun d => (false, d)) (M ++ [(false, .obj c [])]) with
  | st => rw [z] at h; exact h
  | ex x1 M1 =>
    rw [z] at h
    exact fun cls od F' H' A' x3 c3 i => h cls od F' H' A' (x.trans c2 x3) c3 i
  | ok q M1 =>
    rw [z] at h
    obtain ⟨b, d⟩ := q
    cases d with
    | non =>
      intro v F' H' A' x3 c3 i
      have hv : v = .non := by
        cases b with
        | false => cases (show Is K F' v .non from i); rfl
        | true => cases (show Is K F' v .non from i); rfl
      refine ⟨hv, h (.ref y) F' H' A' (x.trans c2 x3) c3 ?_⟩
      obtain ⟨t, et⟩ := x3.pre
      have : A'[M.length]? = some y := by
        rw [et, List.getElem?_append_left (by simp [cl.len])]
        exact hAy
      rw [loc_at (v := .non) this]
      exact .adr y
    | _ => exact h.elim
end
section
variable {X : Cx} {B : QB} {W : WX} {pos : Pos} {e : Expr} {es : List Expr} {t : GQA} {k j : Nat} {x : Str} {p : Pos} {G : GF}
theorem q_make (C : MkQ X.prog X.w X.K X.mg X.base k x G) (hr : Room j X.A) (hj : k + 1 ≤ j) (tk : Takes X W) (ha : DQA X B W (e :: es) t) (hg : Gl X x := by rfl)
    (hdb : (x == ("__debug__" : Str)) = false := by decide) (he : starEach (e :: es) X.env = (false, eval e X.env) :: starEach es X.env := by rfl) (hpl : (backTo pos (starEach es X.env)).any (·.1) = false := by rfl) : DQ X B W (.Call (.Name x p) (e :: es) [] pos) (qCall (mkQ x G) t) := by
  obtain ⟨f, fd, ps, ds, dvs, dv, Fn, hm, hk, hb, hd, ed, hE, hG⟩ := C.ex
  refine pe_imp (pe_makeW hk Fn (hr.mono hj) hg hm hb hd (fun σ => passAt tk σ) ha hdb he hpl) fun σ H Q ⟨ρ, M, F, A, r, h⟩ => ?_
  refine semQA_bind (k := mkQ x G) r h fun ps M1 vs F1 H1 A1 _ i1 r1 h1 => fun y dx hy hdx ne => mk_sem hE hG r1.cl i1 h1 hy hdx ne
/-- .. with what has no numbers, in plain reading -/
def mkD (x : Str) (G : GF) : List D → R D := (mkQ x G).down
theorem d_make {F0 : Bs} {H0 : Hp} {m : List Bool} {t : Rho → R (List D)} (C : MkQ X.prog X.w X.K X.mg X.base k x G) (hr : Room j X.A) (hj : k + 1 ≤ j) (tk : Takes X W) (ha : DA X F0 H0 m W (e :: es) t) (hg : Gl X x := by rfl)
    (hdb : (x == ("__debug__" : Str)) = false := by decide) (he : starEach (e :: es) X.env = (false, eval e X.env) :: starEach es X.env := by rfl) (hpl : (backTo pos (starEach es X.env)).any (·.1) = false := by rfl) : DE X F0 H0 m W (.Call (.Name x p) (e :: es) [] pos) (gA (mkD x G) t) := by
  obtain ⟨f, fd, ps, ds, dvs, dv, Fn, hm, hk, hb, hd, ed, hE, hG⟩ := C.ex
  refine pe_imp (pe_makeW hk Fn (hr.mono hj) hg hm hb hd (fun σ => passAt tk σ) ha hdb he hpl) fun σ H Q ⟨ρ, F, r, h⟩ => ?_
  refine semA_bind (k := mkD x G) r h fun ds vs F1 H1 _ i1 r1 h1 => fun y dx hy hdx ne => ?_
  have c0 : Cells X.K F1 H1 [] [] := ⟨r1.fh, rfl, .nil, fun a m => (nomatch m), fun k p hp => by simp at hp⟩
  refine mk_sem hE hG c0 (islp_clean i1) ?_ hy hdx ne
  have h2 : after X.K W σ F1 H1 ((mkQ x G (ds.map fun d => (false, d)) []).down) Q := h1
  cases z : mkQ x G (ds.map fun d => (false, d)) [] with
  | st => rw [z] at h2; exact h2
  | ex x1 M1 =>
    rw [z] at h2
    intro cls od F' H' A' x2 c i
    exact h2 cls od F' H' ⟨x2.ff, fun a o e => x2.hh a o e (by simp), c.fh, fun p hp fp => (x2.nw p hp fp (by simp)).1⟩ i
  | ok q M1 =>
    rw [z] at h2
    intro v F' H' A' x c i
    have h' : after X.K W σ F1 H1 (match q.full M1 with | some d => R.ok d | none => R.st) Q := h2
    cases z2 : q.full M1 with
    | none => rw [z2] at h'; exact h'.elim
    | some d =>
      rw [z2] at h'
      obtain ⟨s1, s2⟩ := frz_same c
      refine h' v (frzF F' H' A') H' ⟨x.ff.trans s1, fun a o e => x.hh a o e (by simp), s2, fun p hp fp => ?_⟩ (full_is c i z2)
      obtain ⟨y1, y2⟩ := x.nw p hp fp (by simp)
      unfold frzF
      rw [if_neg y2]
      exact y1
end
def putD (f : Str) (d : D) : List (Str × D) → List (Str × D)
  | [] => [(f, d)]
  | (g, x) :: r => if g = f then (g, d) :: r else (g, x) :: putD f d r
theorem isK_putF {K : PySem.W.Frag} {F : Hp} {f : Str} {v : V} {d : D} (i : Is K F v d) : ∀ {xs : List (Str × V)} {ds : List (Str × D)}, IsK K F xs ds → IsK K F (putF f v xs) (putD f d ds)
  | [], [], _ => .cons i .nil
  | [], _ :: _, h => by have := h.1; simp at this
  | _ :: _, [], h => by have := h.1; simp at this
  | (a, x) :: xs, (b, y) :: ds, h => by
    obtain ⟨x', xr, e, ix, t⟩ := h.uncons
    cases e
    show IsK K F (if a = f then (a, v) :: xs else (a, x) :: putF f v xs) (if a = f then (a, d) :: ds else (a, y) :: putD f d ds)
    by_cases hf : a = f
    · rw [if_pos hf, if_pos hf]
      exact .cons i t
    · rw [if_neg hf, if_neg hf]
      exact .cons ix (isK_putF i t)
theorem putD_map {f : Str} {d : D} {gg : D → D} : ∀ {fs : List (Str × D)}, (putD f d fs).map (fun q => (q.1, gg q.2)) = putD f (gg d) (fs.map fun q => (q.1, gg q.2))
  | [] => rfl
  | (a, x) :: r => by
    show List.map (fun q => (q.1, gg q.2)) (if a = f then (a, d) :: r else (a, x) :: putD f d r) = (if a = f then (a, gg d) :: (r.map fun q => (q.1, gg q.2)) else (a, gg x) :: putD f (gg d) (r.map fun q => (q.1, gg q.2)))
    by_cases hf : a = f
    · rw [if_pos hf, if_pos hf]
      rfl
    · rw [if_neg hf, if_neg hf, List.map_cons, putD_map]
theorem lvl_up {K : PySem.W.Frag} {F : Hp} {A : List Addr} {b : Bool} {c : Bool} : ∀ {xs : List (Str × V)} {fs : List (Str × D)}, IsK K F xs (fs.map fun q => (q.1, P.at A (b, q.2))) → IsK K F xs (fs.map fun q => (q.1, P.at A (b || c, q.2)))
  | xs, [], h => h
  | xs, (k, d) :: fs, h => by
    obtain ⟨x, xr, rfl, ix, t⟩ := (show IsK K F xs ((k, P.at A (b, d)) :: fs.map fun q => (q.1, P.at A (b, q.2))) from h).uncons
    exact .cons (at_up (p := (b, d)) ix c) (lvl_up t)
theorem isC_obj {K : PySem.W.Frag} {F : Hp} {A : List Addr} {b : Bool} {c : Str} {dx : Addr} {xs : List (Str × V)} {fs : List (Str × D)} (h : IsK K F xs (fs.map fun q => (q.1, P.at A (b, q.2)))) : IsC K F (.ins (He.ga K c) dx xs) (P.at A (b, .obj c fs)) := by
  cases b with
  | false =>
    have e : (fs.map fun q => (q.1, P.at A (false, q.2))) = fs := by
      have : (fun q : Str × D => (q.1, P.at A (false, q.2))) = id := rfl
      rw [this, List.map_id]
    rw [e] at h
    exact ⟨rfl, h⟩
  | true =>
    refine ⟨rfl, ?_⟩
    rw [subF_map]
    exact h
/-- the number's object gets a field -/
def sqFld (cs : List Str) (f : Str) (go g : GQ) : SQF := sqE g fun ρ p M => sqE go (fun ρ q M1 => match q with
  | (true, .loc k) => (match M1[k]? with
    | some (b, .obj c fs) => if (cs.contains c && decide (fs.length < 1000)) = true then .nx ρ (M1.set k (b || p.1, .obj c (putD f p.2 fs))) else .st
    | _ => .st)
  | _ => .st) ρ M
section
variable {X : Cx} {B : QB} {W : WX} {pos : Pos} {e o value : Expr} {es : List Expr} {g go : GQ} {t : GQA} {k j : Nat} {x : Str} {p : Pos} {G : GF}
theorem qs_fld {f : Str} {pos' : Pos} (cs : List Str) (hc : ∀ c ∈ cs, Cls X.K (He.ga X.K c) ∧ NoAttr X.K (He.ga X.K c) f) (ho : DQ X B W o go) (hv : DQ X B W value g) (hs : swapsWith value (some (.Attribute o f pos')) pos.line X.env = pure false := by rfl) :
    DQS X B W (.Assign [.Attribute o f pos'] value pos) (sqFld cs f go g) := by
  refine ps_imp (ps_fld ho hv hs) fun E σ H ⟨ρ, M, F, A, r, h⟩ => ?_
  refine semQS (k := fun p M1 => sqE go (fun ρ q M1 => match q with
    | (true, .loc k) => (match M1[k]? with
      | some (b, .obj c fs) => if (cs.contains c && decide (fs.length < 1000)) = true then .nx ρ (M1.set k (b || p.1, .obj c (putD f p.2 fs))) else .st
      | _ => .st)
    | _ => .st) ρ M1) r h fun p M1 v F1 H1 A1 i1 r1 _ h1 => ?_
  refine semQS (k := fun q M1 => match q with
    | (true, .loc k) => (match M1[k]? with
      | some (b, .obj c fs) => if (cs.contains c && decide (fs.length < 1000)) = true then .nx ρ (M1.set k (b || p.1, .obj c (putD f p.2 fs))) else .st
      | _ => .st)
    | _ => .st) r1 h1 fun q M2 v2 F2 H2 A2 i2 r2 gr h2 => ?_
  split at h2
  · rename_i k
    split at h2
    · rename_i b c fs e2
      by_cases hz : (cs.contains c && decide (fs.length < 1000)) = true
      · rw [if_pos hz] at h2
        rw [Bool.and_eq_true, decide_eq_true_eq] at hz
        obtain ⟨a, o', y1, y2, y3⟩ := r2.cl.at_ k _ e2
        rw [loc_at (v := .non) y1] at i2
        cases i2
        obtain ⟨dx, xs, rfl, ik⟩ := isF_at (xs := []) (a := a) y3
        obtain ⟨cl, na⟩ := hc c (by simpa using hz.1)
        have hl : xs.length < 1000 := by
          have := ik.1
          rw [List.length_map] at this
          omega
        have iv := gr.is i1
        have pu : IsK X.K F2 (putF f v xs) (((putD f p.2 fs)).map fun q => (q.1, P.at A2 (b || p.1, q.2))) := by
          rw [putD_map (gg := fun d => P.at A2 (b || p.1, d))]
          refine isK_putF ?_ (lvl_up ik)
          have := at_up iv b
          rw [Bool.or_comm] at this
          exact this
        obtain ⟨e3, c3⟩ := ExtQ.put (q := (b || p.1, .obj c (putD f p.2 fs))) r2.cl y1 (isC_obj (dx := dx) pu) y2
        exact ⟨a, _, dx, xs, rfl, y2, cl, na, hl, h2 σ F2 _ A2 (r2.to e3 c3) .refl⟩
      · rw [if_neg hz] at h2
        exact h2.elim
    · exact h2.elim
  · exact h2.elim
def isL_at {K : PySem.W.Frag} {F : Hp} {A : List Addr} {b : Bool} {ds : List D} {o : HO} (h : IsC K F o (P.at A (b, .list ds))) : ∃ xs, o = .lst xs ∧ IsLP K F A xs (ds.map fun d => (b, d)) := by
  cases b with
  | false =>
    cases o <;> first | exact (show False from h).elim | skip
    rename_i xs
    exact ⟨xs, rfl, islp_clean (show IsL K F xs ds from h)⟩
  | true =>
    cases o <;> first | exact (show False from h).elim | skip
    rename_i xs
    refine ⟨xs, rfl, ?_⟩
    show IsL K F xs ((ds.map fun d => (true, d)).map (P.at A))
    rw [List.map_map, show (P.at A ∘ fun d => (true, d)) = D.sub A from rfl, ← subAll_map]
    exact h
theorem isC_list {K : PySem.W.Frag} {F : Hp} {A : List Addr} {b : Bool} {ds : List D} {xs : List V} (h : IsLP K F A xs (ds.map fun d => (b, d))) : IsC K F (.lst xs) (P.at A (b, .list ds)) := by
  have h' : IsL K F xs ((ds.map fun d => (b, d)).map (P.at A)) := h
  rw [List.map_map] at h'
  cases b with
  | false =>
    rw [show (P.at A ∘ fun d => (false, d)) = (id : D → D) from rfl, List.map_id] at h'
    exact h'
  | true =>
    rw [show (P.at A ∘ fun d => (true, d)) = D.sub A from rfl, ← subAll_map] at h'
    exact h'
end
end Pd
namespace Pd
open PySem PySem.Spec PyProof.Rows L2
/-- which kinds of objects have numbers -/
structure Tg where
  l : Bool
  k : Bool
  t : Bool
  o : Bool
  f : Bool
def isLst : D → Bool
  | .list _ => true
  | _ => false
def isDct : D → Bool
  | .dict false _ => true
  | _ => false
def isDcL : D → Bool
  | .dict true _ => true
  | _ => false
def isDcT : D → Bool
  | .dictT _ => true
  | _ => false
def isObj : D → Bool
  | .obj _ _ => true
  | _ => false
def tagsM (M : Mem) : Tg := ⟨M.any fun p => isLst p.2, M.any fun p => isDct p.2, M.any fun p => isDcT p.2, M.any fun p => isObj p.2, M.any fun p => isDcL p.2⟩
mutual
/-- nothing of these kinds is in it -/
def D.off (g : Tg) : D → Bool
  | .non => true
  | .bl _ => true
  | .int _ => true
  | .str _ => true
  | .list xs => !g.l && D.offAll g xs
  | .tup xs => D.offAll g xs
  | .dict lk xs => ((lk || !g.k) && !g.f) && D.offK g xs
  | .dictT xs => !g.t && D.offT g xs
  | .obj _ xs => !g.o && D.offF g xs
  | .loc _ => false
  | .tpx xs => D.offAll g xs
  | .exc _ _ => false
  | .adr _ => false
def D.offAll (g : Tg) : List D → Bool
  | [] => true
  | d :: ds => D.off g d && D.offAll g ds
def D.offK (g : Tg) : List (Key × D) → Bool
  | [] => true
  | (_, d) :: ds => D.off g d && D.offK g ds
def D.offT (g : Tg) : List (List Key × D) → Bool
  | [] => true
  | (_, d) :: ds => D.off g d && D.offT g ds
def D.offF (g : Tg) : List (Str × D) → Bool
  | [] => true
  | (_, d) :: ds => D.off g d && D.offF g ds
end
def unA (F : Hp) (A : List Addr) : Hp := open Classical in fun a => if a ∈ A then none else F a
theorem unA_at {F : Hp} {A : List Addr} {a : Addr} {o : HO} (h : F a = some o) (n : a ∉ A) : unA F A a = some o := by
  unfold unA
  rw [if_neg n]
  exact h
/-- what stands at the numbers is of these kinds -/
def OffA (g : Tg) (A : List Addr) (H : Hp) : Prop := ∀ a ∈ A, ∃ o, H a = some o ∧ ((∃ xs, o = .lst xs ∧ g.l = true) ∨ (∃ xs, o = .dK xs ∧ g.k = true) ∨ (∃ xs, o = .dT xs ∧ g.t = true) ∨ (∃ C dx xs, o = .ins C dx xs ∧ g.o = true) ∨ ∃ ob xs, o = .frz ob (.dK xs) ∧ g.f = true)
section
variable {K : PySem.W.Frag} {F H : Hp} {A : List Addr} {g : Tg}
theorem OffA.not (h : OffA g A H) (s : Same F H) {a : Addr} {o : HO} (e : F a = some o) (l : ∀ xs, o = .lst xs → g.l = false) (k : ∀ xs, o = .dK xs → g.k = false) (t : ∀ xs, o = .dT xs → g.t = false) (i : ∀ C dx xs, o = .ins C dx xs → g.o = false) (fz : ∀ ob xs, o = .frz ob (.dK xs) → g.f = false := by intro _ _ z; cases z) : a ∉ A := fun m => by
  obtain ⟨o', e', q⟩ := h a m
  rw [s a o e] at e'
  cases e'
  rcases q with ⟨xs, z, w⟩ | ⟨xs, z, w⟩ | ⟨xs, z, w⟩ | ⟨C, dx, xs, z, w⟩ | ⟨ob, xs, z, w⟩
  · rw [l xs z] at w; cases w
  · rw [k xs z] at w; cases w
  · rw [t xs z] at w; cases w
  · rw [i C dx xs z] at w; cases w
  · rw [fz ob xs z] at w; cases w
mutual
theorem is_off (h : OffA g A H) (s : Same F H) : ∀ (d : D) (v : V), Is K F v d → d.off g = true → Is K (unA F A) v d
  | .non, v, i, q => by cases i; exact .non
  | .bl _, v, i, q => by cases i; exact .bl _
  | .int _, v, i, q => by cases i; exact .int _
  | .str _, v, i, q => by cases i; exact .str _
  | .tpx xs, v, i, q => by
    obtain ⟨a, ys, rfl, e, l⟩ := i.tpx_inv
    obtain ⟨o, e, e2⟩ := e
    have l2 := isL_off h s xs ys l q
    exact .tpx ⟨o, unA_at e (h.not s e (fun _ z => by cases z) (fun _ z => by cases z) (fun _ z => by cases z) (fun _ _ _ z => by cases z)), e2⟩ l2.1 l2.2
  | .exc _ _, v, i, q => by cases q
  | .adr _, v, i, q => by cases q
  | .loc _, v, i, q => by cases q
  | .list xs, v, i, q => by
    obtain ⟨a, ys, rfl, hs, l⟩ := i.list_inv
    have q' : (!g.l && D.offAll g xs) = true := q
    rw [Bool.and_eq_true, Bool.not_eq_true'] at q'
    refine is_list ?_ (isL_off h s xs ys l q'.2)
    rcases hs with (e | ⟨o, e⟩) | e
    · exact .inl (.inl (unA_at e (h.not s e (fun _ _ => q'.1) (fun _ z => by cases z) (fun _ z => by cases z) (fun _ _ _ z => by cases z))))
    · exact .inl (.inr ⟨o, unA_at e (h.not s e (fun _ z => by cases z) (fun _ z => by cases z) (fun _ z => by cases z) (fun _ _ _ z => by cases z))⟩)
    · exact .inr e
  | .tup xs, v, i, q => by
    obtain ⟨a, ys, rfl, e, l⟩ := i.tup_inv0
    exact is_tup (unA_at e (h.not s e (fun _ z => by cases z) (fun _ z => by cases z) (fun _ z => by cases z) (fun _ _ _ z => by cases z))) (isL_off h s xs ys l q)
  | .dict lk xs, v, i, q => by
    obtain ⟨a, ys, rfl, hs, l⟩ := i.dict_inv
    have q0 : (((lk || !g.k) && !g.f) && D.offK g xs) = true := q
    rw [Bool.and_eq_true, Bool.and_eq_true, Bool.not_eq_true'] at q0
    obtain ⟨⟨q0, qf⟩, q1⟩ := q0
    have q' := And.intro q0 q1
    have l2 := isK_off h s xs ys l q'.2
    refine .dict ?_ l2.1 l2.2.1 l2.2.2
    cases lk with
    | true =>
      obtain ⟨o, e⟩ := hs
      exact ⟨o, unA_at e (h.not s e (fun _ z => by cases z) (fun _ z => by cases z) (fun _ z => by cases z) (fun _ _ _ z => by cases z) (fun _ _ _ => qf))⟩
    | false =>
    have qk : g.k = false := by simpa using q'.1
    rcases hs with e | ⟨o, e⟩
    · exact .inl (unA_at e (h.not s e (fun _ z => by cases z) (fun _ _ => qk) (fun _ z => by cases z) (fun _ _ _ z => by cases z)))
    · exact .inr ⟨o, unA_at e (h.not s e (fun _ z => by cases z) (fun _ z => by cases z) (fun _ z => by cases z) (fun _ _ _ z => by cases z) (fun _ _ _ => qf))⟩
  | .dictT xs, v, i, q => by
    have q' : (!g.t && D.offT g xs) = true := q
    rw [Bool.and_eq_true, Bool.not_eq_true'] at q'
    cases i with
    | dictT hs l1 l2 l3 =>
      have l2 := isT_off h s xs _ ⟨l1, l2, l3⟩ q'.2
      exact .dictT (unA_at hs (h.not s hs (fun _ z => by cases z) (fun _ z => by cases z) (fun _ _ => q'.1) (fun _ _ _ z => by cases z))) l2.1 l2.2.1 l2.2.2
  | .obj c xs, v, i, q => by
    obtain ⟨a, dx, ys, rfl, hs, l⟩ := i.obj_inv
    have q' : (!g.o && D.offF g xs) = true := q
    rw [Bool.and_eq_true, Bool.not_eq_true'] at q'
    have l2 := isF_off h s xs ys l q'.2
    exact .obj (unA_at hs (h.not s hs (fun _ z => by cases z) (fun _ z => by cases z) (fun _ z => by cases z) (fun _ _ _ _ => q'.1))) l2.1 l2.2.1 l2.2.2
theorem isL_off (h : OffA g A H) (s : Same F H) : ∀ (ds : List D) (vs : List V), IsL K F vs ds → D.offAll g ds = true → IsL K (unA F A) vs ds
  | [], vs, l, q => by rw [l.unnil]; exact .nil
  | d :: ds, vs, l, q => by
    obtain ⟨x, xr, rfl, i, t⟩ := l.uncons
    have q' : (D.off g d && D.offAll g ds) = true := q
    rw [Bool.and_eq_true] at q'
    exact .cons (is_off h s d x i q'.1) (isL_off h s ds xr t q'.2)
theorem isK_off (h : OffA g A H) (s : Same F H) : ∀ (ds : List (Key × D)) (vs : List (Key × V)), IsK K F vs ds → D.offK g ds = true → IsK K (unA F A) vs ds
  | [], vs, l, q => by rw [l.unnil]; exact .nil
  | (k, d) :: ds, vs, l, q => by
    obtain ⟨x, xr, rfl, i, t⟩ := l.uncons
    have q' : (D.off g d && D.offK g ds) = true := q
    rw [Bool.and_eq_true] at q'
    exact .cons (is_off h s d x i q'.1) (isK_off h s ds xr t q'.2)
theorem isT_off (h : OffA g A H) (s : Same F H) : ∀ (ds : List (List Key × D)) (vs : List (List Key × V)), IsK K F vs ds → D.offT g ds = true → IsK K (unA F A) vs ds
  | [], vs, l, q => by rw [l.unnil]; exact .nil
  | (k, d) :: ds, vs, l, q => by
    obtain ⟨x, xr, rfl, i, t⟩ := l.uncons
    have q' : (D.off g d && D.offT g ds) = true := q
    rw [Bool.and_eq_true] at q'
    exact .cons (is_off h s d x i q'.1) (isT_off h s ds xr t q'.2)
theorem isF_off (h : OffA g A H) (s : Same F H) : ∀ (ds : List (Str × D)) (vs : List (Str × V)), IsK K F vs ds → D.offF g ds = true → IsK K (unA F A) vs ds
  | [], vs, l, q => by rw [l.unnil]; exact .nil
  | (k, d) :: ds, vs, l, q => by
    obtain ⟨x, xr, rfl, i, t⟩ := l.uncons
    have q' : (D.off g d && D.offF g ds) = true := q
    rw [Bool.and_eq_true] at q'
    exact .cons (is_off h s d x i q'.1) (isF_off h s ds xr t q'.2)
end
theorem offA_of {M : Mem} (c : Cells K F H A M) : OffA (tagsM M) A H := fun a m => by
  obtain ⟨k, hk⟩ := List.mem_iff_getElem?.mp m
  obtain ⟨p, hp⟩ : ∃ p, M[k]? = some p := by
    have : k < M.length := by rw [← c.len]; exact (List.getElem?_eq_some_iff.mp hk).1
    exact ⟨M[k], by simp [this]⟩
  obtain ⟨a', o, e1, e2, e3⟩ := c.at_ k p hp
  rw [hk] at e1
  cases e1
  refine ⟨o, e2, ?_⟩
  have mp := List.mem_of_getElem? hp
  obtain ⟨b, d⟩ := p
  have shape : ∀ d' : D, IsC K F o d' → (isLst d' = true → isLst d = true) → (isDct d' = true → isDct d = true) → (isDcT d' = true → isDcT d = true) → (isObj d' = true → isObj d = true) → (isDcL d' = true → isDcL d = true) →
      ((∃ xs, o = .lst xs ∧ (tagsM M).l = true) ∨ (∃ xs, o = .dK xs ∧ (tagsM M).k = true) ∨ (∃ xs, o = .dT xs ∧ (tagsM M).t = true) ∨ (∃ C dx xs, o = .ins C dx xs ∧ (tagsM M).o = true) ∨ ∃ ob xs, o = .frz ob (.dK xs) ∧ (tagsM M).f = true) := fun d' i s1 s2 s3 s4 s5 => by
    cases o <;> cases d' <;> first
      | exact i.elim
      | exact .inl ⟨_, rfl, List.any_eq_true.mpr ⟨_, mp, s1 rfl⟩⟩
      | (obtain ⟨i1, i2⟩ := i; subst i1; exact .inr (.inl ⟨_, rfl, List.any_eq_true.mpr ⟨_, mp, s2 rfl⟩⟩))
      | exact .inr (.inr (.inl ⟨_, rfl, List.any_eq_true.mpr ⟨_, mp, s3 rfl⟩⟩))
      | exact .inr (.inr (.inr (.inl ⟨_, _, _, rfl, List.any_eq_true.mpr ⟨_, mp, s4 rfl⟩⟩)))
      | (obtain ⟨i1, xs, i2, i3⟩ := i; subst i1 i2; exact .inr (.inr (.inr (.inr ⟨_, _, rfl, List.any_eq_true.mpr ⟨_, mp, s5 rfl⟩⟩))))
  cases b with
  | false => exact shape d e3 id id id id id
  | true =>
    cases d with
    | list xs => exact shape _ (show IsC K F o (.list (D.subAll A xs)) from e3) id id id id id
    | dict lk xs => exact shape _ (show IsC K F o (.dict lk (D.subK A xs)) from e3) id (fun z => by cases lk <;> first | exact z | rfl) id id (fun z => by cases lk <;> first | exact z | rfl)
    | dictT xs => exact shape _ (show IsC K F o (.dictT (D.subT A xs)) from e3) id id id id id
    | obj c xs => exact shape _ (show IsC K F o (.obj c (D.subF A xs)) from e3) id id id id id
    | loc k2 =>
      have e4 : IsC K F o (match A[k2]? with | some a => .adr a | none => .loc k2) := e3
      split at e4 <;> cases o <;> exact e4.elim
    | _ => cases o <;> exact (show False from e3).elim
/-- back from a look -/
theorem snap_back {M : Mem} {F' H' : Hp} (c : Cells K F H A M) (x : Ext (frzF F H A) H F' H') : ExtQ F H A (unA F' A) H' A ∧ Cells K (unA F' A) H' A M ∧
    (∀ v d, Is K F' v d → d.off (tagsM M) = true → Is K (unA F' A) v d) ∧ ∀ {x : Ex} {cls : Value} {od : Option Addr}, IsX K F' x cls od → D.offF (tagsM M) x.fs = true → IsX K (unA F' A) x cls od := by
  obtain ⟨s1, s2⟩ := frz_same c
  have nA : ∀ {b u}, F b = some u → b ∉ A := fun {b u} e m => by rw [c.dj b m] at e; cases e
  have sF : Same F (unA F' A) := fun b u e => unA_at (x.ff b u (s1 b u e)) (nA e)
  have sH : Same (unA F' A) H' := fun b u e => by
    unfold unA at e
    by_cases m : b ∈ A
    · rw [if_pos m] at e; cases e
    · rw [if_neg m] at e; exact x.fh b u e
  have oA : OffA (tagsM M) A H' := fun a m => by
    obtain ⟨o, e, q⟩ := offA_of c a m
    exact ⟨o, x.hh a o e, q⟩
  refine ⟨⟨sF, ⟨[], by simp⟩, fun a o h _ => x.hh a o h, fun a _ _ _ h => x.hh a _ h, fun p hp fp np => ⟨?_, np⟩⟩, ⟨sH, c.len, c.nd, fun a m => by unfold unA; rw [if_pos m], fun k p hp => ?_⟩, fun v d i q => is_off oA x.fh d v i q, fun {x1 cls od} i q => ⟨i.1, fun n => ?_, i.2.2⟩⟩
  · unfold unA
    rw [if_neg np]
    refine x.nw p hp ?_
    unfold frzF
    rw [if_neg np]
    exact fp
  · obtain ⟨a, o, e1, e2, e3⟩ := c.at_ k p hp
    refine ⟨a, o, e1, x.hh a o e2, ?_⟩
    have := P.monoC (t := []) e3 sF
    rwa [List.append_nil] at this
  · obtain ⟨d, vs, e, h1, h2⟩ := i.2.1 n
    exact ⟨d, vs, e, unA_at h1 (oA.not x.fh h1 (fun _ z => by cases z) (fun _ z => by cases z) (fun _ z => by cases z) (fun _ _ _ z => by cases z)), isF_off oA x.fh _ _ h2 q⟩
end
def snR (M : Mem) (ρ : RhoQ) : Rho := ρ.map fun
  | some p => p.full M
  | none => none
theorem RepQ.snap {K : PySem.W.Frag} {B : QB} {ρ : RhoQ} {M : Mem} {σ : L2.St} {F H : Hp} {A : List Addr} (r : RepQ K B ρ M σ F H A) : Rep K ⟨frzF F H A, []⟩ H [] (snR M ρ) σ (frzF F H A) H := by
  refine ⟨by unfold snR; rw [List.length_map]; exact r.len, (frz_same r.cl).2, .refl _, .refl _, fun p h f => f, fun i d a _ => ?_, fun i d _ b => by simp at b, fun i j p d e _ a => by simp at a, fun b hb => (nomatch hb)⟩
  unfold snR at a
  rw [List.getElem?_map] at a
  cases e : ρ[i]? with
  | none => rw [e] at a; cases a
  | some q =>
    rw [e] at a
    cases q with
    | none => cases a
    | some p =>
      obtain ⟨v, e1, i1⟩ := r.val i p e
      exact ⟨v, e1, full_is r.cl i1 (Option.some.inj a)⟩
def upS (M : Mem) (r : R D) : RQ P := match r with
  | .ok d => if d.off (tagsM M) = true then .ok (false, d) M else .st
  | .ex x => if D.offF (tagsM M) x.fs = true then .ex x M else .st
  | .st => .st
def qSn (g : Rho → R D) : GQ := fun ρ M => upS M (g (snR M ρ))
section
variable {X : Cx} {B : QB} {W : WX} {pos : Pos} {e : Expr} {g : Rho → R D}
theorem q_snap (h : ∀ Fb Hb : Hp, DE X ⟨Fb, []⟩ Hb [] W e g) : DQ X B W e (qSn g) := by
  refine pe_imp (pe_some h) fun σ H Q ⟨ρ, M, F, A, r, q⟩ => ⟨frzF F H A, H, snR M ρ, frzF F H A, r.snap, ?_⟩
  unfold qSn upS at q
  cases z : g (snR M ρ) with
  | ok d =>
    rw [z] at q
    have q' : afterQ X.K W σ F H A (if d.off (tagsM M) = true then .ok (false, d) M else .st) Q := q
    by_cases hz : d.off (tagsM M) = true
    · rw [if_pos hz] at q'
      intro v F' H' x i
      obtain ⟨a, b, c, _⟩ := snap_back r.cl x
      exact q' v _ H' A a b (c v d i hz)
    · rw [if_neg hz] at q'
      exact q'.elim
  | ex x =>
    rw [z] at q
    have q' : afterQ X.K W σ F H A (if D.offF (tagsM M) x.fs = true then .ex x M else .st) Q := q
    by_cases hz : D.offF (tagsM M) x.fs = true
    · rw [if_pos hz] at q'
      intro cls od F' H' y i
      obtain ⟨a, b, _, c⟩ := snap_back r.cl y
      exact q' cls od _ H' A a b (c i hz)
    · rw [if_neg hz] at q'
      exact q'.elim
  | st =>
    rw [z] at q
    exact q
def qSnT (g : Rho → R Bool) : RhoQ → Mem → RQ Bool := fun ρ M => match g (snR M ρ) with
  | .ok b => .ok b M
  | .ex x => if D.offF (tagsM M) x.fs = true then .ex x M else .st
  | .st => .st
theorem qt_snap {p : Rho → R Bool} (h : ∀ Fb Hb : Hp, DT X ⟨Fb, []⟩ Hb [] W e p) : DQT X B W e (qSnT p) := by
  refine pt_imp (pt_some h) fun σ H Q ⟨ρ, M, F, A, r, q⟩ => ⟨frzF F H A, H, snR M ρ, frzF F H A, r.snap, ?_⟩
  unfold qSnT at q
  cases z : p (snR M ρ) with
  | ok d =>
    rw [z] at q
    intro F' H' x
    obtain ⟨a, b, _, _⟩ := snap_back r.cl x
    exact q _ H' A a b
  | ex x =>
    rw [z] at q
    by_cases hz : D.offF (tagsM M) x.fs = true
    · simp only [hz, if_true] at q
      intro cls od F' H' y i
      obtain ⟨a, b, _, c⟩ := snap_back r.cl y
      exact q cls od _ H' A a b (c i hz)
    · simp only [hz] at q
      exact q.elim
  | st =>
    rw [z] at q
    exact q
end
def fullL (M : Mem) : List P → Option (List D)
  | [] => some []
  | p :: ps => (p.full M).bind fun d => (fullL M ps).map (d :: ·)
def snG (G : List D → R D) : GF := fun ps M => match fullL M ps with
  | some ds => upS M (G ds)
  | none => .st
theorem fullL_is {K : PySem.W.Frag} {F H : Hp} {A : List Addr} {M : Mem} (c : Cells K F H A M) : ∀ {ps : List P} {vs : List V} {ds : List D}, IsLP K F A vs ps → fullL M ps = some ds → IsL K (frzF F H A) vs ds
  | [], vs, ds, l, q => by
    cases q
    rw [IsL.unnil (K := K) (H := F) l]
    exact .nil
  | p :: ps, vs, ds, l, q => by
    obtain ⟨x, xr, rfl, i, t⟩ := (show IsL K F vs (p.at A :: ps.map (P.at A)) from l).uncons
    obtain ⟨e, q1, q2⟩ := Option.bind_eq_some_iff.mp (show (p.full M).bind (fun d => (fullL M ps).map (d :: ·)) = some ds from q)
    obtain ⟨er, q3, rfl⟩ := Option.map_eq_some_iff.mp q2
    exact .cons (full_is c i q1) (fullL_is c t q3)
theorem spD_snap {K : PySem.W.Frag} {G : List D → R D} {vs : List V} {H : Hp} {Q : VK} {E : XK} (h : spQ K (snG G) vs H Q E) : spD K G vs H Q E := by
  obtain ⟨ps, M, F, A, l, c, h⟩ := h
  unfold snG at h
  cases z : fullL M ps with
  | none => rw [z] at h; exact h.elim
  | some ds =>
    rw [z] at h
    refine ⟨ds, frzF F H A, fullL_is c l z, (frz_same c).2, ?_⟩
    have h' : match upS M (G ds) with
      | .ok p M' => ∀ v F' H' A', ExtQ F H A F' H' A' → Cells K F' H' A' M' → Is K F' v (p.at A') → Q v H'
      | .ex x M' => ∀ cls od F' H' A', ExtQ F H A F' H' A' → Cells K F' H' A' M' → IsX K F' x cls od → E cls od H'
      | .st => False := h
    unfold upS at h'
    cases z2 : G ds with
    | ok d =>
      rw [z2] at h'
      by_cases hz : d.off (tagsM M) = true
      · simp only [hz, if_true] at h'
        intro v F' H' x i
        obtain ⟨a, b, c, _⟩ := snap_back c x
        exact h' v _ H' A a b (c v d i hz)
      · simp only [hz] at h'
        exact h'.elim
    | ex x =>
      rw [z2] at h'
      by_cases hz : D.offF (tagsM M) x.fs = true
      · simp only [hz, if_true] at h'
        intro cls od F' H' y i
        obtain ⟨a, b, _, c⟩ := snap_back c y
        exact h' cls od _ H' A a b (c i hz)
      · simp only [hz] at h'
        exact h'.elim
    | st =>
      rw [z2] at h'
      exact h'
theorem FnOk.snap {P' : Program} {w : World} {K : PySem.W.Frag} {mg : Str → Option Value} {base : Heap} {CX : CXT} {k : Nat} {f : Addr} {fd : FuncData} {ps : List Str} {G : List D → R D} (F : FnOk P' w K mg base CX k f fd ps (spD K G)) : FnOk P' w K mg base CX k f fd ps (spQ K (snG G)) :=
  F.imp fun vs H Q E h => spD_snap h
end Pd
namespace Pd
open PySem PySem.Spec PyProof.Rows L2
structure UnF (P' : Program) (w : World) (K : PySem.W.Frag) (mg : Str → Option Value) (base : Heap) (k : Nat) (f : Addr) (ps : List Str) (G : List D → R D) : Prop where
  ex : ∃ fd, FnOk P' w K mg base (L2.CX P' w) k f fd ps (spD K G) ∧ Binds K fd ps [] ∧ PySem.W.keepIn K (.ref f) = true
structure UnN (P' : Program) (w : World) (K : PySem.W.Frag) (mg : Str → Option Value) (base : Heap) (k : Nat) (f : Addr) (ps : List Str) (G : List D → R D) : Prop where
  ex : ∃ fd, FnOk P' w K mg base (L2.CX P' w) k f fd ps (spN K G) ∧ Binds K fd ps [] ∧ PySem.W.keepIn K (.ref f) = true
structure UnQ (P' : Program) (w : World) (K : PySem.W.Frag) (mg : Str → Option Value) (base : Heap) (k : Nat) (f : Addr) (ps : List Str) (G : GF) : Prop where
  ex : ∃ fd, FnOk P' w K mg base (L2.CX P' w) k f fd ps (spQ K G) ∧ Binds K fd ps [] ∧ PySem.W.keepIn K (.ref f) = true
/-- a def as the top left it -/
structure DefU (K : PySem.W.Frag) (x qual : Str) (st : Stmt) (f : Addr) (ps : List Str) : Prop where
  ex : ∃ fd, FunD K x qual (defArgs st) (defBody st) (defScope st) [] [] f fd ∧ Binds K fd ps []
section
variable {P' : Program} {w : World} {K : PySem.W.Frag} {mg : Str → Option Value} {base : Heap} {k j : Nat} {x qual c m : Str} {ps : List Str} {G : List D → R D} {GQ' : GF} {st : Stmt} {f : Addr}
theorem UnN.un (h : UnN P' w K mg base k f ps G) : UnF P' w K mg base k f ps G := by
  obtain ⟨fd, a, b⟩ := h.ex
  exact ⟨fd, FnOk.ofN a, b⟩
theorem UnQ.down (h : UnQ P' w K mg base k f ps GQ') : UnF P' w K mg base k f ps GQ'.down := by
  obtain ⟨fd, a, b⟩ := h.ex
  exact ⟨fd, FnOk.down a, b⟩
theorem UnF.snap (h : UnF P' w K mg base k f ps G) : UnQ P' w K mg base k f ps (snG G) := by
  obtain ⟨fd, a, b⟩ := h.ex
  exact ⟨fd, FnOk.snap a, b⟩
theorem un_d {N : List Str} {mm m' : List Bool} {s : Rho → S} (n : Nat) (Df : DefU K x qual st f ps) (Sc : FnScope N ps (defScope st)) (hn : N.length = n) (hm : mm.all (!·) = true)
    (hb : ∀ (cdv : Value) (A : Around) (outer : List Env) (sh : Shared) (H : Hp) (E : XK) (Fb : Hp), Room k (A.deeper (envOfC qual (defScope st) sh.heap.objs.size f cdv)) →
      DSs (cxOf (L2.CX P' w) P' w K mg base N qual (defScope st) f cdv A outer sh H E) ⟨Fb, []⟩ H mm m' [] (fun cls d _ H => E cls d H) (defBody st) s) : UnF P' w K mg base (k + 1) f ps (runS n ps.length s) := by
  obtain ⟨fd, F, b⟩ := Df.ex
  exact ⟨fd, fn_d n F Sc hn hm hb, b, F.kp⟩
theorem un_n {N : List Str} {mm m' : List Bool} {s : Rho → S} (n : Nat) (Df : DefU K x qual st f ps) (Sc : FnScope N ps (defScope st)) (hn : N.length = n) (hm : mm.all (!·) = true)
    (hb : ∀ (cdv : Value) (A : Around) (outer : List Env) (sh : Shared) (H : Hp) (E : XK) (Fb : Hp), Room k (A.deeper (envOfC qual (defScope st) sh.heap.objs.size f cdv)) →
      DSs (cxOf (L2.CX P' w) P' w K mg base N qual (defScope st) f cdv A outer sh H E) ⟨Fb, []⟩ H mm m' [] (fun cls d _ H => E cls d H) (defBody st) s) : UnN P' w K mg base (k + 1) f ps (runN n ps.length s) := by
  obtain ⟨fd, F, b⟩ := Df.ex
  exact ⟨fd, fn_n n F Sc hn hm hb, b, F.kp⟩
theorem un_q {N : List Str} {s : SQF} (n : Nat) (Df : DefU K x qual st f ps) (Sc : FnScope N ps (defScope st)) (hn : N.length = n)
    (hb : ∀ (cdv : Value) (A : Around) (outer : List Env) (sh : Shared) (H : Hp) (E : XK) (B : QB), Room k (A.deeper (envOfC qual (defScope st) sh.heap.objs.size f cdv)) →
      DQSs (cxOf (L2.CX P' w) P' w K mg base N qual (defScope st) f cdv A outer sh H E) B (fun cls d _ H => E cls d H) (defBody st) s) : UnQ P' w K mg base (k + 1) f ps (runQ n ps.length s) := by
  obtain ⟨fd, F, b⟩ := Df.ex
  exact ⟨fd, fn_q n F Sc hn hb, b, F.kp⟩
/-- as callers name it -/
theorem calF_of (U : UnF P' w K mg base k f ps G) (hm : mg x = some (.ref f)) : CalF P' w K mg base k x ps G := by
  obtain ⟨fd, a, b, c⟩ := U.ex
  exact ⟨f, fd, a, hm, c, b⟩
theorem nomore (as : List D) : as = as ++ [] := (List.append_nil as).symm
theorem calM_of (U : UnF P' w K mg base k f ps G) (cl : Cls K (He.ga K c)) (hm : Meth K (He.ga K c) m f) : CalM P' w K mg base k c m G := by
  obtain ⟨fd, a, b, _⟩ := U.ex
  exact ⟨f, fd, ps, [], [], G, a, cl, hm, b, .nil, [], fun _ => .nil, fun as => congrArg G (nomore as)⟩
theorem calMN_of (U : UnN P' w K mg base k f ps G) (cl : Cls K (He.ga K c)) (hm : Meth K (He.ga K c) m f) : CalMN P' w K mg base k c m G := by
  obtain ⟨fd, a, b, _⟩ := U.ex
  exact ⟨f, fd, ps, [], [], G, a, cl, hm, b, .nil, [], fun _ => .nil, fun as => congrArg G (nomore as)⟩
theorem nomoreQ (as : List P) : as = as ++ ([] : List D).map (fun d => ((false, d) : P)) := (List.append_nil as).symm
theorem metQ_of (U : UnQ P' w K mg base k f ps GQ') (cl : Cls K (He.ga K c)) (hm : Meth K (He.ga K c) m f) : MetQ P' w K mg base k c m GQ' := by
  obtain ⟨fd, a, b, _⟩ := U.ex
  exact ⟨f, fd, ps, [], [], GQ', a, cl, hm, b, .nil, [], fun _ => .nil, fun as M => congrArg (GQ' · M) (nomoreQ as)⟩
theorem mkQ_of (U : UnQ P' w K mg base k f ps GQ') (hm : mg x = some (.ref (He.ga K x)) ∧ Mk K (He.ga K x) f) : MkQ P' w K mg base k x GQ' := by
  obtain ⟨fd, a, b, _⟩ := U.ex
  exact ⟨f, fd, ps, [], [], GQ', a, hm.1, hm.2, b, .nil, [], fun _ => .nil, fun as M => congrArg (GQ' · M) (nomoreQ as)⟩
end
end Pd
namespace Pd
open PySem PySem.Spec PyProof.Rows L2
section
variable {K : PySem.W.Frag} {F H : Hp} {A : List Addr} {M : Mem}
theorem islp_any {b : Bool} : ∀ {ps : List P} {vs : List V}, IsLP K F A vs ps → (∀ p ∈ ps, p.1 = true → b = true) → IsLP K F A vs ((ps.map (·.2)).map fun d => (b, d))
  | [], vs, h, _ => h
  | p :: ps, vs, h, hb => by
    obtain ⟨x, xr, rfl, ix, t⟩ := (show IsL K F vs (P.at A p :: ps.map (P.at A)) from h).uncons
    have e : (p.1 || b) = b := by
      cases q : p.1 with
      | false => rfl
      | true => rw [hb p List.mem_cons_self q]; rfl
    have ix' := at_up ix b
    rw [e] at ix'
    exact IsL.cons (K := K) (H := F) ix' (islp_any (ps := ps) t fun q hq => hb q (List.mem_cons_of_mem _ hq))
theorem is_tupP {a : Addr} {vs : List V} {b : Bool} {ds : List D} (hp : F a = some (.tup vs)) (h : IsLP K F A vs (ds.map fun d => (b, d))) : Is K F (.ref a) (P.at A (b, .tup ds)) := by
  have h' : IsL K F vs ((ds.map fun d => (b, d)).map (P.at A)) := h
  rw [List.map_map] at h'
  cases b with
  | false =>
    rw [show (P.at A ∘ fun d => (false, d)) = (id : D → D) from rfl, List.map_id] at h'
    exact is_tup hp h'
  | true =>
    rw [show (P.at A ∘ fun d => (true, d)) = D.sub A from rfl, ← subAll_map] at h'
    exact is_tup hp h'
end
section
variable {X : Cx} {B : QB} {W : WX} {pos : Pos} {e a b : Expr} {es : List Expr} {g go gk : GQ} {t : GQA}
def tupP (ps : List P) (M : Mem) : RQ P := if ps.length ≤ sizeLine then .ok (ps.any fun p => p.1, .tup (ps.map fun p => p.2)) M else .st
def qTup (t : GQA) : GQ := fun ρ M => (t ρ M).bind tupP
theorem q_tup {k} (ha : DQA X B W es t) : DQ X B W (.Tuple es k pos) (qTup t) := by
  refine pe_imp (pe_tup ha) fun σ H Q ⟨ρ, M, F, A, r, h⟩ => semQA_bind (k := tupP) r h fun ps M1 vs F1 H1 A1 x1 i1 r1 h1 => ?_
  unfold tupP at h1
  by_cases hl : ps.length ≤ sizeLine
  · rw [if_pos hl] at h1
    have il : IsL X.K F1 vs (ps.map (P.at A1)) := i1
    refine ⟨by rw [il.1, List.length_map]; exact hl, fun p hp => ?_⟩
    obtain ⟨e, c⟩ := ExtQ.pure r1.cl (Ext.laid (o := .tup vs) r1.cl.fh hp)
    refine h1 (.ref p) _ _ _ e c (is_tupP upd_same ?_)
    refine islp_any (b := ps.any (·.1)) (show IsL X.K _ vs (ps.map (P.at A1)) from il.mono e.ff) fun q hq hb => ?_
    exact List.any_eq_true.mpr ⟨q, hq, hb⟩
  · rw [if_neg hl] at h1
    exact h1.elim
end
end Pd
namespace Pd
open PySem PySem.Spec PyProof.Rows L2
/-- what has no numbers -/
def P.cln : P → Option D
  | (false, d) => some d
  | (true, .non) => some .non
  | (true, .bl b) => some (.bl b)
  | (true, .int i) => some (.int i)
  | (true, .str s) => some (.str s)
  | (true, _) => none
theorem cln_is {K : PySem.W.Frag} {F : Hp} {A : List Addr} {v : V} {p : P} {d : D} (i : Is K F v (p.at A)) (h : p.cln = some d) : Is K F v d := by
  obtain ⟨b, e⟩ := p
  cases b with
  | false => cases h; exact i
  | true =>
    cases e with
    | non => cases h; exact i
    | bl b => cases h; exact i
    | int j => cases h; exact i
    | str s => cases h; exact i
    | _ => cases h
section
variable {X : Cx} {B : QB} {W : WX} {pos : Pos} {e o ix a b value : Expr} {es : List Expr} {g go gi ga gb : GQ} {t : GQA}
def op2P (f : D → D → R D) (M : Mem) (p q : P) : RQ P := match p.cln, q.cln with
  | some d, some e => (f d e).up M fun d => (false, d)
  | _, _ => .st
def q2 (f : D → D → R D) (ga gb : GQ) : GQ := fun ρ M => (ga ρ M).bind fun p M1 => (gb ρ M1).bind fun q M2 => op2P f M2 p q
def tSemQI (K : PySem.W.Frag) (B : QB) (W : WX) (g : RhoQ → Mem → RQ (List D)) : TI := fun σ H Q => ∃ ρ M F A, RepQ K B ρ M σ F H A ∧ match g ρ M with
  | .ok items M1 => ∀ J F' H' A', ExtQ F H A F' H' A' → Cells K F' H' A' M1 → Yl K J items F' → Q J H'
  | .ex x M1 => ExK K W σ F H A x M1
  | .st => False
abbrev DIQ (X : Cx) (B : QB) (W : WX) (tg e : Expr) (g : RhoQ → Mem → RQ (List D)) : Prop := PI X tg e (tSemQI X.K B W g)
def sqForI (gi : RhoQ → Mem → RQ (List D)) (τ : TQ) (b : SQF) : SQF := fun ρ M => match gi ρ M with
  | .ok items M1 => forLQ τ b (items.map fun d => (false, d)) ρ M1
  | .ex x M1 => .ex x ρ M1
  | .st => .st
theorem qs_forI {tg iter : Expr} {body : List Stmt} {gi : RhoQ → Mem → RQ (List D)} {τ : TQ} {b : SQF} (hp : PassesOwn (model X.prog X.w) X.A X.env X.xe) (hc : X.calm = true) (hi : DIQ X B W tg iter gi) (hg : DQG X B tg τ) (hb : DQSs X B W body b)
    (hs : ∀ x, foldedSetIterable iter X.env x = pure x := by intro _; rfl) : DQS X B W (.For tg iter body [] pos) (sqForI gi τ b) := by
  refine ps_imp (ps_for hp hc hi hg hb hs) fun E σ H ⟨ρ, M, F, A, r, h⟩ => ⟨ρ, M, F, A, r, ?_⟩
  unfold sqForI at h
  cases z : gi ρ M with
  | ex x M1 =>
    rw [z] at h
    exact fun cls od F' H' A' y cy i => h cls od σ F' H' A' (r.to y cy) y.grow i
  | st => rw [z] at h; exact h.elim
  | ok items M0 =>
    rw [z] at h
    intro J F1 H1 A1 e1 c1 y1
    refine ⟨fun i mm σ H => ∃ ρ M F A, RepQ X.K B ρ M σ F H A ∧ Same F1 F ∧ i ≤ items.length ∧ mm = items.length - i ∧ afterQS X.K B W F A (forLQ τ b ((items.drop i).map fun d => (false, d)) ρ M) E, ⟨items.length, ρ, M0, F1, A1, r.to e1 c1, .refl _, Nat.zero_le _, rfl, h.mono e1.grow⟩, ?_⟩
    rintro i mm σ2 H2 ⟨ρ2, M2, F2, A2, r2, x2, hi, rfl, h2⟩
    have yc := y1 i F2 H2 x2 r2.cl.fh
    by_cases hlt : i < items.length
    · obtain ⟨go, yld⟩ := yc.1 hlt
      refine .inr ⟨go, fun σ3 H3 => ∃ ρ3 M3 F3 A3, RepQ X.K B ρ3 M3 σ3 F3 H3 A3 ∧ Same F1 F3 ∧ afterQS X.K B W F3 A3 (forLQ τ b ((items.drop (i + 1)).map fun d => (false, d)) ρ3 M3) E, fun σ3 H3 ⟨ρ3, M3, F3, A3, q1, q2, q3⟩ => ⟨items.length - (i + 1), by omega, ρ3, M3, F3, A3, q1, q2, hlt, rfl, q3⟩, fun x Hy y => ?_⟩
      obtain ⟨F3, d, hd, xe, ix⟩ := yld x Hy y
      obtain ⟨e3, c3⟩ := ExtQ.pure r2.cl xe
      have ed : items.drop i = d :: items.drop (i + 1) := by
        rw [List.drop_eq_getElem_cons hlt]
        rw [List.getElem?_eq_getElem hlt] at hd
        rw [Option.some.inj hd]
      rw [ed] at h2
      refine ⟨ρ2, M2, F3, A2, (false, d), r2.to e3 c3, ix, ?_⟩
      have h3 : afterQS X.K B W F3 A2 (match τ (false, d) ρ2 with
        | some ρ1 => match b ρ1 M2 with
          | .nx ρ2 M2 => forLQ τ b ((items.drop (i + 1)).map fun d => (false, d)) ρ2 M2
          | .ct ρ2 M2 => forLQ τ b ((items.drop (i + 1)).map fun d => (false, d)) ρ2 M2
          | .bk ρ2 M2 => .nx ρ2 M2
          | r => r
        | none => .st) E := h2.mono e3.grow
      cases z1 : τ (false, d) ρ2 with
      | none => rw [z1] at h3; exact h3.elim
      | some ρ4 =>
        rw [z1] at h3
        intro σ4 r4
        refine ⟨ρ4, M2, F3, A2, r4, ?_⟩
        have h4 : afterQS X.K B W F3 A2 (match b ρ4 M2 with
          | .nx ρ2 M2 => forLQ τ b ((items.drop (i + 1)).map fun d => (false, d)) ρ2 M2
          | .ct ρ2 M2 => forLQ τ b ((items.drop (i + 1)).map fun d => (false, d)) ρ2 M2
          | .bk ρ2 M2 => .nx ρ2 M2
          | r => r) E := h3
        cases z2 : b ρ4 M2 with
        | nx ρ5 M5 =>
          rw [z2] at h4
          exact fun σ5 F5 H5 A5 r5 x5 => ⟨ρ5, M5, F5, A5, r5, (x2.trans xe.ff).trans x5.1, h4.mono x5⟩
        | ct ρ5 M5 =>
          rw [z2] at h4
          exact fun σ5 F5 H5 A5 r5 x5 => ⟨ρ5, M5, F5, A5, r5, (x2.trans xe.ff).trans x5.1, h4.mono x5⟩
        | bk ρ5 M5 => rw [z2] at h4; exact h4
        | rt d => rw [z2] at h4; exact h4
        | ex x ρ5 => rw [z2] at h4; exact h4
        | st => rw [z2] at h4; exact h4
    · have ei : i = items.length := by omega
      subst ei
      rw [List.drop_length] at h2
      exact .inl ⟨yc.2 (Nat.le_refl _), h2 σ2 F2 H2 A2 r2 .refl⟩
end
end Pd
namespace Pd
open PySem PySem.Spec PyProof.Rows L2
def kGet {κ : Type} [DecidableEq κ] : List (κ × D) → κ → Option D
  | [], _ => none
  | (j, d) :: r, k => if j = k then some d else kGet r k
def kHas {κ : Type} [DecidableEq κ] (kvs : List (κ × D)) (k : κ) : Bool := kvs.any fun q => decide (q.1 = k)
def kPut {κ : Type} [DecidableEq κ] (kvs : List (κ × D)) (k : κ) (d : D) : List (κ × D) := if kHas kvs k = true then kvs.map (fun q => if q.1 = k then (q.1, d) else q) else kvs ++ [(k, d)]
section
variable {K : PySem.W.Frag} {F : Hp} {κ : Type} [DecidableEq κ]
theorem isK_get (k : κ) : ∀ {ds : List (κ × D)} {xs : List (κ × V)}, IsK K F xs ds → (∀ d, kGet ds k = some d → ∃ v, valV xs k = some v ∧ Is K F v d) ∧ (kGet ds k = none → valV xs k = none)
  | [], xs, h => by
    rw [IsK.unnil h]
    exact ⟨fun d q => (nomatch q), fun _ => rfl⟩
  | (j, d) :: ds, xs, h => by
    obtain ⟨x, xr, rfl, i, t⟩ := h.uncons
    have ih := isK_get k t
    by_cases e : j = k
    · rw [valV_pos (p := (j, x)) e]
      refine ⟨fun d' q => ?_, fun q => ?_⟩
      · rw [kGet, if_pos e] at q
        cases q
        exact ⟨x, rfl, i⟩
      · rw [kGet, if_pos e] at q
        cases q
    · rw [valV_neg (p := (j, x)) e]
      rw [kGet, if_neg e]
      exact ih
theorem isK_has (k : κ) : ∀ {ds : List (κ × D)} {xs : List (κ × V)}, IsK K F xs ds → (xs.any fun q => decide (q.1 = k)) = kHas ds k
  | [], xs, h => by rw [IsK.unnil h]; rfl
  | (j, d) :: ds, xs, h => by
    obtain ⟨x, xr, rfl, i, t⟩ := h.uncons
    have ih := isK_has k t
    show (decide (j = k) || xr.any fun q => decide (q.1 = k)) = (decide (j = k) || kHas ds k)
    rw [ih]
theorem isK_app : ∀ {ds es : List (κ × D)} {xs ys : List (κ × V)}, IsK K F xs ds → IsK K F ys es → IsK K F (xs ++ ys) (ds ++ es)
  | [], es, xs, ys, h, h' => by rw [IsK.unnil h]; exact h'
  | (j, d) :: ds, es, xs, ys, h, h' => by
    obtain ⟨x, xr, rfl, i, t⟩ := h.uncons
    exact .cons i (isK_app t h')
theorem isK_rep (k : κ) {v : V} {e : D} (iv : Is K F v e) : ∀ {ds : List (κ × D)} {xs : List (κ × V)}, IsK K F xs ds → IsK K F (xs.map fun q => if q.1 = k then (q.1, v) else q) (ds.map fun q => if q.1 = k then (q.1, e) else q)
  | [], xs, h => by rw [IsK.unnil h]; exact .nil
  | (j, d) :: ds, xs, h => by
    obtain ⟨x, xr, rfl, i, t⟩ := h.uncons
    have ih := isK_rep k iv t
    rw [List.map_cons, List.map_cons]
    by_cases e : j = k
    · rw [if_pos (show (j, x).1 = k from e), if_pos (show (j, d).1 = k from e)]
      exact .cons iv ih
    · rw [if_neg (show ¬ (j, x).1 = k from e), if_neg (show ¬ (j, d).1 = k from e)]
      exact .cons i ih
theorem isK_putv (k : κ) {v : V} {e : D} {ds : List (κ × D)} {xs : List (κ × V)} (h : IsK K F xs ds) (iv : Is K F v e) : IsK K F (putK xs k v) (kPut ds k e) := by
  unfold putK kPut
  rw [isK_has k h]
  by_cases q : kHas ds k = true
  · rw [if_pos q, if_pos q]
    exact isK_rep k iv h
  · rw [if_neg q, if_neg q]
    exact isK_app h (.cons iv .nil)
end
def keyD : Key → D
  | .inl i => .int i
  | .inr s => .str s
def asKey : D → Option Key
  | .int i => some (.inl i)
  | .str s => some (.inr s)
  | _ => none
theorem is_key {K : PySem.W.Frag} {F : Hp} (k : Key) : Is K F (kV k) (keyD k) := by
  cases k with
  | inl i => exact .int i
  | inr s => exact .str s
theorem key_is {K : PySem.W.Frag} {F : Hp} {v : V} {d : D} {k : Key} (i : Is K F v d) (h : asKey d = some k) : v = kV k := by
  cases i <;> cases h <;> rfl
theorem pe_lockG {X : Cx} {e : Expr} {t : TE} (h : PE X e t) : PE X e (fun σ H Q => t σ H fun v H' => ∃ p u, v = .ref p ∧ H' p = some u ∧ Mut (some u) ∧ ∀ od, Q v (upd H' p (.frz od u))) := by
  refine ⟨fun pins s σ H Q I hw => ?_⟩
  refine thn (h.run pins s σ H _ I hw) fun v s1 ⟨x, H1, I1, r, p, u, e1, e2, mu, q⟩ => ?_
  obtain ⟨od, I2⟩ := I1.lock e2 mu
  exact ⟨x, _, I2, r, q od⟩
def lkD : D → R D
  | .dict false kvs => .ok (.dict true kvs)
  | _ => .st
def gLk (g : Rho → R D) : Rho → R D := fun ρ => (g ρ).bind lkD
section
variable {X : Cx} {F0 : Bs} {H0 : Hp} {m m' mL : List Bool} {W : WX} {pos : Pos} {a b e : Expr} {es : List Expr} {sts : List Stmt} {ga gb gc g : Rho → R D} {t : Rho → R (List D)} {s : Rho → S}
theorem Ext.laidF {F H F' H' : Hp} {p : Addr} {o : HO} (x : Ext F H F' H') (f : F' p = none) (n : H p = none) : Ext F H (upd F' p o) (upd H' p o) :=
  ⟨x.ff.trans (same_upd f), fun b u e => by rw [upd_ne (ne_of_none e n)]; exact x.hh b u e, fun b u e => by
    by_cases q : b = p
    · subst q; rw [upd_same] at e ⊢; exact e
    · rw [upd_ne q] at e ⊢; exact x.fh b u e, fun b hb fb => by
    have q : b ≠ p := fun z => hb (z ▸ n)
    rw [upd_ne q]; exact x.nw b hb fb⟩
theorem d_newL (h : DN X F0 H0 m W e g) : DE X F0 H0 m W e (gLk g) := by
  refine pe_imp (pe_lockG h) fun σ H Q ⟨ρ, F, r, q⟩ => ⟨ρ, F, r, ?_⟩
  unfold gLk at q
  cases z : g ρ with
  | ex x => rw [z] at q; exact q
  | st => rw [z] at q; exact q.elim
  | ok d =>
    rw [z] at q
    intro p o F' H' x e1 c f n
    cases d with
    | dict lk kvs =>
      cases o with
      | dK xs =>
        obtain ⟨c1, c2⟩ := c
        subst c1
        refine ⟨p, .dK xs, rfl, e1, trivial, fun od => ?_⟩
        have x2 := x.laidF (o := .frz od (.dK xs)) f n
        have c3 := IsK.mono c2 (same_upd (o := .frz od (.dK xs)) f)
        exact q (.ref p) _ _ x2 (.dict (lk := true) ⟨od, upd_same⟩ c3.1 c3.2.1 c3.2.2)
      | frz _ _ =>
        obtain ⟨c1, _⟩ := c
        subst c1
        exact q.elim
      | _ => exact c.elim
    | _ => exact q.elim
theorem Rep.lock {K : PySem.W.Frag} {ρ : Rho} {σ : L2.St} {F H : Hp} (r : Rep K F0 H0 m ρ σ F H) (i : Nat) (hi : F0.ok i) (hm : m[i]? = some true) {kvs : List (Key × D)} (hd : ρ[i]? = some (some (.dict false kvs))) :
    ∃ p xs, H p = some (.dK xs) ∧ ∀ od, ∃ F', Rep K F0 H0 (m.set i false) (ρ.set i (some (.dict true kvs))) σ F' (upd H p (.frz od (.dK xs))) ∧ Same F F' := by
  obtain ⟨p, o, e1, e2, e3, e4, e5⟩ := r.own i _ hd hm
  cases o with
  | dK xs =>
    obtain ⟨_, c2⟩ := e3
    refine ⟨p, xs, e2, fun od => ?_⟩
    have sF : Same F (upd F p (.frz od (.dK xs))) := same_upd e4
    refine ⟨upd F p (.frz od (.dK xs)), ⟨by rw [List.length_set, r.len], fun b u e => ?_, r.f0.trans sF, fun b u e => ?_, fun b h f => ?_, fun j d' a b => ?_, fun j d' a b => ?_, fun j k q d1 e1' hjk a b c c' q' => ?_, fun b hb => ?_⟩, sF⟩
    · by_cases q : b = p
      · subst q; rw [upd_same] at e ⊢; exact e
      · rw [upd_ne q] at e ⊢; exact r.fh b u e
    · rw [upd_ne (ne_of_none e e5)]; exact r.h0 b u e
    · have q : b ≠ p := fun z => h (z ▸ e5)
      rw [upd_ne q]; exact r.new b h f
    · rcases getElem?_set_cases a with ⟨rfl, z, hl⟩ | ⟨hj, z⟩
      · cases z
        have c3 := IsK.mono c2 sF
        exact ⟨.ref p, e1, .dict (lk := true) ⟨od, upd_same⟩ c3.1 c3.2.1 c3.2.2⟩
      · obtain ⟨v, z1, z2⟩ := r.val j d' z (by rw [mset' hj] at b; exact b)
        exact ⟨v, z1, z2.mono sF⟩
    · obtain ⟨hj, b⟩ := mset b
      rw [List.getElem?_set_ne (Ne.symm hj)] at a
      obtain ⟨p', o', z1, z2, z3, z4, z5⟩ := r.own j d' a b
      have q : p' ≠ p := fun w => r.apart j i p d' _ hj b hm a hd (w ▸ z1) e1
      exact ⟨p', o', z1, by rw [upd_ne q]; exact z2, z3.mono sF, by rw [upd_ne q]; exact z4, z5⟩
    · obtain ⟨hj, a⟩ := mset a
      obtain ⟨hk, b⟩ := mset b
      rw [List.getElem?_set_ne (Ne.symm hj)] at c
      rw [List.getElem?_set_ne (Ne.symm hk)] at c'
      exact r.apart j k q d1 e1' hjk a b c c' q'
    · obtain ⟨h1, h2, ⟨d1, h3⟩, h4⟩ := r.bor b hb
      have ne := hi b hb
      rw [mset' ne, List.getElem?_set_ne (Ne.symm ne)]
      refine ⟨h1, h2, ⟨d1, h3⟩, fun d o e => ⟨(h4 d o e).1, ?_⟩⟩
      have q : b.2.1 ≠ p := fun w => r.apart b.1 i p d1 _ ne h2 hm h3 hd (w ▸ h1) e1
      rw [upd_ne q]
      exact (h4 d o e).2
  | frz _ _ => exact nomatch e3.1
  | _ => exact e3.elim
end
end Pd
namespace Pd
open PySem PySem.Spec PyProof.Rows L2
section
variable {K : PySem.W.Frag}
def rDIn (neg : Bool) : R2 := fun x y H Q => ∃ a o, y = .ref a ∧ DGet H a x o ∧ Q (.bl (if neg = true then !o.isSome else o.isSome)) H
theorem op_dIn {X : Cx} (hu : X.A.units + 1 < cLine) : OpR X (compareOp .In) (rDIn false) := by
  intro pins s σ H x y v u Q I rx ry h
  obtain ⟨a, o, rfl, g, q⟩ := h
  obtain rfl : u = Value.ref a := ry
  exact d_in hu I g rx fun s' I' => ⟨.bl o.isSome, H, I', rfl, q⟩
theorem op_dNotIn {X : Cx} (hu : X.A.units + 1 < cLine) : OpR X (compareOp .NotIn) (rDIn true) := by
  intro pins s σ H x y v u Q I rx ry h
  obtain ⟨a, o, rfl, g, q⟩ := h
  obtain rfl : u = Value.ref a := ry
  exact d_notIn hu I g rx fun s' I' => ⟨.bl (!o.isSome), H, I', rfl, q⟩
def inKD (kvs : List (Key × D)) (neg : Bool) (d : D) : R D := match asKey d with
  | some k => .ok (.bl (if neg = true then !(kGet kvs k).isSome else (kGet kvs k).isSome))
  | none => .st
def inXD (d e : D) : R D := match e with
  | .dict _ kvs => inKD kvs false d
  | _ => inDD d e
def notInXD (d e : D) : R D := match e with
  | .dict _ kvs => inKD kvs true d
  | _ => notInDD d e
theorem some_eq {F : Hp} {xs : List (Key × V)} {ds : List (Key × D)} (l : IsK K F xs ds) (k : Key) : (valV xs k).isSome = (kGet ds k).isSome := by
  obtain ⟨h1, h2⟩ := isK_get k l
  cases z : kGet ds k with
  | none => rw [h2 z]; rfl
  | some d =>
    obtain ⟨v, e, _⟩ := h1 d z
    rw [e]
    rfl
theorem dget_of {F H : Hp} {a : Addr} {lk : Bool} {xs : List (Key × V)} (s : Same F H) (h : RdL F a lk (.dK xs)) (k : Key) : DGet H a (kV k) (valV xs k) := .inl ⟨xs, k, sameR s h.rd, rfl, rfl⟩
theorem inK_run {W : WX} {σ : L2.St} {F H : Hp} {neg lk : Bool} {d : D} {kvs : List (Key × D)} {v u : V} {Q : VK} (s : Same F H) (i : Is K F v d) (j : Is K F u (.dict lk kvs)) (q : after K W σ F H (inKD kvs neg d) Q) : rDIn neg v u H Q := by
  obtain ⟨a, xs, rfl, h, l⟩ := j.dict_inv
  unfold inKD at q
  cases z : asKey d with
  | none => rw [z] at q; exact q.elim
  | some k =>
    rw [z] at q
    rw [key_is i z]
    refine ⟨a, _, rfl, dget_of s h k, ?_⟩
    rw [some_eq l]
    exact after.now q s (.bl _)
theorem o_inX : OpD K inXD (fun x y H Q => rIn2 K x y H Q ∨ rDIn false x y H Q) := by
  intro W σ F H d e v u Q s i j q
  cases e with
  | dict lk kvs => exact .inr (inK_run s i j q)
  | _ => exact .inl (o_in W σ F H d _ v u Q s i j q)
theorem o_notInX : OpD K notInXD (fun x y H Q => rNotIn2 K x y H Q ∨ rDIn true x y H Q) := by
  intro W σ F H d e v u Q s i j q
  cases e with
  | dict lk kvs => exact .inr (inK_run s i j q)
  | _ => exact .inl (o_notIn W σ F H d _ v u Q s i j q)
theorem hu1 {A : Around} (h : A.units + 65 < cLine) : A.units + 1 < cLine := by omega
theorem op_inX {X : Cx} (hu : X.A.units + 65 < cLine) : OpR X (compareOp .In) (fun x y H Q => rIn2 X.K x y H Q ∨ rDIn false x y H Q) := (op_in2 hu).or (op_dIn (hu1 hu))
theorem op_notInX {X : Cx} (hu : X.A.units + 65 < cLine) : OpR X (compareOp .NotIn) (fun x y H Q => rNotIn2 X.K x y H Q ∨ rDIn true x y H Q) := (op_notIn2 hu).or (op_dNotIn (hu1 hu))
end
def dgetD (kvs : List (Key × D)) (e : D) : R D := match asKey e with
  | some k => (match kGet kvs k with
    | some d => .ok d
    | none => .st)
  | none => .st
def ixXD (d e : D) : R D := match d with
  | .dict _ kvs => dgetD kvs e
  | _ => ixD d e
def isDic : D → Bool
  | .dict _ _ => true
  | _ => false
section
variable {X : Cx} {F0 : Bs} {H0 : Hp} {m m' mL : List Bool} {W : WX} {pos : Pos} {a b e : Expr} {es : List Expr} {ga gb gc g : Rho → R D} {t : Rho → R (List D)}
theorem d_ixX (hu : X.A.units + 1 < cLine) (ha : DE X F0 H0 m W a ga) (hb : DE X F0 H0 m W b gb) (hs : PlainIx b := by exact fun _ _ => rfl) (hs' : NoSl b := by exact fun _ _ => rfl) : DE X F0 H0 m W (.Subscript a b pos) (g2 ixXD ga gb) := by
  refine pe_imp (pe_or2 (pe_ix ix_seq ha hb hs) (pe_dget hu ha hb hs')) fun σ H Q ⟨ρ, F, r, h⟩ => ?_
  have spl : (∃ lk kvs, ga ρ = .ok (.dict lk kvs)) ∨ g2 ixXD ga gb ρ = g2 ixD ga gb ρ := by
    unfold g2
    cases ga ρ with
    | ok d =>
      cases d with
      | dict lk kvs => exact .inl ⟨lk, kvs, rfl⟩
      | _ => exact .inr rfl
    | ex x => exact .inr rfl
    | st => exact .inr rfl
  rcases spl with ⟨lk, kvs, z⟩ | z
  · right
    have h' : after X.K W σ F H ((ga ρ).bind fun d => if isDic d = true then (gb ρ).bind fun e => ixXD d e else .st) Q := by
      unfold g2 at h
      rw [z] at h ⊢
      exact h
    refine sem_bind (k := fun d => if isDic d = true then (gb ρ).bind fun e => ixXD d e else .st) r h' fun d v F1 H1 x1 i1 r1 h1 => ?_
    by_cases hd : isDic d = true
    · rw [if_pos hd] at h1
      refine sem_bind (k := fun e => ixXD d e) r1 h1 fun e u F2 H2 x2 i2 r2 h2 => ?_
      cases d with
      | dict lk kvs =>
        obtain ⟨p, xs, rfl, hp, l⟩ := (i1.mono x2.ff).dict_inv
        have h3 : after X.K W σ F2 H2 (dgetD kvs e) Q := h2
        unfold dgetD at h3
        cases z1 : asKey e with
        | none => rw [z1] at h3; exact h3.elim
        | some k =>
          rw [z1] at h3
          have h4 : after X.K W σ F2 H2 (match kGet kvs k with | some d => .ok d | none => .st) Q := h3
          cases z2 : kGet kvs k with
          | none => rw [z2] at h4; exact h4.elim
          | some d =>
            rw [z2] at h4
            obtain ⟨w', e1, i3⟩ := (isK_get k l).1 d z2
            have g := dget_of r2.fh hp k
            rw [e1] at g
            rw [key_is i2 z1]
            exact ⟨p, w', rfl, g, after.now h4 r2.fh i3⟩
      | _ => cases hd
    · rw [if_neg hd] at h1
      exact h1.elim
  · left
    refine sem2 o_ix σ H Q ⟨ρ, F, r, ?_⟩
    rw [← z]
    exact h
def getXD (kvs : List (Key × D)) (e f : D) : R D := match asKey e with
  | some k => .ok ((kGet kvs k).getD f)
  | none => .st
def gGet2 (ga gb gc : Rho → R D) : Rho → R D := fun ρ => (ga ρ).bind fun d => match d with
  | .dict _ kvs => (gb ρ).bind fun e => (gc ρ).bind fun f => getXD kvs e f
  | _ => .st
theorem d_get2x {o f : Expr} {apos cpos : Pos} (hu : X.A.units + 1 < cLine) (ho : DE X F0 H0 m W o ga) (he : DE X F0 H0 m W e gb) (hf : DE X F0 H0 m W f gc)
    (hbase : attributeBase o "get" X.env (eval o X.env) = eval o X.env := by rfl)
    (hfew : ((backTo cpos (starEach [e, f] X.env)).all (fun x => !x.1) && (backToKw cpos (keywordEach [] X.env)).all (fun x => x.1.isSome)
      && decide (([e, f] : List Expr).length + ([] : List Keyword).length + (if ([] : List Keyword).isEmpty then 0 else 1) < 30)) = true := by rfl) (hline : (apos.endLine == cpos.line) = true := by rfl)
    (ht : backTo cpos (starEach [e, f] X.env) = [(false, eval e X.env), (false, eval f X.env)] := by rfl) : DE X F0 H0 m W (.Call (.Attribute o "get" apos) [e, f] [] cpos) (gGet2 ga gb gc) := by
  refine pe_imp (pe_dget2 hu ho he hf ⟨hbase, hfew, hline, ht⟩) fun σ H Q ⟨ρ, F, r, h⟩ => ?_
  refine sem_bind (k := fun d => match d with | .dict _ kvs => (gb ρ).bind fun e => (gc ρ).bind fun f => getXD kvs e f | _ => .st) r h fun d v F1 H1 x1 i1 r1 h1 => ?_
  cases d with
  | dict lk kvs =>
    obtain ⟨p, xs, rfl, hp, l⟩ := i1.dict_inv
    refine ⟨p, rfl, .inl ⟨xs, sameR r1.fh hp.rd⟩, ?_⟩
    refine sem_bind (k := fun e => (gc ρ).bind fun f => getXD kvs e f) r1 h1 fun e u F2 H2 x2 i2 r2 h2 => ?_
    refine sem_bind (k := fun f => getXD kvs e f) r2 h2 fun f w' F3 H3 x3 i3 r3 h3 => ?_
    unfold getXD at h3
    cases z1 : asKey e with
    | none => rw [z1] at h3; exact h3.elim
    | some k =>
      rw [z1] at h3
      rw [key_is i2 z1]
      refine ⟨valV xs k, .inl ⟨xs, k, sameR (x2.ff.trans (x3.ff.trans r3.fh)) hp.rd, rfl, rfl⟩, ?_⟩
      have h4 : after X.K W σ F3 H3 (.ok ((kGet kvs k).getD f)) Q := h3
      have lk3 := (l.mono x2.ff).mono x3.ff
      cases z2 : kGet kvs k with
      | none =>
        rw [z2] at h4
        rw [(isK_get k lk3).2 z2]
        exact after.now h4 r3.fh i3
      | some d =>
        rw [z2] at h4
        obtain ⟨y, e1, i4⟩ := (isK_get k lk3).1 d z2
        rw [e1]
        exact after.now h4 r3.fh i4
  | _ => exact h1.elim
def ditemsD : D → R (List D)
  | .dict true kvs => .ok (kvs.map fun q => .tup [keyD q.1, q.2])
  | _ => .st
def iG (f : D → R (List D)) (g : Rho → R D) : Rho → R (List D) := fun ρ => (g ρ).bind f
theorem isK_at {K : PySem.W.Frag} {F : Hp} {xs : List (Key × V)} {ds : List (Key × D)} (l : IsK K F xs ds) {i : Nat} {k : Key} {v : V} (h : xs[i]? = some (k, v)) : ∃ d, ds[i]? = some (k, d) ∧ Is K F v d := by
  have hi : i < xs.length := (List.getElem?_eq_some_iff.mp h).1
  have hd : i < ds.length := by have := l.1; omega
  have e := l.2.1 i (k, v) ds[i] h (by simp [hd])
  have e2 := l.2.2 i (k, v) ds[i] h (by simp [hd])
  refine ⟨ds[i].2, ?_, e2⟩
  rw [List.getElem?_eq_getElem hd]
  have : k = ds[i].1 := e
  rw [this]
theorem yl_items {K : PySem.W.Frag} {F : Hp} {a : Addr} {o : Obj} {xs : List (Key × V)} {ds : List (Key × D)} (h : F a = some (.frz o (.dK xs))) (l : IsK K F xs ds) : Yl K (Iti a o xs) (ds.map fun q => .tup [keyD q.1, q.2]) F := by
  intro i F1 H1 s1 s2
  have h1 := s2 _ _ (s1 _ _ h)
  have hl := l.1
  rw [List.length_map]
  refine ⟨fun hi => ⟨⟨h1, by omega⟩, fun v H2 y => ?_⟩, fun hi => ⟨h1, by omega⟩⟩
  obtain ⟨T, k, w', e, rfl, hT, rfl⟩ := y
  obtain ⟨d, e2, i2⟩ := isK_at l e
  have xe := Ext.laid (o := .tup [kV k, w']) s2 hT
  refine ⟨_, .tup [keyD k, d], ?_, xe, is_tup upd_same (IsL.cons (is_key k) (IsL.cons ((i2.mono s1).mono xe.ff) .nil))⟩
  rw [List.getElem?_map, e2]
  rfl
theorem semI {f : D → R (List D)} {Φ : V → Hp → Prop} {Q : It → Hp → Prop} {σ : L2.St} {H F : Hp} {ρ : Rho} (r : Rep X.K F0 H0 m ρ σ F H) (h : match iG f g ρ with
    | .ok items => ∀ J F' H', Ext F H F' H' → Yl X.K J items F' → Q J H'
    | .ex x => ∀ cls od F' H', Ext F H F' H' → IsX X.K F' x cls od → W cls od σ H'
    | .st => False) (hf : ∀ d, ∀ x, f d ≠ .ex x)
    (k : ∀ d v items F' H', f d = .ok items → Ext F H F' H' → Is X.K F' v d → Same F' H' → (∀ J, Yl X.K J items F' → Q J H') → Φ v H') : tSem X.K F0 H0 m W g σ H Φ := by
  refine ⟨ρ, F, r, ?_⟩
  unfold iG at h
  cases z : g ρ with
  | ex x => rw [z] at h; exact h
  | st => rw [z] at h; exact h.elim
  | ok d =>
    rw [z] at h
    intro v F' H' x i
    have h' : match f d with
      | .ok items => ∀ J F' H', Ext F H F' H' → Yl X.K J items F' → Q J H'
      | .ex x => ∀ cls od F' H', Ext F H F' H' → IsX X.K F' x cls od → W cls od σ H'
      | .st => False := h
    cases z2 : f d with
    | ex y => exact absurd z2 (hf d y)
    | st => rw [z2] at h'; exact h'.elim
    | ok items =>
      rw [z2] at h'
      exact k d v items F' H' z2 x i x.fh fun J yj => h' J F' H' x yj
theorem di_items {elts : List Expr} {kk : Nat} {tpos apos cpos : Pos} (he : DE X F0 H0 m W e g) (hbase : attributeBase e "items" X.env (eval e X.env) = eval e X.env := by rfl) (hline : (apos.endLine == cpos.line) = true := by rfl) :
    DI X F0 H0 m W (.Tuple elts kk tpos) (.Call (.Attribute e "items" apos) [] [] cpos) (iG ditemsD g) := by
  refine pi_imp (pi_items he hbase hline) fun σ H Q ⟨ρ, F, r, q⟩ => semI r q (fun d x => by unfold ditemsD; split <;> (intro h; cases h)) fun d v items F' H' z x i s k => ?_
  cases d with
  | dict lk kvs =>
    cases lk with
    | true =>
      cases z
      obtain ⟨p, xs, rfl, ⟨o, hp⟩, l⟩ := i.dict_inv
      exact ⟨p, o, xs, rfl, s _ _ hp, k _ (yl_items hp l)⟩
    | false => cases z
  | _ => cases z
/-- reversed(list or tuple) -/
def revD : D → R (List D)
  | .list ds => .ok ds.reverse
  | .tup ds => .ok ds.reverse
  | _ => .st
theorem rev_at {α : Type} {xs : List α} {n i : Nat} (hn : n = xs.length) (hi : i < n) : xs.reverse[i]? = xs[n - 1 - i]? := by
  subst hn
  rw [List.getElem?_reverse hi]
theorem di_rev {tg : Expr} {p : Pos} (hm : X.mg "reversed" = none) (he : DE X F0 H0 m W e g) (hg : Gl X "reversed" := by rfl) (hs : starEach [e] X.env = (false, eval e X.env) :: starEach [] X.env := by rfl) : DI X F0 H0 m W tg (.Call (.Name "reversed" p) [e] [] pos) (iG revD g) := by
  refine pi_imp (RT.pi_revA hg hm he hs) fun σ H Q ⟨ρ, F, r, q⟩ => semI r q (fun d x => by unfold revD; split <;> (intro h; cases h)) fun d v items F' H' z x i s k => ?_
  cases d with
  | list ds =>
    cases z
    obtain ⟨p, xs, rfl, hp, l⟩ := i.list_inv
    refine ⟨p, xs, rfl, .inl ⟨s.seq hp, k _ fun j F1 H1 s1 s2 => ?_⟩⟩
    have h1 := s2.seq (s1.seq hp)
    have hl := l.1
    rw [List.length_reverse]
    refine ⟨fun hj => ?_, fun hj => by show xs.length ≤ j; omega⟩
    obtain ⟨d, hd⟩ : ∃ d, ds[ds.length - 1 - j]? = some d := ⟨_, List.getElem?_eq_getElem (by omega)⟩
    obtain ⟨y, hy, iy⟩ := l.at hd
    rw [← hl] at hy
    refine ⟨⟨by omega, xs, y, h1, hy⟩, fun v H2 ⟨e1, e2⟩ => ?_⟩
    subst e1
    have e3 := e2 xs h1
    rw [hy] at e3
    cases e3
    exact ⟨F1, d, by rw [rev_at rfl hj]; exact hd, .refl s2, iy.mono s1⟩
  | tup ds =>
    cases z
    obtain ⟨p, xs, rfl, hp, l⟩ := i.tup_inv
    refine ⟨p, xs, rfl, .inr ⟨sameT s hp, k _ fun j F1 H1 s1 s2 => ?_⟩⟩
    have h1 := sameT s2 (sameT s1 hp)
    have hl := l.1
    rw [List.length_reverse]
    refine ⟨fun hj => ?_, fun hj => by show xs.length ≤ j; omega⟩
    obtain ⟨d, hd⟩ : ∃ d, ds[ds.length - 1 - j]? = some d := ⟨_, List.getElem?_eq_getElem (by omega)⟩
    obtain ⟨y, hy, iy⟩ := l.at hd
    rw [← hl] at hy
    refine ⟨⟨by omega, xs, y, h1, hy⟩, fun v H2 ⟨e1, e2⟩ => ?_⟩
    subst e1
    have e3 := e2 xs h1
    rw [hy] at e3
    cases e3
    exact ⟨F1, d, by rw [rev_at rfl hj]; exact hd, .refl s2, iy.mono s1⟩
  | _ => cases z
end
end Pd
namespace Pd
open PySem PySem.Spec PyProof.Rows L2
section
variable {X : Cx} {F0 : Bs} {H0 : Hp} {m m' mL : List Bool} {W : WX} {pos : Pos} {a b e : Expr} {es : List Expr} {ga gb gc g gi : Rho → R D} {t : Rho → R (List D)}
def sDPutD (i : Nat) (gi g : Rho → R D) : Rho → S := sE g fun ρ d => match ρ[i]? with
  | some (some (.dict false _)) => sE gi (fun ρ k => match ρ[i]?, asKey k with
    | some (some (.dict false kvs)), some k => if kvs.length < sizeLine then .nx (ρ.set i (some (.dict false (kPut kvs k d)))) else .st
    | _, _ => .st) ρ
  | _ => .st
theorem s_dput (i : Nat) {x : Str} {ix value : Expr} {p2 pos' : Pos} (hu : X.A.units + 1 < cLine) (hv : DE X F0 H0 m W value g) (hx : DE X F0 H0 m W ix gi) (hb : F0.mut i := by exact Bs.mut_of rfl) (hm : m[i]? = some true := by rfl) (hN : X.N[i]? = some x := by rfl) (hvis : Vis X.env.scope x := by first | exact Or.inl rfl | exact Or.inr (Or.inl rfl) | exact Or.inr (Or.inr rfl)) (hd : (x == ("__debug__" : Str)) = false := by decide)
    (hcd : (x == ("__classdict__" : Str)) = false := by decide) (hs : swapsWith value (some (.Subscript (.Name x p2) ix pos')) pos.line X.env = pure false := by rfl) : DS X F0 H0 m m mL W (.Assign [.Subscript (.Name x p2) ix pos'] value pos) (sDPutD i gi g) := by
  refine ps_imp (ps_dput hu (pe_var hN hvis hd hcd) hx hv hs) fun E σ H ⟨ρ, F, r, h⟩ => ?_
  refine semS (k := fun d => match ρ[i]? with
    | some (some (.dict false _)) => sE gi (fun ρ k => match ρ[i]?, asKey k with
      | some (some (.dict false kvs)), some k => if kvs.length < sizeLine then .nx (ρ.set i (some (.dict false (kPut kvs k d)))) else .st
      | _, _ => .st) ρ
    | _ => .st) r h fun d v F1 H1 i1 r1 _ h1 => ?_
  split at h1
  · rename_i ds0 e1
    obtain ⟨p, o, z1, z2, z3, z4, z5⟩ := r1.own i _ e1 hm
    refine ⟨.ref p, z1, ?_⟩
    refine semS (k := fun k => match ρ[i]?, asKey k with
      | some (some (.dict false kvs)), some k => if kvs.length < sizeLine then .nx (ρ.set i (some (.dict false (kPut kvs k d)))) else .st
      | _, _ => .st) r1 h1 fun k u F2 H2 i2 r2 x2 h2 => ?_
    split at h2
    · rename_i kvs k' e2 ek
      by_cases hz : kvs.length < sizeLine
      · rw [if_pos hz] at h2
        obtain ⟨p', o', y1, y2, y3, y4, y5⟩ := r2.own i _ e2 hm
        rw [z1] at y1
        cases y1
        cases o' with
        | dK xs' =>
          obtain ⟨_, l'⟩ := y3
          rw [key_is i2 ek]
          exact ⟨p, _, rfl, .inl ⟨xs', k', y2, rfl, by rw [l'.1]; exact hz, rfl⟩, h2 σ F2 _ (r2.mut hb hm e2 z1 y4 y5 (show IsC _ _ (.dK (putK xs' k' v)) (.dict false (kPut kvs k' d)) from ⟨rfl, isK_putv k' l' (i1.mono x2)⟩)) (.refl F2)⟩
        | frz _ _ => exact nomatch y3.1
        | _ => exact y3.elim
      · rw [if_neg hz] at h2
        exact h2.elim
    · exact h2.elim
  · exact h1.elim
def sOwnL (i : Nat) (f : List D → List D → R (List D)) (t : Rho → R (List D)) : Rho → S := fun ρ => match ρ[i]? with
  | some (some (.list ds)) => (match t ρ with
    | .ok as => (match f ds as with
      | .ok es => .nx (ρ.set i (some (.list es)))
      | _ => .st)
    | .ex x => .ex x ρ
    | .st => .st)
  | _ => .st
def insF : List D → List D → R (List D)
  | ds, [.int i, d] => if (decide (ds.length < sizeLine) && (decide (0 ≤ i) && decide (i < 4611686018427387904))) = true then .ok (ds.take i.toNat ++ [d] ++ ds.drop i.toNat) else .st
  | _, _ => .st
def OwnL (K : PySem.W.Frag) (f : List D → List D → R (List D)) (r : V → List V → Hp → VK → Prop) : Prop := ∀ (F H : Hp) (p : Addr) (xs vs : List V) (ds as es : List D) (Q : VK), Same F H → H p = some (.lst xs) → IsL K F xs ds → IsL K F vs as → f ds as = .ok es →
  (∀ w ys, IsL K F ys es → Q w (upd H p (.lst ys))) → r (.ref p) vs H Q
theorem s_ownL (i : Nat) {x : Str} {nm : Str} {id : String} {r : V → List V → Hp → VK → Prop} {f : List D → List D → R (List D)} {p2 apos cpos : Pos} (slot : Slot "list" nm id) (hty : typeOf (.builtin id) = pure (.type "method_descriptor")) (hmt : MtR X id r) (ho : OwnL X.K f r)
    (he : DA X F0 H0 m W (e :: es) t) (hb : F0.mut i := by exact Bs.mut_of rfl) (hm : m[i]? = some true := by rfl) (hN : X.N[i]? = some x := by rfl) (hv : Vis X.env.scope x := by first | exact Or.inl rfl | exact Or.inr (Or.inl rfl) | exact Or.inr (Or.inr rfl)) (hd : (x == ("__debug__" : Str)) = false := by decide)
    (hcd : (x == ("__classdict__" : Str)) = false := by decide) (hsw : swapsWith (.Call (.Attribute (.Name x p2) nm apos) (e :: es) [] cpos) none pos.line X.env = pure false := by rfl)
    (hbase : attributeBase (.Name x p2) nm X.env (eval (.Name x p2) X.env) = eval (.Name x p2) X.env := by rfl)
    (hfew : ((backTo cpos (starEach (e :: es) X.env)).all (fun x => !x.1) && (backToKw cpos (keywordEach [] X.env)).all (fun x => x.1.isSome)
      && decide ((e :: es).length + ([] : List Keyword).length + (if ([] : List Keyword).isEmpty then 0 else 1) < 30)) = true := by rfl)
    (hline : (apos.endLine == cpos.line) = true := by rfl) (hs : starEach (e :: es) X.env = (false, eval e X.env) :: starEach es X.env := by rfl) (hplain : (backTo cpos (starEach es X.env)).any (·.1) = false := by rfl) :
    DS X F0 H0 m m mL W (.Expr (.Call (.Attribute (.Name x p2) nm apos) (e :: es) [] cpos) pos) (sOwnL i f t) := by
  refine ps_imp (ps_expr (pe_bm PySem.F.plainAttrs_list slot hty hmt (pe_var hN hv hd hcd) he hbase hfew hline hs hplain) hsw) fun E σ H ⟨ρ, F, r, h⟩ => ?_
  unfold sOwnL at h
  split at h
  · rename_i ds e1
    obtain ⟨p, o, z1, z2, z3, z4, z5⟩ := r.own i _ e1 hm
    cases o with
    | lst xs =>
      refine ⟨.ref p, z1, .inl ⟨rfl, xs, .of z2⟩, ρ, F, r, ?_⟩
      cases zt : t ρ with
      | ex x =>
        rw [zt] at h
        intro cls od F' H' xe ie
        obtain ⟨F2, r2, s2⟩ := (r.ext xe).freeze
        exact h cls od σ F2 H' r2 (xe.ff.trans s2) (Is.monoX ie s2)
      | st => rw [zt] at h; exact h.elim
      | ok as =>
        rw [zt] at h
        intro vs F1 H1 x1 i1
        have r1 := r.ext x1
        obtain ⟨p', o', y1, y2, y3, y4, y5⟩ := r1.own i _ e1 hm
        rw [z1] at y1
        cases y1
        have h2 : afterS X.K F0 H0 m mL W F (match f ds as with
          | .ok es => .nx (ρ.set i (some (.list es)))
          | _ => .st) E := h
        cases zf : f ds as with
        | ex x => rw [zf] at h2; exact h2.elim
        | st => rw [zf] at h2; exact h2.elim
        | ok es2 =>
          rw [zf] at h2
          cases o' with
          | lst xs' =>
            refine ho F1 H1 p xs' vs ds as es2 _ r1.fh y2 y3 i1 zf fun _ ys iy => ?_
            exact h2 σ F1 _ (r1.mut hb hm e1 z1 y4 y5 (show IsC _ _ (.lst ys) (.list es2) from iy)) x1.ff
          | _ => exact y3.elim
    | _ => exact z3.elim
  · exact h.elim
theorem own_ins {K : PySem.W.Frag} : OwnL K insF (fun x vs H Q => ∃ (l : Addr) (xs : List V) (i : Int) (y : V), x = .ref l ∧ vs = [.int i, y] ∧ H l = some (.lst xs) ∧ xs.length < sizeLine ∧ 0 ≤ i ∧ i < 2 ^ 63 ∧
    Q .non (upd H l (.lst (xs.take i.toNat ++ [y] ++ xs.drop i.toNat)))) := by
  intro F H p xs vs ds as es2 Q s hp l la hf k
  match as, la, hf with
  | [.int i, d], la, hf =>
    obtain ⟨v, u, rfl, z1, z2⟩ := two_of la
    cases z1
    have hf' : (if (decide (ds.length < sizeLine) && (decide (0 ≤ i) && decide (i < 4611686018427387904))) = true then R.ok (ds.take i.toNat ++ [d] ++ ds.drop i.toNat) else .st) = .ok es2 := hf
    by_cases hz : (decide (ds.length < sizeLine) && (decide (0 ≤ i) && decide (i < 4611686018427387904))) = true
    · rw [if_pos hz] at hf'
      cases hf'
      simp only [Bool.and_eq_true, decide_eq_true_eq] at hz
      exact ⟨p, xs, i, u, rfl, rfl, hp, by rw [l.1]; exact hz.1, hz.2.1, by have := hz.2.2; omega, k _ _ (((l.take _).append (.cons z2 .nil)).append (l.drop _))⟩
    · rw [if_neg hz] at hf'
      cases hf'
/-- the pairs, from the left -/
def gPs : List ((Rho → R D) × (Rho → R D)) → Rho → R (List (D × D))
  | [], _ => .ok []
  | (gk, gv) :: r, ρ => (gk ρ).bind fun k => (gv ρ).bind fun v => (gPs r ρ).bind fun t => .ok ((k, v) :: t)
def mergeD : List (D × D) → List (Key × D) → R (List (Key × D))
  | [], acc => .ok acc
  | (k, v) :: r, acc => match asKey k with
    | some k => mergeD r (kPut acc k v)
    | none => .st
def gDisp (ps : List ((Rho → R D) × (Rho → R D))) : Rho → R D := fun ρ => (gPs ps ρ).bind fun t => (mergeD t []).bind fun kvs => .ok (.dict false kvs)
def IsP (K : PySem.W.Frag) (F : Hp) : List (V × V) → List (D × D) → Prop
  | [], [] => True
  | (x, y) :: xs, (k, d) :: ds => Is K F x k ∧ Is K F y d ∧ IsP K F xs ds
  | _, _ => False
theorem IsP.mono {K : PySem.W.Frag} {F F' : Hp} (s : Same F F') : ∀ {xs : List (V × V)} {ds : List (D × D)}, IsP K F xs ds → IsP K F' xs ds
  | [], [], _ => trivial
  | (x, y) :: xs, (k, d) :: ds, h => ⟨h.1.mono s, h.2.1.mono s, IsP.mono s h.2.2⟩
  | [], _ :: _, h => h.elim
  | _ :: _, [], h => h.elim
theorem isP_merge {K : PySem.W.Frag} {F : Hp} : ∀ {ds : List (D × D)} {xs : List (V × V)} {acc res : List (Key × D)} {va : List (Key × V)}, IsP K F xs ds → IsK K F va acc → mergeD ds acc = .ok res → ∃ kvs : List (Key × V), xs = kvs.map (fun kv => (kV kv.1, kv.2)) ∧ kvs.length = ds.length ∧ IsK K F (mergeK va kvs) res
  | [], [], acc, res, va, _, l, h => by
    cases h
    exact ⟨[], rfl, rfl, l⟩
  | (k, d) :: ds, (x, y) :: xs, acc, res, va, hp, l, h => by
    obtain ⟨i1, i2, t⟩ := hp
    have h' : (match asKey k with | some k => mergeD ds (kPut acc k d) | none => .st) = .ok res := h
    cases z : asKey k with
    | none => rw [z] at h'; cases h'
    | some k' =>
      rw [z] at h'
      obtain ⟨kvs, e1, e2, e3⟩ := isP_merge t (isK_putv k' l i2) h'
      refine ⟨(k', y) :: kvs, ?_, by simp [e2], e3⟩
      rw [key_is i1 z, e1]
      rfl
  | [], _ :: _, _, _, _, h, _, _ => h.elim
  | _ :: _, [], _, _, _, h, _, _ => h.elim
theorem mergeD_nx : ∀ (t : List (D × D)) (acc : List (Key × D)) (y : Ex), mergeD t acc ≠ .ex y
  | [], acc, y, h => by cases h
  | (k, v) :: r, acc, y, h => by
    have h' : (match asKey k with | some k => mergeD r (kPut acc k v) | none => .st) = .ex y := h
    cases z : asKey k with
    | none => rw [z] at h'; cases h'
    | some k' => rw [z] at h'; exact mergeD_nx r _ y h'
theorem gPs_len : ∀ (ps : List ((Rho → R D) × (Rho → R D))) (ρ : Rho) {t : List (D × D)}, gPs ps ρ = .ok t → t.length = ps.length
  | [], ρ, t, h => by cases h; rfl
  | (gk, gv) :: r, ρ, t, h => by
    have h' : ((gk ρ).bind fun k => (gv ρ).bind fun v => (gPs r ρ).bind fun t => .ok ((k, v) :: t)) = .ok t := h
    cases z1 : gk ρ with
    | ok k =>
      rw [z1] at h'
      have h2 : ((gv ρ).bind fun v => (gPs r ρ).bind fun t => .ok ((k, v) :: t)) = .ok t := h'
      cases z2 : gv ρ with
      | ok v =>
        rw [z2] at h2
        have h3 : ((gPs r ρ).bind fun t => .ok ((k, v) :: t)) = .ok t := h2
        cases z3 : gPs r ρ with
        | ok t2 =>
          rw [z3] at h3
          cases h3
          simp [gPs_len r ρ z3]
        | ex x => rw [z3] at h3; cases h3
        | st => rw [z3] at h3; cases h3
      | ex x => rw [z2] at h2; cases h2
      | st => rw [z2] at h2; cases h2
    | ex x => rw [z1] at h'; cases h'
    | st => rw [z1] at h'; cases h'
structure DPs (X : Cx) (F0 : Bs) (H0 : Hp) (m : List Bool) (W : WX) (pos : Pos) (keys : List (Option Expr)) (values : List Expr) (ps : List ((Rho → R D) × (Rho → R D))) (trs : List (TE × TE)) : Prop where
  pps : PPs X pos keys values trs
  len : trs.length = ps.length
  sem : ∀ (σ : L2.St) (H F : Hp) (ρ : Rho) (Q : List (V × V) → Hp → Prop), Rep X.K F0 H0 m ρ σ F H → (match gPs ps ρ with
    | .ok ds => ∀ xs F' H', Ext F H F' H' → IsP X.K F' xs ds → Q xs H'
    | .ex x => ∀ cls od F' H', Ext F H F' H' → IsX X.K F' x cls od → W cls od σ H'
    | .st => False) → tPairs trs σ H Q
theorem dps_nil : DPs X F0 H0 m W pos [] [] [] [] := ⟨pps_nil, rfl, fun σ H F ρ Q r h => h [] F H (.refl r.fh) trivial⟩
theorem dps_cons {k v : Expr} {ks : List (Option Expr)} {vs : List Expr} {gk gv : Rho → R D} {ps : List ((Rho → R D) × (Rho → R D))} {trs : List (TE × TE)} (hk : DE X F0 H0 m W k gk) (hv : DE X F0 H0 m W v gv) (hr : DPs X F0 H0 m W pos ks vs ps trs) :
    DPs X F0 H0 m W pos (some k :: ks) (v :: vs) ((gk, gv) :: ps) ((tSem X.K F0 H0 m W gk, tSem X.K F0 H0 m W gv) :: trs) := by
  refine ⟨pps_cons hk hv hr.pps, by simp [hr.len], fun σ H F ρ Q r h => ?_⟩
  show tSem X.K F0 H0 m W gk σ H fun x H1 => tSem X.K F0 H0 m W gv σ H1 fun y H2 => tPairs trs σ H2 fun ps H3 => Q ((x, y) :: ps) H3
  refine ⟨ρ, F, r, ?_⟩
  unfold gPs at h
  cases z1 : gk ρ with
  | ex x => rw [z1] at h; exact h
  | st => rw [z1] at h; exact h.elim
  | ok d1 =>
    rw [z1] at h
    intro x F1 H1 x1 i1
    refine ⟨ρ, F1, r.ext x1, ?_⟩
    have h2 : match ((gv ρ).bind fun v => (gPs ps ρ).bind fun t => R.ok ((d1, v) :: t)) with
      | .ok ds => ∀ xs F' H', Ext F H F' H' → IsP X.K F' xs ds → Q xs H'
      | .ex x => ∀ cls od F' H', Ext F H F' H' → IsX X.K F' x cls od → W cls od σ H'
      | .st => False := h
    cases z2 : gv ρ with
    | ex y => rw [z2] at h2; exact fun cls od F' H' xe ix => h2 cls od F' H' (x1.trans xe) ix
    | st => rw [z2] at h2; exact h2.elim
    | ok d2 =>
      rw [z2] at h2
      intro y F2 H2 x2 i2
      refine hr.sem σ H2 F2 ρ _ ((r.ext x1).ext x2) ?_
      have h3 : match ((gPs ps ρ).bind fun t => R.ok ((d1, d2) :: t)) with
        | .ok ds => ∀ xs F' H', Ext F H F' H' → IsP X.K F' xs ds → Q xs H'
        | .ex x => ∀ cls od F' H', Ext F H F' H' → IsX X.K F' x cls od → W cls od σ H'
        | .st => False := h2
      cases z3 : gPs ps ρ with
      | ex y => rw [z3] at h3; exact fun cls od F' H' xe ix => h3 cls od F' H' ((x1.trans x2).trans xe) ix
      | st => rw [z3] at h3; exact h3.elim
      | ok t =>
        rw [z3] at h3
        exact fun xs F' H' xe ip => h3 ((x, y) :: xs) F' H' ((x1.trans x2).trans xe) ⟨(i1.mono x2.ff).mono xe.ff, i2.mono xe.ff, ip⟩
theorem n_disp {keys : List (Option Expr)} {values : List Expr} {ps : List ((Rho → R D) × (Rho → R D))} {trs : List (TE × TE)} (h : DPs X F0 H0 m W pos keys values ps trs) (hall : keys.all (·.isSome) = true := by rfl) (hl : keys.length = values.length := by rfl) (h0 : keys ≠ [] := by simp)
    (h15 : keys.length ≤ 15 := by decide) (h15' : ps.length ≤ 15 := by decide) : DN X F0 H0 m W (.Dict keys values pos) (gDisp ps) := by
  refine pe_imp (pe_disp h.pps hall hl h0 h15) fun σ H Q ⟨ρ, F, r, q⟩ => fun p hp => ?_
  have x0 := Ext.laid' (o := .dK []) r.fh hp
  refine h.sem σ _ F ρ _ (r.ext x0) ?_
  unfold gDisp at q
  cases z : gPs ps ρ with
  | ex y => rw [z] at q; exact fun cls od F' H' xe ix => q cls od F' H' (x0.trans xe) ix
  | st => rw [z] at q; exact q.elim
  | ok t =>
    rw [z] at q
    intro xs F' H' xe ip
    have q2 : afterN X.K W σ F H ((mergeD t []).bind fun kvs => .ok (.dict false kvs)) Q := q
    cases z2 : mergeD t [] with
    | ex y => rw [z2] at q2; exact absurd z2 (by clear q2 z2; intro z; exact mergeD_nx _ _ _ z)
    | st => rw [z2] at q2; exact q2.elim
    | ok kvs =>
      rw [z2] at q2
      obtain ⟨kv, e1, e2, e3⟩ := isP_merge ip (IsK.nil (κ := Key)) z2
      have hp2 : H' p = some (.dK []) := xe.hh _ _ upd_same
      have fp : F' p = none := xe.nw p (by rw [upd_same]; simp) (r.fh.free hp)
      refine ⟨hp2, kv, e1, ?_, ?_⟩
      · have := gPs_len ps ρ z
        omega
      · refine q2 p (.dK (mergeK [] kv)) F' _ ?_ upd_same ⟨rfl, e3⟩ fp hp
        refine ⟨xe.ff, fun b u e => ?_, fun b u e => ?_, fun b hb fb => xe.nw b (fun w => ?_) fb⟩
        · rw [upd_ne (ne_of_none e hp)]
          exact xe.hh b u (by rw [upd_ne (ne_of_none e hp)]; exact e)
        · rw [upd_ne (ne_of_none e fp)]
          exact xe.fh b u e
        · by_cases hq : b = p
          · subst hq; exact hb hp
          · rw [upd_ne hq] at w; exact hb w
end
end Pd
namespace Pd
open PySem PySem.Spec PyProof.Rows L2
section
variable {K : PySem.W.Frag}
def prsOf : List D → Option (List (D × D))
  | [] => some []
  | .tup [k, v] :: r => (prsOf r).map ((k, v) :: ·)
  | _ :: _ => none
def dictPD : List D → R D
  | [.list ds] => match prsOf ds with
    | some t => (mergeD t []).bind fun kvs => .ok (.dict false kvs)
    | none => .st
  | _ => .st
theorem prs_is {F : Hp} : ∀ {ds : List D} {xs : List V} {t : List (D × D)} {acc res : List (Key × D)} {va : List (Key × V)}, IsL K F xs ds → prsOf ds = some t → IsK K F va acc → mergeD t acc = .ok res →
    ∃ (ps : List Addr) (kvs : List (Key × V)), xs = ps.map V.ref ∧ Paired (fun p (kv : Key × V) => SqT K F p [kV kv.1, kv.2]) ps kvs ∧ IsK K F (mergeK va kvs) res
  | [], xs, t, acc, res, va, l, h, la, hm => by
    cases h
    cases hm
    exact ⟨[], [], l.unnil, .nil, la⟩
  | d :: ds, xs, t, acc, res, va, l, h, la, hm => by
    obtain ⟨x, xr, rfl, i, tl⟩ := l.uncons
    match d, i, h with
    | .tup [k, v], i, h =>
      have h' : (prsOf ds).map ((k, v) :: ·) = some t := h
      obtain ⟨t2, e1, rfl⟩ := Option.map_eq_some_iff.mp h'
      obtain ⟨p, ys, rfl, hp, ly⟩ := i.tup_inv
      obtain ⟨u, w', rfl, i1, i2⟩ := two_of ly
      have hm' : (match asKey k with | some k => mergeD t2 (kPut acc k v) | none => .st) = .ok res := hm
      cases z : asKey k with
      | none => rw [z] at hm'; cases hm'
      | some k' =>
        rw [z] at hm'
        obtain ⟨ps, kvs, e2, e3, e4⟩ := prs_is tl e1 (isK_putv k' la i2) hm'
        refine ⟨p :: ps, (k', w') :: kvs, by rw [e2]; rfl, .cons ?_ e3, e4⟩
        rw [key_is i1 z] at hp
        exact hp
theorem paired_imp {α β : Type} {r r' : α → β → Prop} (f : ∀ a b, r a b → r' a b) {as : List α} {bs : List β} (h : Paired r as bs) : Paired r' as bs := by
  induction h with
  | nil => exact .nil
  | cons a _ ih => exact .cons (f _ _ a) ih
theorem c_dictP : CallDN K dictPD (fun xs H Q => ∃ (a : Addr) (ps : List Addr) (kvs : List (Key × V)), xs = [.ref a] ∧ SqL K H a (ps.map V.ref) ∧ Paired (fun p (kv : Key × V) => SqT K H p [kV kv.1, kv.2]) ps kvs ∧
    ∀ p, H p = none → Q (.ref p) (upd H p (.dK (mergeK [] kvs)))) := by
  intro W σ F H ds vs Q s l q
  match ds, l, q with
  | [.list es], l, q =>
    obtain ⟨v, rfl, i⟩ := one_of l
    obtain ⟨a, xs, rfl, h, t⟩ := i.list_inv
    have q' : afterN K W σ F H (match prsOf es with | some t => (mergeD t []).bind fun kvs => .ok (.dict false kvs) | none => .st) Q := q
    cases z : prsOf es with
    | none => rw [z] at q'; exact q'.elim
    | some tt =>
      rw [z] at q'
      have q2 : afterN K W σ F H ((mergeD tt []).bind fun kvs => .ok (.dict false kvs)) Q := q'
      cases z2 : mergeD tt [] with
      | ex y => exact absurd z2 (mergeD_nx _ _ _)
      | st => rw [z2] at q2; exact q2.elim
      | ok res =>
        rw [z2] at q2
        obtain ⟨ps, kvs, e1, e2, e3⟩ := prs_is t z (IsK.nil (κ := Key)) z2
        subst e1
        exact ⟨a, ps, kvs, rfl, s.seq h, paired_imp (fun _ _ z => sameT s z) e2, fun p hp => afterN.now q2 s hp (show IsC _ _ (.dK (mergeK [] kvs)) (.dict false res) from ⟨rfl, e3⟩)⟩
def sIdx : List Str → Str → Option Nat
  | [], _ => none
  | y :: ys, z => if (y == z) = true then some 0 else (sIdx ys z).map (· + 1)
theorem sIdx_at : ∀ {ys : List Str} {z : Str} {j : Nat}, sIdx ys z = some j → ys[j]? = some z ∧ ∀ m, m < j → ys[m]? ≠ some z
  | [], z, j, h => by cases h
  | y :: ys, z, j, h => by
    unfold sIdx at h
    by_cases e : (y == z) = true
    · rw [if_pos e] at h
      cases h
      exact ⟨by simpa using e, fun m hm => absurd hm (Nat.not_lt_zero m)⟩
    · rw [if_neg e] at h
      obtain ⟨i, e1, rfl⟩ := Option.map_eq_some_iff.mp h
      obtain ⟨h1, h2⟩ := sIdx_at e1
      refine ⟨by simpa using h1, fun m hm => ?_⟩
      cases m with
      | zero => intro w; exact e (by simpa using w)
      | succ m => simpa using h2 m (by omega)
def dvmD : List D → R D
  | [.int i, .int j] => if (decide (0 < j) && Builtin.divisionGoesByPylong i j == false) = true then .ok (.tup [.int (i / j), .int (i % j)]) else .st
  | _ => .st
theorem c_dvm : CallD K dvmD (fun xs H Q => ∃ i j, xs = [.int i, .int j] ∧ CDivP i j ∧ ∀ p, H p = none → Q (.ref p) (upd H p (.tup [.int (i / j), .int (i % j)]))) := by
  intro W σ F H ds vs Q s l q
  match ds, l, q with
  | [.int i, .int j], l, q =>
    obtain ⟨u, v, rfl, z1, z2⟩ := two_of l
    cases z1
    cases z2
    have q' : after K W σ F H (if (decide (0 < j) && Builtin.divisionGoesByPylong i j == false) = true then .ok (.tup [.int (i / j), .int (i % j)]) else .st) Q := q
    by_cases hz : (decide (0 < j) && Builtin.divisionGoesByPylong i j == false) = true
    · rw [if_pos hz] at q'
      rw [Bool.and_eq_true] at hz
      refine ⟨i, j, rfl, ⟨of_decide_eq_true hz.1, by simpa using hz.2⟩, fun p hp => ?_⟩
      have x := Ext.laid (o := .tup [.int (i / j), .int (i % j)]) s hp
      exact q' _ _ _ x (is_tup upd_same (.cons (.int _) (.cons (.int _) .nil)))
    · rw [if_neg hz] at q'
      exact q'.elim
end
end Pd
namespace PySem.W
open Lean Elab Tactic Meta PySem PySem.Calls PyProof.Rows PyProof.V PySem.Spec
end PySem.W
namespace Pd
open PySem PySem.Spec PyProof.Rows L2
section
variable {K : PySem.W.Frag}
def rEqD0 (ne : Bool) : R2 := fun x y H Q => ∃ (a b : Addr) (xs ys : List (Key × V)), x = .ref a ∧ y = .ref b ∧ Rd H a (.dK xs) ∧ Rd H b (.dK ys) ∧ (xs = [] ∨ ys = []) ∧ Q (.bl ((xs.length == ys.length) != ne)) H
theorem op_eqD0 {X : Cx} (hu : X.A.units < cLine) : OpR X (compareOp .Eq) (rEqD0 false) := by
  intro pins s σ H x y v u Q I rx ry h
  obtain ⟨a, b, xs, ys, rfl, rfl, ha, hb, h0, q⟩ := h
  obtain rfl : v = Value.ref a := rx
  obtain rfl : u = Value.ref b := ry
  obtain ⟨z1, hd1, vs1, rel1, dd1⟩ := dk_rd I.hok ha
  obtain ⟨z2, hd2, vs2, rel2, dd2⟩ := dk_rd I.hok hb
  have l1 := rel1.length
  have l2 := rel2.length
  refine PySem.W.rcP_dicts (r := true) hd1 hd2 dd1 dd2 hu (fun hl => ?_) _ _ ⟨.bl _, H, I, ?_, q⟩
  · have : vs1 = [] := by
      rcases h0 with rfl | rfl
      · exact List.eq_nil_of_length_eq_zero (by rw [← l1]; rfl)
      · exact List.eq_nil_of_length_eq_zero (by rw [hl, ← l2]; rfl)
    subst this
    exact .nil
  · show Value.bool (vs1.length == vs2.length && true) = Value.bool ((xs.length == ys.length) != false)
    rw [l1, l2, Bool.and_true, Bool.bne_false]
/-- two dicts, one of them empty -/
def isD0 : D → D → Option Bool
  | .dict _ xs, .dict _ [] => some xs.isEmpty
  | _, _ => none
def eqYD (d e : D) : R D := match isD0 d e with
  | some b => .ok (.bl b)
  | none => eqXD d e
theorem isD0_ok {d e : D} {b : Bool} (h : isD0 d e = some b) : ∃ l l' xs, d = .dict l xs ∧ e = .dict l' [] ∧ b = xs.isEmpty := by
  unfold isD0 at h
  split at h
  · cases h; exact ⟨_, _, _, rfl, rfl, rfl⟩
  · cases h
theorem len_emp {α β : Type} (xs : List α) : (xs.length == ([] : List β).length) = xs.isEmpty := by cases xs <;> rfl
theorem o_eqY : OpD K eqYD (fun x y H Q => rEqX K x y H Q ∨ rEqD0 false x y H Q) := by
  intro W σ F H d e v u Q s i j q
  unfold eqYD at q
  cases z : isD0 d e with
  | some b =>
    rw [z] at q
    obtain ⟨l, l', xs, rfl, rfl, rfl⟩ := isD0_ok z
    obtain ⟨a, ys, rfl, ha, la⟩ := i.dict_inv
    obtain ⟨c, zs, rfl, hc, lc⟩ := j.dict_inv
    have e2 := lc.unnil
    subst e2
    refine .inr ⟨a, c, ys, [], rfl, rfl, sameR s ha.rd, sameR s hc.rd, .inr rfl, ?_⟩
    rw [la.1, len_emp, Bool.bne_false]
    exact after.now q s (.bl _)
  | none =>
    rw [z] at q
    exact .inl (o_eqX W σ F H d e v u Q s i j q)
theorem op_eqY {X : Cx} (hu : X.A.units + 64 < cLine) : OpR X (compareOp .Eq) (fun x y H Q => rEqX X.K x y H Q ∨ rEqD0 false x y H Q) := (op_eqX hu).or (op_eqD0 (hu_le hu))
end
end Pd
namespace Pd
open PySem PySem.Spec PyProof.Rows L2
def seqCP (M : Mem) (p : P) : RQ (List D) := match p.cln with
  | some (.list ds) => .ok ds M
  | _ => .st
def iqSeq (g : GQ) : RhoQ → Mem → RQ (List D) := fun ρ M => (g ρ M).bind fun p M1 => seqCP M1 p
section
variable {X : Cx} {B : QB} {W : WX} {pos : Pos} {e : Expr} {g : GQ}
theorem diq_seq {tg : Expr} (he : DQ X B W e g) : DIQ X B W tg e (iqSeq g) := by
  refine pi_imp (pi_list he) fun σ H Q ⟨ρ, M, F, A, r, q⟩ => ⟨ρ, M, F, A, r, ?_⟩
  unfold iqSeq at q
  cases z : g ρ M with
  | st => rw [z] at q; exact q.elim
  | ex x M1 => rw [z] at q; exact q
  | ok p M1 =>
    rw [z] at q
    intro v F1 H1 A1 x1 c1 i
    have q1 : (match seqCP M1 p with
      | .ok items M1 => ∀ J F' H' A', ExtQ F H A F' H' A' → Cells X.K F' H' A' M1 → Yl X.K J items F' → Q J H'
      | .ex x M1 => ExK X.K W σ F H A x M1
      | .st => False) := q
    unfold seqCP at q1
    cases zc : p.cln with
    | none => rw [zc] at q1; exact q1.elim
    | some d =>
      rw [zc] at q1
      have iv := cln_is i zc
      cases d with
      | list ds =>
        obtain ⟨a, xs, rfl, hp, l⟩ := iv.list_inv
        exact ⟨a, rfl, ⟨xs, c1.fh.seq hp⟩, q1 (Itl X.K a) F1 H1 A1 x1 c1 (yl_list hp l)⟩
      | _ => exact q1.elim
end
structure DefU1 (K : PySem.W.Frag) (x qual : Str) (st : Stmt) (f : Addr) (ps : List Str) : Prop where
  ex : ∃ fd, FunD K x qual (defArgs st) (defBody st) (defScope st) [.non] [] f fd ∧ Binds K fd ps [] ∧ ∃ ds, Vals [.non] ds ∧ Binds K fd ps ds
structure UnQ1 (P' : Program) (w : World) (K : PySem.W.Frag) (mg : Str → Option Value) (base : Heap) (k : Nat) (f : Addr) (ps : List Str) (G : GF) : Prop where
  ex : ∃ fd, FnOk P' w K mg base (L2.CX P' w) k f fd ps (spQ K G) ∧ Binds K fd ps [] ∧ PySem.W.keepIn K (.ref f) = true ∧ ∃ ds, Vals [.non] ds ∧ Binds K fd ps ds
/-- the call without the last argument -/
def GF.dfl (G : GF) : GF := fun as M => G (as ++ [(false, .non)]) M
section
variable {P' : Program} {w : World} {K : PySem.W.Frag} {mg : Str → Option Value} {base : Heap} {k j : Nat} {x qual c m : Str} {ps : List Str} {GQ' : GF} {st : Stmt} {f : Addr}
theorem un_q1 {N : List Str} {s : SQF} (n : Nat) (Df : DefU1 K x qual st f ps) (Sc : FnScope N ps (defScope st)) (hn : N.length = n)
    (hb : ∀ (cdv : Value) (A : Around) (outer : List Env) (sh : Shared) (H : Hp) (E : XK) (B : QB), Room k (A.deeper (envOfC qual (defScope st) sh.heap.objs.size f cdv)) →
      DQSs (cxOf (L2.CX P' w) P' w K mg base N qual (defScope st) f cdv A outer sh H E) B (fun cls d _ H => E cls d H) (defBody st) s) : UnQ1 P' w K mg base (k + 1) f ps (runQ n ps.length s) := by
  obtain ⟨fd, F, b, b1⟩ := Df.ex
  exact ⟨fd, fn_q n F Sc hn hb, b, F.kp, b1⟩
theorem UnQ1.full (h : UnQ1 P' w K mg base k f ps GQ') : UnQ P' w K mg base k f ps GQ' := by
  obtain ⟨fd, a, b, c, _⟩ := h.ex
  exact ⟨fd, a, b, c⟩
theorem mkQ_of1 (U : UnQ1 P' w K mg base k f ps GQ') (hm : mg x = some (.ref (He.ga K x)) ∧ Mk K (He.ga K x) f) : MkQ P' w K mg base k x GQ'.dfl := by
  obtain ⟨fd, a, _, _, ds, hv, b⟩ := U.ex
  exact ⟨f, fd, ps, ds, [.non], GQ', a, hm.1, hm.2, b, hv, [.non], fun _ => IsL.cons .non .nil, fun as M => rfl⟩
end
end Pd
namespace Pd
open PySem PySem.Spec PyProof.Rows L2
section
variable {X : Cx} {F0 : Bs} {H0 : Hp} {m m' mL : List Bool} {W : WX} {pos : Pos} {a b e : Expr} {es : List Expr} {ga gb gc g gi : Rho → R D} {t : Rho → R (List D)}
def sClr (i : Nat) : Rho → S := fun ρ => match ρ[i]? with
  | some (some (.list _)) => .nx (ρ.set i (some (.list [])))
  | _ => .st
theorem s_clear (i : Nat) {x : Str} {p2 apos cpos : Pos} (hb : F0.mut i := by exact Bs.mut_of rfl) (hm : m[i]? = some true := by rfl) (hN : X.N[i]? = some x := by rfl) (hv : Vis X.env.scope x := by first | exact Or.inl rfl | exact Or.inr (Or.inl rfl) | exact Or.inr (Or.inr rfl)) (hd : (x == ("__debug__" : Str)) = false := by decide)
    (hcd : (x == ("__classdict__" : Str)) = false := by decide) (hsw : swapsWith (.Call (.Attribute (.Name x p2) "clear" apos) [] [] cpos) none pos.line X.env = pure false := by rfl)
    (hbase : attributeBase (.Name x p2) "clear" X.env (eval (.Name x p2) X.env) = eval (.Name x p2) X.env := by rfl)
    (hline : (apos.endLine == cpos.line) = true := by rfl) :
    DS X F0 H0 m m mL W (.Expr (.Call (.Attribute (.Name x p2) "clear" apos) [] [] cpos) pos) (sClr i) := by
  refine ps_imp (ps_expr (pe_bm0 PySem.F.plainAttrs_list PySem.F.slot_list_clear PySem.F.type_list_clear mt_clear (pe_var hN hv hd hcd) hbase hline) hsw) fun E σ H ⟨ρ, F, r, h⟩ => ?_
  unfold sClr at h
  split at h
  · rename_i ds e1
    obtain ⟨p, o, z1, z2, z3, z4, z5⟩ := r.own i _ e1 hm
    cases o with
    | lst xs =>
      exact ⟨.ref p, z1, .inl ⟨rfl, xs, .of z2⟩, p, xs, rfl, rfl, z2, h σ F _ (r.mut hb hm e1 z1 z4 z5 (show IsC _ _ (.lst []) (.list []) from .nil)) (.refl F)⟩
    | _ => exact z3.elim
  · exact h.elim
end
end Pd
namespace Pd
open PySem PySem.Spec PyProof.Rows L2
def wipeQ (ρ : RhoQ) : List Nat → RhoQ
  | [] => ρ
  | v :: vs => (wipeQ ρ vs).set v none
theorem RepQ.wipe {K : PySem.W.Frag} {B : QB} {ρ : RhoQ} {M : Mem} {σ : L2.St} {F H : Hp} {A : List Addr} (r : RepQ K B ρ M σ F H A) : ∀ vs : List Nat, RepQ K B (wipeQ ρ vs) M (L2.wipe σ vs) F H A
  | [] => r
  | v :: vs => by
    have ih := RepQ.wipe r vs
    refine ⟨?_, ih.cl, ih.ext, fun i p h => ?_⟩
    · show ((L2.wipe σ vs).set v none).length = ((wipeQ ρ vs).set v none).length
      rw [List.length_set, List.length_set]
      exact ih.len
    · rcases getElem?_set_cases (show ((wipeQ ρ vs).set v none)[i]? = some (some p) from h) with ⟨_, z, _⟩ | ⟨hj, z⟩
      · cases z
      · obtain ⟨w, e, h2⟩ := ih.val i p z
        exact ⟨w, by show ((L2.wipe σ vs).set v none)[i]? = _; rw [List.getElem?_set_ne (Ne.symm hj)]; exact e, h2⟩
theorem cell_list {K : PySem.W.Frag} {F H : Hp} {A : List Addr} {M : Mem} (cl : Cells K F H A M) {k : Nat} {b : Bool} {ds : List D} (h : M[k]? = some (b, .list ds)) {a : Addr} (ha : A[k]? = some a) :
    ∃ xs, H a = some (.lst xs) ∧ IsLP K F A xs (ds.map fun d => (b, d)) := by
  obtain ⟨a', o, e1, e2, e3⟩ := cl.at_ k _ h
  rw [ha] at e1
  cases e1
  obtain ⟨xs, rfl, l⟩ := isL_at e3
  exact ⟨xs, e2, l⟩
theorem Cells.wr {K : PySem.W.Frag} {F H : Hp} {A : List Addr} {M : Mem} {p : Addr} {o : HO} (c : Cells K F H A M) (f : F p = none) (n : p ∉ A) : Cells K F (upd H p o) A M := by
  refine ⟨fun b u e => ?_, c.len, c.nd, c.dj, fun k q h => ?_⟩
  · rw [upd_ne (ne_of_none e f)]
    exact c.fh b u e
  · obtain ⟨a, u, e1, e2, e3⟩ := c.at_ k q h
    refine ⟨a, u, e1, ?_, e3⟩
    rw [upd_ne fun z => n (by subst z; exact List.mem_of_getElem? e1)]
    exact e2
end Pd
namespace Pd
open PySem PySem.Spec PyProof.Rows L2
/-- self, an exception that is being made, gets these fields -/
def spXI (K : PySem.W.Frag) (fs : List Str) : Sp := fun vs H Q _ => ∃ (a C : Addr) (ws : List V), vs = .ref a :: ws ∧ ws.length = fs.length ∧ OexC K C ∧ (∀ n ∈ fs, PySem.W.findIn K (.ref C) n = some none) ∧ H a = some (exo a C none) ∧
  ∀ dx H', H dx = none → dx ≠ a → H' a = some (exo a C (some dx)) → H' dx = some (exd dx (fs.zip ws).reverse) → (∀ b, b ≠ a → b ≠ dx → H' b = H b) → Q .non H'
/-- such a def at its address; with the values of the arguments that may be left out -/
structure UnX (P' : Program) (w : World) (K : PySem.W.Frag) (mg : Str → Option Value) (base : Heap) (k : Nat) (f : Addr) (ps : List Str) (fs : List Str) (ed : List D) : Prop where
  ex : ∃ fd ds dvs, FnOk P' w K mg base (L2.CX P' w) k f fd ps (spXI K fs) ∧ Binds K fd ps ds ∧ Vals dvs ds ∧ ∀ H, IsL K H dvs ed
end Pd
set_option maxHeartbeats 1000000
namespace PySem.W
open PySem PySem.Spec PySem.Calls PyProof.Rows
end PySem.W
namespace Pd
open PySem PySem.Spec PyProof.Rows L2
section
variable {K : PySem.W.Frag} {F0 : Bs} {H0 F H Fb Hb Fc : Hp} {m m' mL : List Bool} {ρ : Rho} {σ : L2.St} {W : WX}
theorem Rep.low (h0 : F0.bor = []) (f : Same F0.F Fb) (hh : Same H0 Hb) (nw : ∀ p, H0 p ≠ none → F0.F p = none → Fb p = none) (r : Rep K ⟨Fb, []⟩ Hb m ρ σ F H) : Rep K F0 H0 m ρ σ F H where
  len := r.len
  fh := r.fh
  f0 := f.trans r.f0
  h0 := hh.trans r.h0
  new := fun p a b => r.new p (fun z => by
    cases q : H0 p with
    | none => exact a q
    | some u => rw [hh p u q] at z; cases z) (nw p a b)
  val := r.val
  own := fun i d a b => by
    obtain ⟨p, o, e1, e2, e3, e4, e5⟩ := r.own i d a b
    refine ⟨p, o, e1, e2, e3, e4, ?_⟩
    cases q : H0 p with
    | none => rfl
    | some u =>
      rw [hh p u q] at e5
      cases e5
  apart := r.apart
  bor := fun b hb => by rw [h0] at hb; cases hb
theorem Rep.up (hm : m.all (!·) = true) (r : Rep K F0 H0 m ρ σ F H) : Rep K ⟨F, []⟩ H m ρ σ F H where
  len := r.len
  fh := r.fh
  f0 := .refl _
  h0 := .refl _
  new := fun p _ b => b
  val := r.val
  own := fun i d _ b => by
    have := List.all_eq_true.mp hm true (List.mem_of_getElem? b)
    cases this
  apart := fun i j p d e _ a => by
    have := List.all_eq_true.mp hm true (List.mem_of_getElem? a)
    cases this
  bor := fun b hb => nomatch hb
theorem Ext.low (f : Same F0.F Fb) (hh : Same H0 Hb) (nw : ∀ p, H0 p ≠ none → F0.F p = none → Fb p = none) (x : Ext Fb Hb F H) : Ext F0.F H0 F H :=
  ⟨f.trans x.ff, hh.trans x.hh, x.fh, fun p a b => x.nw p (fun z => by
    cases q : H0 p with
    | none => exact a q
    | some u => rw [hh p u q] at z; cases z) (nw p a b)⟩
theorem afterS.low (h0 : F0.bor = []) (f : Same F0.F Fb) (hh : Same H0 Hb) (nw : ∀ p, H0 p ≠ none → F0.F p = none → Fb p = none) {r : S} {E : Ends} (h : afterS K F0 H0 m' mL W Fc r E) : afterS K ⟨Fb, []⟩ Hb m' mL W Fc r E := by
  have bm : ∀ n, bmask F0 n = bmask ⟨Fb, []⟩ n := fun n => by unfold bmask; rw [h0]
  cases r with
  | nx ρ => exact fun σ F H r x => h σ F H (r.low h0 f hh nw) x
  | rt d => exact fun v F H x b i => h v F H (x.low f hh nw) (fun b hb => by rw [h0] at hb; cases hb) i
  | rn d => exact fun p o F H x b a c e g k => h p o F H (x.low f hh nw) (fun b hb => by rw [h0] at hb; cases hb) a c e (by
      cases q : H0 p with
      | none => rfl
      | some u => rw [hh p u q] at g; cases g) (fun b hb => by rw [h0] at hb; cases hb)
  | rm d ρ => exact fun v σ F H r i => h v σ F H (by rw [bm]; exact r.low h0 f hh nw) i
  | bk ρ => exact fun σ F H r x => h σ F H (r.low h0 f hh nw) x
  | ct ρ => exact fun σ F H r x => h σ F H (r.low h0 f hh nw) x
  | ex x1 ρ => exact fun cls od σ F H r x i => h cls od σ F H (by rw [bm]; exact r.low h0 f hh nw) x i
  | st => exact h.elim
end
end Pd
set_option maxHeartbeats 1000000
namespace Pd
open PySem PySem.Spec PyProof.Rows L2
section
variable {K : PySem.W.Frag} {B : QB} {F1 H1 F H : Hp} {A1 A : List Addr} {ρ ρ1 : RhoQ} {M M1 : Mem} {σ σ1 : L2.St} {W : WX}
theorem RepQ.low (r1 : RepQ K B ρ1 M1 σ1 F1 H1 A1) (r : RepQ K ⟨F1, H1, A1⟩ ρ M σ F H A) : RepQ K B ρ M σ F H A :=
  ⟨r.len, r.cl, r1.ext.trans r1.cl r.ext, r.val⟩
theorem RepQ.up (r : RepQ K B ρ M σ F H A) : RepQ K ⟨F, H, A⟩ ρ M σ F H A := ⟨r.len, r.cl, .refl, r.val⟩
theorem afterQS.low (r1 : RepQ K B ρ1 M1 σ1 F1 H1 A1) {Fc : Hp} {Ac : List Addr} {r : SQ} {E : Ends} (h : afterQS K B W Fc Ac r E) : afterQS K ⟨F1, H1, A1⟩ W Fc Ac r E := by
  cases r with
  | nx ρ M => exact fun σ F H A r x => h σ F H A (r1.low r) x
  | rt p M => exact fun v F H A x c i => h v F H A (r1.ext.trans r1.cl x) c i
  | bk ρ M => exact fun σ F H A r x => h σ F H A (r1.low r) x
  | ct ρ M => exact fun σ F H A r x => h σ F H A (r1.low r) x
  | ex x1 ρ M => exact fun cls od σ F H A r x i => h cls od σ F H A (r1.low r) x i
  | st => exact h.elim
theorem RepQ.wipe1 (r : RepQ K B ρ M σ F H A) (i : Nat) : RepQ K B (ρ.set i none) M (σ.set i none) F H A := by
  refine ⟨by rw [List.length_set, List.length_set, r.len], r.cl, r.ext, fun j q a => ?_⟩
  rcases getElem?_set_cases a with ⟨_, z, _⟩ | ⟨hj, z⟩
  · cases z
  · rw [List.getElem?_set_ne (Ne.symm hj)]
    exact r.val j q z
end
end Pd
set_option maxHeartbeats 1000000
namespace Pd
open PySem PySem.Spec PyProof.Rows L2
/-- a target that may look at the memory -/
abbrev TQM := P → RhoQ → Mem → Option RhoQ
def tSemGM (K : PySem.W.Frag) (B : QB) (τ : TQM) : TG := fun v σ H Q => ∃ ρ M F A p, RepQ K B ρ M σ F H A ∧ Is K F v (p.at A) ∧ match τ p ρ M with
  | some ρ' => ∀ σ', RepQ K B ρ' M σ' F H A → Q σ' H
  | none => False
abbrev DQM (X : Cx) (B : QB) (tg : Expr) (τ : TQM) : Prop := PG X tg (tSemGM X.K B τ)
def tqM (τ : TQ) : TQM := fun p ρ _ => τ p ρ
theorem qm_of {X : Cx} {B : QB} {tg : Expr} {τ : TQ} (h : DQG X B tg τ) : DQM X B tg (tqM τ) := h
noncomputable def forLX (k : Nat) (bb : Bool) (ds0 : List D) (τ : TQM) (b : SQF) : List D → SQF
  | [], ρ, M => open Classical in if M[k]? = some (bb, .list ds0) then .nx ρ M else .st
  | d :: ds, ρ, M => open Classical in if M[k]? = some (bb, .list ds0) then (match τ (bb, d) ρ M with
    | some ρ1 => match b ρ1 M with
      | .nx ρ2 M2 => forLX k bb ds0 τ b ds ρ2 M2
      | .ct ρ2 M2 => forLX k bb ds0 τ b ds ρ2 M2
      | .bk ρ2 M2 => .nx ρ2 M2
      | r => r
    | none => .st) else .st
noncomputable def sqForL (g : GQ) (τ : TQM) (b : SQF) : SQF := fun ρ M => match g ρ M with
  | .ok (true, .loc k) M1 => (match M1[k]? with
    | some (bb, .list ds) => forLX k bb ds τ b ds ρ M1
    | _ => .st)
  | .ex x M1 => .ex x ρ M1
  | _ => .st
section
variable {X : Cx} {B : QB} {W : WX} {pos : Pos}
theorem qs_forL {tg iter : Expr} {body : List Stmt} {g : GQ} {τ : TQM} {b : SQF} (hp : PassesOwn (model X.prog X.w) X.A X.env X.xe) (hc : X.calm = true) (hi : DQ X B W iter g) (hg : DQM X B tg τ) (hb : DQSs X B W body b)
    (hs : ∀ x, foldedSetIterable iter X.env x = pure x := by intro _; rfl) : DQS X B W (.For tg iter body [] pos) (sqForL g τ b) := by
  refine ps_imp (ps_for hp hc (pi_list hi) hg hb hs) fun E σ H ⟨ρ, M, F, A, r, h⟩ => ⟨ρ, M, F, A, r, ?_⟩
  unfold sqForL at h
  cases z : g ρ M with
  | st => rw [z] at h; exact h.elim
  | ex x M1 =>
    rw [z] at h
    exact fun cls od F' H' A' y cy i => h cls od σ F' H' A' (r.to y cy) y.grow i
  | ok p M1 =>
    rw [z] at h
    intro v F1 H1 A1 e1 c1 i1
    have h1 : afterQS X.K B W F A (match (RQ.ok p M1 : RQ P) with
      | .ok (true, .loc k) M1 => (match M1[k]? with
        | some (bb, .list ds) => forLX k bb ds τ b ds ρ M1
        | _ => .st)
      | .ex x M1 => .ex x ρ M1
      | _ => .st) E := h
    split at h1
    case h_2 => rename_i e; cases e
    case h_3 => exact h1.elim
    rename_i k M1' e
    cases e
    split at h1
    case h_2 => exact h1.elim
    rename_i bb ds eM
    obtain ⟨a, o, ea, eo, _⟩ := c1.at_ k _ eM
    have i2 : Is X.K F1 v (match A1[k]? with | some a => .adr a | none => .loc k) := i1
    rw [ea] at i2
    cases i2
    obtain ⟨xs0, hx0, _⟩ := cell_list c1 eM ea
    refine ⟨a, rfl, ⟨xs0, .of hx0⟩, ?_⟩
    refine ⟨fun i mm σ H => ∃ ρ M F A, RepQ X.K B ρ M σ F H A ∧ Grow F1 A1 F A ∧ i ≤ ds.length ∧ mm = ds.length - i ∧ afterQS X.K B W F A (forLX k bb ds τ b (ds.drop i) ρ M) E, ⟨ds.length, ρ, M1, F1, A1, r.to e1 c1, .refl, Nat.zero_le _, rfl, h1.mono e1.grow⟩, ?_⟩
    rintro i mm σ2 H2 ⟨ρ2, M2, F2, A2, r2, x2, hi, rfl, h2⟩
    by_cases hM : M2[k]? = some (bb, .list ds)
    case neg =>
      cases hd : ds.drop i with
      | nil => rw [hd] at h2; unfold forLX at h2; rw [if_neg hM] at h2; exact h2.elim
      | cons d r => rw [hd] at h2; unfold forLX at h2; rw [if_neg hM] at h2; exact h2.elim
    have ea2 : A2[k]? = some a := by
      obtain ⟨_, t, e⟩ := x2
      rw [e, List.getElem?_append_left (List.getElem?_eq_some_iff.mp ea).1]
      exact ea
    obtain ⟨xs, hxs, ixs⟩ := cell_list r2.cl hM ea2
    have lx : xs.length = ds.length := by
      have := ixs.1
      rw [List.length_map, List.length_map] at this
      exact this
    by_cases hlt : i < ds.length
    · obtain ⟨x0, ex0⟩ : ∃ x0, xs[i]? = some x0 := ⟨_, List.getElem?_eq_getElem (by omega)⟩
      obtain ⟨d, hd⟩ : ∃ d, ds[i]? = some d := ⟨_, List.getElem?_eq_getElem hlt⟩
      have ed : ds.drop i = d :: ds.drop (i + 1) := by
        rw [List.drop_eq_getElem_cons hlt]
        rw [List.getElem?_eq_getElem hlt] at hd
        rw [Option.some.inj hd]
      refine .inr ⟨⟨xs, x0, .of hxs, ex0⟩, fun σ3 H3 => ∃ ρ3 M3 F3 A3, RepQ X.K B ρ3 M3 σ3 F3 H3 A3 ∧ Grow F1 A1 F3 A3 ∧ afterQS X.K B W F3 A3 (forLX k bb ds τ b (ds.drop (i + 1)) ρ3 M3) E, fun σ3 H3 ⟨ρ3, M3, F3, A3, q1, q2, q3⟩ => ⟨ds.length - (i + 1), by omega, ρ3, M3, F3, A3, q1, q2, hlt, rfl, q3⟩, fun y Hy ⟨eHy, yld⟩ => ?_⟩
      subst eHy
      have ey0 : y = x0 := by
        have := yld xs (.of hxs)
        rw [ex0] at this
        exact (Option.some.inj this).symm
      subst ey0
      have iy : Is X.K F2 y (P.at A2 (bb, d)) := ixs.2 i y _ ex0 (by rw [List.getElem?_map, List.getElem?_map, hd]; rfl)
      rw [ed] at h2
      unfold forLX at h2
      rw [if_pos hM] at h2
      refine ⟨ρ2, M2, F2, A2, (bb, d), r2, iy, ?_⟩
      cases z1 : τ (bb, d) ρ2 M2 with
      | none => rw [z1] at h2; exact h2.elim
      | some ρ4 =>
        rw [z1] at h2
        intro σ4 r4
        refine ⟨ρ4, M2, F2, A2, r4, ?_⟩
        have h4 : afterQS X.K B W F2 A2 (match b ρ4 M2 with
          | .nx ρ2 M2 => forLX k bb ds τ b (ds.drop (i + 1)) ρ2 M2
          | .ct ρ2 M2 => forLX k bb ds τ b (ds.drop (i + 1)) ρ2 M2
          | .bk ρ2 M2 => .nx ρ2 M2
          | r => r) E := h2
        cases z2 : b ρ4 M2 with
        | nx ρ5 M5 =>
          rw [z2] at h4
          exact fun σ5 F5 H5 A5 r5 x5 => ⟨ρ5, M5, F5, A5, r5, x2.trans x5, h4.mono x5⟩
        | ct ρ5 M5 =>
          rw [z2] at h4
          exact fun σ5 F5 H5 A5 r5 x5 => ⟨ρ5, M5, F5, A5, r5, x2.trans x5, h4.mono x5⟩
        | bk ρ5 M5 => rw [z2] at h4; exact h4
        | rt d => rw [z2] at h4; exact h4
        | ex x ρ5 => rw [z2] at h4; exact h4
        | st => rw [z2] at h4; exact h4
    · have ei : i = ds.length := by omega
      subst ei
      rw [List.drop_length] at h2
      unfold forLX at h2
      rw [if_pos hM] at h2
      exact .inl ⟨⟨xs, .of hxs, by omega⟩, h2 σ2 F2 H2 A2 r2 .refl⟩
end
def clrP (ρ : RhoQ) (q : P) (M : Mem) : SQ := match q with
  | (true, .loc k) => (match M[k]? with
    | some (_, .list _) => .nx ρ (M.set k (false, .list []))
    | _ => .st)
  | _ => .st
def sqClr (go : GQ) : SQF := sqE go fun ρ q M => clrP ρ q M
section
variable {X : Cx} {B : QB} {W : WX} {pos cpos apos : Pos} {o : Expr} {go : GQ}
theorem qs_clear (ho : DQ X B W o go) (hsw : swapsWith (.Call (.Attribute o "clear" apos) [] [] cpos) none pos.line X.env = pure false := by rfl) (hbase : attributeBase o "clear" X.env (eval o X.env) = eval o X.env := by rfl) (hline : (apos.endLine == cpos.line) = true := by rfl) :
    DQS X B W (.Expr (.Call (.Attribute o "clear" apos) [] [] cpos) pos) (sqClr go) := by
  refine ps_imp (ps_expr (pe_bm0 PySem.F.plainAttrs_list PySem.F.slot_list_clear PySem.F.type_list_clear mt_clear ho hbase hline) hsw) fun E σ H ⟨ρ, M, F, A, r, h⟩ => ?_
  refine semQS (k := fun q M => clrP ρ q M) r h fun q M1 v F1 H1 A1 i1 r1 _ h1 => ?_
  unfold clrP at h1
  split at h1
  case h_2 => exact h1.elim
  rename_i q' k
  split at h1
  case h_2 => exact h1.elim
  rename_i o' bb ds eM
  obtain ⟨a, o1, ea, eo, _⟩ := r1.cl.at_ k _ eM
  have i2 : Is X.K F1 v (match A1[k]? with | some a => .adr a | none => .loc k) := i1
  rw [ea] at i2
  cases i2
  obtain ⟨xs, hx, _⟩ := cell_list r1.cl eM ea
  obtain ⟨e3, c3⟩ := ExtQ.put (q := (false, .list [])) (o := .lst []) r1.cl ea (show IsC X.K F1 (.lst []) (.list []) from .nil) hx
  exact ⟨.inl ⟨rfl, xs, .of hx⟩, a, xs, rfl, rfl, hx, h1 σ F1 _ A1 (r1.to e3 c3) e3.grow⟩
end
def tSemGW (K : PySem.W.Frag) (B : QB) (is : List Nat) (τ : TQ) : TG := fun v σ H Q => ∃ ρ M F A p, RepQ K B ρ M σ F H A ∧ Is K F v (p.at A) ∧ match τ p ρ with
  | some ρ' => ∀ σ', RepQ K B ρ' M σ' F H A → σ'.length = σ.length → (∀ j, j ∉ is → σ'[j]? = σ[j]?) → Q σ' H
  | none => False
abbrev DQW (X : Cx) (B : QB) (is : List Nat) (tg : Expr) (τ : TQ) : Prop := PG X tg (tSemGW X.K B is τ)
def tSemGWs (K : PySem.W.Frag) (B : QB) (is : List Nat) (τ : TQs) : TGs := fun vs σ H Q => ∃ ρ M F A ps, RepQ K B ρ M σ F H A ∧ IsLP K F A vs ps ∧ match τ ps ρ with
  | some ρ' => ∀ σ', RepQ K B ρ' M σ' F H A → σ'.length = σ.length → (∀ j, j ∉ is → σ'[j]? = σ[j]?) → Q σ' H
  | none => False
abbrev DQWs (X : Cx) (B : QB) (is : List Nat) (tg : List Expr) (τ : TQs) : Prop := PGs X tg (tSemGWs X.K B is τ)
section
variable {X : Cx} {B : QB} {pos : Pos} {e : Expr}
theorem qw_name (i : Nat) {x : Str} (hN : X.N.Nodup) (hi : X.N[i]? = some x := by rfl) (hx : Loc X.env.scope x := by exact Or.inl rfl) (hf : X.fn x = true ∨ X.env.scope.names.lookup x = some .local := by first | exact .inl rfl | exact .inr rfl | assumption) :
    DQW X B [i] (.Name x pos) (tqName i) :=
  pg_imp (pg_name hN hi hx hf) fun v σ H Q ⟨ρ, M, F, A, p, r, h, q⟩ => q _ (r.set i h) (List.length_set ..) fun j hj => List.getElem?_set_ne (fun z => hj (by simp [z]))
theorem qws_nil : DQWs X B [] [] tqNil := by
  refine pgs_imp pgs_nil fun vs σ H Q ⟨ρ, M, F, A, ps, r, l, q⟩ => ?_
  cases ps with
  | nil => exact ⟨l.unnil, q σ r rfl fun _ _ => rfl⟩
  | cons d ds => exact q.elim
theorem qws_cons {es : List Expr} {is is2 : List Nat} {τ : TQ} {τs : TQs} (h1 : DQW X B is e τ) (h2 : DQWs X B is2 es τs)
    (hs : (assignEach (e :: es) X.env).map (·.2) = assign e X.env :: (assignEach es X.env).map (·.2) := by rfl) : DQWs X B (is ++ is2) (e :: es) (tqCons τ τs) := by
  refine pgs_imp (pgs_cons h1 h2 hs) fun vs σ H Q ⟨ρ, M, F, A, ps, r, l, q⟩ => ?_
  cases ps with
  | nil => exact q.elim
  | cons d ds =>
    obtain ⟨v, vr, rfl, i, t⟩ := (show IsL X.K F vs (d.at A :: ds.map (P.at A)) from l).uncons
    refine ⟨v, vr, rfl, ρ, M, F, A, d, r, i, ?_⟩
    have q' : match (τ d ρ).bind fun ρ1 => τs ds ρ1 with
      | some ρ' => ∀ σ', RepQ X.K B ρ' M σ' F H A → σ'.length = σ.length → (∀ j, j ∉ is ++ is2 → σ'[j]? = σ[j]?) → Q σ' H
      | none => False := q
    cases z : τ d ρ with
    | none => rw [z] at q'; exact q'.elim
    | some ρ1 =>
      rw [z] at q'
      intro σ1 r1 l1 k1
      refine ⟨ρ1, M, F, A, ds, r1, t, ?_⟩
      have q2 : match τs ds ρ1 with
        | some ρ' => ∀ σ', RepQ X.K B ρ' M σ' F H A → σ'.length = σ.length → (∀ j, j ∉ is ++ is2 → σ'[j]? = σ[j]?) → Q σ' H
        | none => False := q'
      cases z2 : τs ds ρ1 with
      | none => rw [z2] at q2; exact q2.elim
      | some ρ2 =>
        rw [z2] at q2
        exact fun σ2 r2 l2 k2 => q2 σ2 r2 (l2.trans l1) fun j hj => (k2 j fun z => hj (List.mem_append_right _ z)).trans (k1 j fun z => hj (List.mem_append_left _ z))
theorem qw_tup {es : List Expr} {is : List Nat} {τs : TQs} {k : Nat} {n : Nat} (hc : X.calm = true) (h : DQWs X B is es τs)
    (hn : (assignEach es X.env).length = n := by rfl) (hst : (assignEach es X.env).findIdx? (·.1) = none := by rfl) : DQW X B is (.Tuple es k pos) (tqTup n τs) := by
  refine pg_imp (pg_tup hc h hn hst) fun v σ H Q ⟨ρ, M, F, A, p, r, i, q⟩ => ?_
  obtain ⟨b, d⟩ := p
  cases d with
  | tup ds =>
    obtain ⟨a, xs, rfl, hp, l⟩ := at_tup i
    have q' : match (if ds.length = n then τs (ds.map fun d => (b, d)) ρ else none) with
      | some ρ' => ∀ σ', RepQ X.K B ρ' M σ' F H A → σ'.length = σ.length → (∀ j, j ∉ is → σ'[j]? = σ[j]?) → Q σ' H
      | none => False := q
    by_cases hd : ds.length = n
    · rw [if_pos hd] at q'
      exact ⟨a, xs, rfl, sameT r.cl.fh hp, by rw [l.1]; simpa using hd, ρ, M, F, A, _, r, l, q'⟩
    · rw [if_neg hd] at q'
      exact q'.elim
  | _ => exact q.elim
end
def lcQ (τ : TQ) (ge : GQ) (ρ : RhoQ) : List D → Mem → RQ (List P)
  | [], M => .ok [] M
  | d :: ds, M => match τ (false, d) ρ with
    | some ρ1 => (ge ρ1 M).bind fun q M1 => (lcQ τ ge ρ ds M1).bind fun qs M2 => .ok (q :: qs) M2
    | none => .st
def lcEnd (r : RQ (List P)) : RQ P := match r with
  | .ok ps M => .ok (true, .loc M.length) (M ++ [(ps.any fun p => p.1, .list (ps.map fun p => p.2))])
  | _ => .st
def qLcE (gi : Rho → R (List D)) (vs : List Nat) (τ : TQ) (ge : GQ) : GQ := fun ρ M => match gi (clR ρ) with
  | .ok items => if items.length ≤ sizeLine then lcEnd (lcQ τ ge (wipeQ ρ vs) items M) else .st
  | .ex x => .ex x M
  | .st => .st
theorem islp_up2 {K : PySem.W.Frag} {F F' : Hp} {A A' : List Addr} {vs : List V} {ps : List P} (l : IsLP K F A vs ps) (s : Same F F') (e : ∃ t, A' = A ++ t) : IsLP K F' A' vs ps := by
  obtain ⟨t, rfl⟩ := e
  refine ⟨by have := l.1; simp only [List.length_map] at this ⊢; exact this, fun q v' d' a1 a2 => ?_⟩
  rw [List.getElem?_map] at a2
  obtain ⟨q', hq', rfl⟩ := Option.map_eq_some_iff.mp a2
  exact P.mono (l.2 q v' _ a1 (by rw [List.getElem?_map, hq']; rfl)) s
section
variable {X : Cx} {B : QB} {W : WX} {pos : Pos} {iter tg elt : Expr} {gi : Rho → R (List D)} {τ : TQ} {ge : GQ}
theorem lcE_sem {is vs : List Nat} (hv : ∀ i ∈ is, i ∈ vs) (σ : L2.St) (H : Hp) (Q : VK) (h : tSemQ X.K B W (qLcE gi vs τ ge) σ H Q) :
    tLc (fun σ H Q => ∃ Fb Hb, tSemI X.K ⟨Fb, []⟩ Hb [] W gi σ H Q) (tSemGW X.K B is τ) tYes (tSemQ X.K B W0 ge) vs σ H Q := by
  obtain ⟨ρ, M, F, A, r, h⟩ := h
  unfold qLcE at h
  refine ⟨F, H, clR ρ, F, r.clean, ?_⟩
  cases z : gi (clR ρ) with
  | ex x =>
    rw [z] at h
    exact fun cls od F' H' y i => let ⟨a, b⟩ := ExtQ.pure r.cl y; h cls od F' H' A a b i
  | st => rw [z] at h; exact h.elim
  | ok items =>
    rw [z] at h
    intro J F1 H1 x1 y1 Dn hD
    have h1 : afterQ X.K W σ F H A (if items.length ≤ sizeLine then lcEnd (lcQ τ ge (wipeQ ρ vs) items M) else .st) Q := h
    by_cases hz : items.length ≤ sizeLine
    case neg => rw [if_neg hz] at h1; exact h1.elim
    rw [if_pos hz] at h1
    unfold lcEnd at h1
    cases e : lcQ τ ge (wipeQ ρ vs) items M with
    | ex x M1 => rw [e] at h1; exact h1.elim
    | st => rw [e] at h1; exact h1.elim
    | ok ys Me =>
      rw [e] at h1
      have h2 : afterQ X.K W σ F H A (.ok (true, .loc Me.length) (Me ++ [(ys.any fun p => p.1, .list (ys.map fun p => p.2))])) Q := h1
      obtain ⟨ex1, c1⟩ := ExtQ.pure r.cl x1
      have x0 := ExtQ.pure c1 (Ext.laid' (o := .lst []) c1.fh hD)
      have fD1 : F1 Dn = none := c1.fh.free hD
      have nA1 : Dn ∉ A := fun hm => by
        obtain ⟨j, hj⟩ := List.getElem?_of_mem hm
        have hl := (List.getElem?_eq_some_iff.mp hj).1
        obtain ⟨q, hq⟩ : ∃ q, M[j]? = some q := ⟨_, List.getElem?_eq_getElem (by rw [← c1.len]; exact hl)⟩
        obtain ⟨a', u, e1, e2, _⟩ := c1.at_ j q hq
        rw [hj] at e1
        cases e1
        rw [hD] at e2
        cases e2
      refine ⟨fun j mm Hc => ∃ Fc Ac acc done rest Mc, ExtQ F1 H1 A Fc Hc Ac ∧ Cells X.K Fc Hc Ac Mc ∧ Fc Dn = none ∧ Dn ∉ Ac ∧ Hc Dn = some (.lst acc) ∧ IsLP X.K Fc Ac acc done ∧ done.length ≤ j ∧ lcQ τ ge (wipeQ ρ vs) (items.drop j) Mc = .ok rest Me ∧ done ++ rest = ys ∧ j ≤ items.length ∧ mm = items.length - j,
        ⟨items.length, ?_⟩, ?_⟩
      · exact ⟨F1, A, [], [], ys, M, x0.1, x0.2, fD1, nA1, upd_same, .nil, Nat.le_refl _, e, rfl, Nat.zero_le _, rfl⟩
      rintro j mm Hc ⟨Fc, Ac, acc, done, rest, Mc, xc, cc, fD, nA, hDc, ic, dl, ec, ey, hj, rfl⟩
      have yc := y1 j Fc Hc xc.ff cc.fh
      by_cases hlt : j < items.length
      · obtain ⟨go, yld⟩ := yc.1 hlt
        refine .inr ⟨go, fun Hn => ∃ Fc Ac acc done rest Mc, ExtQ F1 H1 A Fc Hn Ac ∧ Cells X.K Fc Hn Ac Mc ∧ Fc Dn = none ∧ Dn ∉ Ac ∧ Hn Dn = some (.lst acc) ∧ IsLP X.K Fc Ac acc done ∧ done.length ≤ j + 1 ∧ lcQ τ ge (wipeQ ρ vs) (items.drop (j + 1)) Mc = .ok rest Me ∧ done ++ rest = ys,
          fun Hn ⟨Fc, Ac, acc, done, rest, Mc, q1, q2, q3, q4, q5, q6, q7, q8, q9⟩ => ⟨items.length - (j + 1), by omega, Fc, Ac, acc, done, rest, Mc, q1, q2, q3, q4, q5, q6, q7, q8, q9, hlt, rfl⟩, fun y Hy yy => ?_⟩
        obtain ⟨F2, d, hd, xe, ix⟩ := yld y Hy yy
        have ed : items.drop j = d :: items.drop (j + 1) := by
          rw [List.drop_eq_getElem_cons hlt]
          rw [List.getElem?_eq_getElem hlt] at hd
          rw [Option.some.inj hd]
        rw [ed] at ec
        obtain ⟨e2, c2⟩ := ExtQ.pure cc xe
        have n2 := e2.nw Dn (by rw [hDc]; simp) fD nA
        have hD2 : Hy Dn = some (.lst acc) := e2.hh _ _ hDc nA
        have r2 := ((r.to ex1 c1).to (xc.trans cc e2) c2).wipe vs
        refine ⟨wipeQ ρ vs, Mc, F2, Ac, (false, d), r2, ix, ?_⟩
        have ec2 : (match τ (false, d) (wipeQ ρ vs) with
          | some ρ1 => (ge ρ1 Mc).bind fun q M1 => (lcQ τ ge (wipeQ ρ vs) (items.drop (j + 1)) M1).bind fun qs M2 => .ok (q :: qs) M2
          | none => .st) = .ok rest Me := ec
        cases z1 : τ (false, d) (wipeQ ρ vs) with
        | none => rw [z1] at ec2; cases ec2
        | some ρ1 =>
          rw [z1] at ec2
          intro σ1 r3 l3 k3
          refine ⟨wipe_same (by rw [l3, wipe_length]) fun q hq => k3 q fun z => hq (hv q z), ?_⟩
          unfold tYes
          dsimp only
          rw [if_pos rfl]
          refine ⟨ρ1, Mc, F2, Ac, r3, ?_⟩
          have ec3 : ((ge ρ1 Mc).bind fun q M1 => (lcQ τ ge (wipeQ ρ vs) (items.drop (j + 1)) M1).bind fun qs M2 => .ok (q :: qs) M2) = .ok rest Me := ec2
          cases z2 : ge ρ1 Mc with
          | ex x M1 => rw [z2] at ec3; cases ec3
          | st => rw [z2] at ec3; cases ec3
          | ok q M1 =>
            rw [z2] at ec3
            have ec4 : ((lcQ τ ge (wipeQ ρ vs) (items.drop (j + 1)) M1).bind fun qs M2 => RQ.ok (q :: qs) M2) = .ok rest Me := ec3
            cases z3 : lcQ τ ge (wipeQ ρ vs) (items.drop (j + 1)) M1 with
            | ex x M2 => rw [z3] at ec4; cases ec4
            | st => rw [z3] at ec4; cases ec4
            | ok qs M2 =>
              rw [z3] at ec4
              injection ec4 with ec5 ec6
              subst ec6
              intro w F4 H4 A4 x4 c4 iw
              have n4 := x4.nw Dn (by rw [hD2]; simp) n2.1 n2.2
              have hD4 : H4 Dn = some (.lst acc) := x4.hh _ _ hD2 n2.2
              have i4 : IsLP X.K F4 A4 acc done := islp_up2 (islp_up2 ic e2.ff ⟨[], by simp⟩) x4.ff x4.pre
              have la : acc.length = done.length := by
                have := i4.1
                rw [List.length_map] at this
                exact this
              have x5 := (xc.trans cc e2).trans c2 x4
              refine ⟨acc, hD4, by omega, F4, A4, acc ++ [w], done ++ [q], qs, M1, ⟨x5.ff, x5.pre, fun u o e n => ?_, fun q m ob u e => by rw [upd_ne (ne_of_none e hD)]; exact x5.fz q m ob u e, fun u e f n => x5.nw u e f n⟩, c4.wr n4.1 n4.2, n4.1, n4.2, upd_same, ?_, by rw [List.length_append]; simp only [List.length_cons, List.length_nil]; omega, z3, by rw [List.append_assoc, List.singleton_append, ec5]; exact ey⟩
              · rw [upd_ne (ne_of_none e hD)]
                exact x5.hh u o e n
              · show IsL X.K F4 (acc ++ [w]) ((done ++ [q]).map (P.at A4))
                rw [List.map_append]
                exact IsL.append i4 (.cons iw .nil)
      · have ej : j = items.length := by omega
        subst ej
        rw [List.drop_length] at ec
        have ec' : RQ.ok ([] : List P) Mc = .ok rest Me := ec
        injection ec' with er em
        subst er em
        rw [List.append_nil] at ey
        subst ey
        refine .inl ⟨yc.2 (Nat.le_refl _), ?_⟩
        have c5 := ExtQ.alloc (q := (done.any (fun p => p.1), .list (done.map fun p => p.2))) cc hDc fD nA (isC_list (islp_any (b := done.any fun p => p.1) ic fun q hq hb => List.any_eq_true.mpr ⟨q, hq, hb⟩))
        have xt := ex1.trans c1 xc
        refine h2 (.ref Dn) Fc Hc (Ac ++ [Dn]) ⟨xt.ff, ?_, xt.hh, xt.fz, fun u hu fu nu => ?_⟩ c5 ?_
        · obtain ⟨t, et⟩ := xt.pre
          exact ⟨t ++ [Dn], by rw [et, List.append_assoc]⟩
        · obtain ⟨z1, z2⟩ := xt.nw u hu fu nu
          refine ⟨z1, fun m => ?_⟩
          rcases List.mem_append.mp m with m | m
          · exact z2 m
          · simp at m
            subst m
            refine hu ?_
            cases q : H u with
            | none => rfl
            | some o =>
              rw [x1.hh _ _ q] at hD
              cases hD
        · show Is X.K Fc (.ref Dn) (match (Ac ++ [Dn])[Mc.length]? with | some a => .adr a | none => .loc Mc.length)
          rw [← cc.len, List.getElem?_append_right (Nat.le_refl _), Nat.sub_self]
          exact .adr Dn
theorem qs_setLcE (j : Nat) {is : List Nat} {y : Str} {py spos : Pos} {scope : Scope} {own : List (Str × Nat)} (hc : X.calm = true) (hN : X.N.Nodup) (hi : ∀ Fb Hb : Hp, DI X ⟨Fb, []⟩ Hb [] W tg iter gi) (ok : blkC X.N X.env.scope scope own = true)
    (hg : ∀ (s : Shared) (H : Hp) (C : Addr) (cl : List (Str × Addr)) (fp : List Addr), DQW (X.blk s H scope (compEnvC scope cl C X.env) fp) B is tg τ)
    (he : ∀ (s : Shared) (H : Hp) (C : Addr) (cl : List (Str × Addr)) (fp : List Addr), DQ (X.blk s H scope (compEnvC scope cl C X.env) fp) B W0 elt ge) (hv : ∀ i ∈ is, i ∈ own.map (·.2))
    (hy : X.N[j]? = some y := by rfl) (hyl : X.env.scope.names.lookup y = some .local := by rfl) (hsw : swapsWith (.ListComp elt [⟨tg, iter, [], 0⟩] scope pos) (some (.Name y py)) spos.line X.env = pure true := by exact sw_true rfl rfl rfl (by decide +kernel)) (hs : ∀ x, foldedSetIterable iter X.env x = pure x := by intro _; rfl) :
    DQS X B W (.Assign [.Name y py] (.ListComp elt [⟨tg, iter, [], 0⟩] scope pos) spos) (sqSet j (qLcE gi (own.map (·.2)) τ ge)) := by
  refine ps_imp (ps_setLc (g := tSemGW X.K B is τ) (tt := tYes) (te := tSemQ X.K B W0 ge) hc hN hy hyl hsw (pi_some hi) (blkOk_by ok) hg (fun s H C cl fp => pts_nil) he hs) fun E σ H ⟨ρ, M, F, A, r, h⟩ => ?_
  exact lcE_sem hv σ H _ (semQS (k := fun p M => .nx (ρ.set j (some p)) M) r h fun p M1 v F1 H1 A1 i1 r1 x1 h1 => h1 _ F1 H1 A1 (r1.set j i1) .refl)
end
section
variable {X : Cx} {B : QB} {W : WX} {pos : Pos} {a b e : Expr} {ga gb : GQ} {g : Rho → R D}
def qNewS (g : Rho → R D) : GQ := fun ρ M => match g (snR M ρ) with
  | .ok (.list ds) => if D.offAll (tagsM M) ds = true then .ok (true, .loc M.length) (M ++ [(false, .list ds)]) else .st
  | _ => .st
theorem q_newS (h : ∀ Fb Hb : Hp, DN X ⟨Fb, []⟩ Hb [] W e g) : DQ X B W e (qNewS g) := by
  refine pe_imp (pe_some h) fun σ H Q ⟨ρ, M, F, A, r, q⟩ => ⟨frzF F H A, H, snR M ρ, frzF F H A, r.snap, ?_⟩
  unfold qNewS at q
  cases z : g (snR M ρ) with
  | ex x => rw [z] at q; exact q.elim
  | st => rw [z] at q; exact q.elim
  | ok d =>
    rw [z] at q
    cases d with
    | list ds =>
      have q' : afterQ X.K W σ F H A (if D.offAll (tagsM M) ds = true then .ok (true, .loc M.length) (M ++ [(false, .list ds)]) else .st) Q := q
      by_cases hz : D.offAll (tagsM M) ds = true
      · rw [if_pos hz] at q'
        intro p o F' H' x e1 c f n
        cases o with
        | lst xs =>
          obtain ⟨ea, ca, back, _⟩ := snap_back r.cl x
          have nA : p ∉ A := r.cl.fresh n
          have oA : OffA (tagsM M) A H' := fun a m => by
            obtain ⟨o, e, q⟩ := offA_of r.cl a m
            exact ⟨o, x.hh a o e, q⟩
          have lc : IsL X.K (unA F' A) xs ds := isL_off oA x.fh ds xs c hz
          have fp : unA F' A p = none := by
            unfold unA
            rw [if_neg nA]
            exact f
          have c2 := ExtQ.alloc (q := (false, .list ds)) (o := .lst xs) ca e1 fp nA (show IsC X.K (unA F' A) (.lst xs) (.list ds) from lc)
          refine q' (.ref p) _ H' (A ++ [p]) ⟨ea.ff, ⟨[p], rfl⟩, ea.hh, ea.fz, fun u hu fu nu => ?_⟩ c2 ?_
          · obtain ⟨z1, z2⟩ := ea.nw u hu fu nu
            exact ⟨z1, fun m => by
              rcases List.mem_append.mp m with m | m
              · exact z2 m
              · simp at m; subst m; exact hu n⟩
          · show Is X.K _ (.ref p) (match (A ++ [p])[M.length]? with | some a => .adr a | none => .loc M.length)
            rw [← r.cl.len, List.getElem?_append_right (Nat.le_refl _), Nat.sub_self]
            exact .adr p
        | _ => exact c.elim
      · rw [if_neg hz] at q'
        exact q'.elim
    | _ => exact q.elim
end
end Pd
set_option maxHeartbeats 1000000
namespace Pd
open PySem PySem.Spec PyProof.Rows L2
section
variable {K : PySem.W.Frag} {F H : Hp} {A : List Addr} {M : Mem} {κ : Type}
theorem at_false {fs : List (κ × D)} : (fs.map fun q => (q.1, P.at A (false, q.2))) = fs := by
  have : (fun q : κ × D => (q.1, P.at A (false, q.2))) = id := rfl
  rw [this, List.map_id]
/-- a dict at a number -/
theorem cell_dict {k : Nat} {a : Addr} {b lk : Bool} {kvs : List (Key × D)} (c : Cells K F H A M) (eM : M[k]? = some (b, .dict lk kvs)) (ea : A[k]? = some a) :
    ∃ o xs, H a = some o ∧ (match lk with | false => o = .dK xs | true => ∃ ob, o = .frz ob (.dK xs)) ∧ IsK K F xs (kvs.map fun q => (q.1, P.at A (b, q.2))) := by
  obtain ⟨a', o, e1, e2, e3⟩ := c.at_ k _ eM
  rw [ea] at e1
  cases e1
  have key : ∀ ds : List (Key × D), IsC K F o (.dict lk ds) → ∃ o xs, H a = some o ∧ (match lk with | false => o = .dK xs | true => ∃ ob, o = .frz ob (.dK xs)) ∧ IsK K F xs ds := fun ds i => by
    cases o with
    | dK xs =>
      obtain ⟨i1, i2⟩ := i
      subst i1
      exact ⟨_, xs, e2, rfl, i2⟩
    | frz ob u =>
      obtain ⟨i1, xs, i3, i2⟩ := i
      subst i1 i3
      exact ⟨_, xs, e2, ⟨ob, rfl⟩, i2⟩
    | _ => exact i.elim
  cases b with
  | false =>
    rw [at_false]
    exact key kvs e3
  | true =>
    have := key (D.subK A kvs) e3
    rw [subK_map] at this
    exact this
theorem isC_dict {b : Bool} {xs : List (Key × V)} {kvs : List (Key × D)} (h : IsK K F xs (kvs.map fun q => (q.1, P.at A (b, q.2)))) : IsC K F (.dK xs) (P.at A (b, .dict false kvs)) := by
  cases b with
  | false =>
    rw [at_false] at h
    exact ⟨rfl, h⟩
  | true =>
    refine ⟨rfl, ?_⟩
    rw [subK_map]
    exact h
theorem isC_dictL {b : Bool} {ob : Obj} {xs : List (Key × V)} {kvs : List (Key × D)} (h : IsK K F xs (kvs.map fun q => (q.1, P.at A (b, q.2)))) : IsC K F (.frz ob (.dK xs)) (P.at A (b, .dict true kvs)) := by
  cases b with
  | false =>
    rw [at_false] at h
    exact ⟨rfl, xs, rfl, h⟩
  | true =>
    refine ⟨rfl, xs, rfl, ?_⟩
    rw [subK_map]
    exact h
end
end Pd
set_option maxHeartbeats 1000000
namespace Pd
open PySem PySem.Spec PyProof.Rows L2
structure UnX1 (P' : Program) (w : World) (K : PySem.W.Frag) (mg : Str → Option Value) (base : Heap) (k : Nat) (f : Addr) (ps : List Str) (fs : List Str) : Prop where
  ex : ∃ fd, FnOk P' w K mg base (L2.CX P' w) k f fd ps (spXI K fs) ∧ Binds K fd ps [] ∧ ∃ ds, Vals [.non] ds ∧ Binds K fd ps ds
structure UnX0 (P' : Program) (w : World) (K : PySem.W.Frag) (mg : Str → Option Value) (base : Heap) (k : Nat) (f : Addr) (ps : List Str) (fs : List Str) : Prop where
  ex : ∃ fd, FnOk P' w K mg base (L2.CX P' w) k f fd ps (spXI K fs) ∧ Binds K fd ps []
structure UnF1 (P' : Program) (w : World) (K : PySem.W.Frag) (mg : Str → Option Value) (base : Heap) (k : Nat) (f : Addr) (ps : List Str) (G : List D → R D) : Prop where
  ex : ∃ fd, FnOk P' w K mg base (L2.CX P' w) k f fd ps (spD K G) ∧ Binds K fd ps [] ∧ PySem.W.keepIn K (.ref f) = true ∧ ∃ ds, Vals [.non] ds ∧ Binds K fd ps ds
section
variable {P' : Program} {w : World} {K : PySem.W.Frag} {mg : Str → Option Value} {base : Heap} {k j : Nat} {x qual c m : Str} {ps fs : List Str} {G : List D → R D} {GQ' : GF} {st : Stmt} {f : Addr}
theorem UnX0.full (h : UnX0 P' w K mg base k f ps fs) : UnX P' w K mg base k f ps fs [] := by
  obtain ⟨fd, a, b⟩ := h.ex
  exact ⟨fd, [], [], a, b, .nil, fun _ => .nil⟩
theorem UnX1.full (h : UnX1 P' w K mg base k f ps fs) : UnX P' w K mg base k f ps fs [] := by
  obtain ⟨fd, a, b, _⟩ := h.ex
  exact ⟨fd, [], [], a, b, .nil, fun _ => .nil⟩
theorem UnX1.dfl (h : UnX1 P' w K mg base k f ps fs) : UnX P' w K mg base k f ps fs [.non] := by
  obtain ⟨fd, a, _, ds, hv, b⟩ := h.ex
  exact ⟨fd, ds, [.non], a, b, hv, fun _ => IsL.cons .non .nil⟩
theorem UnF1.full (h : UnF1 P' w K mg base k f ps G) : UnF P' w K mg base k f ps G := by
  obtain ⟨fd, a, b, c, _⟩ := h.ex
  exact ⟨fd, a, b, c⟩
end
end Pd
set_option maxHeartbeats 1000000
namespace Pd
open PySem PySem.Spec PyProof.Rows L2
theorem takes_lock {X : Cx} {W : WX} {a : Addr} {od : Obj} {u : HO} (tk : Takes X W) (hn : ∀ o' u', X.H_0 a ≠ some (.frz o' u')) : Takes X (fun cls od' σ H' => H' a = some (.frz od u) ∧ W cls od' σ (upd H' a u)) :=
  fun u0 s' ⟨b, B, sI, pins, σ, H, cls, d', e, I, nb, up, sky, na, os, ag, w⟩ =>
    tk u0 s' ⟨b, B, sI, pins, σ, upd H a u, cls, d', e, I.unlock w.1 hn, nb, up, sky, (by rw [upd_ne (fun z => by rw [z, w.1] at na; cases na)]; exact na), os, ag, w.2⟩
def lkP : P → P
  | (b, .dict false kvs) => (b, .dict true kvs)
  | p => p
def unlkM (k : Nat) (M : Mem) : Option Mem := match M[k]? with
  | some (b, .dict true kvs) => some (M.set k (b, .dict false kvs))
  | _ => none
def RQ.unlk {α : Type} (k : Nat) : RQ α → RQ α
  | .ok p M => (match unlkM k M with
    | some M' => .ok p M'
    | none => .st)
  | .ex x M => (match unlkM k M with
    | some M' => .ex x M'
    | none => .st)
  | .st => .st
def SQ.unlk (k : Nat) : SQ → SQ
  | .nx ρ M => (match unlkM k M with
    | some M' => .nx ρ M'
    | none => .st)
  | .rt p M => (match unlkM k M with
    | some M' => .rt p M'
    | none => .st)
  | .bk ρ M => (match unlkM k M with
    | some M' => .bk ρ M'
    | none => .st)
  | .ct ρ M => (match unlkM k M with
    | some M' => .ct ρ M'
    | none => .st)
  | .ex x ρ M => (match unlkM k M with
    | some M' => .ex x ρ M'
    | none => .st)
  | .st => .st
section
variable {K : PySem.W.Frag} {F H F2 H2 : Hp} {A A2 : List Addr} {M M2 M3 : Mem} {k : Nat} {a : Addr} {b : Bool} {kvs : List (Key × D)} {xs : List (Key × V)} {od : Obj}
theorem lock_cell (c : Cells K F H A M) (ea : A[k]? = some a) (ha : H a = some (.dK xs)) (ik : IsK K F xs (kvs.map fun q => (q.1, P.at A (b, q.2)))) :
    ExtQ F H A F (upd H a (.frz od (.dK xs))) A ∧ Cells K F (upd H a (.frz od (.dK xs))) A (M.set k (b, .dict true kvs)) := ExtQ.put (q := (b, .dict true kvs)) c ea (isC_dictL ik) ha
theorem unlock_cell (ea : A[k]? = some a) (ha : H a = some (.dK xs)) (x : ExtQ F (upd H a (.frz od (.dK xs))) A F2 H2 A2) (c : Cells K F2 H2 A2 M2) (u : unlkM k M2 = some M3) :
    H2 a = some (.frz od (.dK xs)) ∧ ExtQ F H A F2 (upd H2 a (.dK xs)) A2 ∧ Cells K F2 (upd H2 a (.dK xs)) A2 M3 := by
  have mA : a ∈ A := List.mem_iff_getElem?.mpr ⟨k, ea⟩
  have h2 : H2 a = some (.frz od (.dK xs)) := x.fz a mA _ _ upd_same
  have ea2 : A2[k]? = some a := by
    obtain ⟨t, e⟩ := x.pre
    rw [e, List.getElem?_append_left (List.getElem?_eq_some_iff.mp ea).1]
    exact ea
  refine ⟨h2, ⟨x.ff, x.pre, fun p o hp n => ?_, fun p m ob u hp => ?_, fun p hp fp n => ?_⟩, ?_⟩
  · have np : p ≠ a := fun z => n (z ▸ mA)
    rw [upd_ne np]
    exact x.hh p o (by rw [upd_ne np]; exact hp) n
  · have np : p ≠ a := fun z => by
      rw [z, ha] at hp
      cases hp
    rw [upd_ne np]
    exact x.fz p m ob u (by rw [upd_ne np]; exact hp)
  · have np : p ≠ a := fun z => n (z ▸ mA)
    exact x.nw p (by rw [upd_ne np]; exact hp) fp n
  · unfold unlkM at u
    split at u
    case h_2 => cases u
    rename_i b2 kvs2 e2
    cases u
    obtain ⟨o, xs2, z1, z2, z3⟩ := cell_dict c e2 ea2
    obtain ⟨ob, rfl⟩ := (show ∃ ob, o = .frz ob (.dK xs2) from z2)
    rw [h2] at z1
    cases z1
    exact c.put ea2 (isC_dict z3)
end
def qLk1 (k : Nat) (g : GQ) : GQ := fun ρ M => match M[k]? with
  | some (b, .dict false kvs) => (g ρ (M.set k (b, .dict true kvs))).unlk k
  | _ => g ρ M
section
variable {X : Cx} {B : QB} {W : WX} {e : Expr} {st : Stmt} {g : GQ} {gt : RhoQ → Mem → RQ Bool} {s : SQF}
theorem q_lk1 (k : Nat) (tk : Takes X W) (h : ∀ W', Takes X W' → DQ X B W' e g) : DQ X B W e (qLk1 k g) := by
  refine ⟨fun pins s0 σ H Q I ⟨ρ, M, F, A, r, q⟩ => ?_⟩
  unfold qLk1 at q
  split at q
  case h_2 => exact (h W tk).run pins s0 σ H Q I ⟨ρ, M, F, A, r, q⟩
  rename_i b kvs eM
  obtain ⟨a, o, ea, _, _⟩ := r.cl.at_ k _ eM
  obtain ⟨o', xs, ha, eo, ik⟩ := cell_dict r.cl eM ea
  cases (show o' = .dK xs from eo)
  obtain ⟨od, I1⟩ := I.lock ha trivial
  have hn := I.nofrz ha trivial
  obtain ⟨e1, c1⟩ := lock_cell (od := od) r.cl ea ha ik
  refine thn ((h _ (takes_lock tk (od := od) (u := .dK xs) hn)).run pins s0 σ _ (fun v H' => H' a = some (.frz od (.dK xs)) ∧ Q v (upd H' a (.dK xs))) I1 ⟨ρ, _, F, A, r.to e1 c1, ?_⟩) fun v s1 ⟨x, H1, I2, rr, e2, q2⟩ => ⟨x, _, I2.unlock e2 hn, rr, q2⟩
  cases z : g ρ (M.set k (b, .dict true kvs)) with
  | st => rw [z] at q; exact q
  | ok p M2 =>
    rw [z] at q
    intro v F2 H2 A2 x2 c2 i2
    have q' : afterQ X.K W σ F H A (match unlkM k M2 with
      | some M' => .ok p M'
      | none => .st) Q := q
    cases u : unlkM k M2 with
    | none => rw [u] at q'; exact q'.elim
    | some M3 =>
      rw [u] at q'
      obtain ⟨y1, y2, y3⟩ := unlock_cell ea ha x2 c2 u
      exact ⟨y1, q' v F2 _ A2 y2 y3 i2⟩
  | ex x M2 =>
    rw [z] at q
    intro cls od' F2 H2 A2 x2 c2 i2
    have q' : afterQ X.K W σ F H A (match unlkM k M2 with
      | some M' => .ex x M'
      | none => .st) Q := q
    cases u : unlkM k M2 with
    | none => rw [u] at q'; exact q'.elim
    | some M3 =>
      rw [u] at q'
      obtain ⟨y1, y2, y3⟩ := unlock_cell ea ha x2 c2 u
      exact ⟨y1, q' cls od' F2 _ A2 y2 y3 i2⟩
def qLkN : Nat → GQ → GQ
  | 0, g => g
  | n + 1, g => qLk1 n (qLkN n g)
theorem q_lkN (h : ∀ W', Takes X W' → DQ X B W' e g) : ∀ (n : Nat) (W : WX), Takes X W → DQ X B W e (qLkN n g)
  | 0, W, tk => h W tk
  | n + 1, W, tk => q_lk1 n tk fun W' tk' => q_lkN h n W' tk'
def lkN : Nat → Mem → Mem
  | 0, M => M
  | n + 1, M => lkN n (M.modify n lkP)
theorem lkN_at : ∀ (n : Nat) (M : Mem) (i : Nat), (lkN n M)[i]? = (M[i]?).map (if i < n then lkP else id)
  | 0, M, i => by
    rw [if_neg (Nat.not_lt_zero i), Option.map_id]
    rfl
  | n + 1, M, i => by
    show (lkN n (M.modify n lkP))[i]? = _
    rw [lkN_at n, List.getElem?_modify, Option.map_eq_map, Option.map_map]
    by_cases h : n = i
    · subst h
      rw [if_neg (Nat.lt_irrefl n), if_pos (Nat.lt_succ_self n)]
      simp
    · by_cases h1 : i < n
      · rw [if_pos h1, if_pos (by omega)]
        simp [h, Function.comp_def]
      · rw [if_neg h1, if_neg (by omega)]
        simp [h, Function.comp_def]
theorem lkN_all (M : Mem) : lkN M.length M = M.map lkP := by
  refine List.ext_getElem? fun i => ?_
  rw [lkN_at, List.getElem?_map]
  by_cases h : i < M.length
  · rw [if_pos h]
  · rw [List.getElem?_eq_none (by omega)]
    rfl
theorem modify_lk {n : Nat} {M : Mem} {b : Bool} {kvs : List (Key × D)} (h : M[n]? = some (b, .dict false kvs)) : M.modify n lkP = M.set n (b, .dict true kvs) := by
  refine List.ext_getElem? fun i => ?_
  rw [List.getElem?_modify, List.getElem?_set, Option.map_eq_map]
  by_cases e : n = i
  · subst e
    rw [if_pos rfl, if_pos (List.getElem?_eq_some_iff.mp h).1, h]
    simp [lkP]
  · simp [e]
theorem modify_no {n : Nat} {M : Mem} (h : ∀ b kvs, M[n]? ≠ some (b, .dict false kvs)) : M.modify n lkP = M := by
  refine List.ext_getElem? fun i => ?_
  rw [List.getElem?_modify, Option.map_eq_map]
  by_cases e : n = i
  · subst e
    cases z : M[n]? with
    | none => rfl
    | some p =>
      have : lkP p = p := by
        unfold lkP
        split
        · rename_i b kvs
          exact absurd z (h b kvs)
        · rfl
      simp [this]
  · simp [e]
theorem unlk_back {n : Nat} {M : Mem} {b : Bool} {kvs : List (Key × D)} (h : M[n]? = some (b, .dict false kvs)) : unlkM n (M.set n (b, .dict true kvs)) = some M := by
  have hl := (List.getElem?_eq_some_iff.mp h).1
  unfold unlkM
  rw [List.getElem?_set_self hl]
  show some ((M.set n (b, .dict true kvs)).set n (b, .dict false kvs)) = some M
  rw [List.set_set]
  congr 1
  refine List.ext_getElem? fun i => ?_
  rw [List.getElem?_set]
  by_cases e : n = i
  · subst e
    rw [if_pos rfl, if_pos hl, h]
  · rw [if_neg e]
end
end Pd
set_option maxHeartbeats 1000000
namespace Pd
open PySem PySem.Spec PyProof.Rows L2
def afterQT (K : PySem.W.Frag) (W : WX) (σ : L2.St) (F H : Hp) (A : List Addr) (r : RQ Bool) (Q : Bool → Hp → Prop) : Prop := match r with
  | .ok b M => ∀ F' H' A', ExtQ F H A F' H' A' → Cells K F' H' A' M → Q b H'
  | .ex x M => ExK K W σ F H A x M
  | .st => False
section
variable {K : PySem.W.Frag} {B : QB} {W : WX} {F H F1 H1 : Hp} {A A1 : List Addr} {M M1 : Mem} {ρ : RhoQ} {σ : L2.St}
theorem afterQT.ext {r : RQ Bool} {Q : Bool → Hp → Prop} (h : afterQT K W σ F H A r Q) (e : ExtQ F H A F1 H1 A1) (c : Cells K F1 H1 A1 M1) : afterQT K W σ F1 H1 A1 r Q := by
  cases r with
  | ok p M2 => exact fun F' H' A' y cy => h F' H' A' (e.trans c y) cy
  | ex x M2 => exact ExK.ext (M1 := M1) h e c
  | st => exact h
end
end Pd
set_option maxHeartbeats 1000000
set_option maxHeartbeats 1000000
namespace Pd
open PySem PySem.Spec PyProof.Rows L2
mutual
def D.low (n : Nat) : D → Bool
  | .list xs => D.lowAll n xs
  | .tup xs => D.lowAll n xs
  | .tpx xs => D.lowAll n xs
  | .dict _ xs => D.lowK n xs
  | .dictT xs => D.lowT n xs
  | .obj _ xs => D.lowF n xs
  | .loc k => decide (k < n)
  | _ => true
def D.lowAll (n : Nat) : List D → Bool
  | [] => true
  | d :: ds => D.low n d && D.lowAll n ds
def D.lowK (n : Nat) : List (Key × D) → Bool
  | [] => true
  | (_, d) :: ds => D.low n d && D.lowK n ds
def D.lowT (n : Nat) : List (List Key × D) → Bool
  | [] => true
  | (_, d) :: ds => D.low n d && D.lowT n ds
def D.lowF (n : Nat) : List (Str × D) → Bool
  | [] => true
  | (_, d) :: ds => D.low n d && D.lowF n ds
end
mutual
theorem sub_low {A t : List Addr} : ∀ (d : D), D.low A.length d = true → d.sub (A ++ t) = d.sub A
  | .non, _ => rfl
  | .bl _, _ => rfl
  | .int _, _ => rfl
  | .str _, _ => rfl
  | .exc _ _, _ => rfl
  | .adr _, _ => rfl
  | .list xs, h => congrArg D.list (subAll_low xs h)
  | .tup xs, h => congrArg D.tup (subAll_low xs h)
  | .tpx xs, h => congrArg D.tpx (subAll_low xs h)
  | .dict lk xs, h => congrArg (D.dict lk) (subK_low xs h)
  | .dictT xs, h => congrArg D.dictT (subT_low xs h)
  | .obj c xs, h => congrArg (D.obj c) (subF_low xs h)
  | .loc k, h => by
    have hk : k < A.length := of_decide_eq_true h
    show (match (A ++ t)[k]? with | some a => D.adr a | none => .loc k) = (match A[k]? with | some a => D.adr a | none => .loc k)
    rw [List.getElem?_append_left hk]
theorem subAll_low {A t : List Addr} : ∀ (ds : List D), D.lowAll A.length ds = true → D.subAll (A ++ t) ds = D.subAll A ds
  | [], _ => rfl
  | d :: ds, h => by
    have h' : (D.low A.length d && D.lowAll A.length ds) = true := h
    rw [Bool.and_eq_true] at h'
    show d.sub (A ++ t) :: D.subAll (A ++ t) ds = d.sub A :: D.subAll A ds
    rw [sub_low d h'.1, subAll_low ds h'.2]
theorem subK_low {A t : List Addr} : ∀ (ds : List (Key × D)), D.lowK A.length ds = true → D.subK (A ++ t) ds = D.subK A ds
  | [], _ => rfl
  | (k, d) :: ds, h => by
    have h' : (D.low A.length d && D.lowK A.length ds) = true := h
    rw [Bool.and_eq_true] at h'
    show (k, d.sub (A ++ t)) :: D.subK (A ++ t) ds = (k, d.sub A) :: D.subK A ds
    rw [sub_low d h'.1, subK_low ds h'.2]
theorem subT_low {A t : List Addr} : ∀ (ds : List (List Key × D)), D.lowT A.length ds = true → D.subT (A ++ t) ds = D.subT A ds
  | [], _ => rfl
  | (k, d) :: ds, h => by
    have h' : (D.low A.length d && D.lowT A.length ds) = true := h
    rw [Bool.and_eq_true] at h'
    show (k, d.sub (A ++ t)) :: D.subT (A ++ t) ds = (k, d.sub A) :: D.subT A ds
    rw [sub_low d h'.1, subT_low ds h'.2]
theorem subF_low {A t : List Addr} : ∀ (ds : List (Str × D)), D.lowF A.length ds = true → D.subF (A ++ t) ds = D.subF A ds
  | [], _ => rfl
  | (k, d) :: ds, h => by
    have h' : (D.low A.length d && D.lowF A.length ds) = true := h
    rw [Bool.and_eq_true] at h'
    show (k, d.sub (A ++ t)) :: D.subF (A ++ t) ds = (k, d.sub A) :: D.subF A ds
    rw [sub_low d h'.1, subF_low ds h'.2]
end
def P.low (n : Nat) (p : P) : Bool := !p.1 || D.low n p.2
theorem at_low {A t : List Addr} {p : P} (h : P.low A.length p = true) : p.at (A ++ t) = p.at A := by
  obtain ⟨b, d⟩ := p
  cases b with
  | false => rfl
  | true => exact sub_low d h
end Pd
set_option maxHeartbeats 1000000
namespace L2
open PySem PySem.Spec PyProof.Rows
end L2
set_option maxHeartbeats 1000000
namespace Pd
open PySem PySem.Spec PyProof.Rows L2
theorem at_cut {A : List Addr} {n : Nat} {p : P} (hn : n ≤ A.length) (h : P.low n p = true) : p.at A = p.at (A.take n) := by
  have e : p.at (A.take n ++ A.drop n) = p.at (A.take n) := at_low (by rw [List.length_take, Nat.min_eq_left hn]; exact h)
  rw [List.take_append_drop] at e
  exact e
theorem cut_drop {A : List Addr} (nd : A.Nodup) (n : Nat) {a : Addr} (h : a ∈ A.drop n) : a ∉ A.take n := fun m => by
  rw [← List.take_append_drop n A] at nd
  exact (List.nodup_append.mp nd).2.2 a m a h rfl
section
variable {K : PySem.W.Frag} {F H F' H' : Hp} {A A1 : List Addr} {M M1 : Mem} {n : Nat}
theorem Cells.cut (c : Cells K F H A M) (hn : n ≤ M.length) (hl : (M.take n).all (P.low n) = true) : Cells K F H (A.take n) (M.take n) := by
  have hA : n ≤ A.length := by rw [c.len]; exact hn
  refine ⟨c.fh, by rw [List.length_take, List.length_take, c.len], c.nd.sublist (List.take_sublist n A), fun a m => c.dj a (List.mem_of_mem_take m), fun k q hq => ?_⟩
  have hk : k < n := by
    have := (List.getElem?_eq_some_iff.mp hq).1
    rw [List.length_take] at this
    omega
  have hq' : M[k]? = some q := by rw [List.getElem?_take, if_pos hk] at hq; exact hq
  obtain ⟨a, o, e1, e2, e3⟩ := c.at_ k q hq'
  refine ⟨a, o, by rw [List.getElem?_take, if_pos hk]; exact e1, e2, ?_⟩
  rw [at_cut hA (List.all_eq_true.mp hl q (List.mem_of_getElem? hq))] at e3
  exact e3
/-- what was behind the first n cells, after a call that saw these alone -/
theorem Cells.uncut (c : Cells K F H A M) (hn : n ≤ M.length) (x : ExtQ F H (A.take n) F' H' A1) (c' : Cells K F' H' A1 M1) (hl : (M1.take n).all (P.low n) = true) :
    ExtQ F H A F' H' A ∧ Cells K F' H' A (M1.take n ++ M.drop n) := by
  have hA : n ≤ A.length := by rw [c.len]; exact hn
  have lt : (A.take n).length = n := by rw [List.length_take, Nat.min_eq_left hA]
  obtain ⟨t, e⟩ := x.pre
  have inH : ∀ a ∈ A, H a ≠ none := fun a m z => by
    obtain ⟨k, hk⟩ := List.mem_iff_getElem?.mp m
    obtain ⟨p, hp⟩ : ∃ p, M[k]? = some p := by
      have : k < M.length := by rw [← c.len]; exact (List.getElem?_eq_some_iff.mp hk).1
      exact ⟨M[k], by simp [this]⟩
    obtain ⟨a', o, e1, e2, _⟩ := c.at_ k p hp
    rw [hk] at e1
    cases e1
    rw [z] at e2
    cases e2
  have hm : ∀ a ∈ A, a ∈ A.take n ∨ a ∈ A.drop n := fun a m => by
    rw [← List.take_append_drop n A] at m
    exact List.mem_append.mp m
  have hM1 : n ≤ M1.length := by
    have := c'.len
    rw [e, List.length_append, lt] at this
    omega
  have lM : (M1.take n).length = n := by rw [List.length_take, Nat.min_eq_left hM1]
  refine ⟨⟨x.ff, ⟨[], by simp⟩, fun a o h na => x.hh a o h fun m => na (List.mem_of_mem_take m), fun a m ob u h => ?_, fun p hp fp np => ?_⟩, c'.fh, ?_, c.nd, fun a m => ?_, fun k q hq => ?_⟩
  · rcases hm a m with m | m
    · exact x.fz a m ob u h
    · exact x.hh a _ h (cut_drop c.nd n m)
  · exact ⟨(x.nw p hp fp fun m => np (List.mem_of_mem_take m)).1, np⟩
  · rw [List.length_append, lM, List.length_drop, c.len]
    omega
  · rcases hm a m with m | m
    · exact c'.dj a (by rw [e]; exact List.mem_append_left _ m)
    · exact (x.nw a (inH a (List.mem_of_mem_drop m)) (c.dj a (List.mem_of_mem_drop m)) (cut_drop c.nd n m)).1
  · by_cases hk : k < n
    · rw [List.getElem?_append_left (by rw [lM]; exact hk)] at hq
      have hq' : M1[k]? = some q := by rw [List.getElem?_take, if_pos hk] at hq; exact hq
      obtain ⟨a, o, e1, e2, e3⟩ := c'.at_ k q hq'
      rw [e, List.getElem?_append_left (by rw [lt]; exact hk), List.getElem?_take, if_pos hk] at e1
      refine ⟨a, o, e1, e2, ?_⟩
      have hq2 := List.all_eq_true.mp hl q (List.mem_of_getElem? hq)
      rw [e, at_low (by rw [lt]; exact hq2), ← at_cut hA hq2] at e3
      exact e3
    · rw [List.getElem?_append_right (by rw [lM]; omega), lM, List.getElem?_drop, show n + (k - n) = k by omega] at hq
      obtain ⟨a, o, e1, e2, e3⟩ := c.at_ k q hq
      refine ⟨a, o, e1, x.hh a o e2 fun m => ?_, ?_⟩
      · have md : a ∈ A.drop n := List.mem_iff_getElem?.mpr ⟨k - n, by rw [List.getElem?_drop, show n + (k - n) = k by omega]; exact e1⟩
        exact cut_drop c.nd n md m
      · have := P.monoC (t := []) e3 x.ff
        rwa [List.append_nil] at this
end
/-- the first n cells are seen, where they and the arguments name no others -/
def RQ.frame (n : Nat) (M : Mem) : RQ P → RQ P
  | .ok p M1 => if (P.low n p && (M1.take n).all (P.low n)) = true then .ok p (M1.take n ++ M.drop n) else .st
  | .ex x M1 => if (M1.take n).all (P.low n) = true then .ex x (M1.take n ++ M.drop n) else .st
  | .st => .st
def GF.frame (n : Nat) (G : GF) : GF := fun ps M =>
  if (decide (n ≤ M.length) && (ps.all (P.low n) && (M.take n).all (P.low n))) = true then (G ps (M.take n)).frame n M else .st
theorem vals_cut {K : PySem.W.Frag} {F : Hp} {A : List Addr} {n : Nat} (hn : n ≤ A.length) : ∀ {vs : List V} {ps : List P}, ps.all (P.low n) = true → IsLP K F A vs ps → IsLP K F (A.take n) vs ps := by
  intro vs ps h l
  unfold IsLP at l ⊢
  rwa [show ps.map (P.at (A.take n)) = ps.map (P.at A) from List.map_congr_left fun p hp => (at_cut hn (List.all_eq_true.mp h p hp)).symm]
theorem spQ_frame {K : PySem.W.Frag} {G : GF} {n : Nat} {vs : List V} {H : Hp} {Q : VK} {E : XK} (h : spQ K (G.frame n) vs H Q E) : spQ K G vs H Q E := by
  obtain ⟨ps, M, F, A, l, c, h⟩ := h
  unfold GF.frame at h
  by_cases z : (decide (n ≤ M.length) && (ps.all (P.low n) && (M.take n).all (P.low n))) = true
  · rw [if_pos z] at h
    simp only [Bool.and_eq_true, decide_eq_true_eq] at z
    have hA : n ≤ A.length := by rw [c.len]; exact z.1
    refine ⟨ps, M.take n, F, A.take n, vals_cut hA z.2.1 l, c.cut z.1 z.2.2, ?_⟩
    cases e : G ps (M.take n) with
    | ok p M1 =>
      rw [e] at h
      intro v F' H' A1 x c' i
      unfold RQ.frame at h
      dsimp only at h
      by_cases y : (P.low n p && (M1.take n).all (P.low n)) = true
      · rw [if_pos y] at h
        rw [Bool.and_eq_true] at y
        obtain ⟨x2, c2⟩ := c.uncut z.1 x c' y.2
        obtain ⟨t, et⟩ := x.pre
        refine h v F' H' A x2 c2 ?_
        rw [et, at_low (by rw [List.length_take, Nat.min_eq_left hA]; exact y.1), ← at_cut hA y.1] at i
        exact i
      · rw [if_neg y] at h
        exact h.elim
    | ex x0 M1 =>
      rw [e] at h
      intro cls od F' H' A1 x c' i
      unfold RQ.frame at h
      dsimp only at h
      by_cases y : (M1.take n).all (P.low n) = true
      · rw [if_pos y] at h
        obtain ⟨x2, c2⟩ := c.uncut z.1 x c' y
        exact h cls od F' H' A x2 c2 i
      · rw [if_neg y] at h
        exact h.elim
    | st =>
      rw [e] at h
      exact h
  · rw [if_neg z] at h
    exact h.elim
theorem UnQ.frame {P' : Program} {w : World} {K : PySem.W.Frag} {mg : Str → Option Value} {base : Heap} {k : Nat} {f : Addr} {ps : List Str} {G : GF} (n : Nat) (h : UnQ P' w K mg base k f ps G) : UnQ P' w K mg base k f ps (G.frame n) := by
  obtain ⟨fd, a, b⟩ := h.ex
  exact ⟨fd, a.imp fun vs H Q E z => spQ_frame z, b⟩
end Pd
set_option maxHeartbeats 1000000
namespace Pd
open PySem PySem.Spec PyProof.Rows L2 PySem.Froz
section
variable {P : Program} {w : World} {A : Around} {E : Value → Shared → Prop} {s : Shared}
/-- the texts met so far -/
def MetS (ks : List Str) (i : Nat) (l : List Str) : Prop := (∀ x, x ∈ l ↔ x ∈ ks.take i) ∧ l.length ≤ i
theorem take_one {ks : List Str} {i : Nat} {k : Str} (h : ks[i]? = some k) : ks.take (i + 1) = ks.take i ++ [k] := by
  rw [List.take_succ, h]
  rfl
theorem MetS.new {ks l : List Str} {i : Nat} {k : Str} (m : MetS ks i l) (h : ks[i]? = some k) : MetS ks (i + 1) (k :: l) := by
  refine ⟨fun x => ?_, Nat.succ_le_succ m.2⟩
  rw [take_one h, List.mem_append, List.mem_singleton, List.mem_cons, m.1 x]
  exact Or.comm
end
end Pd
set_option maxHeartbeats 3200000
set_option maxHeartbeats 1600000
set_option maxHeartbeats 1600000
set_option maxHeartbeats 1000000
namespace Pd
open PySem PySem.Spec PyProof.Rows L2
/-- a new list, its elements off what stands at numbers -/
def upN (L M : Mem) (r : R D) : RQ P := match r with
  | .ok (.list ds) => if D.offAll (tagsM L) ds = true then .ok (true, .loc M.length) (M ++ [(false, .list ds)]) else .st
  | _ => .st
theorem unlk_app {n : Nat} {M M' : Mem} {p : P} (h : unlkM n M = some M') (hn : n < M.length) : unlkM n (M ++ [p]) = some (M' ++ [p]) := by
  unfold unlkM at h ⊢
  rw [List.getElem?_append_left hn]
  split at h
  · rename_i b kvs e
    cases h
    rw [e]
    show some ((M ++ [p]).set n (b, .dict false kvs)) = _
    rw [List.set_append_left _ _ hn]
  · rename_i e1
    cases h
theorem upN_unlk {n : Nat} {L M : Mem} {b : Bool} {kvs : List (Key × D)} (h : M[n]? = some (b, .dict false kvs)) (r : R D) : (upN L (M.set n (b, .dict true kvs)) r).unlk n = upN L M r := by
  have hl := (List.getElem?_eq_some_iff.mp h).1
  unfold upN
  split
  · rename_i ds
    by_cases hd : D.offAll (tagsM L) ds = true
    · rw [if_pos hd, if_pos hd]
      show (match unlkM n _ with | some M' => RQ.ok _ M' | none => .st) = _
      rw [unlk_app (unlk_back h) (by rw [List.length_set]; exact hl), List.length_set]
    · rw [if_neg hd, if_neg hd]
      rfl
  · rfl
theorem lkN_newS (g : Rho → R D) : ∀ (n : Nat) (ρ : RhoQ) (M : Mem), qLkN n (qNewS g) ρ M = upN (lkN n M) M (g (snR (lkN n M) ρ))
  | 0, ρ, M => by
    show qNewS g ρ M = _
    unfold qNewS upN
    rfl
  | n + 1, ρ, M => by
    show qLk1 n (qLkN n (qNewS g)) ρ M = upN (lkN n (M.modify n lkP)) M _
    unfold qLk1
    split
    · rename_i b kvs eM
      rw [lkN_newS g n, ← modify_lk eM]
      rw [show lkN (n + 1) M = lkN n (M.modify n lkP) from rfl]
      have := upN_unlk (L := lkN n (M.modify n lkP)) eM (g (snR (lkN n (M.modify n lkP)) ρ))
      rw [← modify_lk eM] at this
      exact this
    · rename_i hno
      rw [lkN_newS g n]
      rw [show lkN (n + 1) M = lkN n (M.modify n lkP) from rfl, modify_no (fun b kvs z => hno b kvs z)]
def qNewSL (g : Rho → R D) : GQ := fun ρ M => upN (M.map lkP) M (g (snR (M.map lkP) ρ))
section
variable {X : Cx} {B : QB} {W : WX} {e : Expr}
theorem q_newSL {g : Rho → R D} (tk : Takes X W) (h : ∀ W, Takes X W → ∀ Fb Hb : Hp, DN X ⟨Fb, []⟩ Hb [] W e g) : DQ X B W e (qNewSL g) := by
  refine ⟨fun pins s0 σ H Q I ⟨ρ, M, F, A, r, q⟩ => ?_⟩
  refine (q_lkN (fun W' tk' => q_newS (h W' tk')) M.length W tk).run pins s0 σ H Q I ⟨ρ, M, F, A, r, ?_⟩
  rw [lkN_newS, lkN_all]
  exact q
end
end Pd
set_option maxHeartbeats 1000000
set_option maxHeartbeats 1000000
set_option maxHeartbeats 4000000
set_option maxHeartbeats 4000000
set_option maxHeartbeats 4000000
set_option maxHeartbeats 4000000
namespace Pd
open PySem PySem.Spec PyProof.Rows L2
section
variable {X : Cx}
theorem call_tuple_x : CallR X (.type "tuple") (fun xs H Q => ∃ p ys, xs = [.ref p] ∧ SqL X.K H p ys ∧ ∀ (l : Addr) (o : Obj), o.cls = .type "tuple" → o.dict = none → H l = none → Q (.ref l) (upd H l (.frz o (.tup ys)))) := by
  intro pins s σ H xs us Q I r h
  obtain ⟨p, ys, rfl, hq, q⟩ := h
  obtain ⟨u, rfl, rx⟩ := vals1 r
  cases rx
  obtain ⟨its, r', pl, hz⟩ := I.list hq
  have hlen := r'.length
  have hn := line63
  refine call_tuple_list pl.isList (fun h' kp => ?_) (by simp only [List.size_toArray] <;> omega)
  have I1 : Inv X pins σ H { s with heap := h' } := I.kept (t' := s.toks) kp
  have I2 : Inv X pins σ (upd H h'.objs.size (.frz { cls := .type "tuple", data := .seq its.toArray } (.tup ys))) { s with heap := h'.push { cls := .type "tuple", data := .seq its.toArray } } :=
    I1.laid (t' := s.toks) (fun b o e => Heap.get?_push_of_some _ e) (Nat.le_refl _) (show ObjOk X.prog X.w _ _ _ (.frz _ (.tup ys)) from ⟨Heap.get?_push_size _ rfl, hz, its, r', IsTup.new _ _⟩)
  exact ⟨.ref h'.objs.size, _, I2, rfl, q _ _ rfl rfl (I1.hok.fresh (Nat.le_refl _))⟩
/-- a known tuple's method -/
def tBX (r : V → List V → Hp → VK → Prop) (to : TE) (t : TA) : TE := fun σ H Q => to σ H fun x H1 => (∃ p xs, x = .ref p ∧ TpX H1 p xs) ∧ t σ H1 fun xs H2 => r x xs H2 Q
variable {o e : Expr} {es : List Expr} {to : TE} {t : TA} {name : Str} {apos cpos : Pos} {id : String} {r : V → List V → Hp → VK → Prop}
theorem pe_bmX (pa : PlainAttrs "tuple") (slot : Slot "tuple" name id) (hty : typeOf (.builtin id) = pure (.type "method_descriptor")) (hm : MtR X id r) (ho : PE X o to) (ha : PA X (e :: es) t)
    (hbase : attributeBase o name X.env (eval o X.env) = eval o X.env := by rfl)
    (hfew : ((backTo cpos (starEach (e :: es) X.env)).all (fun x => !x.1) && (backToKw cpos (keywordEach [] X.env)).all (fun x => x.1.isSome)
      && decide ((e :: es).length + ([] : List Keyword).length + (if ([] : List Keyword).isEmpty then 0 else 1) < 30)) = true := by rfl)
    (hline : (apos.endLine == cpos.line) = true := by rfl) (hs : starEach (e :: es) X.env = (false, eval e X.env) :: starEach es X.env := by rfl) (hplain : (backTo cpos (starEach es X.env)).any (·.1) = false := by rfl) :
    PE X (.Call (.Attribute o name apos) (e :: es) [] cpos) (tBX r to t) := by
  refine ⟨fun pins s σ H Q I h => ?_⟩
  refine wpAny_Call_method_late hbase hfew hline rfl (thn (ho.run pins s σ H _ I h) fun v s1 ⟨x, H1, I1, r1, ty, q1⟩ => ?_)
  obtain ⟨p, xs, rfl, ob, e1, e2, e3⟩ := ty
  cases r1
  have hob : s1.heap.get? p = some ob := (I1.hok p _ e1).1
  refine ⟨"tuple", id, pa, slot, hty, ⟨ob, hob, e2⟩, (fun a z => by cases z; exact ⟨ob, hob, e3⟩), ?_⟩
  have hA := ha.run cpos pins s1 σ H1 _ I1 q1
  rw [hs] at hA ⊢
  refine Calls.callWith_builtin (by show (false || (backTo cpos (starEach es X.env)).any (·.1)) = false; rw [hplain] <;> rfl) (Calls.evalArgs_plain ?_)
  exact thn hA fun us s2 ⟨vs, H2, I2, r2, q2⟩ => hm pins s2 σ H2 (.ref p) vs _ us Q I2 rfl r2 q2
end
def tupXD : List D → R D
  | [.list ds] => .ok (.tpx ds)
  | _ => .st
theorem c_tupX {K : PySem.W.Frag} : CallD K tupXD (fun xs H Q => ∃ p ys, xs = [.ref p] ∧ SqL K H p ys ∧ ∀ (l : Addr) (o : Obj), o.cls = .type "tuple" → o.dict = none → H l = none → Q (.ref l) (upd H l (.frz o (.tup ys)))) := by
  intro W σ F H ds vs Q s l q
  match ds, l, q with
  | [.list es], l, q =>
    obtain ⟨v, rfl, i⟩ := one_of l
    obtain ⟨a, xs, rfl, h, t⟩ := i.list_inv
    refine ⟨a, xs, rfl, s.seq h, fun p o h1 h2 hp => ?_⟩
    have x := Ext.laid (o := .frz o (.tup xs)) s hp
    have t2 := t.mono x.ff
    exact q _ _ _ x (.tpx ⟨o, upd_same, h1, h2⟩ t2.1 t2.2)
def indexXD : D → List D → R D
  | .tpx ds, [.str z] => match strsOf ds with
    | some ys => (match sIdx ys z with
      | some j => .ok (.int (j : Nat))
      | none => .st)
    | none => .st
  | _, _ => .st
def rIndexX (K : PySem.W.Frag) : V → List V → Hp → VK → Prop := fun x xs H Q => ∃ p, ∃ ys : List Str, ∃ z j, x = .ref p ∧ xs = [.str z] ∧ SqT K H p (ys.map V.str) ∧ ys[j]? = some z ∧ (∀ m, m < j → ys[m]? ≠ some z) ∧ Q (.int (j : Nat)) H
theorem o_indexX {K : PySem.W.Frag} : MetD K indexXD (rIndexX K) := by
  intro W σ F H d v ds vs Q s i l q
  match d, ds, i, l, q with
  | .tpx es, [.str z], i, l, q =>
    obtain ⟨a, xs, rfl, h, t⟩ := i.tpx_inv
    obtain ⟨v, rfl, j⟩ := one_of l
    cases j
    have q' : after K W σ F H (match strsOf es with | some ys => (match sIdx ys z with | some j => .ok (.int (j : Nat)) | none => .st) | none => .st) Q := q
    cases e1 : strsOf es with
    | none => rw [e1] at q'; exact q'.elim
    | some ys =>
      rw [e1] at q'
      have q2 : after K W σ F H (match sIdx ys z with | some j => .ok (.int (j : Nat)) | none => .st) Q := q'
      cases e2 : sIdx ys z with
      | none => rw [e2] at q2; exact q2.elim
      | some j =>
        rw [e2] at q2
        have e3 := strs_is t e1
        subst e3
        obtain ⟨h1, h2⟩ := sIdx_at e2
        exact ⟨a, ys, z, j, rfl, rfl, sameT s h.sq, h1, h2, after.now q2 s (.int _)⟩
/-- t.m(..) of a known tuple -/
def gMtX (f : D → List D → R D) (go : Rho → R D) (t : Rho → R (List D)) : Rho → R D := fun ρ => (go ρ).bind fun d => match d with
  | .tpx xs => (t ρ).bind fun ds => f (.tpx xs) ds
  | _ => .st
section
variable {X : Cx} {F0 : Bs} {H0 : Hp} {m : List Bool} {W : WX} {o e : Expr} {es : List Expr} {go : Rho → R D} {t : Rho → R (List D)}
theorem d_metX {id : String} {name : Str} {apos cpos : Pos} {f : D → List D → R D} {r : V → List V → Hp → VK → Prop} (pa : PlainAttrs "tuple") (slot : Slot "tuple" name id) (hty : typeOf (.builtin id) = pure (.type "method_descriptor")) (hm : MtR X id r) (od : MetD X.K f r) (ho : DE X F0 H0 m W o go) (ha : DA X F0 H0 m W (e :: es) t)
    (hbase : attributeBase o name X.env (eval o X.env) = eval o X.env := by rfl)
    (hfew : ((backTo cpos (starEach (e :: es) X.env)).all (fun x => !x.1) && (backToKw cpos (keywordEach [] X.env)).all (fun x => x.1.isSome)
      && decide ((e :: es).length + ([] : List Keyword).length + (if ([] : List Keyword).isEmpty then 0 else 1) < 30)) = true := by rfl)
    (hline : (apos.endLine == cpos.line) = true := by rfl) (hs : starEach (e :: es) X.env = (false, eval e X.env) :: starEach es X.env := by rfl) (hplain : (backTo cpos (starEach es X.env)).any (·.1) = false := by rfl) :
    DE X F0 H0 m W (.Call (.Attribute o name apos) (e :: es) [] cpos) (gMtX f go t) := by
  refine pe_imp (pe_bmX pa slot hty hm ho ha hbase hfew hline hs hplain) fun σ H Q ⟨ρ, F, r, h⟩ => ?_
  refine sem_bind (k := fun d => match d with
    | .tpx xs => (t ρ).bind fun ds => f (.tpx xs) ds
    | _ => .st) r h fun d v F1 H1 _ i1 r1 h1 => ?_
  cases d with
  | tpx xs =>
    obtain ⟨a, ys, rfl, hp, l⟩ := i1.tpx_inv
    exact ⟨⟨a, ys, rfl, hp.mono r1.fh⟩, semA_bind (k := fun ds => f (.tpx xs) ds) r1 h1 fun ds vs F2 H2 x2 i2 r2 h2 => od W σ F2 H2 _ _ ds vs Q r2.fh (i1.mono x2.ff) i2 h2⟩
  | _ => exact h1.elim
theorem d_indexX {apos cpos : Pos} (ho : DE X F0 H0 m W o go) (ha : DA X F0 H0 m W (e :: es) t)
    (hbase : attributeBase o "index" X.env (eval o X.env) = eval o X.env := by rfl)
    (hfew : ((backTo cpos (starEach (e :: es) X.env)).all (fun x => !x.1) && (backToKw cpos (keywordEach [] X.env)).all (fun x => x.1.isSome)
      && decide ((e :: es).length + ([] : List Keyword).length + (if ([] : List Keyword).isEmpty then 0 else 1) < 30)) = true := by rfl)
    (hline : (apos.endLine == cpos.line) = true := by rfl) (hs : starEach (e :: es) X.env = (false, eval e X.env) :: starEach es X.env := by rfl) (hplain : (backTo cpos (starEach es X.env)).any (·.1) = false := by rfl) :
    DE X F0 H0 m W (.Call (.Attribute o "index" apos) (e :: es) [] cpos) (gMtX indexXD go t) :=
  d_metX PySem.F.plainAttrs_tuple PySem.F.slot_tuple_index PySem.F.type_tuple_index mt_tup_index o_indexX ho ha hbase hfew hline hs hplain
end
end Pd
set_option maxHeartbeats 4000000
namespace Pd
open PySem PySem.Spec PyProof.Rows L2
noncomputable section
def tb_NoChoice : List (Str × Bool) := [("BadPanel", false), ("NoChoice", true), ("BadCond", false)]
def S__law_cell_at : Rho → S :=
  (sSeq (sIf (gB (g2 ltD (gVar 1) (gA lenD (aCons (gVar 0) aNil))))
  (sRet (g2 ixD (gVar 0) (gVar 1)))
  sNil)
  (sRet (gC (.int 0))))
def F__law_cell_at : List D → R D := runS 2 2 S__law_cell_at
def S__law_mix : Rho → S :=
  (sSeq (sSet 2 (g2 shrD (gVar 0) (g2 addD (g2 mulD (gC (.int 27)) (gVar 1)) (gC (.int 1)))))
  (sSeq (sIf (bAnd (gB (g2 eqD (g2 modD (gVar 0) (gC (.int 2))) (gC (.int 0)))) (gB (g2 notInDD (gVar 2) (gA tupD (aCons (gC (.int 0)) (aCons (g1 negD (gC (.int 1))) aNil))))))
  (sRet (g2 andD (gVar 2) (gC (.int 134217727))))
  sNil)
  (sSeq (sSet 3 (g2 modD (g2 mulD (g2 addD (g2 modD (gVar 0) (gC (.int 1000000007))) (g2 mulD (gC (.int 7919)) (gVar 1))) (gC (.int 48271))) (gC (.int 2147483647))))
  (sSeq (sSet 3 (g2 modD (g2 mulD (gVar 3) (gVar 3)) (gC (.int 2147483629))))
  (sRet (g2 modD (g2 mulD (gVar 3) (g2 addD (gVar 3) (gC (.int 3)))) (gC (.int 2147483587))))))))
def F__law_mix : List D → R D := runS 4 2 S__law_mix
def B__law_words_0 : Rho → S :=
  (sSeq (sSet 10 (gLc (iA rangeD1 (aCons (gVar 7) aNil)) [5] (τName 5) bYes (g2 ixD (gVar 2) (g2 modD (g2 addD (gA F__law_mix (aCons (gVar 0) (aCons (g2 addD (gC (.int 2)) (gVar 5)) aNil))) (g2 mulD (g2 mulD (gC (.int 5)) (gVar 6)) (gA intD (aCons (g2 eqD (gVar 5) (gVar 8)) aNil)))) (gC (.int 26))))))
  (sAppend 9 (gMt "str" joinD (gC (.str "")) (aCons (gVar 10) aNil))))
def S__law_words : Rho → S :=
  (sSeq (sSet 2 (gC (.str "abcdefghijklmnopqrstuvwxyz")))
  (sSeq (sSet 3 (gA F__law_mix (aCons (gVar 0) (aCons (gC (.int 1)) aNil))))
  (sSeq (sIf (gB (g2 eqD (g2 modD (g2 fdivD (gVar 3) (gC (.int 64))) (gC (.int 3))) (gC (.int 0))))
  (sSeq (sSet 4 (gMt "str" joinD (gC (.str "")) (aCons (gLc (iA rangeD1 (aCons (gC (.int 8)) aNil)) [5] (τName 5) bYes (g2 ixD (gVar 2) (g2 modD (gA F__law_mix (aCons (gVar 0) (aCons (g2 addD (gC (.int 2)) (gVar 5)) aNil))) (gC (.int 26))))) aNil)))
  (sRet (gLc (iA rangeD1 (aCons (gVar 1) aNil)) [6] (τName 6) bYes (gSl (gVar 4) pNone (pSome (g2 addD (gC (.int 1)) (g2 modD (g2 addD (g2 fdivD (gVar 3) (gC (.int 192))) (g2 mulD (gC (.int 3)) (gVar 6))) (gC (.int 8)))))))))
  sNil)
  (sSeq (sSet 7 (g2 addD (gC (.int 1)) (g2 modD (gVar 3) (gC (.int 8)))))
  (sSeq (sSet 8 (g2 modD (g2 fdivD (gVar 3) (gC (.int 8))) (gVar 7)))
  (sSeq (sSet 9 (gA lstD aNil))
  (sSeq (sFor (iA rangeD1 (aCons (gVar 1) aNil)) (τName 6) B__law_words_0)
  (sRetO 9))))))))
def F__law_words : List D → R D := runS 11 2 S__law_words
def B__law_switches_0 : Rho → S :=
  (sSeq (sSet 6 (g2 addD (gC (.int 2)) (g2 modD (gA F__law_mix (aCons (gVar 0) (aCons (g2 addD (gC (.int 21)) (gVar 5)) aNil))) (gC (.int 3)))))
  (sSeq (sIf (gB (g2 gtD (g2 mulD (gVar 4) (gVar 6)) (gVar 1)))
  (sSet 6 (gC (.int 2)))
  sNil)
  (sIf (gB (g2 leD (g2 mulD (gVar 4) (gVar 6)) (gVar 1)))
  (sSeq (sSet 4 (g2 mulD (gVar 4) (gVar 6)))
  (sAppend 3 (gA tupD (aCons (g2 ixD (gVar 2) (gVar 5)) (aCons (gA F__law_words (aCons (g2 addD (g2 addD (gVar 0) (gVar 5)) (gC (.int 1))) (aCons (gVar 6) aNil))) aNil)))))
  sNil)))
def S__law_switches : Rho → S :=
  (sSeq (sSet 2 (gA F__law_words (aCons (gVar 0) (aCons (gC (.int 5)) aNil))))
  (sSeq (sSet 3 (gA lstD aNil))
  (sSeq (sSet 4 (gC (.int 1)))
  (sSeq (sFor (iA rangeD1 (aCons (g2 addD (gC (.int 1)) (g2 modD (gA F__law_mix (aCons (gVar 0) (aCons (gC (.int 20)) aNil))) (gC (.int 5)))) aNil)) (τName 5) B__law_switches_0)
  (sRetO 3)))))
def F__law_switches : List D → R D := runS 7 2 S__law_switches
def B__law_rows_0 : Rho → S :=
  (sAppend 4 (g2 addD (gVar 5) (gA lstD (aCons (gVar 6) aNil))))
def B__law_rows_1 : Rho → S :=
  (sFor (iSeq (gVar 3)) (τName 6) B__law_rows_0)
def B__law_rows_2 : Rho → S :=
  (sSeq (sSet 4 (gA lstD aNil))
  (sSeq (sFor (iSeq (gVar 1)) (τName 5) B__law_rows_1)
  (sSet 1 (gVar 4))))
def S__law_rows : Rho → S :=
  (sSeq (sSet 1 (gA lstD (aCons (gA lstD aNil) aNil)))
  (sSeq (sFor (iSeq (gVar 0)) (τTup 2 (τCons (τName 2) (τCons (τName 3) τNil))) B__law_rows_2)
  (sRet (gVar 1))))
def F__law_rows : List D → R D := runS 7 1 S__law_rows
def S_Panel_all_choices : Rho → S :=
  (sRet (g2 subD (g2 shlD (gC (.int 1)) (gFld ["Panel"] "total" (gVar 0))) (gC (.int 1))))
def F_Panel_all_choices : List D → R D := runS 1 1 S_Panel_all_choices
def B_is_of_0 : Rho → S :=
  (sIf (gB (g2 notInDD (gVar 3) (gVar 1)))
  (sRet (gC (.bl false)))
  sNil)
def S_is_of : Rho → S :=
  (sSeq (sIf (bOr (bNot (gB (g1 (isiD "str") (gVar 0)))) (bNot (gB (g3 leD leD (gC (.int 1)) (gA lenD (aCons (gVar 0) aNil)) (gVar 2)))))
  (sRet (gC (.bl false)))
  sNil)
  (sSeq (sFor (iSeq (gVar 0)) (τName 3) B_is_of_0)
  (sRet (gC (.bl true)))))
def F_is_of : List D → R D := runS 4 3 S_is_of
def S_is_word : Rho → S :=
  (sRet (gA F_is_of (aCons (gVar 0) (aCons (gC (.str "abcdefghijklmnopqrstuvwxyz")) (aCons (gC (.int 8)) aNil)))))
def F_is_word : List D → R D := runS 1 1 S_is_word
def B_are_settings_0 : Rho → S :=
  (sIf (bOr (bNot (gB (gA F_is_word (aCons (gVar 2) aNil)))) (gB (g2 inDD (gVar 2) (gSl (gVar 0) pNone (pSome (gVar 1))))))
  (sRet (gC (.bl false)))
  sNil)
def S_are_settings : Rho → S :=
  (sSeq (sIf (bOr (bNot (gB (g1 (isiD "list") (gVar 0)))) (bNot (gB (g3 leD leD (gC (.int 2)) (gA lenD (aCons (gVar 0) aNil)) (gC (.int 4))))))
  (sRet (gC (.bl false)))
  sNil)
  (sSeq (sFor (iA enumD (aCons (gVar 0) aNil)) (τTup 2 (τCons (τName 1) (τCons (τName 2) τNil))) B_are_settings_0)
  (sRet (gC (.bl true)))))
def F_are_settings : List D → R D := runS 3 1 S_are_settings
def B_are_switches_0 : Rho → S :=
  (sSeq (sIf (bOr (bNot (gB (g1 (isiD "tuple") (gVar 3)))) (gB (g2 neD (gA lenD (aCons (gVar 3) aNil)) (gC (.int 2)))))
  (sRet (gC (.bl false)))
  sNil)
  (sSeq (sIf (bScal (bOr (bNot (gB (gA F_is_word (aCons (g2 ixD (gVar 3) (gC (.int 0))) aNil)))) (bOr (gB (g2 inDD (g2 ixD (gVar 3) (gC (.int 0))) (gVar 1))) (bNot (gB (gA F_are_settings (aCons (g2 ixD (gVar 3) (gC (.int 1))) aNil)))))))
  (sRet (gC (.bl false)))
  sNil)
  (sSeq (sAppend 1 (g2 ixD (gVar 3) (gC (.int 0))))
  (sSet 2 (g2 mulD (gVar 2) (gA lenD (aCons (g2 ixD (gVar 3) (gC (.int 1))) aNil)))))))
def S_are_switches : Rho → S :=
  (sSeq (sIf (bOr (bNot (gB (g1 (isiD "list") (gVar 0)))) (bNot (gB (g3 leD leD (gC (.int 1)) (gA lenD (aCons (gVar 0) aNil)) (gC (.int 5))))))
  (sRet (gC (.bl false)))
  sNil)
  (sSeq (sSet 1 (gA lstD aNil))
  (sSeq (sSet 2 (gC (.int 1)))
  (sSeq (sFor (iSeq (gVar 0)) (τName 3) B_are_switches_0)
  (sRet (g2 leD (gVar 2) (gC (.int 256))))))))
def F_are_switches : List D → R D := runS 4 1 S_are_switches
def B_Panel_copied_terms_0 : Rho → S :=
  (sDPutD 2 (gVar 3) (gA listD (aCons (gVar 4) aNil)))
def S_Panel_copied_terms : Rho → S :=
  (sSeq (sSet 2 (gC (.dict false [])))
  (sSeq (sFor (iG ditemsD (gVar 1)) (τTup 2 (τCons (τName 3) (τCons (τName 4) τNil))) B_Panel_copied_terms_0)
  (sRetO 2)))
def F_Panel_copied_terms : List D → R D := runN 5 2 S_Panel_copied_terms
def B_Panel_are_terms_0 : Rho → S :=
  (sIf (bOr (gB (g2 notInXD (gVar 6) (g2 ixXD (gVar 2) (gVar 3)))) (gB (g2 inXD (gVar 6) (gSl (gVar 4) pNone (pSome (gVar 5))))))
  (sRet (gC (.bl false)))
  sNil)
def B_Panel_are_terms_1 : Rho → S :=
  (sSeq (sIf (bOr (gB (g2 notInXD (gVar 3) (gVar 2))) (bOr (bNot (gB (g1 (isiD "list") (gVar 4)))) (gB (g2 eqD (gVar 4) (gA lstD aNil)))))
  (sRet (gC (.bl false)))
  sNil)
  (sFor (iA enumD (aCons (gVar 4) aNil)) (τTup 2 (τCons (τName 5) (τCons (τName 6) τNil))) B_Panel_are_terms_0))
def S_Panel_are_terms : Rho → S :=
  (sSeq (sSet 2 (gLk (gA dictPD (aCons (gFld ["Panel"] "dials" (gVar 0)) aNil))))
  (sSeq (sFor (iG ditemsD (gVar 1)) (τTup 2 (τCons (τName 3) (τCons (τName 4) τNil))) B_Panel_are_terms_1)
  (sRet (gC (.bl true)))))
def F_Panel_are_terms : List D → R D := runS 7 2 S_Panel_are_terms
def B_Panel_told_rules_0 : Rho → S :=
  (sSeq (sIf (bOr (bNot (gB (g1 (isiD "dict") (gVar 3)))) (bOr (gB (g2 eqYD (gVar 3) (gLk (gC (.dict false []))))) (bNot (gB (gMeth [("Panel", F_Panel_are_terms)] "are_terms" (gVar 0) (aCons (gVar 3) aNil))))))
  (sRaise "BadPanel")
  sNil)
  (sAppend 2 (gLk (gMeth [("Panel", F_Panel_copied_terms)] "copied_terms" (gVar 0) (aCons (gVar 3) aNil)))))
def S_Panel_told_rules : Rho → S :=
  (sSeq (sIf (bOr (bNot (gB (g1 (isiD "list") (gVar 1)))) (gB (g2 gtD (gA lenD (aCons (gVar 1) aNil)) (gC (.int 8)))))
  (sRaise "BadPanel")
  sNil)
  (sSeq (sSet 2 (gA lstD aNil))
  (sSeq (sFor (iSeq (gVar 1)) (τName 3) B_Panel_told_rules_0)
  (sRetO 2))))
def F_Panel_told_rules : List D → R D := runN 4 2 S_Panel_told_rules
def S_is_whole : Rho → S :=
  (sRet (gAnd (g1 (isiD "int") (gVar 0)) (gNot (g1 (isiD "bool") (gVar 0)))))
def F_is_whole : List D → R D := runS 1 1 S_is_whole
def B_Panel_told_0 : Rho → S :=
  (sSeq (sAsg (gA dvmD (aCons (gVar 1) (aCons (gA lenD (aCons (gVar 4) aNil)) aNil))) (τTup 2 (τCons (τName 1) (τCons (τName 5) τNil))))
  (sOwnL 2 insF (aCons (gC (.int 0)) (aCons (g2 ixD (gVar 4) (gVar 5)) aNil))))
def S_Panel_told : Rho → S :=
  (sSeq (sIf (bOr (bNot (gB (gA F_is_whole (aCons (gVar 1) aNil)))) (bNot (gB (g3 leD ltD (gC (.int 0)) (gVar 1) (gFld ["Panel"] "total" (gVar 0))))))
  (sRaise "NoChoice")
  sNil)
  (sSeq (sSet 2 (gA lstD aNil))
  (sSeq (sFor (iG revD (gFld ["Panel"] "dials" (gVar 0))) (τTup 2 (τCons (τName 3) (τCons (τName 4) τNil))) B_Panel_told_0)
  (sRet (gA tupleD (aCons (gVar 2) aNil))))))
def F_Panel_told : List D → R D := runS 6 2 S_Panel_told
def B_Panel_box_0 : Rho → S :=
  (sSeq (sSet 4 (gMeth [("Panel", F_Panel_told)] "told" (gVar 0) (aCons (gVar 3) aNil)))
  (sIf (gB (gA allD (aCons (gLc (iA enumD (aCons (gFld ["Panel"] "dials" (gVar 0)) aNil)) [5, 6] (τTup 2 (τCons (τName 5) (τCons (τName 6) τNil))) bYes (g2 inDD (g2 ixD (gVar 4) (gVar 5)) (gGet2 (gVar 1) (g2 ixD (gVar 6) (gC (.int 0))) (g2 ixD (gVar 6) (gC (.int 1)))))) aNil)))
  (sSet 2 (g2 orD (gVar 2) (g2 shlD (gC (.int 1)) (gVar 3))))
  sNil))
def S_Panel_box : Rho → S :=
  (sSeq (sIf (bOr (bNot (gB (g1 (isiD "dict") (gVar 1)))) (bNot (gB (gMeth [("Panel", F_Panel_are_terms)] "are_terms" (gVar 0) (aCons (gVar 1) aNil)))))
  (sRaise "BadCond")
  sNil)
  (sSeq (sSet 2 (gC (.int 0)))
  (sSeq (sFor (iA rangeD1 (aCons (gFld ["Panel"] "total" (gVar 0)) aNil)) (τName 3) B_Panel_box_0)
  (sRet (gVar 2)))))
def F_Panel_box : List D → R D := runS 7 2 S_Panel_box
def B_Panel_init_0 : SQF :=
  (sqFld ["Panel"] "total" (qVar 0) (qSn (g2 mulD (gFld ["Panel"] "total" (gVar 0)) (gA lenD (aCons (gVar 4) aNil)))))
def B_Panel_init_1 : SQF :=
  (sqFld ["Panel"] "free" (qVar 0) (qSn (g2 andD (gFld ["Panel"] "free" (gVar 0)) (g2 xorD (gMeth [("Panel", F_Panel_all_choices)] "all_choices" (gVar 0) aNil) (gVar 6)))))
def SQ_Panel_init : SQF :=
  (sqSeq (sqIf (qT (bNot (gB (gA F_are_switches (aCons (gVar 1) aNil)))))
  (sqRaise "BadPanel")
  sqNil)
  (sqSeq (sqFld ["Panel"] "dials" (qVar 0) (qP (gLc (iSeq (gVar 1)) [3, 4] (τTup 2 (τCons (τName 3) (τCons (τName 4) τNil))) bYes (gA tupD (aCons (gVar 3) (aCons (gA tupXD (aCons (gVar 4) aNil)) aNil))))))
  (sqSeq (sqFld ["Panel"] "total" (qVar 0) (qP (gC (.int 1))))
  (sqSeq (sqForI (iqSeq (qFld ["Panel"] "dials" (qVar 0))) (tqTup 2 (tqCons (tqName 3) (tqCons (tqName 4) tqNil))) B_Panel_init_0)
  (sqSeq (sqFld ["Panel"] "bars" (qVar 0) (qP (gA lstD aNil)))
  (sqSeq (sqIf (qT (gB (g2 notND (gVar 2) (gC .non))))
  (sqFld ["Panel"] "bars" (qVar 0) (qMeth [("Panel", (snG F_Panel_told_rules))] "told_rules" (qVar 0) (qPA (aCons (gVar 2) aNil))))
  sqNil)
  (sqSeq (sqFld ["Panel"] "barring" (qVar 0) (qSn (gLc (iSeq (gFld ["Panel"] "bars" (gVar 0))) [5] (τName 5) bYes (gMeth [("Panel", F_Panel_box)] "box" (gVar 0) (aCons (gVar 5) aNil)))))
  (sqSeq (sqFld ["Panel"] "free" (qVar 0) (qMeth [("Panel", (snG F_Panel_all_choices))] "all_choices" (qVar 0) (qPA aNil)))
  (sqSeq (sqForI (iqSeq (qFld ["Panel"] "barring" (qVar 0))) (tqName 6) B_Panel_init_1)
  (sqIf (qSnT (gB (g2 eqD (gFld ["Panel"] "free" (gVar 0)) (gC (.int 0)))))
  (sqRaise "NoChoice")
  sqNil))))))))))
def FQ_Panel_init : GF := runQ 7 3 SQ_Panel_init
def B_Panel_init_loc_0 : SQF :=
  (sqFld ["Panel"] "total" (qVar 0) (qSn (g2 mulD (gFld ["Panel"] "total" (gVar 0)) (gA lenD (aCons (gVar 4) aNil)))))
def B_Panel_init_loc_1 : SQF :=
  (sqFld ["Panel"] "free" (qVar 0) (qSn (g2 andD (gFld ["Panel"] "free" (gVar 0)) (g2 xorD (gMeth [("Panel", F_Panel_all_choices)] "all_choices" (gVar 0) aNil) (gVar 6)))))
def SQ_Panel_init_loc : SQF :=
  (sqSeq (sqIf (qSnT (bNot (gB (gA F_are_switches (aCons (gVar 1) aNil)))))
  (sqRaise "BadPanel")
  sqNil)
  (sqSeq (sqFld ["Panel"] "dials" (qVar 0) (qNewS (gLc (iSeq (gVar 1)) [3, 4] (τTup 2 (τCons (τName 3) (τCons (τName 4) τNil))) bYes (gA tupD (aCons (gVar 3) (aCons (gA tupXD (aCons (gVar 4) aNil)) aNil))))))
  (sqSeq (sqFld ["Panel"] "total" (qVar 0) (qP (gC (.int 1))))
  (sqSeq (sqForL (qFld ["Panel"] "dials" (qVar 0)) (tqM (tqTup 2 (tqCons (tqName 3) (tqCons (tqName 4) tqNil)))) B_Panel_init_loc_0)
  (sqSeq (sqFld ["Panel"] "bars" (qVar 0) (qNew (gA lstD aNil)))
  (sqSeq (sqIf (qT (gB (g2 notND (gVar 2) (gC .non))))
  (sqFld ["Panel"] "bars" (qVar 0) (qNewSL (gMeth [("Panel", F_Panel_told_rules)] "told_rules" (gVar 0) (aCons (gVar 2) aNil))))
  sqNil)
  (sqSeq (sqFld ["Panel"] "barring" (qVar 0) (qNewS (gLc (iSeq (gFld ["Panel"] "bars" (gVar 0))) [5] (τName 5) bYes (gMeth [("Panel", F_Panel_box)] "box" (gVar 0) (aCons (gVar 5) aNil)))))
  (sqSeq (sqFld ["Panel"] "free" (qVar 0) (qMeth [("Panel", (snG F_Panel_all_choices))] "all_choices" (qVar 0) (qPA aNil)))
  (sqSeq (sqForL (qFld ["Panel"] "barring" (qVar 0)) (tqM (tqName 6)) B_Panel_init_loc_1)
  (sqIf (qSnT (gB (g2 eqD (gFld ["Panel"] "free" (gVar 0)) (gC (.int 0)))))
  (sqRaise "NoChoice")
  sqNil))))))))))
def FQ_Panel_init_loc : GF := runQ 7 3 SQ_Panel_init_loc
def B__law_panel_0 : SQF :=
  (sqClr (qVar 4))
def SQ__law_panel : SQF :=
  (sqSeq (sqSet 2 (qLcE (iSeq (gVar 0)) [3, 4] (tqTup 2 (tqCons (tqName 3) (tqCons (tqName 4) tqNil))) (qTup (aqCons (qVar 3) (aqCons (qNewS (gA listD (aCons (gVar 4) aNil))) aqNil)))))
  (sqSeq (sqSet 5 (qCall (mkQ "Panel" FQ_Panel_init_loc.dfl) (aqCons (qVar 2) aqNil)))
  (sqSeq (sqIf (qT (gB (g2 eqD (g2 modD (gVar 1) (gC (.int 3))) (gC (.int 1)))))
  (sqSet 5 (qCall (mkQ "Panel" FQ_Panel_init_loc) (aqCons (qVar 2) (aqCons (qP (gC .non)) aqNil))))
  sqNil)
  (sqSeq (sqIf (qT (gB (g2 eqD (g2 modD (gVar 1) (gC (.int 3))) (gC (.int 2)))))
  (sqSet 5 (qCall (mkQ "Panel" FQ_Panel_init_loc) (aqCons (qVar 2) (aqCons (qP (gA lstD aNil)) aqNil))))
  sqNil)
  (sqSeq (sqForL (qVar 2) (tqM (tqTup 2 (tqCons (tqName 3) (tqCons (tqName 4) tqNil)))) B__law_panel_0)
  (sqSeq (sqClr (qVar 2))
  (sqRet (qVar 5))))))))
def FQ__law_panel : GF := runQ 6 2 SQ__law_panel
def S_Panel_switches : Rho → S :=
  (sRetN (gA listD (aCons (gFld ["Panel"] "dials" (gVar 0)) aNil)))
def F_Panel_switches : List D → R D := runN 1 1 S_Panel_switches
def B_Panel_number_of_0 : Rho → S :=
  (sSeq (sIf (gB (g2 notInDD (gVar 3) (g2 ixD (gVar 4) (gC (.int 1)))))
  (sRaise "NoChoice")
  sNil)
  (sSet 2 (g2 addD (g2 mulD (gVar 2) (gA lenD (aCons (g2 ixD (gVar 4) (gC (.int 1))) aNil))) (gMtX indexXD (g2 ixD (gVar 4) (gC (.int 1))) (aCons (gVar 3) aNil)))))
def S_Panel_number_of : Rho → S :=
  (sSeq (sIf (gB (g2 neD (gA lenD (aCons (gVar 1) aNil)) (gA lenD (aCons (gFld ["Panel"] "dials" (gVar 0)) aNil))))
  (sRaise "NoChoice")
  sNil)
  (sSeq (sSet 2 (gC (.int 0)))
  (sSeq (sFor (iA zipD (aCons (gVar 1) (aCons (gFld ["Panel"] "dials" (gVar 0)) aNil))) (τTup 2 (τCons (τName 3) (τCons (τName 4) τNil))) B_Panel_number_of_0)
  (sRet (gVar 2)))))
def F_Panel_number_of : List D → R D := runS 5 2 S_Panel_number_of
def S__law_number : Rho → S :=
  (sSeq (sSet 2 (gC .non))
  (sSeq (sTry tb_NoChoice
  (sSet 2 (gMeth [("Panel", F_Panel_number_of)] "number_of" (gVar 0) (aCons (gVar 1) aNil)))
  (sSet 2 (gC (.str "none"))))
  (sRet (gVar 2))))
def F__law_number : List D → R D := runS 3 2 S__law_number
def S__law_told : Rho → S :=
  (sSeq (sSet 2 (gC .non))
  (sSeq (sTry tb_NoChoice
  (sSet 2 (gMeth [("Panel", F_Panel_told)] "told" (gVar 0) (aCons (gVar 1) aNil)))
  (sSet 2 (gC (.str "none"))))
  (sRet (gVar 2))))
def F__law_told : List D → R D := runS 3 2 S__law_told
def S_in_set : Rho → S :=
  (sRet (g2 eqD (g2 andD (g2 shrD (gVar 0) (gVar 1)) (gC (.int 1))) (gC (.int 1))))
def F_in_set : List D → R D := runS 2 2 S_in_set
def B_Panel_barred_0 : Rho → S :=
  (sIf (gB (gA F_in_set (aCons (gVar 3) (aCons (gVar 1) aNil))))
  (sRet (gVar 2))
  sNil)
def S_Panel_barred : Rho → S :=
  (sSeq (sDrop (gMeth [("Panel", F_Panel_told)] "told" (gVar 0) (aCons (gVar 1) aNil)))
  (sSeq (sFor (iA enumD (aCons (gFld ["Panel"] "barring" (gVar 0)) aNil)) (τTup 2 (τCons (τName 2) (τCons (τName 3) τNil))) B_Panel_barred_0)
  (sRet (gC .non))))
def F_Panel_barred : List D → R D := runS 4 2 S_Panel_barred
def S__law_bar : Rho → S :=
  (sSeq (sSet 2 (gC .non))
  (sSeq (sTry tb_NoChoice
  (sSet 2 (gMeth [("Panel", F_Panel_barred)] "barred" (gVar 0) (aCons (gVar 1) aNil)))
  (sSet 2 (gC (.str "none"))))
  (sRet (gVar 2))))
def F__law_bar : List D → R D := runS 3 2 S__law_bar
def B__law_refused_0 : Rho → S :=
  (sIf (gB (g2 neD (gA F__law_number (aCons (gVar 0) (aCons (gVar 6) aNil))) (gC (.str "none"))))
  (sRet (gC (.bl false)))
  sNil)
def B__law_refused_1 : Rho → S :=
  (sIf (bOr (gB (g2 neD (gA F__law_told (aCons (gVar 0) (aCons (gVar 7) aNil))) (gC (.str "none")))) (gB (g2 neD (gA F__law_bar (aCons (gVar 0) (aCons (gVar 7) aNil))) (gC (.str "none")))))
  (sRet (gC (.bl false)))
  sNil)
def S__law_refused : Rho → S :=
  (sSeq (sSet 3 (g2 ixD (gVar 1) (g2 modD (gVar 2) (gA lenD (aCons (gVar 1) aNil)))))
  (sSeq (sSet 4 (g2 modD (g2 fdivD (gVar 2) (gA lenD (aCons (gVar 1) aNil))) (gA lenD (aCons (gVar 3) aNil))))
  (sSeq (sSet 5 (gA lstD (aCons (gSl (gVar 3) pNone (pSome (g1 negD (gC (.int 1))))) (aCons (g2 addD (gVar 3) (gSl (gVar 3) pNone (pSome (gC (.int 1))))) (aCons (g2 addD (g2 addD (gSl (gVar 3) pNone (pSome (gVar 4))) (gA lstD (aCons (g2 addD (gC (.str "no.")) (g2 ixD (gVar 3) (gVar 4))) aNil))) (gSl (gVar 3) (pSome (g2 addD (gVar 4) (gC (.int 1)))) pNone)) (aCons (gA lstD aNil) aNil))))))
  (sSeq (sFor (iSeq (gVar 5)) (τName 6) B__law_refused_0)
  (sSeq (sFor (iSeq (gA lstD (aCons (g1 negD (gC (.int 1))) (aCons (gA lenD (aCons (gVar 1) aNil)) (aCons (g2 addD (gA lenD (aCons (gVar 1) aNil)) (g2 modD (gVar 2) (g2 powD (gC (.int 10)) (gC (.int 30))))) (aCons (gC (.bl true)) (aCons (gC .non) (aCons (gC (.str "0")) (aCons (g2 subD (g1 negD (gC (.int 1))) (g2 modD (gVar 2) (g2 powD (gC (.int 10)) (gC (.int 9))))) aNil))))))))) (τName 7) B__law_refused_1)
  (sRet (gC (.bl true))))))))
def F__law_refused : List D → R D := runS 8 3 S__law_refused
def S_Panel_rules : Rho → S :=
  (sRetN (gLc (iSeq (gFld ["Panel"] "bars" (gVar 0))) [1] (τName 1) bYes (gLk (gMeth [("Panel", F_Panel_copied_terms)] "copied_terms" (gVar 0) (aCons (gVar 1) aNil)))))
def F_Panel_rules : List D → R D := runN 2 1 S_Panel_rules
def S__law_whole : Rho → S :=
  (sRet (gAnd (g1 (isiD "int") (gVar 0)) (gAnd (gNot (g1 (isiD "bool") (gVar 0))) (g2 eqD (gVar 0) (gVar 1)))))
def F__law_whole : List D → R D := runS 2 2 S__law_whole
def S_Panel_allowed : Rho → S :=
  (sRet (gFld ["Panel"] "free" (gVar 0)))
def F_Panel_allowed : List D → R D := runS 1 1 S_Panel_allowed
def S_Panel_many : Rho → S :=
  (sRet (gFld ["Panel"] "total" (gVar 0)))
def F_Panel_many : List D → R D := runS 1 1 S_Panel_many
def B_law_0 : Rho → S :=
  (sSeq (sSet 6 (g2 addD (gVar 6) (g2 shlD (gC (.int 1)) (gVar 7))))
  (sSeq (sSet 9 (gMeth [("Panel", F_Panel_told)] "told" (gVar 4) (aCons (gVar 7) aNil)))
  (sSeq (sIf (bOr (bNot (gB (g1 (isiD "tuple") (gVar 9)))) (gB (g2 neD (gA listD (aCons (gVar 9) aNil)) (gVar 8))))
  (sRet (gC (.bl false)))
  sNil)
  (sIf (bOr (bNot (gB (gA F__law_whole (aCons (gMeth [("Panel", F_Panel_number_of)] "number_of" (gVar 4) (aCons (gA listD (aCons (gVar 8) aNil)) aNil)) (aCons (gVar 7) aNil))))) (gB (g2 notND (gMeth [("Panel", F_Panel_barred)] "barred" (gVar 4) (aCons (gVar 7) aNil)) (gC .non))))
  (sRet (gC (.bl false)))
  sNil))))
def S_law : Rho → S :=
  (sSeq (sSet 1 (gA F__law_cell_at (aCons (gVar 0) (aCons (gC (.int 0)) aNil))))
  (sSeq (sSet 2 (gA F__law_switches (aCons (gVar 1) (aCons (g2 ixD (gA lstD (aCons (gC (.int 24)) (aCons (gC (.int 256)) aNil))) (gA intD (aCons (g2 eqD (g2 modD (gA F__law_cell_at (aCons (gVar 0) (aCons (gC (.int 1)) aNil))) (gC (.int 8))) (gC (.int 1))) aNil))) aNil))))
  (sSeq (sSet 3 (gA F__law_rows (aCons (gVar 2) aNil)))
  (sSeq (sSet 4 (gA FQ__law_panel.down (aCons (gVar 2) (aCons (g2 fdivD (gA F__law_cell_at (aCons (gVar 0) (aCons (gC (.int 1)) aNil))) (gC (.int 8))) aNil))))
  (sSeq (sSet 5 (gA (mkD "Panel" FQ_Panel_init) (aCons (gA lstD (aCons (gA tupD (aCons (gC (.str "x")) (aCons (gA lstD (aCons (gC (.str "a")) (aCons (gC (.str "b")) aNil))) aNil))) aNil)) (aCons (gA lstD (aCons (gLk (gDisp [((gC (.str "x")), (gA lstD (aCons (gC (.str "a")) aNil)))])) aNil)) aNil))))
  (sSeq (sSet 6 (gC (.int 0)))
  (sSeq (sFor (iA enumD (aCons (gVar 3) aNil)) (τTup 2 (τCons (τName 7) (τCons (τName 8) τNil))) B_law_0)
  (sSeq (sSet 10 (gMeth [("Panel", F_Panel_switches)] "switches" (gVar 4) aNil))
  (sSeq (sIf (bScal (bOr (bNot (gB (g1 (isiD "list") (gVar 10)))) (gB (g2 neD (gVar 10) (gLc (iSeq (gVar 2)) [11, 9] (τTup 2 (τCons (τName 11) (τCons (τName 9) τNil))) bYes (gA tupD (aCons (gVar 11) (aCons (gA tupleD (aCons (gVar 9) aNil)) aNil))))))))
  (sRet (gC (.bl false)))
  sNil)
  (sSeq (sClr 10)
  (sSeq (sIf (bOr (gB (g2 neD (gA lenD (aCons (gMeth [("Panel", F_Panel_switches)] "switches" (gVar 4) aNil) aNil)) (gA lenD (aCons (gVar 2) aNil)))) (gB (g2 neD (gMeth [("Panel", F_Panel_rules)] "rules" (gVar 4) aNil) (gA lstD aNil))))
  (sRet (gC (.bl false)))
  sNil)
  (sSeq (sIf (bOr (bNot (gB (gA F__law_whole (aCons (gMeth [("Panel", F_Panel_all_choices)] "all_choices" (gVar 4) aNil) (aCons (gVar 6) aNil))))) (bNot (gB (gA F__law_whole (aCons (gMeth [("Panel", F_Panel_allowed)] "allowed" (gVar 4) aNil) (aCons (gVar 6) aNil))))))
  (sRet (gC (.bl false)))
  sNil)
  (sSeq (sIf (bOr (bNot (gB (gA F__law_whole (aCons (gMeth [("Panel", F_Panel_many)] "many" (gVar 4) aNil) (aCons (gA lenD (aCons (gVar 3) aNil)) aNil))))) (bOr (gB (g2 neD (gMeth [("Panel", F_Panel_allowed)] "allowed" (gVar 5) aNil) (gC (.int 2)))) (gB (g2 neD (gMeth [("Panel", F_Panel_many)] "many" (gVar 5) aNil) (gC (.int 2))))))
  (sRet (gC (.bl false)))
  sNil)
  (sRet (gA F__law_refused (aCons (gVar 4) (aCons (gVar 3) (aCons (gA F__law_cell_at (aCons (gVar 0) (aCons (gC (.int 2)) aNil))) aNil))))))))))))))))))
def F_law : List D → R D := runS 12 1 S_law
end
end Pd
set_option maxHeartbeats 0
namespace Pd
open PySem PySem.Spec PyProof.Rows L2
structure Tx (K : PySem.W.Frag) (mg : Str → Option Value) : Prop where
  g__law_cell_at : mg "_law_cell_at" = some (.ref (He.ga K "_law_cell_at"))
  g__law_mix : mg "_law_mix" = some (.ref (He.ga K "_law_mix"))
  g__law_words : mg "_law_words" = some (.ref (He.ga K "_law_words"))
  g__law_switches : mg "_law_switches" = some (.ref (He.ga K "_law_switches"))
  g__law_rows : mg "_law_rows" = some (.ref (He.ga K "_law_rows"))
  g_is_of : mg "is_of" = some (.ref (He.ga K "is_of"))
  g_is_word : mg "is_word" = some (.ref (He.ga K "is_word"))
  g_are_settings : mg "are_settings" = some (.ref (He.ga K "are_settings"))
  g_are_switches : mg "are_switches" = some (.ref (He.ga K "are_switches"))
  g_is_whole : mg "is_whole" = some (.ref (He.ga K "is_whole"))
  g__law_panel : mg "_law_panel" = some (.ref (He.ga K "_law_panel"))
  g__law_number : mg "_law_number" = some (.ref (He.ga K "_law_number"))
  g__law_told : mg "_law_told" = some (.ref (He.ga K "_law_told"))
  g_in_set : mg "in_set" = some (.ref (He.ga K "in_set"))
  g__law_bar : mg "_law_bar" = some (.ref (He.ga K "_law_bar"))
  g__law_refused : mg "_law_refused" = some (.ref (He.ga K "_law_refused"))
  g__law_whole : mg "_law_whole" = some (.ref (He.ga K "_law_whole"))
  g_law : mg "law" = some (.ref (He.ga K "law"))
  f_all : mg "all" = none
  f_bool : mg "bool" = none
  f_dict : mg "dict" = none
  f_divmod : mg "divmod" = none
  f_enumerate : mg "enumerate" = none
  f_int : mg "int" = none
  f_isinstance : mg "isinstance" = none
  f_len : mg "len" = none
  f_list : mg "list" = none
  f_range : mg "range" = none
  f_reversed : mg "reversed" = none
  f_str : mg "str" = none
  f_tuple : mg "tuple" = none
  f_zip : mg "zip" = none
  k_LETTERS : ∃ t, mg "LETTERS" = some (.str "abcdefghijklmnopqrstuvwxyz" t)
  k_MOST_CHOICES : ∃ t, mg "MOST_CHOICES" = some (.int 256 t)
  k_MOST_RULES : ∃ t, mg "MOST_RULES" = some (.int 8 t)
  k_MOST_SETTINGS : ∃ t, mg "MOST_SETTINGS" = some (.int 4 t)
  k_MOST_SWITCHES : ∃ t, mg "MOST_SWITCHES" = some (.int 5 t)
  fld_total : ∀ c ∈ (["Panel"] : List Str), Cls K (He.ga K c) ∧ NoAttr K (He.ga K c) "total"
  fld_dials : ∀ c ∈ (["Panel"] : List Str), Cls K (He.ga K c) ∧ NoAttr K (He.ga K c) "dials"
  fld_bars : ∀ c ∈ (["Panel"] : List Str), Cls K (He.ga K c) ∧ NoAttr K (He.ga K c) "bars"
  fld_barring : ∀ c ∈ (["Panel"] : List Str), Cls K (He.ga K c) ∧ NoAttr K (He.ga K c) "barring"
  fld_free : ∀ c ∈ (["Panel"] : List Str), Cls K (He.ga K c) ∧ NoAttr K (He.ga K c) "free"
  cls_Panel : Cls K (He.ga K "Panel")
  met_Panel_all_choices : Meth K (He.ga K "Panel") "all_choices" (He.fAd K ("Panel", some "all_choices"))
  met_Panel_allowed : Meth K (He.ga K "Panel") "allowed" (He.fAd K ("Panel", some "allowed"))
  met_Panel_are_terms : Meth K (He.ga K "Panel") "are_terms" (He.fAd K ("Panel", some "are_terms"))
  met_Panel_barred : Meth K (He.ga K "Panel") "barred" (He.fAd K ("Panel", some "barred"))
  met_Panel_box : Meth K (He.ga K "Panel") "box" (He.fAd K ("Panel", some "box"))
  met_Panel_copied_terms : Meth K (He.ga K "Panel") "copied_terms" (He.fAd K ("Panel", some "copied_terms"))
  met_Panel_many : Meth K (He.ga K "Panel") "many" (He.fAd K ("Panel", some "many"))
  met_Panel_number_of : Meth K (He.ga K "Panel") "number_of" (He.fAd K ("Panel", some "number_of"))
  met_Panel_rules : Meth K (He.ga K "Panel") "rules" (He.fAd K ("Panel", some "rules"))
  met_Panel_switches : Meth K (He.ga K "Panel") "switches" (He.fAd K ("Panel", some "switches"))
  met_Panel_told : Meth K (He.ga K "Panel") "told" (He.fAd K ("Panel", some "told"))
  met_Panel_told_rules : Meth K (He.ga K "Panel") "told_rules" (He.fAd K ("Panel", some "told_rules"))
  mk_Panel : mg "Panel" = some (.ref (He.ga K "Panel")) ∧ Mk K (He.ga K "Panel") (He.fAd K ("Panel", some "__init__"))
  exc_BadCond : ExcK K mg "BadCond"
  exc_BadPanel : ExcK K mg "BadPanel"
  exc_NoChoice : ExcK K mg "NoChoice"
  cat_NoChoice : mg "NoChoice" = some (.ref (He.ga K "NoChoice")) ∧ ∀ q ∈ tb_NoChoice, PySem.W.exmOne K (.ref (He.ga K q.1)) (.ref (He.ga K "NoChoice")) = some q.2
section
variable {P' : Program} {w : World} {K : PySem.W.Frag} {mg : Str → Option Value} {base : Heap}
theorem sc__law_cell_at : FnScope ["_law_script", "_law_k"] ["_law_script", "_law_k"] (defScope s__law_cell_at) := ⟨rfl, rfl, rfl, by decide +kernel, rfl, by decide +kernel, by decide +kernel⟩
theorem c__law_cell_at (T : Tx K mg) (Df : DefU K "_law_cell_at" "_law_cell_at" s__law_cell_at (He.ga K "_law_cell_at") ["_law_script", "_law_k"]) : UnF P' w K mg base 1 (He.ga K "_law_cell_at") ["_law_script", "_law_k"] F__law_cell_at :=
  un_d (mm := []) (m' := []) (s := S__law_cell_at) 2 Df sc__law_cell_at rfl (by decide) fun cdv A outer sh H E F0 hr =>
    (ss_cons (m2 := []) (s_if (t_cmp op_lt2 o_lt (d_var 1) (d_callB call_len c_len T.f_len (da_cons (d_var 0) da_nil)) (nomark _))
    (ss_one (s_ret (d_ix (d_var 0) (d_var 1))))
    ss_nil)
    (ss_one (s_ret d_int)))
theorem sc__law_mix : FnScope ["_law_cell", "_law_k", "_law_left", "_law_number_here"] ["_law_cell", "_law_k"] (defScope s__law_mix) := ⟨rfl, rfl, rfl, by decide +kernel, rfl, by decide +kernel, by decide +kernel⟩
theorem c__law_mix (T : Tx K mg) (Df : DefU K "_law_mix" "_law_mix" s__law_mix (He.ga K "_law_mix") ["_law_cell", "_law_k"]) : UnF P' w K mg base 1 (He.ga K "_law_mix") ["_law_cell", "_law_k"] F__law_mix :=
  un_d (mm := []) (m' := []) (s := S__law_mix) 4 Df sc__law_mix rfl (by decide) fun cdv A outer sh H E F0 hr =>
    (ss_cons (m2 := []) (s_set 2 sc__law_mix.nd (d_op op_shr o_shr (d_var 0) (d_op op_addD o_add (d_op op_mul o_mul d_int (d_var 1)) d_int)))
    (ss_cons (m2 := []) (s_if (t_w (w_and (t_cmp (op_eq2 hr.units) o_eq (d_op op_mod o_mod (d_var 0) d_int) d_int (nomark _)) (w_and1 (t_cmp (op_notIn2 hr.u65) o_notIn (d_var 2) (d_tup (da_cons d_int (da_cons (d_un un_neg o_neg d_int) da_nil))) (by rfl)))))
    (ss_one (s_ret (d_op op_and o_and (d_var 2) d_int)))
    ss_nil)
    (ss_cons (m2 := []) (s_set 3 sc__law_mix.nd (d_op op_mod o_mod (d_op op_mul o_mul (d_op op_addD o_add (d_op op_mod o_mod (d_var 0) d_int) (d_op op_mul o_mul d_int (d_var 1))) d_int) d_int))
    (ss_cons (m2 := []) (s_set 3 sc__law_mix.nd (d_op op_mod o_mod (d_op op_mul o_mul (d_var 3) (d_var 3)) d_int))
    (ss_one (s_ret (d_op op_mod o_mod (d_op op_mul o_mul (d_var 3) (d_op op_addD o_add (d_var 3) d_int)) d_int)))))))
theorem sc__law_words : FnScope ["_law_cell", "_law_many", "_law_letters", "_law_number_here", "_law_base", "_law_j", "_law_k", "_law_long", "_law_at", "_law_words_here", "_law_signs"] ["_law_cell", "_law_many"] (defScope s__law_words) := ⟨rfl, rfl, rfl, by decide +kernel, rfl, by decide +kernel, by decide +kernel⟩
theorem c__law_words (T : Tx K mg) (h__law_mix : UnF P' w K mg base 1 (He.ga K "_law_mix") ["_law_cell", "_law_k"] F__law_mix) (Df : DefU K "_law_words" "_law_words" s__law_words (He.ga K "_law_words") ["_law_cell", "_law_many"]) : UnF P' w K mg base 2 (He.ga K "_law_words") ["_law_cell", "_law_many"] F__law_words :=
  un_d (mm := [false, false, false, false, false, false, false, false, false, false, false]) (m' := []) (s := S__law_words) 11 Df sc__law_words rfl (by decide) fun cdv A outer sh H E F0 hr =>
    (ss_cons (m2 := [false, false, false, false, false, false, false, false, false, false, false]) (s_set 2 sc__law_words.nd d_str rfl (Or.inr rfl))
    (ss_cons (m2 := [false, false, false, false, false, false, false, false, false, false, false]) (s_set 3 sc__law_words.nd (d_c (calF_of h__law_mix T.g__law_mix) hr (by decide) (takes_of rfl rfl rfl rfl) (da_cons (d_var 0) (da_cons d_int da_nil))) rfl (Or.inr rfl))
    (ss_cons (m2 := [false, false, false, false, false, false, false, false, false, false, false]) (s_if (t_cmp (op_eq2 hr.units) o_eq (d_op op_mod o_mod (d_op op_fdiv o_fdiv (d_var 3) d_int) d_int) d_int (nomark _))
    (ss_cons (m2 := [false, false, false, false, false, false, false, false, false, false, false]) (s_set 4 sc__law_words.nd (d_met PySem.F.plainAttrs_str PySem.F.slot_str_join PySem.F.type_str_join mt_join o_join d_str (da_cons (d_new (n_lc (own := [("_law_j", 5)]) rfl sc__law_words.nd (di_range1 T.f_range (da_cons d_int da_nil)) (by show blkC ["_law_cell", "_law_many", "_law_letters", "_law_number_here", "_law_base", "_law_j", "_law_k", "_law_long", "_law_at", "_law_words_here", "_law_signs"] (defScope s__law_words) _ _ = true; decide +kernel) (fun _ _ _ _ _ => (dg_name 5 sc__law_words.nd)) (fun _ _ _ _ _ => dts_nil) (fun _ _ _ _ _ => (d_ix (d_var 2) (d_op op_mod o_mod (d_c (calF_of h__law_mix T.g__law_mix) hr (by decide) takes0 (da_cons (d_var 0) (da_cons (d_op op_addD o_add d_int (d_var 5)) da_nil))) d_int))) (by decide))) da_nil)) rfl (Or.inr rfl))
    (ss_one (s_ret (d_new (n_lc (own := [("_law_k", 6)]) rfl sc__law_words.nd (di_range1 T.f_range (da_cons (d_var 1) da_nil)) (by show blkC ["_law_cell", "_law_many", "_law_letters", "_law_number_here", "_law_base", "_law_j", "_law_k", "_law_long", "_law_at", "_law_words_here", "_law_signs"] (defScope s__law_words) _ _ = true; decide +kernel) (fun _ _ _ _ _ => (dg_name 6 sc__law_words.nd)) (fun _ _ _ _ _ => dts_nil) (fun _ _ _ _ _ => (d_slice (d_var 4) do_none (do_some (d_op op_addD o_add d_int (d_op op_mod o_mod (d_op op_addD o_add (d_op op_fdiv o_fdiv (d_var 3) d_int) (d_op op_mul o_mul d_int (d_var 6))) d_int))))) (by decide))))))
    ss_nil)
    (ss_cons (m2 := [false, false, false, false, false, false, false, false, false, false, false]) (s_set 7 sc__law_words.nd (d_op op_addD o_add d_int (d_op op_mod o_mod (d_var 3) d_int)))
    (ss_cons (m2 := [false, false, false, false, false, false, false, false, false, false, false]) (s_set 8 sc__law_words.nd (d_op op_mod o_mod (d_op op_fdiv o_fdiv (d_var 3) d_int) (d_var 7)) rfl (Or.inr rfl))
    (ss_cons (m2 := [false, false, false, false, false, false, false, false, false, true, false]) (s_setN 9 sc__law_words.nd (n_list da_nil) (by decide))
    (ss_cons (m2 := [false, false, false, false, false, false, false, false, false, true, false]) (s_for (passes_of rfl) rfl (di_range1 T.f_range (da_cons (d_var 1) da_nil)) (dg_name 6 sc__law_words.nd rfl (Or.inr rfl))
    (ss_cons (m2 := [false, false, false, false, false, false, false, false, false, true, false]) (s_setLc 10 (own := [("_law_j", 5)]) rfl sc__law_words.nd (di_range1 T.f_range (da_cons (d_var 7) da_nil)) (by show blkC ["_law_cell", "_law_many", "_law_letters", "_law_number_here", "_law_base", "_law_j", "_law_k", "_law_long", "_law_at", "_law_words_here", "_law_signs"] (defScope s__law_words) _ _ = true; decide +kernel) (fun _ _ _ _ _ => (dg_name 5 sc__law_words.nd)) (fun _ _ _ _ _ => dts_nil) (fun _ _ _ _ _ => (d_ix (d_var 2) (d_op op_mod o_mod (d_op op_addD o_add (d_c (calF_of h__law_mix T.g__law_mix) hr (by decide) takes0 (da_cons (d_var 0) (da_cons (d_op op_addD o_add d_int (d_var 5)) da_nil))) (d_op op_mul o_mul (d_op op_mul o_mul d_int (d_var 6)) (d_callTy call_int1 c_int T.f_int (da_cons (d_cmp (op_eq2 hr.units) o_eq (d_var 5) (d_var 8) (nomark _)) da_nil)))) d_int))) (by decide))
    (ss_one (s_append 9 (d_met PySem.F.plainAttrs_str PySem.F.slot_str_join PySem.F.type_str_join mt_join o_join d_str (da_cons (d_var 10) da_nil))))))
    (ss_one (s_retO 9)))))))))
theorem sc__law_switches : FnScope ["_law_cell", "_law_most", "_law_words_here", "_law_switches_here", "_law_product", "_law_k", "_law_size"] ["_law_cell", "_law_most"] (defScope s__law_switches) := ⟨rfl, rfl, rfl, by decide +kernel, rfl, by decide +kernel, by decide +kernel⟩
theorem c__law_switches (T : Tx K mg) (h__law_words : UnF P' w K mg base 2 (He.ga K "_law_words") ["_law_cell", "_law_many"] F__law_words) (h__law_mix : UnF P' w K mg base 1 (He.ga K "_law_mix") ["_law_cell", "_law_k"] F__law_mix) (Df : DefU K "_law_switches" "_law_switches" s__law_switches (He.ga K "_law_switches") ["_law_cell", "_law_most"]) : UnF P' w K mg base 3 (He.ga K "_law_switches") ["_law_cell", "_law_most"] F__law_switches :=
  un_d (mm := [false, false, false, false, false, false, false]) (m' := []) (s := S__law_switches) 7 Df sc__law_switches rfl (by decide) fun cdv A outer sh H E F0 hr =>
    (ss_cons (m2 := [false, false, false, false, false, false, false]) (s_set 2 sc__law_switches.nd (d_c (calF_of h__law_words T.g__law_words) hr (by decide) (takes_of rfl rfl rfl rfl) (da_cons (d_var 0) (da_cons d_int da_nil))))
    (ss_cons (m2 := [false, false, false, true, false, false, false]) (s_setN 3 sc__law_switches.nd (n_list da_nil) (by decide))
    (ss_cons (m2 := [false, false, false, true, false, false, false]) (s_set 4 sc__law_switches.nd d_int)
    (ss_cons (m2 := [false, false, false, true, false, false, false]) (s_for (passes_of rfl) rfl (di_range1 T.f_range (da_cons (d_op op_addD o_add d_int (d_op op_mod o_mod (d_c (calF_of h__law_mix T.g__law_mix) hr (by decide) (takes_of rfl rfl rfl rfl) (da_cons (d_var 0) (da_cons d_int da_nil))) d_int)) da_nil)) (dg_name 5 sc__law_switches.nd)
    (ss_cons (m2 := [false, false, false, true, false, false, false]) (s_set 6 sc__law_switches.nd (d_op op_addD o_add d_int (d_op op_mod o_mod (d_c (calF_of h__law_mix T.g__law_mix) hr (by decide) (takes_of rfl rfl rfl rfl) (da_cons (d_var 0) (da_cons (d_op op_addD o_add d_int (d_var 5)) da_nil))) d_int)))
    (ss_cons (m2 := [false, false, false, true, false, false, false]) (s_if (t_cmp op_gt2 o_gt (d_op op_mul o_mul (d_var 4) (d_var 6)) (d_var 1) (nomark _))
    (ss_one (s_set 6 sc__law_switches.nd d_int))
    ss_nil)
    (ss_one (s_if (t_cmp op_le o_le (d_op op_mul o_mul (d_var 4) (d_var 6)) (d_var 1) (nomark _))
    (ss_cons (m2 := [false, false, false, true, false, false, false]) (s_set 4 sc__law_switches.nd (d_op op_mul o_mul (d_var 4) (d_var 6)))
    (ss_one (s_append 3 (d_tup (da_cons (d_ix (d_var 2) (d_var 5)) (da_cons (d_c (calF_of h__law_words T.g__law_words) hr (by decide) (takes_of rfl rfl rfl rfl) (da_cons (d_op op_addD o_add (d_op op_addD o_add (d_var 0) (d_var 5)) d_int) (da_cons (d_var 6) da_nil))) da_nil))))))
    ss_nil)))))
    (ss_one (s_retO 3))))))
theorem sc__law_rows : FnScope ["_law_switches_here", "_law_rows_here", "_law_word", "_law_settings", "_law_longer", "_law_row", "_law_setting"] ["_law_switches_here"] (defScope s__law_rows) := ⟨rfl, rfl, rfl, by decide +kernel, rfl, by decide +kernel, by decide +kernel⟩
theorem c__law_rows (T : Tx K mg) (Df : DefU K "_law_rows" "_law_rows" s__law_rows (He.ga K "_law_rows") ["_law_switches_here"]) : UnF P' w K mg base 1 (He.ga K "_law_rows") ["_law_switches_here"] F__law_rows :=
  un_d (mm := [false, false, false, false, false, false, false]) (m' := []) (s := S__law_rows) 7 Df sc__law_rows rfl (by decide) fun cdv A outer sh H E F0 hr =>
    (ss_cons (m2 := [false, false, false, false, false, false, false]) (s_set 1 sc__law_rows.nd (d_new (n_list (da_cons (d_new (n_list da_nil)) da_nil))))
    (ss_cons (m2 := [false, false, false, false, false, false, false]) (s_for (passes_of rfl) rfl (di_seq (d_var 0)) (dg_tup rfl (dgs_cons (dg_name 2 sc__law_rows.nd) (dgs_cons (dg_name 3 sc__law_rows.nd) dgs_nil)))
    (ss_cons (m2 := [false, false, false, false, true, false, false]) (s_setN 4 sc__law_rows.nd (n_list da_nil) (by decide))
    (ss_cons (m2 := [false, false, false, false, true, false, false]) (s_for (passes_of rfl) rfl (di_seq (d_var 1)) (dg_name 5 sc__law_rows.nd)
    (ss_one (s_for (passes_of rfl) rfl (di_seq (d_var 3)) (dg_name 6 sc__law_rows.nd)
    (ss_one (s_append 4 (d_op op_addD o_add (d_var 5) (d_new (n_list (da_cons (d_var 6) da_nil)))))))))
    (ss_share 4 (Bs.ok_of rfl) (ss_one (s_set 1 sc__law_rows.nd (d_var 4)))))))
    (ss_one (s_ret (d_var 1)))))
theorem sc_Panel_all_choices : FnScope ["self"] ["self"] (defScope s_Panel_all_choices) := ⟨rfl, rfl, rfl, by decide +kernel, rfl, by decide +kernel, by decide +kernel⟩
theorem c_Panel_all_choices (T : Tx K mg) (Df : DefU K "all_choices" "Panel.all_choices" s_Panel_all_choices (He.fAd K ("Panel", some "all_choices")) ["self"]) : UnF P' w K mg base 1 (He.fAd K ("Panel", some "all_choices")) ["self"] F_Panel_all_choices :=
  un_d (mm := []) (m' := []) (s := S_Panel_all_choices) 1 Df sc_Panel_all_choices rfl (by decide) fun cdv A outer sh H E F0 hr =>
    (ss_one (s_ret (d_op op_sub o_sub (d_op op_shl o_shl d_int (d_fld (f := "total") ["Panel"] T.fld_total (d_var 0))) d_int)))
theorem sc_is_of : FnScope ["thing", "signs", "longest", "sign"] ["thing", "signs", "longest"] (defScope s_is_of) := ⟨rfl, rfl, rfl, by decide +kernel, rfl, by decide +kernel, by decide +kernel⟩
theorem c_is_of (T : Tx K mg) (Df : DefU K "is_of" "is_of" s_is_of (He.ga K "is_of") ["thing", "signs", "longest"]) : UnF P' w K mg base 1 (He.ga K "is_of") ["thing", "signs", "longest"] F_is_of :=
  un_d (mm := []) (m' := []) (s := S_is_of) 4 Df sc_is_of rfl (by decide) fun cdv A outer sh H E F0 hr =>
    (ss_cons (m2 := []) (s_if (t_w (w_or (t_not (t_val (d_isinst T.f_isinstance T.f_str (d_var 0)))) (w_or1 (t_not (t_chain op_le o_le op_le o_le nx_le d_int (d_callB call_len c_len T.f_len (da_cons (d_var 0) da_nil)) (d_var 2))))))
    (ss_one (s_ret d_bl))
    ss_nil)
    (ss_cons (m2 := []) (s_for (passes_of rfl) rfl (di_seq (d_var 0)) (dg_name 3 sc_is_of.nd)
    (ss_one (s_if (t_cmp (op_notIn2 hr.u65) o_notIn (d_var 3) (d_var 1) (by rfl))
    (ss_one (s_ret d_bl))
    ss_nil)))
    (ss_one (s_ret d_bl))))
theorem sc_is_word : FnScope ["thing"] ["thing"] (defScope s_is_word) := ⟨rfl, rfl, rfl, by decide +kernel, rfl, by decide +kernel, by decide +kernel⟩
theorem c_is_word (T : Tx K mg) (h_is_of : UnF P' w K mg base 1 (He.ga K "is_of") ["thing", "signs", "longest"] F_is_of) (Df : DefU K "is_word" "is_word" s_is_word (He.ga K "is_word") ["thing"]) : UnF P' w K mg base 2 (He.ga K "is_word") ["thing"] F_is_word :=
  un_d (mm := []) (m' := []) (s := S_is_word) 1 Df sc_is_word rfl (by decide) fun cdv A outer sh H E F0 hr =>
    (ss_one (s_ret (d_c (calF_of h_is_of T.g_is_of) hr (by decide) (takes_of rfl rfl rfl rfl) (da_cons (d_var 0) (da_cons (d_gstr (by rfl) T.k_LETTERS) (da_cons d_int da_nil))))))
theorem sc_are_settings : FnScope ["thing", "k", "word"] ["thing"] (defScope s_are_settings) := ⟨rfl, rfl, rfl, by decide +kernel, rfl, by decide +kernel, by decide +kernel⟩
theorem c_are_settings (T : Tx K mg) (h_is_word : UnF P' w K mg base 2 (He.ga K "is_word") ["thing"] F_is_word) (Df : DefU K "are_settings" "are_settings" s_are_settings (He.ga K "are_settings") ["thing"]) : UnF P' w K mg base 3 (He.ga K "are_settings") ["thing"] F_are_settings :=
  un_d (mm := []) (m' := []) (s := S_are_settings) 3 Df sc_are_settings rfl (by decide) fun cdv A outer sh H E F0 hr =>
    (ss_cons (m2 := []) (s_if (t_w (w_or (t_not (t_val (d_isinst T.f_isinstance T.f_list (d_var 0)))) (w_or1 (t_not (t_chain op_le o_le op_le o_le nx_le d_int (d_callB call_len c_len T.f_len (da_cons (d_var 0) da_nil)) (d_gint (by rfl) T.k_MOST_SETTINGS))))))
    (ss_one (s_ret d_bl))
    ss_nil)
    (ss_cons (m2 := []) (s_for (passes_of rfl) rfl (di_enum T.f_enumerate (da_cons (d_var 0) da_nil)) (dg_tup rfl (dgs_cons (dg_name 1 sc_are_settings.nd) (dgs_cons (dg_name 2 sc_are_settings.nd) dgs_nil)))
    (ss_one (s_if (t_w (w_or (t_not (t_val (d_c (calF_of h_is_word T.g_is_word) hr (by decide) (takes_of rfl rfl rfl rfl) (da_cons (d_var 2) da_nil)))) (w_or1 (t_cmp (op_in2 hr.u65) o_in (d_var 2) (d_slice (d_var 0) do_none (do_some (d_var 1))) (by rfl)))))
    (ss_one (s_ret d_bl))
    ss_nil)))
    (ss_one (s_ret d_bl))))
theorem sc_are_switches : FnScope ["thing", "seen", "choices", "switch"] ["thing"] (defScope s_are_switches) := ⟨rfl, rfl, rfl, by decide +kernel, rfl, by decide +kernel, by decide +kernel⟩
theorem c_are_switches (T : Tx K mg) (h_is_word : UnF P' w K mg base 2 (He.ga K "is_word") ["thing"] F_is_word) (h_are_settings : UnF P' w K mg base 3 (He.ga K "are_settings") ["thing"] F_are_settings) (Df : DefU K "are_switches" "are_switches" s_are_switches (He.ga K "are_switches") ["thing"]) : UnF P' w K mg base 4 (He.ga K "are_switches") ["thing"] F_are_switches :=
  un_d (mm := [false, false, false, false]) (m' := []) (s := S_are_switches) 4 Df sc_are_switches rfl (by decide) fun cdv A outer sh H E F0 hr =>
    (ss_cons (m2 := [false, false, false, false]) (s_if (t_w (w_or (t_not (t_val (d_isinst T.f_isinstance T.f_list (d_var 0)))) (w_or1 (t_not (t_chain op_le o_le op_le o_le nx_le d_int (d_callB call_len c_len T.f_len (da_cons (d_var 0) da_nil)) (d_gint (by rfl) T.k_MOST_SWITCHES))))))
    (ss_one (s_ret d_bl))
    ss_nil)
    (ss_cons (m2 := [false, true, false, false]) (s_setN 1 sc_are_switches.nd (n_list da_nil) (by decide))
    (ss_cons (m2 := [false, true, false, false]) (s_set 2 sc_are_switches.nd d_int)
    (ss_cons (m2 := [false, true, false, false]) (s_for (passes_of rfl) rfl (di_seq (d_var 0)) (dg_name 3 sc_are_switches.nd)
    (ss_cons (m2 := [false, true, false, false]) (s_if (t_w (w_or (t_not (t_val (d_isinst T.f_isinstance T.f_tuple (d_var 3)))) (w_or1 (t_cmp (op_ne2 hr.units) o_ne (d_callB call_len c_len T.f_len (da_cons (d_var 3) da_nil)) d_int (nomark _)))))
    (ss_one (s_ret d_bl))
    ss_nil)
    (ss_cons (m2 := [false, true, false, false]) (s_if (t_scal fun _ _ => (t_w (w_or (t_not (t_val (d_c (calF_of h_is_word T.g_is_word) hr (by decide) takes0 (da_cons (d_ix (d_var 3) d_int) da_nil)))) (w_or (t_cmp (op_in2 hr.u65) o_in (d_ix (d_var 3) d_int) (d_var 1) (by rfl)) (w_or1 (t_not (t_val (d_c (calF_of h_are_settings T.g_are_settings) hr (by decide) takes0 (da_cons (d_ix (d_var 3) d_int) da_nil)))))))))
    (ss_one (s_ret d_bl))
    ss_nil)
    (ss_cons (m2 := [false, true, false, false]) (s_append 1 (d_ix (d_var 3) d_int))
    (ss_one (s_set 2 sc_are_switches.nd (d_op op_mul o_mul (d_var 2) (d_callB call_len c_len T.f_len (da_cons (d_ix (d_var 3) d_int) da_nil)))))))))
    (ss_one (s_ret (d_cmp op_le o_le (d_var 2) (d_gint (by rfl) T.k_MOST_CHOICES) (nomark _))))))))
theorem sc_Panel_copied_terms : FnScope ["self", "terms", "found", "switch", "settings"] ["self", "terms"] (defScope s_Panel_copied_terms) := ⟨rfl, rfl, rfl, by decide +kernel, rfl, by decide +kernel, by decide +kernel⟩
theorem c_Panel_copied_terms (T : Tx K mg) (Df : DefU K "copied_terms" "Panel.copied_terms" s_Panel_copied_terms (He.fAd K ("Panel", some "copied_terms")) ["self", "terms"]) : UnN P' w K mg base 1 (He.fAd K ("Panel", some "copied_terms")) ["self", "terms"] F_Panel_copied_terms :=
  un_n (mm := [false, false, false, false, false]) (m' := []) (s := S_Panel_copied_terms) 5 Df sc_Panel_copied_terms rfl (by decide) fun cdv A outer sh H E F0 hr =>
    (ss_cons (m2 := [false, false, true, false, false]) (s_setN 2 sc_Panel_copied_terms.nd n_dict0 (by decide))
    (ss_cons (m2 := [false, false, true, false, false]) (s_for (passes_of rfl) rfl (di_items (d_var 1)) (dg_tup rfl (dgs_cons (dg_name 3 sc_Panel_copied_terms.nd) (dgs_cons (dg_name 4 sc_Panel_copied_terms.nd) dgs_nil)))
    (ss_one (s_dput 2 (hu1 hr.u65) (d_new (n_callTy call_list_of c_list T.f_list (da_cons (d_var 4) da_nil))) (d_var 3))))
    (ss_one (s_retO 2))))
theorem sc_Panel_are_terms : FnScope ["self", "terms", "known", "switch", "settings", "k", "setting"] ["self", "terms"] (defScope s_Panel_are_terms) := ⟨rfl, rfl, rfl, by decide +kernel, rfl, by decide +kernel, by decide +kernel⟩
theorem c_Panel_are_terms (T : Tx K mg) (Df : DefU K "are_terms" "Panel.are_terms" s_Panel_are_terms (He.fAd K ("Panel", some "are_terms")) ["self", "terms"]) : UnF P' w K mg base 1 (He.fAd K ("Panel", some "are_terms")) ["self", "terms"] F_Panel_are_terms :=
  un_d (mm := []) (m' := []) (s := S_Panel_are_terms) 7 Df sc_Panel_are_terms rfl (by decide) fun cdv A outer sh H E F0 hr =>
    (ss_cons (m2 := []) (s_set 2 sc_Panel_are_terms.nd (d_newL (n_callTy (call_dictP rfl) c_dictP T.f_dict (da_cons (d_fld (f := "dials") ["Panel"] T.fld_dials (d_var 0)) da_nil))))
    (ss_cons (m2 := []) (s_for (passes_of rfl) rfl (di_items (d_var 1)) (dg_tup rfl (dgs_cons (dg_name 3 sc_Panel_are_terms.nd) (dgs_cons (dg_name 4 sc_Panel_are_terms.nd) dgs_nil)))
    (ss_cons (m2 := []) (s_if (t_w (w_or (t_cmp (op_notInX hr.u65) o_notInX (d_var 3) (d_var 2) (by rfl)) (w_or (t_not (t_val (d_isinst T.f_isinstance T.f_list (d_var 4)))) (w_or1 (t_cmp (op_eq2 hr.units) o_eq (d_var 4) (d_new (n_list da_nil)) (nomark _))))))
    (ss_one (s_ret d_bl))
    ss_nil)
    (ss_one (s_for (passes_of rfl) rfl (di_enum T.f_enumerate (da_cons (d_var 4) da_nil)) (dg_tup rfl (dgs_cons (dg_name 5 sc_Panel_are_terms.nd) (dgs_cons (dg_name 6 sc_Panel_are_terms.nd) dgs_nil)))
    (ss_one (s_if (t_w (w_or (t_cmp (op_notInX hr.u65) o_notInX (d_var 6) (d_ixX (hu1 hr.u65) (d_var 2) (d_var 3)) (by rfl)) (w_or1 (t_cmp (op_inX hr.u65) o_inX (d_var 6) (d_slice (d_var 4) do_none (do_some (d_var 5))) (by rfl)))))
    (ss_one (s_ret d_bl))
    ss_nil))))))
    (ss_one (s_ret d_bl))))
theorem sc_Panel_told_rules : FnScope ["self", "rules", "found", "rule"] ["self", "rules"] (defScope s_Panel_told_rules) := ⟨rfl, rfl, rfl, by decide +kernel, rfl, by decide +kernel, by decide +kernel⟩
theorem c_Panel_told_rules (T : Tx K mg) (h_Panel_are_terms : UnF P' w K mg base 1 (He.fAd K ("Panel", some "are_terms")) ["self", "terms"] F_Panel_are_terms) (h_Panel_copied_terms : UnN P' w K mg base 1 (He.fAd K ("Panel", some "copied_terms")) ["self", "terms"] F_Panel_copied_terms) (Df : DefU K "told_rules" "Panel.told_rules" s_Panel_told_rules (He.fAd K ("Panel", some "told_rules")) ["self", "rules"]) : UnN P' w K mg base 2 (He.fAd K ("Panel", some "told_rules")) ["self", "rules"] F_Panel_told_rules :=
  un_n (mm := [false, false, false, false]) (m' := []) (s := S_Panel_told_rules) 4 Df sc_Panel_told_rules rfl (by decide) fun cdv A outer sh H E F0 hr =>
    (ss_cons (m2 := [false, false, false, false]) (s_if (t_w (w_or (t_not (t_val (d_isinst T.f_isinstance T.f_list (d_var 1)))) (w_or1 (t_cmp op_gt2 o_gt (d_callB call_len c_len T.f_len (da_cons (d_var 1) da_nil)) (d_gint (by rfl) T.k_MOST_RULES) (nomark _)))))
    (ss_one (s_raise T.exc_BadPanel rfl (takes_of rfl rfl rfl rfl)))
    ss_nil)
    (ss_cons (m2 := [false, false, true, false]) (s_setN 2 sc_Panel_told_rules.nd (n_list da_nil) (by decide))
    (ss_cons (m2 := [false, false, true, false]) (s_for (passes_of rfl) rfl (di_seq (d_var 1)) (dg_name 3 sc_Panel_told_rules.nd)
    (ss_cons (m2 := [false, false, true, false]) (s_if (t_w (w_or (t_not (t_val (d_isinst T.f_isinstance T.f_dict (d_var 3)))) (w_or (t_cmp (op_eqY hr.units) o_eqY (d_var 3) (d_newL n_dict0) (nomark _)) (w_or1 (t_not (t_val (d_meth (fm (d_meth1 (calM_of h_Panel_are_terms T.cls_Panel T.met_Panel_are_terms) hr (by decide) (takes_of rfl rfl rfl rfl) (d_var 0) (da_cons (d_var 3) da_nil) rfl rfl rfl) fn0))))))))
    (ss_one (s_raise T.exc_BadPanel rfl (takes_of rfl rfl rfl rfl)))
    ss_nil)
    (ss_one (s_append 2 (d_newL (n_meth (fm (n_meth1 (calMN_of h_Panel_copied_terms T.cls_Panel T.met_Panel_copied_terms) hr (by decide) (takes_of rfl rfl rfl rfl) (d_var 0) (da_cons (d_var 3) da_nil) rfl rfl rfl) fn0)))))))
    (ss_one (s_retO 2)))))
theorem sc_is_whole : FnScope ["thing"] ["thing"] (defScope s_is_whole) := ⟨rfl, rfl, rfl, by decide +kernel, rfl, by decide +kernel, by decide +kernel⟩
theorem c_is_whole (T : Tx K mg) (Df : DefU K "is_whole" "is_whole" s_is_whole (He.ga K "is_whole") ["thing"]) : UnF P' w K mg base 1 (He.ga K "is_whole") ["thing"] F_is_whole :=
  un_d (mm := []) (m' := []) (s := S_is_whole) 1 Df sc_is_whole rfl (by decide) fun cdv A outer sh H E F0 hr =>
    (ss_one (s_ret (d_and (d_isinst T.f_isinstance T.f_int (d_var 0)) (d_one (d_not (d_isinst T.f_isinstance T.f_bool (d_var 0)))))))
theorem sc_Panel_told : FnScope ["self", "number", "found", "word", "settings", "at"] ["self", "number"] (defScope s_Panel_told) := ⟨rfl, rfl, rfl, by decide +kernel, rfl, by decide +kernel, by decide +kernel⟩
theorem c_Panel_told (T : Tx K mg) (h_is_whole : UnF P' w K mg base 1 (He.ga K "is_whole") ["thing"] F_is_whole) (Df : DefU K "told" "Panel.told" s_Panel_told (He.fAd K ("Panel", some "told")) ["self", "number"]) : UnF P' w K mg base 2 (He.fAd K ("Panel", some "told")) ["self", "number"] F_Panel_told :=
  un_d (mm := [false, false, false, false, false, false]) (m' := []) (s := S_Panel_told) 6 Df sc_Panel_told rfl (by decide) fun cdv A outer sh H E F0 hr =>
    (ss_cons (m2 := [false, false, false, false, false, false]) (s_if (t_w (w_or (t_not (t_val (d_c (calF_of h_is_whole T.g_is_whole) hr (by decide) (takes_of rfl rfl rfl rfl) (da_cons (d_var 1) da_nil)))) (w_or1 (t_not (t_chain op_le o_le op_lt2 o_lt nx_le d_int (d_var 1) (d_fld (f := "total") ["Panel"] T.fld_total (d_var 0)))))))
    (ss_one (s_raise T.exc_NoChoice rfl (takes_of rfl rfl rfl rfl)))
    ss_nil)
    (ss_cons (m2 := [false, false, true, false, false, false]) (s_setN 2 sc_Panel_told.nd (n_list da_nil) (by decide))
    (ss_cons (m2 := [false, false, true, false, false, false]) (s_for (passes_of rfl) rfl (di_rev T.f_reversed (d_fld (f := "dials") ["Panel"] T.fld_dials (d_var 0))) (dg_tup rfl (dgs_cons (dg_name 3 sc_Panel_told.nd) (dgs_cons (dg_name 4 sc_Panel_told.nd) dgs_nil)))
    (ss_cons (m2 := [false, false, true, false, false, false]) (s_asg (d_callB call_divmodW c_dvm T.f_divmod (da_cons (d_var 1) (da_cons (d_callB call_len c_len T.f_len (da_cons (d_var 4) da_nil)) da_nil))) (dg_tup rfl (dgs_cons (dg_name 1 sc_Panel_told.nd) (dgs_cons (dg_name 5 sc_Panel_told.nd) dgs_nil))))
    (ss_one (s_ownL 2 PySem.F.slot_list_insert PySem.F.type_list_insert mt_insert own_ins (da_cons d_int (da_cons (d_ix (d_var 4) (d_var 5)) da_nil))))))
    (ss_share 2 (Bs.ok_of rfl) (ss_one (s_ret (d_callTy call_tuple_of c_tuple T.f_tuple (da_cons (d_var 2) da_nil))))))))
theorem sc_Panel_box : FnScope ["self", "terms", "choices", "number", "settings", "k", "dial"] ["self", "terms"] (defScope s_Panel_box) := ⟨rfl, rfl, rfl, by decide +kernel, rfl, by decide +kernel, by decide +kernel⟩
theorem c_Panel_box (T : Tx K mg) (h_Panel_are_terms : UnF P' w K mg base 1 (He.fAd K ("Panel", some "are_terms")) ["self", "terms"] F_Panel_are_terms) (h_Panel_told : UnF P' w K mg base 2 (He.fAd K ("Panel", some "told")) ["self", "number"] F_Panel_told) (Df : DefU K "box" "Panel.box" s_Panel_box (He.fAd K ("Panel", some "box")) ["self", "terms"]) : UnF P' w K mg base 3 (He.fAd K ("Panel", some "box")) ["self", "terms"] F_Panel_box :=
  un_d (mm := []) (m' := []) (s := S_Panel_box) 7 Df sc_Panel_box rfl (by decide) fun cdv A outer sh H E F0 hr =>
    (ss_cons (m2 := []) (s_if (t_w (w_or (t_not (t_val (d_isinst T.f_isinstance T.f_dict (d_var 1)))) (w_or1 (t_not (t_val (d_meth (fm (d_meth1 (calM_of h_Panel_are_terms T.cls_Panel T.met_Panel_are_terms) hr (by decide) (takes_of rfl rfl rfl rfl) (d_var 0) (da_cons (d_var 1) da_nil) rfl rfl rfl) fn0)))))))
    (ss_one (s_raise T.exc_BadCond rfl (takes_of rfl rfl rfl rfl)))
    ss_nil)
    (ss_cons (m2 := []) (s_set 2 sc_Panel_box.nd d_int)
    (ss_cons (m2 := []) (s_for (passes_of rfl) rfl (di_range1 T.f_range (da_cons (d_fld (f := "total") ["Panel"] T.fld_total (d_var 0)) da_nil)) (dg_name 3 sc_Panel_box.nd)
    (ss_cons (m2 := []) (s_set 4 sc_Panel_box.nd (d_meth (fm (d_meth1 (calM_of h_Panel_told T.cls_Panel T.met_Panel_told) hr (by decide) (takes_of rfl rfl rfl rfl) (d_var 0) (da_cons (d_var 3) da_nil) rfl rfl rfl) fn0)) rfl (Or.inr rfl))
    (ss_one (s_if (t_val (d_callB (cr_all rfl) c_all T.f_all (da_cons (d_new (n_lc (own := [("k", 5), ("dial", 6)]) rfl sc_Panel_box.nd (di_enum T.f_enumerate (da_cons (d_fld (f := "dials") ["Panel"] T.fld_dials (d_var 0)) da_nil)) (by show blkC ["self", "terms", "choices", "number", "settings", "k", "dial"] (defScope s_Panel_box) _ _ = true; decide +kernel) (fun _ _ _ _ _ => (dg_tup rfl (dgs_cons (dg_name 5 sc_Panel_box.nd) (dgs_cons (dg_name 6 sc_Panel_box.nd) dgs_nil)))) (fun _ _ _ _ _ => dts_nil) (fun _ _ _ _ _ => (d_cmp (op_in2 hr.u65) o_in (d_ix (d_var 4) (d_var 5)) (d_get2x (hu1 hr.u65) (d_var 1) (d_ix (d_var 6) d_int) (d_ix (d_var 6) d_int)) (by rfl))) (by decide))) da_nil)))
    (ss_one (s_set 2 sc_Panel_box.nd (d_op op_or o_or (d_var 2) (d_op op_shl o_shl d_int (d_var 3)))))
    ss_nil))))
    (ss_one (s_ret (d_var 2))))))
theorem sc_Panel_init : FnScope ["self", "switches", "rules", "word", "settings", "rule", "choices"] ["self", "switches", "rules"] (defScope s_Panel_init) := ⟨rfl, rfl, rfl, by decide +kernel, rfl, by decide +kernel, by decide +kernel⟩
theorem c_Panel_init (T : Tx K mg) (h_are_switches : UnF P' w K mg base 4 (He.ga K "are_switches") ["thing"] F_are_switches) (h_Panel_told_rules : UnN P' w K mg base 2 (He.fAd K ("Panel", some "told_rules")) ["self", "rules"] F_Panel_told_rules) (h_Panel_box : UnF P' w K mg base 3 (He.fAd K ("Panel", some "box")) ["self", "terms"] F_Panel_box) (h_Panel_all_choices : UnF P' w K mg base 1 (He.fAd K ("Panel", some "all_choices")) ["self"] F_Panel_all_choices) (Df : DefU1 K "__init__" "Panel.__init__" s_Panel_init (He.fAd K ("Panel", some "__init__")) ["self", "switches", "rules"]) : UnQ1 P' w K mg base 5 (He.fAd K ("Panel", some "__init__")) ["self", "switches", "rules"] FQ_Panel_init :=
  un_q1 (s := SQ_Panel_init) 7 Df sc_Panel_init rfl fun cdv A outer sh H E B hr =>
    (qss_cons (qs_if (qt_pure fun _ _ => (t_not (t_val (d_c (calF_of h_are_switches T.g_are_switches) hr (by decide) (takes_of rfl rfl rfl rfl) (da_cons (d_var 1) da_nil)))))
    (qss_one (qs_raise T.exc_BadPanel rfl (takes_of rfl rfl rfl rfl)))
    qss_nil)
    (qss_cons (qs_fld (f := "dials") ["Panel"] T.fld_dials (q_var 0) (q_pure fun _ _ => (d_new (n_lc (own := [("word", 3), ("settings", 4)]) rfl sc_Panel_init.nd (di_seq (d_var 1)) (by show blkC ["self", "switches", "rules", "word", "settings", "rule", "choices"] (defScope s_Panel_init) _ _ = true; decide +kernel) (fun _ _ _ _ _ => (dg_tup rfl (dgs_cons (dg_name 3 sc_Panel_init.nd) (dgs_cons (dg_name 4 sc_Panel_init.nd) dgs_nil)))) (fun _ _ _ _ _ => dts_nil) (fun _ _ _ _ _ => (d_tup (da_cons (d_var 3) (da_cons (d_callTy call_tuple_x c_tupX T.f_tuple (da_cons (d_var 4) da_nil)) da_nil)))) (by decide)))))
    (qss_cons (qs_fld (f := "total") ["Panel"] T.fld_total (q_var 0) (q_pure fun _ _ => d_int))
    (qss_cons (qs_forI (passes_of rfl) rfl (diq_seq (q_fld (f := "dials") ["Panel"] T.fld_dials (q_var 0))) (qg_tup rfl (qgs_cons (qg_name 3 sc_Panel_init.nd) (qgs_cons (qg_name 4 sc_Panel_init.nd) qgs_nil)))
    (qss_one (qs_fld (f := "total") ["Panel"] T.fld_total (q_var 0) (q_snap fun _ _ => (d_op op_mul o_mul (d_fld (f := "total") ["Panel"] T.fld_total (d_var 0)) (d_callB call_len c_len T.f_len (da_cons (d_var 4) da_nil)))))))
    (qss_cons (qs_fld (f := "bars") ["Panel"] T.fld_bars (q_var 0) (q_pure fun _ _ => (d_new (n_list da_nil))))
    (qss_cons (qs_if (qt_pure fun _ _ => (t_cmp op_notN o_notN (d_var 2) d_non (nomark _)))
    (qss_one (qs_fld (f := "bars") ["Panel"] T.fld_bars (q_var 0) (q_meth (fm (q_meth1 (metQ_of h_Panel_told_rules.un.snap T.cls_Panel T.met_Panel_told_rules) hr (by decide) (takes_of rfl rfl rfl rfl) (q_var 0) (qa_pure fun _ _ => (da_cons (d_var 2) da_nil)) rfl rfl rfl) fn0))))
    qss_nil)
    (qss_cons (qs_fld (f := "barring") ["Panel"] T.fld_barring (q_var 0) (q_snap fun _ _ => (d_new (n_lc (own := [("rule", 5)]) rfl sc_Panel_init.nd (di_seq (d_fld (f := "bars") ["Panel"] T.fld_bars (d_var 0))) (by show blkC ["self", "switches", "rules", "word", "settings", "rule", "choices"] (defScope s_Panel_init) _ _ = true; decide +kernel) (fun _ _ _ _ _ => (dg_name 5 sc_Panel_init.nd)) (fun _ _ _ _ _ => dts_nil) (fun _ _ _ _ _ => (d_meth (fm (d_meth1 (calM_of h_Panel_box T.cls_Panel T.met_Panel_box) hr (by decide) takes0 (d_var 0) (da_cons (d_var 5) da_nil) rfl rfl rfl) fn0))) (by decide)))))
    (qss_cons (qs_fld (f := "free") ["Panel"] T.fld_free (q_var 0) (q_meth (fm (q_meth0 (metQ_of h_Panel_all_choices.snap T.cls_Panel T.met_Panel_all_choices) hr (by decide) (takes_of rfl rfl rfl rfl) (q_var 0) rfl) fn0)))
    (qss_cons (qs_forI (passes_of rfl) rfl (diq_seq (q_fld (f := "barring") ["Panel"] T.fld_barring (q_var 0))) (qg_name 6 sc_Panel_init.nd)
    (qss_one (qs_fld (f := "free") ["Panel"] T.fld_free (q_var 0) (q_snap fun _ _ => (d_op op_and o_and (d_fld (f := "free") ["Panel"] T.fld_free (d_var 0)) (d_op op_xor o_xor (d_meth (fm (d_meth0 (calM_of h_Panel_all_choices T.cls_Panel T.met_Panel_all_choices) hr (by decide) (takes_of rfl rfl rfl rfl) (d_var 0) rfl) fn0)) (d_var 6)))))))
    (qss_one (qs_if (qt_snap fun _ _ => (t_cmp (op_eq2 hr.units) o_eq (d_fld (f := "free") ["Panel"] T.fld_free (d_var 0)) d_int (nomark _)))
    (qss_one (qs_raise T.exc_NoChoice rfl (takes_of rfl rfl rfl rfl)))
    qss_nil)))))))))))
theorem sc_Panel_init_loc : FnScope ["self", "switches", "rules", "word", "settings", "rule", "choices"] ["self", "switches", "rules"] (defScope s_Panel_init) := ⟨rfl, rfl, rfl, by decide +kernel, rfl, by decide +kernel, by decide +kernel⟩
theorem c_Panel_init_loc (T : Tx K mg) (h_are_switches : UnF P' w K mg base 4 (He.ga K "are_switches") ["thing"] F_are_switches) (h_Panel_told_rules : UnN P' w K mg base 2 (He.fAd K ("Panel", some "told_rules")) ["self", "rules"] F_Panel_told_rules) (h_Panel_box : UnF P' w K mg base 3 (He.fAd K ("Panel", some "box")) ["self", "terms"] F_Panel_box) (h_Panel_all_choices : UnF P' w K mg base 1 (He.fAd K ("Panel", some "all_choices")) ["self"] F_Panel_all_choices) (Df : DefU1 K "__init__" "Panel.__init__" s_Panel_init (He.fAd K ("Panel", some "__init__")) ["self", "switches", "rules"]) : UnQ1 P' w K mg base 5 (He.fAd K ("Panel", some "__init__")) ["self", "switches", "rules"] FQ_Panel_init_loc :=
  un_q1 (s := SQ_Panel_init_loc) 7 Df sc_Panel_init_loc rfl fun cdv A outer sh H E B hr =>
    (qss_cons (qs_if (qt_snap fun _ _ => (t_not (t_val (d_c (calF_of h_are_switches T.g_are_switches) hr (by decide) (takes_of rfl rfl rfl rfl) (da_cons (d_var 1) da_nil)))))
    (qss_one (qs_raise T.exc_BadPanel rfl (takes_of rfl rfl rfl rfl)))
    qss_nil)
    (qss_cons (qs_fld (f := "dials") ["Panel"] T.fld_dials (q_var 0) (q_newS fun _ _ => (n_lc (own := [("word", 3), ("settings", 4)]) rfl sc_Panel_init_loc.nd (di_seq (d_var 1)) (by show blkC ["self", "switches", "rules", "word", "settings", "rule", "choices"] (defScope s_Panel_init) _ _ = true; decide +kernel) (fun _ _ _ _ _ => (dg_tup rfl (dgs_cons (dg_name 3 sc_Panel_init_loc.nd) (dgs_cons (dg_name 4 sc_Panel_init_loc.nd) dgs_nil)))) (fun _ _ _ _ _ => dts_nil) (fun _ _ _ _ _ => (d_tup (da_cons (d_var 3) (da_cons (d_callTy call_tuple_x c_tupX T.f_tuple (da_cons (d_var 4) da_nil)) da_nil)))) (by decide))))
    (qss_cons (qs_fld (f := "total") ["Panel"] T.fld_total (q_var 0) (q_pure fun _ _ => d_int))
    (qss_cons (qs_forL (passes_of rfl) rfl (q_fld (f := "dials") ["Panel"] T.fld_dials (q_var 0)) (qm_of (qg_tup rfl (qgs_cons (qg_name 3 sc_Panel_init_loc.nd) (qgs_cons (qg_name 4 sc_Panel_init_loc.nd) qgs_nil))))
    (qss_one (qs_fld (f := "total") ["Panel"] T.fld_total (q_var 0) (q_snap fun _ _ => (d_op op_mul o_mul (d_fld (f := "total") ["Panel"] T.fld_total (d_var 0)) (d_callB call_len c_len T.f_len (da_cons (d_var 4) da_nil)))))))
    (qss_cons (qs_fld (f := "bars") ["Panel"] T.fld_bars (q_var 0) (q_new fun _ _ => (n_list da_nil)))
    (qss_cons (qs_if (qt_pure fun _ _ => (t_cmp op_notN o_notN (d_var 2) d_non (nomark _)))
    (qss_one (qs_fld (f := "bars") ["Panel"] T.fld_bars (q_var 0) (q_newSL (takes_of rfl rfl rfl rfl) (fun W tk _ _ => (n_meth (fm (n_meth1 (calMN_of h_Panel_told_rules T.cls_Panel T.met_Panel_told_rules) hr (by decide) tk (d_var 0) (da_cons (d_var 2) da_nil) rfl rfl rfl) fn0))))))
    qss_nil)
    (qss_cons (qs_fld (f := "barring") ["Panel"] T.fld_barring (q_var 0) (q_newS fun _ _ => (n_lc (own := [("rule", 5)]) rfl sc_Panel_init_loc.nd (di_seq (d_fld (f := "bars") ["Panel"] T.fld_bars (d_var 0))) (by show blkC ["self", "switches", "rules", "word", "settings", "rule", "choices"] (defScope s_Panel_init) _ _ = true; decide +kernel) (fun _ _ _ _ _ => (dg_name 5 sc_Panel_init_loc.nd)) (fun _ _ _ _ _ => dts_nil) (fun _ _ _ _ _ => (d_meth (fm (d_meth1 (calM_of h_Panel_box T.cls_Panel T.met_Panel_box) hr (by decide) takes0 (d_var 0) (da_cons (d_var 5) da_nil) rfl rfl rfl) fn0))) (by decide))))
    (qss_cons (qs_fld (f := "free") ["Panel"] T.fld_free (q_var 0) (q_meth (fm (q_meth0 (metQ_of h_Panel_all_choices.snap T.cls_Panel T.met_Panel_all_choices) hr (by decide) (takes_of rfl rfl rfl rfl) (q_var 0) rfl) fn0)))
    (qss_cons (qs_forL (passes_of rfl) rfl (q_fld (f := "barring") ["Panel"] T.fld_barring (q_var 0)) (qm_of (qg_name 6 sc_Panel_init_loc.nd))
    (qss_one (qs_fld (f := "free") ["Panel"] T.fld_free (q_var 0) (q_snap fun _ _ => (d_op op_and o_and (d_fld (f := "free") ["Panel"] T.fld_free (d_var 0)) (d_op op_xor o_xor (d_meth (fm (d_meth0 (calM_of h_Panel_all_choices T.cls_Panel T.met_Panel_all_choices) hr (by decide) (takes_of rfl rfl rfl rfl) (d_var 0) rfl) fn0)) (d_var 6)))))))
    (qss_one (qs_if (qt_snap fun _ _ => (t_cmp (op_eq2 hr.units) o_eq (d_fld (f := "free") ["Panel"] T.fld_free (d_var 0)) d_int (nomark _)))
    (qss_one (qs_raise T.exc_NoChoice rfl (takes_of rfl rfl rfl rfl)))
    qss_nil)))))))))))
theorem sc__law_panel : FnScope ["_law_switches_here", "_law_cell", "_law_handed", "_law_word", "_law_settings", "_law_panel_here"] ["_law_switches_here", "_law_cell"] (defScope s__law_panel) := ⟨rfl, rfl, rfl, by decide +kernel, rfl, by decide +kernel, by decide +kernel⟩
theorem c__law_panel (T : Tx K mg) (h_Panel_init_loc : UnQ1 P' w K mg base 5 (He.fAd K ("Panel", some "__init__")) ["self", "switches", "rules"] FQ_Panel_init_loc) (Df : DefU K "_law_panel" "_law_panel" s__law_panel (He.ga K "_law_panel") ["_law_switches_here", "_law_cell"]) : UnQ P' w K mg base 7 (He.ga K "_law_panel") ["_law_switches_here", "_law_cell"] FQ__law_panel :=
  un_q (s := SQ__law_panel) 6 Df sc__law_panel rfl fun cdv A outer sh H E B hr =>
    (qss_cons (qs_setLcE 2 (own := [("_law_word", 3), ("_law_settings", 4)]) rfl sc__law_panel.nd (fun _ _ => (di_seq (d_var 0))) (by show blkC ["_law_switches_here", "_law_cell", "_law_handed", "_law_word", "_law_settings", "_law_panel_here"] (defScope s__law_panel) _ _ = true; decide +kernel) (fun _ _ _ _ _ => (qw_tup rfl (qws_cons (qw_name 3 sc__law_panel.nd) (qws_cons (qw_name 4 sc__law_panel.nd) qws_nil)))) (fun _ _ _ _ _ => (q_tup (qa_cons (q_var 3) (qa_cons (q_newS fun _ _ => (n_callTy call_list_of c_list T.f_list (da_cons (d_var 4) da_nil))) qa_nil)))) (by decide))
    (qss_cons (qs_set 5 sc__law_panel.nd (q_make (mkQ_of1 h_Panel_init_loc T.mk_Panel) hr (by decide) (takes_of rfl rfl rfl rfl) (qa_cons (q_var 2) qa_nil)))
    (qss_cons (qs_if (qt_pure fun _ _ => (t_cmp (op_eq2 hr.units) o_eq (d_op op_mod o_mod (d_var 1) d_int) d_int (nomark _)))
    (qss_one (qs_set 5 sc__law_panel.nd (q_make (mkQ_of h_Panel_init_loc.full T.mk_Panel) hr (by decide) (takes_of rfl rfl rfl rfl) (qa_cons (q_var 2) (qa_cons (q_pure fun _ _ => d_non) qa_nil)))))
    qss_nil)
    (qss_cons (qs_if (qt_pure fun _ _ => (t_cmp (op_eq2 hr.units) o_eq (d_op op_mod o_mod (d_var 1) d_int) d_int (nomark _)))
    (qss_one (qs_set 5 sc__law_panel.nd (q_make (mkQ_of h_Panel_init_loc.full T.mk_Panel) hr (by decide) (takes_of rfl rfl rfl rfl) (qa_cons (q_var 2) (qa_cons (q_pure fun _ _ => (d_new (n_list da_nil))) qa_nil)))))
    qss_nil)
    (qss_cons (qs_forL (passes_of rfl) rfl (q_var 2) (qm_of (qg_tup rfl (qgs_cons (qg_name 3 sc__law_panel.nd) (qgs_cons (qg_name 4 sc__law_panel.nd) qgs_nil))))
    (qss_one (qs_clear (q_var 4))))
    (qss_cons (qs_clear (q_var 2))
    (qss_one (qs_ret (q_var 5)))))))))
theorem sc_Panel_switches : FnScope ["self"] ["self"] (defScope s_Panel_switches) := ⟨rfl, rfl, rfl, by decide +kernel, rfl, by decide +kernel, by decide +kernel⟩
theorem c_Panel_switches (T : Tx K mg) (Df : DefU K "switches" "Panel.switches" s_Panel_switches (He.fAd K ("Panel", some "switches")) ["self"]) : UnN P' w K mg base 1 (He.fAd K ("Panel", some "switches")) ["self"] F_Panel_switches :=
  un_n (mm := []) (m' := []) (s := S_Panel_switches) 1 Df sc_Panel_switches rfl (by decide) fun cdv A outer sh H E F0 hr =>
    (ss_one (s_retN (n_callTy call_list_of c_list T.f_list (da_cons (d_fld (f := "dials") ["Panel"] T.fld_dials (d_var 0)) da_nil))))
theorem sc_Panel_number_of : FnScope ["self", "settings", "number", "setting", "dial"] ["self", "settings"] (defScope s_Panel_number_of) := ⟨rfl, rfl, rfl, by decide +kernel, rfl, by decide +kernel, by decide +kernel⟩
theorem c_Panel_number_of (T : Tx K mg) (Df : DefU K "number_of" "Panel.number_of" s_Panel_number_of (He.fAd K ("Panel", some "number_of")) ["self", "settings"]) : UnF P' w K mg base 1 (He.fAd K ("Panel", some "number_of")) ["self", "settings"] F_Panel_number_of :=
  un_d (mm := []) (m' := []) (s := S_Panel_number_of) 5 Df sc_Panel_number_of rfl (by decide) fun cdv A outer sh H E F0 hr =>
    (ss_cons (m2 := []) (s_if (t_cmp (op_ne2 hr.units) o_ne (d_callB call_len c_len T.f_len (da_cons (d_var 1) da_nil)) (d_callB call_len c_len T.f_len (da_cons (d_fld (f := "dials") ["Panel"] T.fld_dials (d_var 0)) da_nil)) (nomark _))
    (ss_one (s_raise T.exc_NoChoice rfl (takes_of rfl rfl rfl rfl)))
    ss_nil)
    (ss_cons (m2 := []) (s_set 2 sc_Panel_number_of.nd d_int)
    (ss_cons (m2 := []) (s_for (passes_of rfl) rfl (di_zip T.f_zip (da_cons (d_var 1) (da_cons (d_fld (f := "dials") ["Panel"] T.fld_dials (d_var 0)) da_nil))) (dg_tup rfl (dgs_cons (dg_name 3 sc_Panel_number_of.nd) (dgs_cons (dg_name 4 sc_Panel_number_of.nd) dgs_nil)))
    (ss_cons (m2 := []) (s_if (t_cmp (op_notIn2 hr.u65) o_notIn (d_var 3) (d_ix (d_var 4) d_int) (by rfl))
    (ss_one (s_raise T.exc_NoChoice rfl (takes_of rfl rfl rfl rfl)))
    ss_nil)
    (ss_one (s_set 2 sc_Panel_number_of.nd (d_op op_addD o_add (d_op op_mul o_mul (d_var 2) (d_callB call_len c_len T.f_len (da_cons (d_ix (d_var 4) d_int) da_nil))) (d_indexX (d_ix (d_var 4) d_int) (da_cons (d_var 3) da_nil)))))))
    (ss_one (s_ret (d_var 2))))))
theorem sc__law_number : FnScope ["_law_panel_here", "_law_settings", "_law_found"] ["_law_panel_here", "_law_settings"] (defScope s__law_number) := ⟨rfl, rfl, rfl, by decide +kernel, rfl, by decide +kernel, by decide +kernel⟩
theorem c__law_number (T : Tx K mg) (h_Panel_number_of : UnF P' w K mg base 1 (He.fAd K ("Panel", some "number_of")) ["self", "settings"] F_Panel_number_of) (Df : DefU K "_law_number" "_law_number" s__law_number (He.ga K "_law_number") ["_law_panel_here", "_law_settings"]) : UnF P' w K mg base 2 (He.ga K "_law_number") ["_law_panel_here", "_law_settings"] F__law_number :=
  un_d (mm := []) (m' := []) (s := S__law_number) 3 Df sc__law_number rfl (by decide) fun cdv A outer sh H E F0 hr =>
    (ss_cons (m2 := []) (s_set 2 sc__law_number.nd d_non)
    (ss_cons (m2 := []) (s_try_only (mh := []) rfl rfl (CatF.mk ⟨by rfl, by decide, Or.inl T.cat_NoChoice.1⟩ T.cat_NoChoice.2) (takes_of rfl rfl rfl rfl) rfl (fun W pn xe tk =>
    (ss_one (s_set 2 sc__law_number.nd (d_meth (fm (d_meth1 (calM_of h_Panel_number_of T.cls_Panel T.met_Panel_number_of) hr (by decide) tk (d_var 0) (da_cons (d_var 1) da_nil) rfl rfl rfl) fn0))))) (by decide) (fun a pn =>
    (ss_one (s_set 2 sc__law_number.nd d_str))))
    (ss_one (s_ret (d_var 2)))))
theorem sc__law_told : FnScope ["_law_panel_here", "_law_thing", "_law_found"] ["_law_panel_here", "_law_thing"] (defScope s__law_told) := ⟨rfl, rfl, rfl, by decide +kernel, rfl, by decide +kernel, by decide +kernel⟩
theorem c__law_told (T : Tx K mg) (h_Panel_told : UnF P' w K mg base 2 (He.fAd K ("Panel", some "told")) ["self", "number"] F_Panel_told) (Df : DefU K "_law_told" "_law_told" s__law_told (He.ga K "_law_told") ["_law_panel_here", "_law_thing"]) : UnF P' w K mg base 3 (He.ga K "_law_told") ["_law_panel_here", "_law_thing"] F__law_told :=
  un_d (mm := []) (m' := []) (s := S__law_told) 3 Df sc__law_told rfl (by decide) fun cdv A outer sh H E F0 hr =>
    (ss_cons (m2 := []) (s_set 2 sc__law_told.nd d_non)
    (ss_cons (m2 := []) (s_try_only (mh := []) rfl rfl (CatF.mk ⟨by rfl, by decide, Or.inl T.cat_NoChoice.1⟩ T.cat_NoChoice.2) (takes_of rfl rfl rfl rfl) rfl (fun W pn xe tk =>
    (ss_one (s_set 2 sc__law_told.nd (d_meth (fm (d_meth1 (calM_of h_Panel_told T.cls_Panel T.met_Panel_told) hr (by decide) tk (d_var 0) (da_cons (d_var 1) da_nil) rfl rfl rfl) fn0))))) (by decide) (fun a pn =>
    (ss_one (s_set 2 sc__law_told.nd d_str))))
    (ss_one (s_ret (d_var 2)))))
theorem sc_in_set : FnScope ["choices", "number"] ["choices", "number"] (defScope s_in_set) := ⟨rfl, rfl, rfl, by decide +kernel, rfl, by decide +kernel, by decide +kernel⟩
theorem c_in_set (T : Tx K mg) (Df : DefU K "in_set" "in_set" s_in_set (He.ga K "in_set") ["choices", "number"]) : UnF P' w K mg base 1 (He.ga K "in_set") ["choices", "number"] F_in_set :=
  un_d (mm := []) (m' := []) (s := S_in_set) 2 Df sc_in_set rfl (by decide) fun cdv A outer sh H E F0 hr =>
    (ss_one (s_ret (d_cmp (op_eq2 hr.units) o_eq (d_op op_and o_and (d_op op_shr o_shr (d_var 0) (d_var 1)) d_int) d_int (nomark _))))
theorem sc_Panel_barred : FnScope ["self", "number", "at", "choices"] ["self", "number"] (defScope s_Panel_barred) := ⟨rfl, rfl, rfl, by decide +kernel, rfl, by decide +kernel, by decide +kernel⟩
theorem c_Panel_barred (T : Tx K mg) (h_Panel_told : UnF P' w K mg base 2 (He.fAd K ("Panel", some "told")) ["self", "number"] F_Panel_told) (h_in_set : UnF P' w K mg base 1 (He.ga K "in_set") ["choices", "number"] F_in_set) (Df : DefU K "barred" "Panel.barred" s_Panel_barred (He.fAd K ("Panel", some "barred")) ["self", "number"]) : UnF P' w K mg base 3 (He.fAd K ("Panel", some "barred")) ["self", "number"] F_Panel_barred :=
  un_d (mm := []) (m' := []) (s := S_Panel_barred) 4 Df sc_Panel_barred rfl (by decide) fun cdv A outer sh H E F0 hr =>
    (ss_cons (m2 := []) (s_expr (d_meth (fm (d_meth1 (calM_of h_Panel_told T.cls_Panel T.met_Panel_told) hr (by decide) (takes_of rfl rfl rfl rfl) (d_var 0) (da_cons (d_var 1) da_nil) rfl rfl rfl) fn0)))
    (ss_cons (m2 := []) (s_for (passes_of rfl) rfl (di_enum T.f_enumerate (da_cons (d_fld (f := "barring") ["Panel"] T.fld_barring (d_var 0)) da_nil)) (dg_tup rfl (dgs_cons (dg_name 2 sc_Panel_barred.nd) (dgs_cons (dg_name 3 sc_Panel_barred.nd) dgs_nil)))
    (ss_one (s_if (t_val (d_c (calF_of h_in_set T.g_in_set) hr (by decide) (takes_of rfl rfl rfl rfl) (da_cons (d_var 3) (da_cons (d_var 1) da_nil))))
    (ss_one (s_ret (d_var 2)))
    ss_nil)))
    (ss_one (s_ret d_non))))
theorem sc__law_bar : FnScope ["_law_panel_here", "_law_thing", "_law_found"] ["_law_panel_here", "_law_thing"] (defScope s__law_bar) := ⟨rfl, rfl, rfl, by decide +kernel, rfl, by decide +kernel, by decide +kernel⟩
theorem c__law_bar (T : Tx K mg) (h_Panel_barred : UnF P' w K mg base 3 (He.fAd K ("Panel", some "barred")) ["self", "number"] F_Panel_barred) (Df : DefU K "_law_bar" "_law_bar" s__law_bar (He.ga K "_law_bar") ["_law_panel_here", "_law_thing"]) : UnF P' w K mg base 4 (He.ga K "_law_bar") ["_law_panel_here", "_law_thing"] F__law_bar :=
  un_d (mm := []) (m' := []) (s := S__law_bar) 3 Df sc__law_bar rfl (by decide) fun cdv A outer sh H E F0 hr =>
    (ss_cons (m2 := []) (s_set 2 sc__law_bar.nd d_non)
    (ss_cons (m2 := []) (s_try_only (mh := []) rfl rfl (CatF.mk ⟨by rfl, by decide, Or.inl T.cat_NoChoice.1⟩ T.cat_NoChoice.2) (takes_of rfl rfl rfl rfl) rfl (fun W pn xe tk =>
    (ss_one (s_set 2 sc__law_bar.nd (d_meth (fm (d_meth1 (calM_of h_Panel_barred T.cls_Panel T.met_Panel_barred) hr (by decide) tk (d_var 0) (da_cons (d_var 1) da_nil) rfl rfl rfl) fn0))))) (by decide) (fun a pn =>
    (ss_one (s_set 2 sc__law_bar.nd d_str))))
    (ss_one (s_ret (d_var 2)))))
theorem sc__law_refused : FnScope ["_law_panel_here", "_law_rows_here", "_law_cell", "_law_row", "_law_at", "_law_some", "_law_settings", "_law_thing"] ["_law_panel_here", "_law_rows_here", "_law_cell"] (defScope s__law_refused) := ⟨rfl, rfl, rfl, by decide +kernel, rfl, by decide +kernel, by decide +kernel⟩
theorem c__law_refused (T : Tx K mg) (h__law_number : UnF P' w K mg base 2 (He.ga K "_law_number") ["_law_panel_here", "_law_settings"] F__law_number) (h__law_told : UnF P' w K mg base 3 (He.ga K "_law_told") ["_law_panel_here", "_law_thing"] F__law_told) (h__law_bar : UnF P' w K mg base 4 (He.ga K "_law_bar") ["_law_panel_here", "_law_thing"] F__law_bar) (Df : DefU K "_law_refused" "_law_refused" s__law_refused (He.ga K "_law_refused") ["_law_panel_here", "_law_rows_here", "_law_cell"]) : UnF P' w K mg base 5 (He.ga K "_law_refused") ["_law_panel_here", "_law_rows_here", "_law_cell"] F__law_refused :=
  un_d (mm := []) (m' := []) (s := S__law_refused) 8 Df sc__law_refused rfl (by decide) fun cdv A outer sh H E F0 hr =>
    (ss_cons (m2 := []) (s_set 3 sc__law_refused.nd (d_ix (d_var 1) (d_op op_mod o_mod (d_var 2) (d_callB call_len c_len T.f_len (da_cons (d_var 1) da_nil)))))
    (ss_cons (m2 := []) (s_set 4 sc__law_refused.nd (d_op op_mod o_mod (d_op op_fdiv o_fdiv (d_var 2) (d_callB call_len c_len T.f_len (da_cons (d_var 1) da_nil))) (d_callB call_len c_len T.f_len (da_cons (d_var 3) da_nil))))
    (ss_cons (m2 := []) (s_set 5 sc__law_refused.nd (d_new (n_list (da_cons (d_slice (d_var 3) do_none (do_some (d_un un_neg o_neg d_int))) (da_cons (d_op op_addD o_add (d_var 3) (d_slice (d_var 3) do_none (do_some d_int))) (da_cons (d_op op_addD o_add (d_op op_addD o_add (d_slice (d_var 3) do_none (do_some (d_var 4))) (d_new (n_list (da_cons (d_op op_addD o_add d_str (d_ix (d_var 3) (d_var 4))) da_nil)))) (d_slice (d_var 3) (do_some (d_op op_addD o_add (d_var 4) d_int)) do_none)) (da_cons (d_new (n_list da_nil)) da_nil)))))))
    (ss_cons (m2 := []) (s_for (passes_of rfl) rfl (di_seq (d_var 5)) (dg_name 6 sc__law_refused.nd)
    (ss_one (s_if (t_cmp (op_ne2 hr.units) o_ne (d_c (calF_of h__law_number T.g__law_number) hr (by decide) (takes_of rfl rfl rfl rfl) (da_cons (d_var 0) (da_cons (d_var 6) da_nil))) d_str (nomark _))
    (ss_one (s_ret d_bl))
    ss_nil)))
    (ss_cons (m2 := []) (s_for (passes_of rfl) rfl (di_seq (d_new (n_list (da_cons (d_un un_neg o_neg d_int) (da_cons (d_callB call_len c_len T.f_len (da_cons (d_var 1) da_nil)) (da_cons (d_op op_addD o_add (d_callB call_len c_len T.f_len (da_cons (d_var 1) da_nil)) (d_op op_mod o_mod (d_var 2) (d_op op_pow o_pow d_int d_int))) (da_cons d_bl (da_cons d_non (da_cons d_str (da_cons (d_op op_sub o_sub (d_un un_neg o_neg d_int) (d_op op_mod o_mod (d_var 2) (d_op op_pow o_pow d_int d_int))) da_nil)))))))))) (dg_name 7 sc__law_refused.nd)
    (ss_one (s_if (t_w (w_or (t_cmp (op_ne2 hr.units) o_ne (d_c (calF_of h__law_told T.g__law_told) hr (by decide) (takes_of rfl rfl rfl rfl) (da_cons (d_var 0) (da_cons (d_var 7) da_nil))) d_str (nomark _)) (w_or1 (t_cmp (op_ne2 hr.units) o_ne (d_c (calF_of h__law_bar T.g__law_bar) hr (by decide) (takes_of rfl rfl rfl rfl) (da_cons (d_var 0) (da_cons (d_var 7) da_nil))) d_str (nomark _)))))
    (ss_one (s_ret d_bl))
    ss_nil)))
    (ss_one (s_ret d_bl)))))))
theorem sc_Panel_rules : FnScope ["self", "rule"] ["self"] (defScope s_Panel_rules) := ⟨rfl, rfl, rfl, by decide +kernel, rfl, by decide +kernel, by decide +kernel⟩
theorem c_Panel_rules (T : Tx K mg) (h_Panel_copied_terms : UnN P' w K mg base 1 (He.fAd K ("Panel", some "copied_terms")) ["self", "terms"] F_Panel_copied_terms) (Df : DefU K "rules" "Panel.rules" s_Panel_rules (He.fAd K ("Panel", some "rules")) ["self"]) : UnN P' w K mg base 2 (He.fAd K ("Panel", some "rules")) ["self"] F_Panel_rules :=
  un_n (mm := []) (m' := []) (s := S_Panel_rules) 2 Df sc_Panel_rules rfl (by decide) fun cdv A outer sh H E F0 hr =>
    (ss_one (s_retN (n_lc (own := [("rule", 1)]) rfl sc_Panel_rules.nd (di_seq (d_fld (f := "bars") ["Panel"] T.fld_bars (d_var 0))) (by show blkC ["self", "rule"] (defScope s_Panel_rules) _ _ = true; decide +kernel) (fun _ _ _ _ _ => (dg_name 1 sc_Panel_rules.nd)) (fun _ _ _ _ _ => dts_nil) (fun _ _ _ _ _ => (d_newL (n_meth (fm (n_meth1 (calMN_of h_Panel_copied_terms T.cls_Panel T.met_Panel_copied_terms) hr (by decide) takes0 (d_var 0) (da_cons (d_var 1) da_nil) rfl rfl rfl) fn0)))) (by decide))))
theorem sc__law_whole : FnScope ["_law_found", "_law_due"] ["_law_found", "_law_due"] (defScope s__law_whole) := ⟨rfl, rfl, rfl, by decide +kernel, rfl, by decide +kernel, by decide +kernel⟩
theorem c__law_whole (T : Tx K mg) (Df : DefU K "_law_whole" "_law_whole" s__law_whole (He.ga K "_law_whole") ["_law_found", "_law_due"]) : UnF P' w K mg base 1 (He.ga K "_law_whole") ["_law_found", "_law_due"] F__law_whole :=
  un_d (mm := []) (m' := []) (s := S__law_whole) 2 Df sc__law_whole rfl (by decide) fun cdv A outer sh H E F0 hr =>
    (ss_one (s_ret (d_and (d_isinst T.f_isinstance T.f_int (d_var 0)) (d_and (d_not (d_isinst T.f_isinstance T.f_bool (d_var 0))) (d_one (d_cmp (op_eq2 hr.units) o_eq (d_var 0) (d_var 1) (nomark _)))))))
theorem sc_Panel_allowed : FnScope ["self"] ["self"] (defScope s_Panel_allowed) := ⟨rfl, rfl, rfl, by decide +kernel, rfl, by decide +kernel, by decide +kernel⟩
theorem c_Panel_allowed (T : Tx K mg) (Df : DefU K "allowed" "Panel.allowed" s_Panel_allowed (He.fAd K ("Panel", some "allowed")) ["self"]) : UnF P' w K mg base 1 (He.fAd K ("Panel", some "allowed")) ["self"] F_Panel_allowed :=
  un_d (mm := []) (m' := []) (s := S_Panel_allowed) 1 Df sc_Panel_allowed rfl (by decide) fun cdv A outer sh H E F0 hr =>
    (ss_one (s_ret (d_fld (f := "free") ["Panel"] T.fld_free (d_var 0))))
theorem sc_Panel_many : FnScope ["self"] ["self"] (defScope s_Panel_many) := ⟨rfl, rfl, rfl, by decide +kernel, rfl, by decide +kernel, by decide +kernel⟩
theorem c_Panel_many (T : Tx K mg) (Df : DefU K "many" "Panel.many" s_Panel_many (He.fAd K ("Panel", some "many")) ["self"]) : UnF P' w K mg base 1 (He.fAd K ("Panel", some "many")) ["self"] F_Panel_many :=
  un_d (mm := []) (m' := []) (s := S_Panel_many) 1 Df sc_Panel_many rfl (by decide) fun cdv A outer sh H E F0 hr =>
    (ss_one (s_ret (d_fld (f := "total") ["Panel"] T.fld_total (d_var 0))))
theorem sc_law : FnScope ["_law_script", "_law_cell", "_law_switches_here", "_law_rows_here", "_law_panel_here", "_law_other", "_law_everything", "_law_number_here", "_law_row", "_law_settings", "_law_found", "_law_word"] ["_law_script"] (defScope s_law) := ⟨rfl, rfl, rfl, by decide +kernel, rfl, by decide +kernel, by decide +kernel⟩
theorem law_ok {fa : Addr} {fd : FuncData} (T : Tx K mg) (h__law_cell_at : UnF P' w K mg base 1 (He.ga K "_law_cell_at") ["_law_script", "_law_k"] F__law_cell_at) (h__law_switches : UnF P' w K mg base 3 (He.ga K "_law_switches") ["_law_cell", "_law_most"] F__law_switches) (h__law_rows : UnF P' w K mg base 1 (He.ga K "_law_rows") ["_law_switches_here"] F__law_rows) (h__law_panel : UnQ P' w K mg base 7 (He.ga K "_law_panel") ["_law_switches_here", "_law_cell"] FQ__law_panel) (h_Panel_init : UnQ1 P' w K mg base 5 (He.fAd K ("Panel", some "__init__")) ["self", "switches", "rules"] FQ_Panel_init) (h_Panel_told : UnF P' w K mg base 2 (He.fAd K ("Panel", some "told")) ["self", "number"] F_Panel_told) (h__law_whole : UnF P' w K mg base 1 (He.ga K "_law_whole") ["_law_found", "_law_due"] F__law_whole) (h_Panel_number_of : UnF P' w K mg base 1 (He.fAd K ("Panel", some "number_of")) ["self", "settings"] F_Panel_number_of) (h_Panel_barred : UnF P' w K mg base 3 (He.fAd K ("Panel", some "barred")) ["self", "number"] F_Panel_barred) (h_Panel_switches : UnN P' w K mg base 1 (He.fAd K ("Panel", some "switches")) ["self"] F_Panel_switches) (h_Panel_rules : UnN P' w K mg base 2 (He.fAd K ("Panel", some "rules")) ["self"] F_Panel_rules) (h_Panel_all_choices : UnF P' w K mg base 1 (He.fAd K ("Panel", some "all_choices")) ["self"] F_Panel_all_choices) (h_Panel_allowed : UnF P' w K mg base 1 (He.fAd K ("Panel", some "allowed")) ["self"] F_Panel_allowed) (h_Panel_many : UnF P' w K mg base 1 (He.fAd K ("Panel", some "many")) ["self"] F_Panel_many) (h__law_refused : UnF P' w K mg base 5 (He.ga K "_law_refused") ["_law_panel_here", "_law_rows_here", "_law_cell"] F__law_refused) (Fn : FunD K "law" "law" (defArgs s_law) (defBody s_law) (defScope s_law) [] [] fa fd) : FnOk P' w K mg base (L2.CX P' w) 8 fa fd ["_law_script"] (spD K F_law) :=
  fn_d (m := [false, false, false, false, false, false, false, false, false, false, false, false]) (m' := []) (s := S_law) 12 Fn sc_law rfl (by decide) fun cdv A outer sh H E F0 hr =>
    (ss_cons (m2 := [false, false, false, false, false, false, false, false, false, false, false, false]) (s_set 1 sc_law.nd (d_c (calF_of h__law_cell_at T.g__law_cell_at) hr (by decide) (takes_of rfl rfl rfl rfl) (da_cons (d_var 0) (da_cons d_int da_nil))))
    (ss_cons (m2 := [false, false, false, false, false, false, false, false, false, false, false, false]) (s_set 2 sc_law.nd (d_c (calF_of h__law_switches T.g__law_switches) hr (by decide) (takes_of rfl rfl rfl rfl) (da_cons (d_var 1) (da_cons (d_ix (d_new (n_list (da_cons d_int (da_cons d_int da_nil)))) (d_callTy call_int1 c_int T.f_int (da_cons (d_cmp (op_eq2 hr.units) o_eq (d_op op_mod o_mod (d_c (calF_of h__law_cell_at T.g__law_cell_at) hr (by decide) (takes_of rfl rfl rfl rfl) (da_cons (d_var 0) (da_cons d_int da_nil))) d_int) d_int (nomark _)) da_nil))) da_nil))))
    (ss_cons (m2 := [false, false, false, false, false, false, false, false, false, false, false, false]) (s_set 3 sc_law.nd (d_c (calF_of h__law_rows T.g__law_rows) hr (by decide) (takes_of rfl rfl rfl rfl) (da_cons (d_var 2) da_nil)))
    (ss_cons (m2 := [false, false, false, false, false, false, false, false, false, false, false, false]) (s_set 4 sc_law.nd (d_c (calF_of h__law_panel.down T.g__law_panel) hr (by decide) (takes_of rfl rfl rfl rfl) (da_cons (d_var 2) (da_cons (d_op op_fdiv o_fdiv (d_c (calF_of h__law_cell_at T.g__law_cell_at) hr (by decide) (takes_of rfl rfl rfl rfl) (da_cons (d_var 0) (da_cons d_int da_nil))) d_int) da_nil))))
    (ss_cons (m2 := [false, false, false, false, false, false, false, false, false, false, false, false]) (s_set 5 sc_law.nd (d_make (mkQ_of h_Panel_init.full T.mk_Panel) hr (by decide) (takes_of rfl rfl rfl rfl) (da_cons (d_new (n_list (da_cons (d_tup (da_cons d_str (da_cons (d_new (n_list (da_cons d_str (da_cons d_str da_nil)))) da_nil))) da_nil))) (da_cons (d_new (n_list (da_cons (d_newL (n_disp (dps_cons d_str (d_new (n_list (da_cons d_str da_nil))) dps_nil))) da_nil))) da_nil))))
    (ss_cons (m2 := [false, false, false, false, false, false, false, false, false, false, false, false]) (s_set 6 sc_law.nd d_int)
    (ss_cons (m2 := [false, false, false, false, false, false, false, false, false, false, false, false]) (s_for (passes_of rfl) rfl (di_enum T.f_enumerate (da_cons (d_var 3) da_nil)) (dg_tup rfl (dgs_cons (dg_name 7 sc_law.nd) (dgs_cons (dg_name 8 sc_law.nd) dgs_nil)))
    (ss_cons (m2 := [false, false, false, false, false, false, false, false, false, false, false, false]) (s_set 6 sc_law.nd (d_op op_addD o_add (d_var 6) (d_op op_shl o_shl d_int (d_var 7))))
    (ss_cons (m2 := [false, false, false, false, false, false, false, false, false, false, false, false]) (s_set 9 sc_law.nd (d_meth (fm (d_meth1 (calM_of h_Panel_told T.cls_Panel T.met_Panel_told) hr (by decide) (takes_of rfl rfl rfl rfl) (d_var 4) (da_cons (d_var 7) da_nil) rfl rfl rfl) fn0)))
    (ss_cons (m2 := [false, false, false, false, false, false, false, false, false, false, false, false]) (s_if (t_w (w_or (t_not (t_val (d_isinst T.f_isinstance T.f_tuple (d_var 9)))) (w_or1 (t_cmp (op_ne2 hr.units) o_ne (d_new (n_callTy call_list_of c_list T.f_list (da_cons (d_var 9) da_nil))) (d_var 8) (nomark _)))))
    (ss_one (s_ret d_bl))
    ss_nil)
    (ss_one (s_if (t_w (w_or (t_not (t_val (d_c (calF_of h__law_whole T.g__law_whole) hr (by decide) (takes_of rfl rfl rfl rfl) (da_cons (d_meth (fm (d_meth1 (calM_of h_Panel_number_of T.cls_Panel T.met_Panel_number_of) hr (by decide) (takes_of rfl rfl rfl rfl) (d_var 4) (da_cons (d_new (n_callTy call_list_of c_list T.f_list (da_cons (d_var 8) da_nil))) da_nil) rfl rfl rfl) fn0)) (da_cons (d_var 7) da_nil))))) (w_or1 (t_cmp op_notN o_notN (d_meth (fm (d_meth1 (calM_of h_Panel_barred T.cls_Panel T.met_Panel_barred) hr (by decide) (takes_of rfl rfl rfl rfl) (d_var 4) (da_cons (d_var 7) da_nil) rfl rfl rfl) fn0)) d_non (nomark _)))))
    (ss_one (s_ret d_bl))
    ss_nil))))))
    (ss_cons (m2 := [false, false, false, false, false, false, false, false, false, false, true, false]) (s_setN 10 sc_law.nd (n_meth (fm (n_meth0 (calMN_of h_Panel_switches T.cls_Panel T.met_Panel_switches) hr (by decide) (takes_of rfl rfl rfl rfl) (d_var 4) rfl) fn0)) (by decide))
    (ss_cons (m2 := [false, false, false, false, false, false, false, false, false, false, true, false]) (s_if (t_scal fun _ _ => (t_w (w_or (t_not (t_val (d_isinst T.f_isinstance T.f_list (d_var 10)))) (w_or1 (t_cmp (op_ne2 hr.units) o_ne (d_var 10) (d_new (n_lc (own := [("_law_word", 11), ("_law_settings", 9)]) rfl sc_law.nd (di_seq (d_var 2)) (by kernel_rfl) (fun _ _ _ _ _ => (dg_tup rfl (dgs_cons (dg_name 11 sc_law.nd) (dgs_cons (dg_name 9 sc_law.nd) dgs_nil)))) (fun _ _ _ _ _ => dts_nil) (fun _ _ _ _ _ => (d_tup (da_cons (d_var 11) (da_cons (d_callTy call_tuple_of c_tuple T.f_tuple (da_cons (d_var 9) da_nil)) da_nil)))) (by decide))) (nomark _))))))
    (ss_one (s_ret d_bl))
    ss_nil)
    (ss_cons (m2 := [false, false, false, false, false, false, false, false, false, false, true, false]) (s_clear 10)
    (ss_cons (m2 := [false, false, false, false, false, false, false, false, false, false, true, false]) (s_if (t_w (w_or (t_cmp (op_ne2 hr.units) o_ne (d_callB call_len c_len T.f_len (da_cons (d_new (n_meth (fm (n_meth0 (calMN_of h_Panel_switches T.cls_Panel T.met_Panel_switches) hr (by decide) (takes_of rfl rfl rfl rfl) (d_var 4) rfl) fn0))) da_nil)) (d_callB call_len c_len T.f_len (da_cons (d_var 2) da_nil)) (nomark _)) (w_or1 (t_cmp (op_ne2 hr.units) o_ne (d_new (n_meth (fm (n_meth0 (calMN_of h_Panel_rules T.cls_Panel T.met_Panel_rules) hr (by decide) (takes_of rfl rfl rfl rfl) (d_var 4) rfl) fn0))) (d_new (n_list da_nil)) (nomark _)))))
    (ss_one (s_ret d_bl))
    ss_nil)
    (ss_cons (m2 := [false, false, false, false, false, false, false, false, false, false, true, false]) (s_if (t_w (w_or (t_not (t_val (d_c (calF_of h__law_whole T.g__law_whole) hr (by decide) (takes_of rfl rfl rfl rfl) (da_cons (d_meth (fm (d_meth0 (calM_of h_Panel_all_choices T.cls_Panel T.met_Panel_all_choices) hr (by decide) (takes_of rfl rfl rfl rfl) (d_var 4) rfl) fn0)) (da_cons (d_var 6) da_nil))))) (w_or1 (t_not (t_val (d_c (calF_of h__law_whole T.g__law_whole) hr (by decide) (takes_of rfl rfl rfl rfl) (da_cons (d_meth (fm (d_meth0 (calM_of h_Panel_allowed T.cls_Panel T.met_Panel_allowed) hr (by decide) (takes_of rfl rfl rfl rfl) (d_var 4) rfl) fn0)) (da_cons (d_var 6) da_nil))))))))
    (ss_one (s_ret d_bl))
    ss_nil)
    (ss_cons (m2 := [false, false, false, false, false, false, false, false, false, false, true, false]) (s_if (t_w (w_or (t_not (t_val (d_c (calF_of h__law_whole T.g__law_whole) hr (by decide) (takes_of rfl rfl rfl rfl) (da_cons (d_meth (fm (d_meth0 (calM_of h_Panel_many T.cls_Panel T.met_Panel_many) hr (by decide) (takes_of rfl rfl rfl rfl) (d_var 4) rfl) fn0)) (da_cons (d_callB call_len c_len T.f_len (da_cons (d_var 3) da_nil)) da_nil))))) (w_or (t_cmp (op_ne2 hr.units) o_ne (d_meth (fm (d_meth0 (calM_of h_Panel_allowed T.cls_Panel T.met_Panel_allowed) hr (by decide) (takes_of rfl rfl rfl rfl) (d_var 5) rfl) fn0)) d_int (nomark _)) (w_or1 (t_cmp (op_ne2 hr.units) o_ne (d_meth (fm (d_meth0 (calM_of h_Panel_many T.cls_Panel T.met_Panel_many) hr (by decide) (takes_of rfl rfl rfl rfl) (d_var 5) rfl) fn0)) d_int (nomark _))))))
    (ss_one (s_ret d_bl))
    ss_nil)
    (ss_one (s_ret (d_c (calF_of h__law_refused T.g__law_refused) hr (by decide) (takes_of rfl rfl rfl rfl) (da_cons (d_var 4) (da_cons (d_var 3) (da_cons (d_c (calF_of h__law_cell_at T.g__law_cell_at) hr (by decide) (takes_of rfl rfl rfl rfl) (da_cons (d_var 0) (da_cons d_int da_nil))) da_nil)))))))))))))))))))
end
theorem facts {P' : Program} {w : World} {K : PySem.W.Frag} {h : Heap} {mg : Str → Option Value} {f : Addr} (X : K.In h) (G : h.Ns mainGlobals mg) (hfa : mg ("law" : Str) = some (.ref f)) (c : SaysM fa fn exb K) :
    ∃ fd : FuncData, (∀ (s : Shared) (v : Value), BindsTo s fd ⟨[v], []⟩ [("_law_script", v)]) ∧ ∀ base : Heap, K.In base → base.Ns mainGlobals mg → FnOk P' w K mg base (L2.CX P' w) 8 f fd ["_law_script"] (spD K F_law) := by
  obtain ⟨fd__law_cell_at, D__law_cell_at⟩ := c.d.def_ 0 (d := d__law_cell_at) rfl
  obtain ⟨fd__law_mix, D__law_mix⟩ := c.d.def_ 1 (d := d__law_mix) rfl
  obtain ⟨fd__law_words, D__law_words⟩ := c.d.def_ 2 (d := d__law_words) rfl
  obtain ⟨fd__law_switches, D__law_switches⟩ := c.d.def_ 3 (d := d__law_switches) rfl
  obtain ⟨fd__law_rows, D__law_rows⟩ := c.d.def_ 4 (d := d__law_rows) rfl
  obtain ⟨fd_Panel_all_choices, D_Panel_all_choices⟩ := c.d.def_ 5 (d := d_Panel_all_choices) rfl
  obtain ⟨fd_is_of, D_is_of⟩ := c.d.def_ 6 (d := d_is_of) rfl
  obtain ⟨fd_is_word, D_is_word⟩ := c.d.def_ 7 (d := d_is_word) rfl
  obtain ⟨fd_are_settings, D_are_settings⟩ := c.d.def_ 8 (d := d_are_settings) rfl
  obtain ⟨fd_are_switches, D_are_switches⟩ := c.d.def_ 9 (d := d_are_switches) rfl
  obtain ⟨fd_Panel_copied_terms, D_Panel_copied_terms⟩ := c.d.def_ 10 (d := d_Panel_copied_terms) rfl
  obtain ⟨fd_Panel_are_terms, D_Panel_are_terms⟩ := c.d.def_ 11 (d := d_Panel_are_terms) rfl
  obtain ⟨fd_Panel_told_rules, D_Panel_told_rules⟩ := c.d.def_ 12 (d := d_Panel_told_rules) rfl
  obtain ⟨fd_is_whole, D_is_whole⟩ := c.d.def_ 13 (d := d_is_whole) rfl
  obtain ⟨fd_Panel_told, D_Panel_told⟩ := c.d.def_ 14 (d := d_Panel_told) rfl
  obtain ⟨fd_Panel_box, D_Panel_box⟩ := c.d.def_ 15 (d := d_Panel_box) rfl
  obtain ⟨fd_Panel_init, D_Panel_init⟩ := c.d.def_ 16 (d := d_Panel_init) rfl
  obtain ⟨fd__law_panel, D__law_panel⟩ := c.d.def_ 17 (d := d__law_panel) rfl
  obtain ⟨fd_Panel_switches, D_Panel_switches⟩ := c.d.def_ 18 (d := d_Panel_switches) rfl
  obtain ⟨fd_Panel_number_of, D_Panel_number_of⟩ := c.d.def_ 19 (d := d_Panel_number_of) rfl
  obtain ⟨fd__law_number, D__law_number⟩ := c.d.def_ 20 (d := d__law_number) rfl
  obtain ⟨fd__law_told, D__law_told⟩ := c.d.def_ 21 (d := d__law_told) rfl
  obtain ⟨fd_in_set, D_in_set⟩ := c.d.def_ 22 (d := d_in_set) rfl
  obtain ⟨fd_Panel_barred, D_Panel_barred⟩ := c.d.def_ 23 (d := d_Panel_barred) rfl
  obtain ⟨fd__law_bar, D__law_bar⟩ := c.d.def_ 24 (d := d__law_bar) rfl
  obtain ⟨fd__law_refused, D__law_refused⟩ := c.d.def_ 25 (d := d__law_refused) rfl
  obtain ⟨fd_Panel_rules, D_Panel_rules⟩ := c.d.def_ 26 (d := d_Panel_rules) rfl
  obtain ⟨fd__law_whole, D__law_whole⟩ := c.d.def_ 27 (d := d__law_whole) rfl
  obtain ⟨fd_Panel_allowed, D_Panel_allowed⟩ := c.d.def_ 28 (d := d_Panel_allowed) rfl
  obtain ⟨fd_Panel_many, D_Panel_many⟩ := c.d.def_ 29 (d := d_Panel_many) rfl
  obtain ⟨fd_law, D_law⟩ := c.d.def_ 30 (d := d_law) rfl
  have t_g__law_cell_at : mg "_law_cell_at" = some (.ref (He.ga K "_law_cell_at")) := (He.glo_ok X G (c.d.fact 0 (f := .glo "_law_cell_at") rfl))
  have t_g__law_mix : mg "_law_mix" = some (.ref (He.ga K "_law_mix")) := (He.glo_ok X G (c.d.fact 1 (f := .glo "_law_mix") rfl))
  have t_g__law_words : mg "_law_words" = some (.ref (He.ga K "_law_words")) := (He.glo_ok X G (c.d.fact 2 (f := .glo "_law_words") rfl))
  have t_g__law_switches : mg "_law_switches" = some (.ref (He.ga K "_law_switches")) := (He.glo_ok X G (c.d.fact 3 (f := .glo "_law_switches") rfl))
  have t_g__law_rows : mg "_law_rows" = some (.ref (He.ga K "_law_rows")) := (He.glo_ok X G (c.d.fact 4 (f := .glo "_law_rows") rfl))
  have t_g_is_of : mg "is_of" = some (.ref (He.ga K "is_of")) := (He.glo_ok X G (c.d.fact 5 (f := .glo "is_of") rfl))
  have t_g_is_word : mg "is_word" = some (.ref (He.ga K "is_word")) := (He.glo_ok X G (c.d.fact 6 (f := .glo "is_word") rfl))
  have t_g_are_settings : mg "are_settings" = some (.ref (He.ga K "are_settings")) := (He.glo_ok X G (c.d.fact 7 (f := .glo "are_settings") rfl))
  have t_g_are_switches : mg "are_switches" = some (.ref (He.ga K "are_switches")) := (He.glo_ok X G (c.d.fact 8 (f := .glo "are_switches") rfl))
  have t_g_is_whole : mg "is_whole" = some (.ref (He.ga K "is_whole")) := (He.glo_ok X G (c.d.fact 9 (f := .glo "is_whole") rfl))
  have t_g__law_panel : mg "_law_panel" = some (.ref (He.ga K "_law_panel")) := (He.glo_ok X G (c.d.fact 10 (f := .glo "_law_panel") rfl))
  have t_g__law_number : mg "_law_number" = some (.ref (He.ga K "_law_number")) := (He.glo_ok X G (c.d.fact 11 (f := .glo "_law_number") rfl))
  have t_g__law_told : mg "_law_told" = some (.ref (He.ga K "_law_told")) := (He.glo_ok X G (c.d.fact 12 (f := .glo "_law_told") rfl))
  have t_g_in_set : mg "in_set" = some (.ref (He.ga K "in_set")) := (He.glo_ok X G (c.d.fact 13 (f := .glo "in_set") rfl))
  have t_g__law_bar : mg "_law_bar" = some (.ref (He.ga K "_law_bar")) := (He.glo_ok X G (c.d.fact 14 (f := .glo "_law_bar") rfl))
  have t_g__law_refused : mg "_law_refused" = some (.ref (He.ga K "_law_refused")) := (He.glo_ok X G (c.d.fact 15 (f := .glo "_law_refused") rfl))
  have t_g__law_whole : mg "_law_whole" = some (.ref (He.ga K "_law_whole")) := (He.glo_ok X G (c.d.fact 16 (f := .glo "_law_whole") rfl))
  have t_g_law : mg "law" = some (.ref (He.ga K "law")) := (He.glo_ok X G (c.d.fact 17 (f := .glo "law") rfl))
  have t_f_all : mg "all" = none := He.free_ok X G (c.d.fact 18 (f := .free "all") rfl)
  have t_f_bool : mg "bool" = none := He.free_ok X G (c.d.fact 19 (f := .free "bool") rfl)
  have t_f_dict : mg "dict" = none := He.free_ok X G (c.d.fact 20 (f := .free "dict") rfl)
  have t_f_divmod : mg "divmod" = none := He.free_ok X G (c.d.fact 21 (f := .free "divmod") rfl)
  have t_f_enumerate : mg "enumerate" = none := He.free_ok X G (c.d.fact 22 (f := .free "enumerate") rfl)
  have t_f_int : mg "int" = none := He.free_ok X G (c.d.fact 23 (f := .free "int") rfl)
  have t_f_isinstance : mg "isinstance" = none := He.free_ok X G (c.d.fact 24 (f := .free "isinstance") rfl)
  have t_f_len : mg "len" = none := He.free_ok X G (c.d.fact 25 (f := .free "len") rfl)
  have t_f_list : mg "list" = none := He.free_ok X G (c.d.fact 26 (f := .free "list") rfl)
  have t_f_range : mg "range" = none := He.free_ok X G (c.d.fact 27 (f := .free "range") rfl)
  have t_f_reversed : mg "reversed" = none := He.free_ok X G (c.d.fact 28 (f := .free "reversed") rfl)
  have t_f_str : mg "str" = none := He.free_ok X G (c.d.fact 29 (f := .free "str") rfl)
  have t_f_tuple : mg "tuple" = none := He.free_ok X G (c.d.fact 30 (f := .free "tuple") rfl)
  have t_f_zip : mg "zip" = none := He.free_ok X G (c.d.fact 31 (f := .free "zip") rfl)
  have t_k_LETTERS : ∃ t, mg "LETTERS" = some (.str "abcdefghijklmnopqrstuvwxyz" t) := He.str_ok X G (c.d.fact 32 (f := .str "LETTERS" "abcdefghijklmnopqrstuvwxyz") rfl)
  have t_k_MOST_CHOICES : ∃ t, mg "MOST_CHOICES" = some (.int 256 t) := He.int_ok X G (c.d.fact 33 (f := .int "MOST_CHOICES" 256) rfl)
  have t_k_MOST_RULES : ∃ t, mg "MOST_RULES" = some (.int 8 t) := He.int_ok X G (c.d.fact 34 (f := .int "MOST_RULES" 8) rfl)
  have t_k_MOST_SETTINGS : ∃ t, mg "MOST_SETTINGS" = some (.int 4 t) := He.int_ok X G (c.d.fact 35 (f := .int "MOST_SETTINGS" 4) rfl)
  have t_k_MOST_SWITCHES : ∃ t, mg "MOST_SWITCHES" = some (.int 5 t) := He.int_ok X G (c.d.fact 36 (f := .int "MOST_SWITCHES" 5) rfl)
  have t_fld_total : ∀ c ∈ (["Panel"] : List Str), Cls K (He.ga K c) ∧ NoAttr K (He.ga K c) "total" := (fm ⟨He.cls_ok (c.d.fact 37 (f := .cls "Panel") rfl), He.noat_ok (c.d.fact 38 (f := .noat "Panel" "total") rfl)⟩ fn0)
  have t_fld_dials : ∀ c ∈ (["Panel"] : List Str), Cls K (He.ga K c) ∧ NoAttr K (He.ga K c) "dials" := (fm ⟨He.cls_ok (c.d.fact 37 (f := .cls "Panel") rfl), He.noat_ok (c.d.fact 39 (f := .noat "Panel" "dials") rfl)⟩ fn0)
  have t_fld_bars : ∀ c ∈ (["Panel"] : List Str), Cls K (He.ga K c) ∧ NoAttr K (He.ga K c) "bars" := (fm ⟨He.cls_ok (c.d.fact 37 (f := .cls "Panel") rfl), He.noat_ok (c.d.fact 40 (f := .noat "Panel" "bars") rfl)⟩ fn0)
  have t_fld_barring : ∀ c ∈ (["Panel"] : List Str), Cls K (He.ga K c) ∧ NoAttr K (He.ga K c) "barring" := (fm ⟨He.cls_ok (c.d.fact 37 (f := .cls "Panel") rfl), He.noat_ok (c.d.fact 41 (f := .noat "Panel" "barring") rfl)⟩ fn0)
  have t_fld_free : ∀ c ∈ (["Panel"] : List Str), Cls K (He.ga K c) ∧ NoAttr K (He.ga K c) "free" := (fm ⟨He.cls_ok (c.d.fact 37 (f := .cls "Panel") rfl), He.noat_ok (c.d.fact 42 (f := .noat "Panel" "free") rfl)⟩ fn0)
  have t_cls_Panel : Cls K (He.ga K "Panel") := He.cls_ok (c.d.fact 37 (f := .cls "Panel") rfl)
  have t_met_Panel_all_choices : Meth K (He.ga K "Panel") "all_choices" (He.fAd K ("Panel", some "all_choices")) := He.meth_ok (c.d.fact 43 (f := .meth "Panel" "all_choices") rfl)
  have t_met_Panel_allowed : Meth K (He.ga K "Panel") "allowed" (He.fAd K ("Panel", some "allowed")) := He.meth_ok (c.d.fact 44 (f := .meth "Panel" "allowed") rfl)
  have t_met_Panel_are_terms : Meth K (He.ga K "Panel") "are_terms" (He.fAd K ("Panel", some "are_terms")) := He.meth_ok (c.d.fact 45 (f := .meth "Panel" "are_terms") rfl)
  have t_met_Panel_barred : Meth K (He.ga K "Panel") "barred" (He.fAd K ("Panel", some "barred")) := He.meth_ok (c.d.fact 46 (f := .meth "Panel" "barred") rfl)
  have t_met_Panel_box : Meth K (He.ga K "Panel") "box" (He.fAd K ("Panel", some "box")) := He.meth_ok (c.d.fact 47 (f := .meth "Panel" "box") rfl)
  have t_met_Panel_copied_terms : Meth K (He.ga K "Panel") "copied_terms" (He.fAd K ("Panel", some "copied_terms")) := He.meth_ok (c.d.fact 48 (f := .meth "Panel" "copied_terms") rfl)
  have t_met_Panel_many : Meth K (He.ga K "Panel") "many" (He.fAd K ("Panel", some "many")) := He.meth_ok (c.d.fact 49 (f := .meth "Panel" "many") rfl)
  have t_met_Panel_number_of : Meth K (He.ga K "Panel") "number_of" (He.fAd K ("Panel", some "number_of")) := He.meth_ok (c.d.fact 50 (f := .meth "Panel" "number_of") rfl)
  have t_met_Panel_rules : Meth K (He.ga K "Panel") "rules" (He.fAd K ("Panel", some "rules")) := He.meth_ok (c.d.fact 51 (f := .meth "Panel" "rules") rfl)
  have t_met_Panel_switches : Meth K (He.ga K "Panel") "switches" (He.fAd K ("Panel", some "switches")) := He.meth_ok (c.d.fact 52 (f := .meth "Panel" "switches") rfl)
  have t_met_Panel_told : Meth K (He.ga K "Panel") "told" (He.fAd K ("Panel", some "told")) := He.meth_ok (c.d.fact 53 (f := .meth "Panel" "told") rfl)
  have t_met_Panel_told_rules : Meth K (He.ga K "Panel") "told_rules" (He.fAd K ("Panel", some "told_rules")) := He.meth_ok (c.d.fact 54 (f := .meth "Panel" "told_rules") rfl)
  have t_mk_Panel : mg "Panel" = some (.ref (He.ga K "Panel")) ∧ Mk K (He.ga K "Panel") (He.fAd K ("Panel", some "__init__")) := ⟨(He.glo_ok X G (c.d.fact 56 (f := .glo "Panel") rfl)), He.mkr_ok (c.d.fact 55 (f := .mkr "Panel") rfl)⟩
  have t_exc_BadCond : ExcK K mg "BadCond" := (let z := He.exc_ok (c.d.fact 57 (f := .exc "BadCond") rfl); ⟨z.1, z.2.1, z.2.2.1, z.2.2.2, (He.glo_ok X G (c.d.fact 58 (f := .glo "BadCond") rfl))⟩)
  have t_exc_BadPanel : ExcK K mg "BadPanel" := (let z := He.exc_ok (c.d.fact 59 (f := .exc "BadPanel") rfl); ⟨z.1, z.2.1, z.2.2.1, z.2.2.2, (He.glo_ok X G (c.d.fact 60 (f := .glo "BadPanel") rfl))⟩)
  have t_exc_NoChoice : ExcK K mg "NoChoice" := (let z := He.exc_ok (c.d.fact 61 (f := .exc "NoChoice") rfl); ⟨z.1, z.2.1, z.2.2.1, z.2.2.2, (He.glo_ok X G (c.d.fact 62 (f := .glo "NoChoice") rfl))⟩)
  have t_cat_NoChoice : mg "NoChoice" = some (.ref (He.ga K "NoChoice")) ∧ ∀ q ∈ tb_NoChoice, PySem.W.exmOne K (.ref (He.ga K q.1)) (.ref (He.ga K "NoChoice")) = some q.2 := ⟨(He.glo_ok X G (c.d.fact 62 (f := .glo "NoChoice") rfl)), (fm (He.exm_ok (c.d.fact 65 (f := .exm "BadPanel" "NoChoice" false) rfl)) (fm (He.exm_ok (c.d.fact 64 (f := .exm "NoChoice" "NoChoice" true) rfl)) (fm (He.exm_ok (c.d.fact 63 (f := .exm "BadCond" "NoChoice" false) rfl)) fn0)))⟩
  have T : Tx K mg := ⟨t_g__law_cell_at, t_g__law_mix, t_g__law_words, t_g__law_switches, t_g__law_rows, t_g_is_of, t_g_is_word, t_g_are_settings, t_g_are_switches, t_g_is_whole, t_g__law_panel, t_g__law_number, t_g__law_told, t_g_in_set, t_g__law_bar, t_g__law_refused, t_g__law_whole, t_g_law, t_f_all, t_f_bool, t_f_dict, t_f_divmod, t_f_enumerate, t_f_int, t_f_isinstance, t_f_len, t_f_list, t_f_range, t_f_reversed, t_f_str, t_f_tuple, t_f_zip, t_k_LETTERS, t_k_MOST_CHOICES, t_k_MOST_RULES, t_k_MOST_SETTINGS, t_k_MOST_SWITCHES, t_fld_total, t_fld_dials, t_fld_bars, t_fld_barring, t_fld_free, t_cls_Panel, t_met_Panel_all_choices, t_met_Panel_allowed, t_met_Panel_are_terms, t_met_Panel_barred, t_met_Panel_box, t_met_Panel_copied_terms, t_met_Panel_many, t_met_Panel_number_of, t_met_Panel_rules, t_met_Panel_switches, t_met_Panel_told, t_met_Panel_told_rules, t_mk_Panel, t_exc_BadCond, t_exc_BadPanel, t_exc_NoChoice, t_cat_NoChoice⟩
  have u__law_cell_at : DefU K "_law_cell_at" "_law_cell_at" s__law_cell_at (He.ga K "_law_cell_at") ["_law_script", "_law_k"] := ⟨fd__law_cell_at, D__law_cell_at, FunD.bindsN D__law_cell_at fun _ _ _ _ _ _ us hl => match us, hl with | [_, _], _ => rfl⟩
  have u__law_mix : DefU K "_law_mix" "_law_mix" s__law_mix (He.ga K "_law_mix") ["_law_cell", "_law_k"] := ⟨fd__law_mix, D__law_mix, FunD.bindsN D__law_mix fun _ _ _ _ _ _ us hl => match us, hl with | [_, _], _ => rfl⟩
  have u__law_words : DefU K "_law_words" "_law_words" s__law_words (He.ga K "_law_words") ["_law_cell", "_law_many"] := ⟨fd__law_words, D__law_words, FunD.bindsN D__law_words fun _ _ _ _ _ _ us hl => match us, hl with | [_, _], _ => rfl⟩
  have u__law_switches : DefU K "_law_switches" "_law_switches" s__law_switches (He.ga K "_law_switches") ["_law_cell", "_law_most"] := ⟨fd__law_switches, D__law_switches, FunD.bindsN D__law_switches fun _ _ _ _ _ _ us hl => match us, hl with | [_, _], _ => rfl⟩
  have u__law_rows : DefU K "_law_rows" "_law_rows" s__law_rows (He.ga K "_law_rows") ["_law_switches_here"] := ⟨fd__law_rows, D__law_rows, FunD.bindsN D__law_rows fun _ _ _ _ _ _ us hl => match us, hl with | [_], _ => rfl⟩
  have u_Panel_all_choices : DefU K "all_choices" "Panel.all_choices" s_Panel_all_choices (He.fAd K ("Panel", some "all_choices")) ["self"] := ⟨fd_Panel_all_choices, D_Panel_all_choices, FunD.bindsN D_Panel_all_choices fun _ _ _ _ _ _ us hl => match us, hl with | [_], _ => rfl⟩
  have u_is_of : DefU K "is_of" "is_of" s_is_of (He.ga K "is_of") ["thing", "signs", "longest"] := ⟨fd_is_of, D_is_of, FunD.bindsN D_is_of fun _ _ _ _ _ _ us hl => match us, hl with | [_, _, _], _ => rfl⟩
  have u_is_word : DefU K "is_word" "is_word" s_is_word (He.ga K "is_word") ["thing"] := ⟨fd_is_word, D_is_word, FunD.bindsN D_is_word fun _ _ _ _ _ _ us hl => match us, hl with | [_], _ => rfl⟩
  have u_are_settings : DefU K "are_settings" "are_settings" s_are_settings (He.ga K "are_settings") ["thing"] := ⟨fd_are_settings, D_are_settings, FunD.bindsN D_are_settings fun _ _ _ _ _ _ us hl => match us, hl with | [_], _ => rfl⟩
  have u_are_switches : DefU K "are_switches" "are_switches" s_are_switches (He.ga K "are_switches") ["thing"] := ⟨fd_are_switches, D_are_switches, FunD.bindsN D_are_switches fun _ _ _ _ _ _ us hl => match us, hl with | [_], _ => rfl⟩
  have u_Panel_copied_terms : DefU K "copied_terms" "Panel.copied_terms" s_Panel_copied_terms (He.fAd K ("Panel", some "copied_terms")) ["self", "terms"] := ⟨fd_Panel_copied_terms, D_Panel_copied_terms, FunD.bindsN D_Panel_copied_terms fun _ _ _ _ _ _ us hl => match us, hl with | [_, _], _ => rfl⟩
  have u_Panel_are_terms : DefU K "are_terms" "Panel.are_terms" s_Panel_are_terms (He.fAd K ("Panel", some "are_terms")) ["self", "terms"] := ⟨fd_Panel_are_terms, D_Panel_are_terms, FunD.bindsN D_Panel_are_terms fun _ _ _ _ _ _ us hl => match us, hl with | [_, _], _ => rfl⟩
  have u_Panel_told_rules : DefU K "told_rules" "Panel.told_rules" s_Panel_told_rules (He.fAd K ("Panel", some "told_rules")) ["self", "rules"] := ⟨fd_Panel_told_rules, D_Panel_told_rules, FunD.bindsN D_Panel_told_rules fun _ _ _ _ _ _ us hl => match us, hl with | [_, _], _ => rfl⟩
  have u_is_whole : DefU K "is_whole" "is_whole" s_is_whole (He.ga K "is_whole") ["thing"] := ⟨fd_is_whole, D_is_whole, FunD.bindsN D_is_whole fun _ _ _ _ _ _ us hl => match us, hl with | [_], _ => rfl⟩
  have u_Panel_told : DefU K "told" "Panel.told" s_Panel_told (He.fAd K ("Panel", some "told")) ["self", "number"] := ⟨fd_Panel_told, D_Panel_told, FunD.bindsN D_Panel_told fun _ _ _ _ _ _ us hl => match us, hl with | [_, _], _ => rfl⟩
  have u_Panel_box : DefU K "box" "Panel.box" s_Panel_box (He.fAd K ("Panel", some "box")) ["self", "terms"] := ⟨fd_Panel_box, D_Panel_box, FunD.bindsN D_Panel_box fun _ _ _ _ _ _ us hl => match us, hl with | [_, _], _ => rfl⟩
  have b0_Panel_init := FunD.binds1 (ps := ["self", "switches", "rules"]) D_Panel_init 3 1 (List.cons_ne_nil _ _) rfl fun _ _ _ _ _ _ _ us its hl hi => match us, its, hl, hi with | [_, _, _], [_], _, _ => ⟨_, rfl, rfl⟩
  have b1_Panel_init := FunD.binds1 (ps := ["self", "switches", "rules"]) D_Panel_init 2 0 (List.cons_ne_nil _ _) rfl fun _ _ _ _ _ _ _ us its hl hi => match us, its, hl, hi with | [_, _], [_], _, _ => ⟨_, rfl, rfl⟩
  have u_Panel_init : DefU1 K "__init__" "Panel.__init__" s_Panel_init (He.fAd K ("Panel", some "__init__")) ["self", "switches", "rules"] := ⟨fd_Panel_init, D_Panel_init, (by obtain ⟨ds, hv, hb⟩ := b0_Panel_init; cases hv; exact hb), b1_Panel_init⟩
  have u__law_panel : DefU K "_law_panel" "_law_panel" s__law_panel (He.ga K "_law_panel") ["_law_switches_here", "_law_cell"] := ⟨fd__law_panel, D__law_panel, FunD.bindsN D__law_panel fun _ _ _ _ _ _ us hl => match us, hl with | [_, _], _ => rfl⟩
  have u_Panel_switches : DefU K "switches" "Panel.switches" s_Panel_switches (He.fAd K ("Panel", some "switches")) ["self"] := ⟨fd_Panel_switches, D_Panel_switches, FunD.bindsN D_Panel_switches fun _ _ _ _ _ _ us hl => match us, hl with | [_], _ => rfl⟩
  have u_Panel_number_of : DefU K "number_of" "Panel.number_of" s_Panel_number_of (He.fAd K ("Panel", some "number_of")) ["self", "settings"] := ⟨fd_Panel_number_of, D_Panel_number_of, FunD.bindsN D_Panel_number_of fun _ _ _ _ _ _ us hl => match us, hl with | [_, _], _ => rfl⟩
  have u__law_number : DefU K "_law_number" "_law_number" s__law_number (He.ga K "_law_number") ["_law_panel_here", "_law_settings"] := ⟨fd__law_number, D__law_number, FunD.bindsN D__law_number fun _ _ _ _ _ _ us hl => match us, hl with | [_, _], _ => rfl⟩
  have u__law_told : DefU K "_law_told" "_law_told" s__law_told (He.ga K "_law_told") ["_law_panel_here", "_law_thing"] := ⟨fd__law_told, D__law_told, FunD.bindsN D__law_told fun _ _ _ _ _ _ us hl => match us, hl with | [_, _], _ => rfl⟩
  have u_in_set : DefU K "in_set" "in_set" s_in_set (He.ga K "in_set") ["choices", "number"] := ⟨fd_in_set, D_in_set, FunD.bindsN D_in_set fun _ _ _ _ _ _ us hl => match us, hl with | [_, _], _ => rfl⟩
  have u_Panel_barred : DefU K "barred" "Panel.barred" s_Panel_barred (He.fAd K ("Panel", some "barred")) ["self", "number"] := ⟨fd_Panel_barred, D_Panel_barred, FunD.bindsN D_Panel_barred fun _ _ _ _ _ _ us hl => match us, hl with | [_, _], _ => rfl⟩
  have u__law_bar : DefU K "_law_bar" "_law_bar" s__law_bar (He.ga K "_law_bar") ["_law_panel_here", "_law_thing"] := ⟨fd__law_bar, D__law_bar, FunD.bindsN D__law_bar fun _ _ _ _ _ _ us hl => match us, hl with | [_, _], _ => rfl⟩
  have u__law_refused : DefU K "_law_refused" "_law_refused" s__law_refused (He.ga K "_law_refused") ["_law_panel_here", "_law_rows_here", "_law_cell"] := ⟨fd__law_refused, D__law_refused, FunD.bindsN D__law_refused fun _ _ _ _ _ _ us hl => match us, hl with | [_, _, _], _ => rfl⟩
  have u_Panel_rules : DefU K "rules" "Panel.rules" s_Panel_rules (He.fAd K ("Panel", some "rules")) ["self"] := ⟨fd_Panel_rules, D_Panel_rules, FunD.bindsN D_Panel_rules fun _ _ _ _ _ _ us hl => match us, hl with | [_], _ => rfl⟩
  have u__law_whole : DefU K "_law_whole" "_law_whole" s__law_whole (He.ga K "_law_whole") ["_law_found", "_law_due"] := ⟨fd__law_whole, D__law_whole, FunD.bindsN D__law_whole fun _ _ _ _ _ _ us hl => match us, hl with | [_, _], _ => rfl⟩
  have u_Panel_allowed : DefU K "allowed" "Panel.allowed" s_Panel_allowed (He.fAd K ("Panel", some "allowed")) ["self"] := ⟨fd_Panel_allowed, D_Panel_allowed, FunD.bindsN D_Panel_allowed fun _ _ _ _ _ _ us hl => match us, hl with | [_], _ => rfl⟩
  have u_Panel_many : DefU K "many" "Panel.many" s_Panel_many (He.fAd K ("Panel", some "many")) ["self"] := ⟨fd_Panel_many, D_Panel_many, FunD.bindsN D_Panel_many fun _ _ _ _ _ _ us hl => match us, hl with | [_], _ => rfl⟩
  have e := hfa.symm.trans (He.glo_ok X G (c.d.fact 17 (f := .glo "law") rfl))
  cases e
  have b := FunD.bindsA (ps := ["_law_script"]) D_law fun _ _ _ _ _ _ us hl => match us, hl with | [_], _ => rfl
  refine ⟨fd_law, fun s v => b s [v] rfl, fun base _ _ => ?_⟩
  have h__law_cell_at := c__law_cell_at (P' := P') (w := w) (base := base) T u__law_cell_at
  have h__law_mix := c__law_mix (P' := P') (w := w) (base := base) T u__law_mix
  have h__law_words := c__law_words (P' := P') (w := w) (base := base) T h__law_mix u__law_words
  have h__law_switches := c__law_switches (P' := P') (w := w) (base := base) T h__law_words h__law_mix u__law_switches
  have h__law_rows := c__law_rows (P' := P') (w := w) (base := base) T u__law_rows
  have h_Panel_all_choices := c_Panel_all_choices (P' := P') (w := w) (base := base) T u_Panel_all_choices
  have h_is_of := c_is_of (P' := P') (w := w) (base := base) T u_is_of
  have h_is_word := c_is_word (P' := P') (w := w) (base := base) T h_is_of u_is_word
  have h_are_settings := c_are_settings (P' := P') (w := w) (base := base) T h_is_word u_are_settings
  have h_are_switches := c_are_switches (P' := P') (w := w) (base := base) T h_is_word h_are_settings u_are_switches
  have h_Panel_copied_terms := c_Panel_copied_terms (P' := P') (w := w) (base := base) T u_Panel_copied_terms
  have h_Panel_are_terms := c_Panel_are_terms (P' := P') (w := w) (base := base) T u_Panel_are_terms
  have h_Panel_told_rules := c_Panel_told_rules (P' := P') (w := w) (base := base) T h_Panel_are_terms h_Panel_copied_terms u_Panel_told_rules
  have h_is_whole := c_is_whole (P' := P') (w := w) (base := base) T u_is_whole
  have h_Panel_told := c_Panel_told (P' := P') (w := w) (base := base) T h_is_whole u_Panel_told
  have h_Panel_box := c_Panel_box (P' := P') (w := w) (base := base) T h_Panel_are_terms h_Panel_told u_Panel_box
  have h_Panel_init := c_Panel_init (P' := P') (w := w) (base := base) T h_are_switches h_Panel_told_rules h_Panel_box h_Panel_all_choices u_Panel_init
  have h_Panel_init_loc := c_Panel_init_loc (P' := P') (w := w) (base := base) T h_are_switches h_Panel_told_rules h_Panel_box h_Panel_all_choices u_Panel_init
  have h__law_panel := c__law_panel (P' := P') (w := w) (base := base) T h_Panel_init_loc u__law_panel
  have h_Panel_switches := c_Panel_switches (P' := P') (w := w) (base := base) T u_Panel_switches
  have h_Panel_number_of := c_Panel_number_of (P' := P') (w := w) (base := base) T u_Panel_number_of
  have h__law_number := c__law_number (P' := P') (w := w) (base := base) T h_Panel_number_of u__law_number
  have h__law_told := c__law_told (P' := P') (w := w) (base := base) T h_Panel_told u__law_told
  have h_in_set := c_in_set (P' := P') (w := w) (base := base) T u_in_set
  have h_Panel_barred := c_Panel_barred (P' := P') (w := w) (base := base) T h_Panel_told h_in_set u_Panel_barred
  have h__law_bar := c__law_bar (P' := P') (w := w) (base := base) T h_Panel_barred u__law_bar
  have h__law_refused := c__law_refused (P' := P') (w := w) (base := base) T h__law_number h__law_told h__law_bar u__law_refused
  have h_Panel_rules := c_Panel_rules (P' := P') (w := w) (base := base) T h_Panel_copied_terms u_Panel_rules
  have h__law_whole := c__law_whole (P' := P') (w := w) (base := base) T u__law_whole
  have h_Panel_allowed := c_Panel_allowed (P' := P') (w := w) (base := base) T u_Panel_allowed
  have h_Panel_many := c_Panel_many (P' := P') (w := w) (base := base) T u_Panel_many
  exact law_ok T h__law_cell_at h__law_switches h__law_rows h__law_panel h_Panel_init h_Panel_told h__law_whole h_Panel_number_of h_Panel_barred h_Panel_switches h_Panel_rules h_Panel_all_choices h_Panel_allowed h_Panel_many h__law_refused D_law
end Pd
open PySem PySem.W PySem.Calls PyProof.Rows
theorem Pd.holds_of (hl : ∀ ns : List Int, ns.length ≤ 63 → Pd.F_law [.list (ns.map Pd.D.int)] = .ok (.bl true)) : PySem.Challenge.rw_manyleaf_k03_choices_numbered.Holds := by
  w_on; o_law
  refine HandSHeadRun.head_any (r := OpenLaw.row PySem.Challenge.rw_manyleaf_k03_choices_numbered) (q := view (OpenLaw.row PySem.Challenge.rw_manyleaf_k03_choices_numbered).prog [32]) (H := Pd.hk) (ob := Pd.ob) (M := 12000) (loose := Pd.loose) (d := HandSHeadRun.topDef (OpenLaw.row PySem.Challenge.rw_manyleaf_k03_choices_numbered).prog 32) (kwd := []) Pd.ob_eq
    (by kernel_rfl) (fun s => by kernel_rfl) Pd.run (by kernel_rfl) (by kernel_rfl) (by kernel_rfl) (by rfl) (by first | assumption | decide +kernel) (by decide +kernel) ⟨rfl, rfl, rfl, rfl, rfl, by decide +kernel⟩ ?hw ?hc
  case hw => w_witness2
  case hc =>
    refine Pd.walk_d (l := PySem.Challenge.rw_manyleaf_k03_choices_numbered) (n := 63) (k := 8) (x := "_law_script") rfl (by decide) (by kernel_rfl) ⟨rfl, by decide, by decide⟩ hl ?F
    intro w mg fa h Y G hmg0
    obtain ⟨K, KX, c⟩ := Y
    have hmg : mg ("law" : PySem.Str) = some (.ref fa) := by
      have e : (HandSHeadRun.topDef (OpenLaw.row PySem.Challenge.rw_manyleaf_k03_choices_numbered).prog 32).name = ("law" : PySem.Str) := by kernel_rfl
      rw [← e]
      exact hmg0
    obtain ⟨fd, hb, hF⟩ := Pd.facts (P' := (PySem.Challenge.rw_manyleaf_k03_choices_numbered).prog) (w := w) KX G hmg c
    exact ⟨K, fd, KX, hb, hF⟩
namespace Pd
open PySem PySem.Spec PyProof.Rows L2
/-- r, then u -/
def S.then (r : S) (u : Rho → S) : S := match r with
  | .nx ρ => u ρ
  | r => r
def S.pick (p : R Bool) (ρ : Rho) (a b : S) : S := match p with
  | .ok k => if k = true then a else b
  | .ex x => .ex x ρ
  | .st => .st
def S.ofR (r : R D) (ρ : Rho) (k : D → S) : S := match r with
  | .ok d => k d
  | .ex x => .ex x ρ
  | .st => .st
def S.ofI (r : R (List D)) (ρ : Rho) (k : List D → S) : S := match r with
  | .ok d => k d
  | .ex x => .ex x ρ
  | .st => .st
section
variable {s u : Rho → S} {ρ : Rho} {p : Rho → R Bool} {g : Rho → R D} {gi : Rho → R (List D)} {τ : D → Rho → R Rho} {b : Rho → S} {k : Rho → D → S} {i : Nat}
theorem e_seq : sSeq s u ρ = (s ρ).then u := rfl
theorem e_thn (ρ1 : Rho) : (S.nx ρ1).then u = u ρ1 := rfl
theorem e_trt (d : D) : (S.rt d).then u = .rt d := rfl
theorem e_trn (d : D) : (S.rn d).then u = .rn d := rfl
theorem e_tex (x : Ex) (ρ1 : Rho) : (S.ex x ρ1).then u = .ex x ρ1 := rfl
theorem e_if : sIf p s u ρ = S.pick (p ρ) ρ (s ρ) (u ρ) := rfl
theorem e_pick (k : Bool) (a b : S) : S.pick (.ok k) ρ a b = if k = true then a else b := rfl
theorem e_pickx (x : Ex) (a b : S) : S.pick (.ex x) ρ a b = .ex x ρ := rfl
theorem e_ofR (d : D) (k : D → S) : S.ofR (.ok d) ρ k = k d := rfl
theorem e_ofRx (x : Ex) (k : D → S) : S.ofR (.ex x) ρ k = .ex x ρ := rfl
theorem e_ret : sRet g ρ = S.ofR (g ρ) ρ fun d => .rt d := rfl
theorem e_retN : sRetN g ρ = S.ofR (g ρ) ρ fun d => .rn d := rfl
theorem e_set : sSet i g ρ = S.ofR (g ρ) ρ fun d => .nx (ρ.set i (some d)) := rfl
theorem e_drop : sDrop g ρ = S.ofR (g ρ) ρ fun _ => .nx ρ := rfl
theorem e_for : sFor gi τ b ρ = S.ofI (gi ρ) ρ fun items => forL τ b items ρ := rfl
theorem e_ofI (d : List D) (k : List D → S) : S.ofI (.ok d) ρ k = k d := rfl
theorem e_nil : sNil ρ = .nx ρ := rfl
theorem e_asg : sAsg g τ ρ = S.ofR (g ρ) ρ fun d => match τ d ρ with | .ok ρ' => .nx ρ' | _ => .st := rfl
theorem e_append (ds : List D) (h : ρ[i]? = some (some (.list ds))) : sAppend i g ρ = S.ofR (g ρ) ρ fun d => if ds.length < sizeLine then .nx (ρ.set i (some (.list (ds ++ [d])))) else .st := by
  unfold sAppend
  rw [h]
  rfl
end
theorem endS_rt (d : D) : endS (.rt d) = .ok d := rfl
theorem endS_rn (d : D) : endS (.rn d) = .ok d := rfl
theorem endS_nx (ρ : Rho) : endS (.nx ρ) = .ok .non := rfl
theorem endS_ex (x : Ex) (ρ : Rho) : endS (.ex x ρ) = .ex x := rfl
theorem endN_rn (d : D) : endN (.rn d) = .ok d := rfl
theorem endN_ex (x : Ex) (ρ : Rho) : endN (.ex x ρ) = .ex x := rfl
/-- a for whose turns are judged by what they come to -/
theorem forL_rule {τ : D → Rho → R Rho} {b : Rho → S} (Post : S → Prop) (Inv : Nat → Rho → Prop) : ∀ (items : List D) (k : Nat) (ρ : Rho), Inv k ρ →
    (∀ j d ρ, items[j]? = some d → Inv (k + j) ρ → ∃ ρ1, τ d ρ = .ok ρ1 ∧ match b ρ1 with
      | .nx ρ2 => Inv (k + j + 1) ρ2
      | .ct ρ2 => Inv (k + j + 1) ρ2
      | .bk ρ2 => Post (.nx ρ2)
      | r => Post r) → (∀ ρ, Inv (k + items.length) ρ → Post (.nx ρ)) → Post (forL τ b items ρ)
  | [], k, ρ, h0, _, hd => hd ρ h0
  | d :: ds, k, ρ, h0, hs, hd => by
    have ih := forL_rule (τ := τ) (b := b) Post Inv ds (k + 1)
    obtain ⟨ρ1, e1, h1⟩ := hs 0 d ρ rfl h0
    have go : ∀ ρ2, Inv (k + 1) ρ2 → Post (forL τ b ds ρ2) := fun ρ2 h2 => by
      refine ih ρ2 h2 (fun j d' ρ' e h => ?_) fun ρ' h => hd ρ' ?_
      · have := hs (j + 1) d' ρ' (by simpa using e) (by rw [show k + (j + 1) = k + 1 + j by omega]; exact h)
        rw [show k + (j + 1) + 1 = k + 1 + j + 1 by omega] at this
        exact this
      · rw [List.length_cons, show k + (ds.length + 1) = k + 1 + ds.length by omega]; exact h
    unfold forL
    rw [e1]
    dsimp only
    cases e2 : b ρ1 with
    | nx ρ2 => rw [e2] at h1; exact go ρ2 h1
    | ct ρ2 => rw [e2] at h1; exact go ρ2 h1
    | bk ρ2 => rw [e2] at h1; exact h1
    | rt d => rw [e2] at h1; exact h1
    | rn d => rw [e2] at h1; exact h1
    | rm d ρ2 => rw [e2] at h1; exact h1
    | ex x ρ2 => rw [e2] at h1; exact h1
    | st => rw [e2] at h1; exact h1
theorem set_set {α : Type} (l : List α) (i : Nat) (a b : α) : (l.set i a).set i b = l.set i b := by
  apply List.ext_getElem?
  intro j
  by_cases h : j = i
  · subst h
    by_cases hl : j < l.length
    · rw [List.getElem?_set_self (by simpa using hl), List.getElem?_set_self hl]
    · rw [List.getElem?_eq_none (by simpa using hl), List.getElem?_eq_none (by simpa using hl)]
  · rw [List.getElem?_set_ne (Ne.symm h), List.getElem?_set_ne (Ne.symm h), List.getElem?_set_ne (Ne.symm h)]
/-- a search: each turn goes on, or hands back v -/
theorem forL_all {i : Nat} {b : Rho → S} (P : D → Bool) (v : S) (hv : (∃ d, v = .rt d) ∨ ∃ d, v = .rn d) (ρ : Rho) : ∀ (items : List D) (ρ0 : Rho), (ρ0 = ρ ∨ ∃ d, ρ0 = ρ.set i (some d)) →
    (∀ d ∈ items, b (ρ.set i (some d)) = if P d = true then .nx (ρ.set i (some d)) else v) → ∃ ρ', (ρ' = ρ ∨ ∃ d, ρ' = ρ.set i (some d)) ∧ forL (τName i) b items ρ0 = if items.all P = true then .nx ρ' else v
  | [], ρ0, h0, _ => ⟨ρ0, h0, rfl⟩
  | d :: ds, ρ0, h0, h => by
    have e : ρ0.set i (some d) = ρ.set i (some d) := by
      rcases h0 with rfl | ⟨d', rfl⟩
      · rfl
      · exact set_set _ _ _ _
    have h1 := h d List.mem_cons_self
    unfold forL τName
    dsimp only
    rw [e, h1, List.all_cons]
    by_cases hp : P d = true
    · rw [if_pos hp, hp, Bool.true_and]
      obtain ⟨ρ', a, c⟩ := forL_all P v hv ρ ds (ρ.set i (some d)) (.inr ⟨d, rfl⟩) fun d' hd => h d' (List.mem_cons_of_mem _ hd)
      exact ⟨ρ', a, c⟩
    · rw [if_neg hp]
      refine ⟨ρ, .inl rfl, ?_⟩
      rw [show P d = false by simpa using hp, Bool.false_and, if_neg Bool.false_ne_true]
      rcases hv with ⟨d', rfl⟩ | ⟨d', rfl⟩ <;> rfl
/-- one list made of another -/
theorem lcR_map {i : Nat} {ge : Rho → R D} {ρ : Rho} (f : D → D) : ∀ (items : List D), (∀ d ∈ items, ge (ρ.set i (some d)) = .ok (f d)) → lcR (τName i) bYes ge ρ items = .ok (items.map f)
  | [], _ => rfl
  | d :: ds, h => by
    unfold lcR τName
    rw [ok_bind]
    show (bYes _).bind _ = _
    unfold bYes
    rw [ok_bind, if_pos rfl, h d List.mem_cons_self, ok_bind]
    have ih := lcR_map (i := i) (ge := ge) (ρ := ρ) f ds fun d' hd => h d' (List.mem_cons_of_mem _ hd)
    unfold τName bYes at ih
    rw [ih]
    rfl
theorem small_ok {i : Int} (h : -(2 ^ 62) ≤ i) (h' : i < 2 ^ 62) : small62 i = true := by
  unfold small62
  rw [decide_eq_true h, decide_eq_true h']
  rfl
theorem e_isi_int_non  : isiD "int" (.non) = .ok (.bl false) := rfl
theorem e_isi_int_bl (b : Bool) : isiD "int" (.bl b) = .ok (.bl true) := rfl
theorem e_isi_int_int (i : Int) : isiD "int" (.int i) = .ok (.bl true) := rfl
theorem e_isi_int_str (z : Str) : isiD "int" (.str z) = .ok (.bl false) := rfl
theorem e_isi_int_list (ds : List D) : isiD "int" (.list ds) = .ok (.bl false) := rfl
theorem e_isi_int_tup (ds : List D) : isiD "int" (.tup ds) = .ok (.bl false) := rfl
theorem e_isi_int_dict (lk : Bool) (ds : List (Key × D)) : isiD "int" (.dict lk ds) = .ok (.bl false) := rfl
theorem e_isi_int_dictT (ds : List (List Key × D)) : isiD "int" (.dictT ds) = .ok (.bl false) := rfl
theorem e_isi_bool_non  : isiD "bool" (.non) = .ok (.bl false) := rfl
theorem e_isi_bool_bl (b : Bool) : isiD "bool" (.bl b) = .ok (.bl true) := rfl
theorem e_isi_bool_int (i : Int) : isiD "bool" (.int i) = .ok (.bl false) := rfl
theorem e_isi_bool_str (z : Str) : isiD "bool" (.str z) = .ok (.bl false) := rfl
theorem e_isi_bool_list (ds : List D) : isiD "bool" (.list ds) = .ok (.bl false) := rfl
theorem e_isi_bool_tup (ds : List D) : isiD "bool" (.tup ds) = .ok (.bl false) := rfl
theorem e_isi_bool_dict (lk : Bool) (ds : List (Key × D)) : isiD "bool" (.dict lk ds) = .ok (.bl false) := rfl
theorem e_isi_bool_dictT (ds : List (List Key × D)) : isiD "bool" (.dictT ds) = .ok (.bl false) := rfl
theorem e_isi_str_non  : isiD "str" (.non) = .ok (.bl false) := rfl
theorem e_isi_str_bl (b : Bool) : isiD "str" (.bl b) = .ok (.bl false) := rfl
theorem e_isi_str_int (i : Int) : isiD "str" (.int i) = .ok (.bl false) := rfl
theorem e_isi_str_str (z : Str) : isiD "str" (.str z) = .ok (.bl true) := rfl
theorem e_isi_str_list (ds : List D) : isiD "str" (.list ds) = .ok (.bl false) := rfl
theorem e_isi_str_tup (ds : List D) : isiD "str" (.tup ds) = .ok (.bl false) := rfl
theorem e_isi_str_dict (lk : Bool) (ds : List (Key × D)) : isiD "str" (.dict lk ds) = .ok (.bl false) := rfl
theorem e_isi_str_dictT (ds : List (List Key × D)) : isiD "str" (.dictT ds) = .ok (.bl false) := rfl
theorem e_isi_list_non  : isiD "list" (.non) = .ok (.bl false) := rfl
theorem e_isi_list_bl (b : Bool) : isiD "list" (.bl b) = .ok (.bl false) := rfl
theorem e_isi_list_int (i : Int) : isiD "list" (.int i) = .ok (.bl false) := rfl
theorem e_isi_list_str (z : Str) : isiD "list" (.str z) = .ok (.bl false) := rfl
theorem e_isi_list_list (ds : List D) : isiD "list" (.list ds) = .ok (.bl true) := rfl
theorem e_isi_list_tup (ds : List D) : isiD "list" (.tup ds) = .ok (.bl false) := rfl
theorem e_isi_list_dict (lk : Bool) (ds : List (Key × D)) : isiD "list" (.dict lk ds) = .ok (.bl false) := rfl
theorem e_isi_list_dictT (ds : List (List Key × D)) : isiD "list" (.dictT ds) = .ok (.bl false) := rfl
theorem e_isi_tuple_non  : isiD "tuple" (.non) = .ok (.bl false) := rfl
theorem e_isi_tuple_bl (b : Bool) : isiD "tuple" (.bl b) = .ok (.bl false) := rfl
theorem e_isi_tuple_int (i : Int) : isiD "tuple" (.int i) = .ok (.bl false) := rfl
theorem e_isi_tuple_str (z : Str) : isiD "tuple" (.str z) = .ok (.bl false) := rfl
theorem e_isi_tuple_list (ds : List D) : isiD "tuple" (.list ds) = .ok (.bl false) := rfl
theorem e_isi_tuple_tup (ds : List D) : isiD "tuple" (.tup ds) = .ok (.bl true) := rfl
theorem e_isi_tuple_dict (lk : Bool) (ds : List (Key × D)) : isiD "tuple" (.dict lk ds) = .ok (.bl false) := rfl
theorem e_isi_tuple_dictT (ds : List (List Key × D)) : isiD "tuple" (.dictT ds) = .ok (.bl false) := rfl
theorem e_isi_dict_non  : isiD "dict" (.non) = .ok (.bl false) := rfl
theorem e_isi_dict_bl (b : Bool) : isiD "dict" (.bl b) = .ok (.bl false) := rfl
theorem e_isi_dict_int (i : Int) : isiD "dict" (.int i) = .ok (.bl false) := rfl
theorem e_isi_dict_str (z : Str) : isiD "dict" (.str z) = .ok (.bl false) := rfl
theorem e_isi_dict_list (ds : List D) : isiD "dict" (.list ds) = .ok (.bl false) := rfl
theorem e_isi_dict_tup (ds : List D) : isiD "dict" (.tup ds) = .ok (.bl false) := rfl
theorem e_isi_dict_dict (lk : Bool) (ds : List (Key × D)) : isiD "dict" (.dict lk ds) = .ok (.bl true) := rfl
theorem e_isi_dict_dictT (ds : List (List Key × D)) : isiD "dict" (.dictT ds) = .ok (.bl true) := rfl
theorem e_asB (b : Bool) : asB (.bl b) = .ok b := rfl
theorem e_lt (i j : Int) : ltD (.int i) (.int j) = .ok (.bl (decide (i < j))) := rfl
theorem e_gt (i j : Int) : gtD (.int i) (.int j) = .ok (.bl (decide (j < i))) := rfl
theorem e_le (i j : Int) : leD (.int i) (.int j) = .ok (.bl (decide (i ≤ j))) := rfl
theorem e_ge (i j : Int) : geD (.int i) (.int j) = .ok (.bl (decide (j ≤ i))) := rfl
theorem e_ltS (i j : Str) : ltD (.str i) (.str j) = .ok (.bl (ltS i j)) := rfl
theorem e_gtS (i j : Str) : gtD (.str i) (.str j) = .ok (.bl (ltS j i)) := rfl
theorem e_eqI (i j : Int) : eqD (.int i) (.int j) = .ok (.bl (i == j)) := rfl
theorem e_eqS (i j : Str) : eqD (.str i) (.str j) = .ok (.bl (i == j)) := rfl
theorem e_eqB (i j : Bool) : eqD (.bl i) (.bl j) = .ok (.bl (i == j)) := rfl
theorem e_neI (i j : Int) : neD (.int i) (.int j) = .ok (.bl (!(i == j))) := rfl
theorem e_neS (i j : Str) : neD (.str i) (.str j) = .ok (.bl (!(i == j))) := rfl
theorem e_neB (i j : Bool) : neD (.bl i) (.bl j) = .ok (.bl (!(i == j))) := rfl
theorem e_addI (i j : Int) : addD (.int i) (.int j) = .ok (.int (i + j)) := rfl
theorem e_iaddI (i j : Int) : iaddD (.int i) (.int j) = .ok (.int (i + j)) := rfl
theorem e_subI (i j : Int) : subD (.int i) (.int j) = .ok (.int (i - j)) := rfl
theorem e_negI (i : Int) : negD (.int i) = .ok (.int (-i)) := rfl
theorem e_andI (i j : Int) : andD (.int i) (.int j) = .ok (.int (Builtin.bitAnd i j)) := rfl
theorem e_orI (i j : Int) : orD (.int i) (.int j) = .ok (.int (Builtin.bitOr i j)) := rfl
theorem e_xorI (i j : Int) : xorD (.int i) (.int j) = .ok (.int (Builtin.bitXor i j)) := rfl
theorem e_modI (i j : Int) (h : 0 < j) : modD (.int i) (.int j) = .ok (.int (i % j)) := by
  show (if decide (0 < j) = true then R.ok (D.int (i % j)) else .st) = _
  rw [if_pos (decide_eq_true h)]
theorem e_fdivI (i j : Int) (h : 0 < j) (h' : j < 1073741824) : fdivD (.int i) (.int j) = .ok (.int (i / j)) := by
  show (if (decide (0 < j) && decide (j < 1073741824)) = true then R.ok (D.int (i / j)) else .st) = _
  rw [decide_eq_true h, decide_eq_true h']
  rfl
theorem e_mulI (i j : Int) (h : small64b i = true ∨ small64b j = true) : mulD (.int i) (.int j) = .ok (.int (i * j)) := by
  show (if (small64b i || small64b j) = true then R.ok (D.int (i * j)) else .st) = _
  rw [if_pos (by rw [Bool.or_eq_true]; exact h)]
theorem s64 {i : Int} (h : -(2 ^ 64) < i) (h' : i < 2 ^ 64) : small64b i = true := by
  unfold small64b
  rw [decide_eq_true h, decide_eq_true h']
  rfl
theorem e_shrI (i j : Int) (h : 0 ≤ j) : shrD (.int i) (.int j) = .ok (.int (i / 2 ^ j.toNat)) := by
  show (if decide (0 ≤ j) = true then R.ok (D.int (i / 2 ^ j.toNat)) else .st) = _
  rw [if_pos (decide_eq_true h)]
theorem e_shlI (i j : Int) (h : CPow i j) : shlD (.int i) (.int j) = .ok (.int (i * 2 ^ j.toNat)) := by
  show (if powOk i j = true then R.ok (D.int (i * 2 ^ j.toNat)) else .st) = _
  rw [if_pos (by unfold powOk; rw [decide_eq_true h.1, decide_eq_true h.2.1, decide_eq_true h.2.2]; rfl)]
theorem e_powI (i j : Int) (h : CPow i j) : powD (.int i) (.int j) = .ok (.int (i ^ j.toNat)) := by
  show (if powOk i j = true then R.ok (D.int (i ^ j.toNat)) else .st) = _
  rw [if_pos (by unfold powOk; rw [decide_eq_true h.1, decide_eq_true h.2.1, decide_eq_true h.2.2]; rfl)]
theorem line_small {n : Nat} (h : n ≤ 16777216) : n ≤ sizeLine := by rw [sizeLine_eq]; exact h
theorem e_addS (i j : Str) (h : i.length + j.length ≤ 16777216) : addD (.str i) (.str j) = .ok (.str (i ++ j)) := if_pos (line_small h)
theorem e_iaddS (i j : Str) (h : i.length + j.length ≤ 16777216) : iaddD (.str i) (.str j) = .ok (.str (i ++ j)) := if_pos (line_small h)
theorem e_addL (i j : List D) (h : i.length + j.length ≤ 16777216) : addD (.list i) (.list j) = .ok (.list (i ++ j)) := if_pos (line_small h)
theorem e_addT (i j : List D) (h : i.length + j.length ≤ 16777216) : addD (.tup i) (.tup j) = .ok (.tup (i ++ j)) := if_pos (line_small h)
theorem e_lenL (ds : List D) : lenD [.list ds] = .ok (.int ds.length) := rfl
theorem e_lenT (ds : List D) : lenD [.tup ds] = .ok (.int ds.length) := rfl
theorem e_lenS (z : Str) (h : z.length ≤ 16777216) : lenD [.str z] = .ok (.int z.length) := if_pos (line_small h)
theorem e_ord (c : Nat) : ordD [.str ⟨#[c]⟩] = .ok (.int c) := rfl
theorem e_intB (b : Bool) : intD [.bl b] = .ok (.int (if b then 1 else 0)) := rfl
theorem e_intI (i : Int) : intD [.int i] = .ok (.int i) := rfl
theorem e_lst (ds : List D) (h : ds.length ≤ 16777216) : lstD ds = .ok (.list ds) := if_pos (line_small h)
theorem e_tup (ds : List D) (h : ds.length ≤ 16777216) : tupD ds = .ok (.tup ds) := if_pos (line_small h)
theorem e_ixL (ds : List D) (i : Int) (d : D) (h : atI ds i = some d) : ixD (.list ds) (.int i) = .ok d := by
  show (match atI ds i with | some d => R.ok d | none => .st) = _
  rw [h]
theorem e_ixT (ds : List D) (i : Int) (d : D) (h : atI ds i = some d) : ixD (.tup ds) (.int i) = .ok d := by
  show (match atI ds i with | some d => R.ok d | none => .st) = _
  rw [h]
theorem e_inS (i j : Str) : inDD (.str i) (.str j) = .ok (.bl (hasSub j i)) := rfl
theorem e_ninS (i j : Str) : notInDD (.str i) (.str j) = .ok (.bl (!hasSub j i)) := rfl
theorem e_inL (d : D) (ds : List D) (h : (flD d && ds.all flD) = true) : inDD d (.list ds) = .ok (.bl (ds.any fun z => eqvD z d)) := by
  have e : inD d (.list ds) = .ok (ds.any fun z => eqvD z d) := by
    have e1 : inD d (.list ds) = (if (flD d && ds.all flD) = true then R.ok (ds.any fun z => eqvD z d) else if (D.sh d && D.sh (.list ds)) = true then .ok (ds.any fun z => eqvD z d) else .st) := by
      cases d <;> rfl
    rw [e1, if_pos h]
  unfold inDD
  rw [e]
  rfl
theorem e_ninL (d : D) (ds : List D) (h : (flD d && ds.all flD) = true) : notInDD d (.list ds) = .ok (.bl (!ds.any fun z => eqvD z d)) := by
  have e : inD d (.list ds) = .ok (ds.any fun z => eqvD z d) := by
    have e1 : inD d (.list ds) = (if (flD d && ds.all flD) = true then R.ok (ds.any fun z => eqvD z d) else if (D.sh d && D.sh (.list ds)) = true then .ok (ds.any fun z => eqvD z d) else .st) := by
      cases d <;> rfl
    rw [e1, if_pos h]
  unfold notInDD
  rw [e]
  rfl
theorem e_inT (d : D) (ds : List D) (h : (flD d && ds.all flD) = true) : inDD d (.tup ds) = .ok (.bl (ds.any fun z => eqvD z d)) := by
  have e : inD d (.tup ds) = .ok (ds.any fun z => eqvD z d) := by
    have e1 : inD d (.tup ds) = (if (flD d && ds.all flD) = true then R.ok (ds.any fun z => eqvD z d) else .st) := by
      cases d <;> rfl
    rw [e1, if_pos h]
  unfold inDD
  rw [e]
  rfl
theorem e_ninT (d : D) (ds : List D) (h : (flD d && ds.all flD) = true) : notInDD d (.tup ds) = .ok (.bl (!ds.any fun z => eqvD z d)) := by
  have e : inD d (.tup ds) = .ok (ds.any fun z => eqvD z d) := by
    have e1 : inD d (.tup ds) = (if (flD d && ds.all flD) = true then R.ok (ds.any fun z => eqvD z d) else .st) := by
      cases d <;> rfl
    rw [e1, if_pos h]
  unfold notInDD
  rw [e]
  rfl
theorem e_itL (ds : List D) : itemsD (.list ds) = .ok ds := rfl
theorem e_itT (ds : List D) : itemsD (.tup ds) = .ok ds := rfl
theorem e_itS (z : Str) : itemsD (.str z) = .ok (signs z) := rfl
theorem e_rng1 (j : Int) (h : small62 j = true) : rangeD1 [.int j] = .ok (rngL 0 j.toNat) := if_pos h
theorem e_zip (a b : List D) : zipD [.list a, .list b] = .ok (zipL a b) := rfl
theorem e_enum (a : List D) : enumD [.list a] = .ok (enumL 0 a) := rfl
theorem e_slL (ds : List D) (lo hi : Option Int) : slD (.list ds) lo hi = .ok (.list (cutD ds lo hi)) := rfl
theorem e_slT (ds : List D) (lo hi : Option Int) : slD (.tup ds) lo hi = .ok (.tup (cutD ds lo hi)) := rfl
theorem e_slS (z : Str) (lo hi : Option Int) (h : z.length ≤ 16777216) : slD (.str z) lo hi = .ok (.str (cutS z lo hi)) := if_pos (line_small h)
theorem e_asI (i : Int) : asI (.int i) = .ok (some i) := rfl
theorem e_isN1 : isND .non .non = .ok (.bl true) := rfl
theorem e_isN2 (i : Int) : isND (.int i) .non = .ok (.bl false) := rfl
theorem e_notN1 : notND .non .non = .ok (.bl false) := rfl
theorem e_notN2 (i : Int) : notND (.int i) .non = .ok (.bl true) := rfl
theorem e_truB (b : Bool) : truD (.bl b) = .ok b := rfl
theorem e_truI (i : Int) : truD (.int i) = .ok (i != 0) := rfl
theorem e_truL (ds : List D) : truD (.list ds) = .ok (!ds.isEmpty) := rfl
theorem e_lc (items ys : List D) (gi : Rho → R (List D)) (vs : List Nat) (τ : D → Rho → R Rho) (p : Rho → R Bool) (ge : Rho → R D) (ρ : Rho) (h : gi ρ = .ok items) (hz : items.length ≤ 16777216) (e : lcR τ p ge (wipeR ρ vs) items = .ok ys) : gLc gi vs τ p ge ρ = .ok (.list ys) := by
  unfold gLc
  rw [h, ok_bind, if_pos (line_small hz), e]
  rfl
theorem e_mtS (f : D → List D → R D) (go : Rho → R D) (t : Rho → R (List D)) (ρ : Rho) (z : Str) (h : go ρ = .ok (.str z)) : gMt "str" f go t ρ = (t ρ).bind fun ds => f (.str z) ds := by
  unfold gMt
  rw [h]
  rfl
theorem strs_map (ys : List Str) : strsOf (ys.map D.str) = some ys := by
  induction ys with
  | nil => rfl
  | cons y ys ih =>
    show (strsOf (ys.map D.str)).map (y :: ·) = _
    rw [ih]
    rfl
theorem e_join (a : Str) (ys : List Str) (h : joinOk a ys = true) : joinD (.str a) [.list (ys.map D.str)] = .ok (.str (Txt.join a ys)) := by
  show joinSeq a (ys.map D.str) = _
  unfold joinSeq
  rw [strs_map]
  dsimp only
  rw [if_pos h]
theorem e_iteAnd (k x : Bool) : (if k = true then R.ok x else R.ok false) = R.ok (k && x) := by cases k <;> rfl
theorem e_iteOr (k x : Bool) : (if k = true then R.ok true else R.ok x) = R.ok (k || x) := by cases k <;> rfl
theorem e_iteAndD (k x : Bool) : (if k = true then R.ok (D.bl x) else R.ok (D.bl false)) = R.ok (D.bl (k && x)) := by cases k <;> rfl
theorem e_iteOrD (k x : Bool) : (if k = true then R.ok (D.bl true) else R.ok (D.bl x)) = R.ok (D.bl (k || x)) := by cases k <;> rfl
section
variable {c : Prop} [Decidable c]
theorem e_then_ite (a b : S) (u : Rho → S) : (if c then a else b).then u = if c then a.then u else b.then u := by split <;> rfl
theorem e_endS_ite (a b : S) : endS (if c then a else b) = if c then endS a else endS b := by split <;> rfl
theorem e_endN_ite (a b : S) : endN (if c then a else b) = if c then endN a else endN b := by split <;> rfl
theorem e_ofR_ite (a b : R D) (ρ : Rho) (k : D → S) : S.ofR (if c then a else b) ρ k = if c then S.ofR a ρ k else S.ofR b ρ k := by split <;> rfl
theorem e_pick_ite (a b : R Bool) (ρ : Rho) (s u : S) : S.pick (if c then a else b) ρ s u = if c then S.pick a ρ s u else S.pick b ρ s u := by split <;> rfl
theorem e_bind_ite {α β : Type} (a b : R α) (f : α → R β) : (if c then a else b).bind f = if c then a.bind f else b.bind f := by split <;> rfl
end
theorem e_mul1 (i j : Int) (h : (-18446744073709551616 < i ∧ i < 18446744073709551616) ∨ (-18446744073709551616 < j ∧ j < 18446744073709551616)) : mulD (.int i) (.int j) = .ok (.int (i * j)) :=
  e_mulI i j (h.imp (fun q => s64 (by have := q.1; omega) (by have := q.2; omega)) fun q => s64 (by have := q.1; omega) (by have := q.2; omega))
theorem e_pow10 (j : Int) (h0 : 0 ≤ j) (h1 : j ≤ 1000000) : powD (.int 10) (.int j) = .ok (.int (10 ^ j.toNat)) := e_powI 10 j ⟨h0, h1, by decide⟩
theorem e_pow2 (j : Int) (h0 : 0 ≤ j) (h1 : j ≤ 1000000) : powD (.int 2) (.int j) = .ok (.int (2 ^ j.toNat)) := e_powI 2 j ⟨h0, h1, by decide⟩
theorem e_shl1 (j : Int) (h0 : 0 ≤ j) (h1 : j ≤ 1000000) : shlD (.int 1) (.int j) = .ok (.int (2 ^ j.toNat)) := by
  rw [e_shlI 1 j ⟨h0, h1, by decide⟩, Int.one_mul]
theorem mem_rng {lo : Int} {n : Nat} {d : D} (h : d ∈ rngL lo n) : ∃ k : Nat, k < n ∧ d = .int (lo + k) := by
  unfold rngL at h
  obtain ⟨k, hk, rfl⟩ := List.mem_map.mp h
  exact ⟨k, List.mem_range.mp hk, rfl⟩
theorem rng_len (lo : Int) (n : Nat) : (rngL lo n).length = n := by unfold rngL; simp
theorem joinL_nil : ∀ l : List (List Nat), TL.joinL [] l = l.flatten
  | [] => rfl
  | [p] => by simp [TL.joinL]
  | p :: q :: r => by
    show p ++ ([] ++ TL.joinL [] (q :: r)) = _
    rw [joinL_nil (q :: r)]
    simp
theorem tl_joinE (zs : List Str) : TL.tl (Txt.join "" zs) = (zs.map TL.tl).flatten := by
  rw [TL.join_eq, TL.tl_join]
  exact joinL_nil _
/-- data of scalars, lists and tuples, so deep at most -/
def shN : Nat → D → Bool
  | _, .non => true | _, .bl _ => true | _, .int _ => true
  | _, .str s => PyData.strOk s
  | n + 1, .list ds => ds.all (shN n)
  | n + 1, .tup ds => ds.all (shN n)
  | _, _ => false
theorem shN_all {n : Nat} (ih : ∀ d, shN n d = true → D.flat d = true ∧ d.py.canLay0 = true ∧ d.py.depth ≤ n) : ∀ ds : List D, ds.all (shN n) = true → D.flatAll ds = true ∧ PyData.canLayAll0 (D.pyAll ds) = true ∧ PyData.depthAll (D.pyAll ds) ≤ n
  | [], _ => ⟨rfl, rfl, Nat.zero_le _⟩
  | d :: ds, h => by
    rw [List.all_cons, Bool.and_eq_true] at h
    obtain ⟨a, b, c⟩ := ih d h.1
    obtain ⟨a2, b2, c2⟩ := shN_all ih ds h.2
    refine ⟨?_, ?_, ?_⟩
    · show (D.flat d && D.flatAll ds) = true
      rw [a, a2]; rfl
    · show (d.py.canLay0 && PyData.canLayAll0 (D.pyAll ds)) = true
      rw [b, b2]; rfl
    · show max d.py.depth (PyData.depthAll (D.pyAll ds)) ≤ n
      omega
theorem shN_ok : ∀ (n : Nat) (d : D), shN n d = true → D.flat d = true ∧ d.py.canLay0 = true ∧ d.py.depth ≤ n
  | n, .non, _ => ⟨rfl, rfl, Nat.zero_le _⟩
  | n, .bl _, _ => ⟨rfl, rfl, Nat.zero_le _⟩
  | n, .int _, _ => ⟨rfl, rfl, Nat.zero_le _⟩
  | n, .str s, h => ⟨rfl, by cases n <;> exact h, Nat.zero_le _⟩
  | 0, .list _, h => by cases h
  | 0, .tup _, h => by cases h
  | n + 1, .list ds, h => by
    obtain ⟨a, b, c⟩ := shN_all (shN_ok n) ds h
    exact ⟨a, b, Nat.succ_le_succ c⟩
  | n + 1, .tup ds, h => by
    obtain ⟨a, b, c⟩ := shN_all (shN_ok n) ds h
    exact ⟨a, b, Nat.succ_le_succ c⟩
  | n, .dict _ _, h => by cases n <;> cases h
  | n, .dictT _, h => by cases n <;> cases h
  | n, .obj _ _, h => by cases n <;> cases h
  | n, .loc _, h => by cases n <;> cases h
  | n, .tpx _, h => by cases n <;> cases h
  | n, .exc _ _, h => by cases n <;> cases h
  | n, .adr _, h => by cases n <;> cases h
theorem sh_of (n : Nat) {d : D} (h : shN n d = true) (hn : n ≤ 64 := by decide) : D.sh d = true := by
  obtain ⟨a, b, c⟩ := shN_ok n d h
  unfold D.sh SeqAt.shaped
  rw [a, b, decide_eq_true (by omega)]
  rfl
theorem e_neSh (d e : D) (h : D.sh d = true) (h' : D.sh e = true) : neD d e = .ok (.bl (!eqvD d e)) := by
  unfold neD
  by_cases hs : scD d e = true
  · rw [if_pos hs]
  · rw [if_neg hs, h, h']
    rfl
theorem and_bd (x : Int) (y : Nat) : 0 ≤ Builtin.bitAnd x (y : Int) ∧ Builtin.bitAnd x (y : Int) ≤ (y : Int) := by
  unfold Builtin.bitAnd
  have hy : decide (0 ≤ (y : Int)) = true := decide_eq_true (by omega)
  rw [hy]
  by_cases hx : 0 ≤ x
  · rw [decide_eq_true hx]
    have h : x.toNat &&& ((y : Int).toNat) ≤ (y : Int).toNat := Nat.and_le_right
    show 0 ≤ ((x.toNat &&& (y : Int).toNat : Nat) : Int) ∧ ((x.toNat &&& (y : Int).toNat : Nat) : Int) ≤ (y : Int)
    omega
  · rw [decide_eq_false hx]
    have h : (y : Int).toNat &&& (Builtin.bitNot x).toNat ≤ (y : Int).toNat := Nat.and_le_left
    show 0 ≤ (y : Int) - (((y : Int).toNat &&& (Builtin.bitNot x).toNat : Nat) : Int) ∧ (y : Int) - (((y : Int).toNat &&& (Builtin.bitNot x).toNat : Nat) : Int) ≤ (y : Int)
    omega
/-- a for whose every turn goes on -/
theorem forL_nx {τ : D → Rho → R Rho} {b : Rho → S} (Inv : Nat → Rho → Prop) : ∀ (items : List D) (k : Nat) (ρ : Rho), Inv k ρ →
    (∀ j d ρ, items[j]? = some d → Inv (k + j) ρ → ∃ ρ1 ρ2, τ d ρ = .ok ρ1 ∧ b ρ1 = .nx ρ2 ∧ Inv (k + j + 1) ρ2) → ∃ ρ', forL τ b items ρ = .nx ρ' ∧ Inv (k + items.length) ρ'
  | [], k, ρ, h, _ => ⟨ρ, rfl, h⟩
  | d :: ds, k, ρ, h, hs => by
    obtain ⟨ρ1, ρ2, e1, e2, h2⟩ := hs 0 d ρ rfl h
    obtain ⟨ρ', e3, h3⟩ := forL_nx Inv ds (k + 1) ρ2 h2 fun j d' ρ' e i => by
      have := hs (j + 1) d' ρ' (by simpa using e) (by rw [show k + (j + 1) = k + 1 + j by omega]; exact i)
      rw [show k + (j + 1) + 1 = k + 1 + j + 1 by omega] at this
      exact this
    refine ⟨ρ', ?_, ?_⟩
    · unfold forL
      rw [e1]
      dsimp only
      rw [e2]
      exact e3
    · rw [List.length_cons, show k + (ds.length + 1) = k + 1 + ds.length by omega]
      exact h3
end Pd
namespace Pd
open PySem PySem.Spec PyProof.Rows L2
abbrev cps (s : Str) : List Nat := s.cps.toList
theorem cps_cut (z : Str) (lo hi : Option Int) : cps (cutS z lo hi) = cutD (cps z) lo hi := by
  unfold cutS cutD cps
  rw [TL.len_tl z]
theorem cutD_pre {α : Type} (xs : List α) (k : Nat) : cutD xs none (some (k : Int)) = xs.take k := by
  unfold cutD
  rw [HT.sIx_none, HT.sIx_nat, List.drop_zero, Nat.sub_zero]
  by_cases h : k ≤ xs.length
  · rw [Nat.min_eq_left h]
  · rw [Nat.min_eq_right (by omega), List.take_length, List.take_of_length_le (by omega)]
theorem cutD_suf {α : Type} (xs : List α) (k : Nat) : cutD xs (some (k : Int)) none = xs.drop k := by
  unfold cutD
  rw [HT.sIx_none, HT.sIx_nat]
  by_cases h : k ≤ xs.length
  · rw [Nat.min_eq_left h, List.take_of_length_le (by rw [List.length_drop]; omega)]
  · rw [Nat.min_eq_right (by omega), List.drop_length, List.drop_of_length_le (by omega), List.take_nil]
theorem cps_join (zs : List Str) : cps (Txt.join "" zs) = (zs.map cps).flatten := tl_joinE zs
/-- all signs of s are signs of g -/
def Sub (g s : Str) : Prop := ∀ c ∈ cps s, c ∈ cps g
theorem Sub.cut {g a : Str} (h : Sub g a) (lo hi : Option Int) : Sub g (cutS a lo hi) := fun c hc => by
  rw [cps_cut] at hc
  exact h c (List.mem_of_mem_drop (List.mem_of_mem_take hc))
theorem Sub.trans {f g a : Str} (h : Sub f g) (h' : Sub g a) : Sub f a := fun c hc => h c (h' c hc)
theorem Sub.join {g : Str} {zs : List Str} (h : ∀ z ∈ zs, Sub g z) : Sub g (Txt.join "" zs) := fun c hc => by
  rw [cps_join] at hc
  obtain ⟨l, hl, hc⟩ := List.mem_flatten.mp hc
  obtain ⟨z, hz, rfl⟩ := List.mem_map.mp hl
  exact h z hz c hc
theorem Sub.refl (g : Str) : Sub g g := fun _ h => h
theorem strOk_of {s : Str} (h : ∀ c ∈ cps s, c < 1114112) : PyData.strOk s = true := by
  unfold PyData.strOk
  rw [Array.all_eq_true']
  intro c hc
  exact decide_eq_true (h c (Array.mem_toList_iff.mpr hc))
theorem joinE_ok {zs : List Str} (h : (zs.map (·.length)).sum ≤ 16777216) : joinOk "" zs = true := by
  unfold joinOk
  have : (("" : Str).length) = 0 := by decide +kernel
  rw [this, Nat.mul_zero, Nat.add_zero]
  exact decide_eq_true h
section
variable (a b c d e f g h i : D) (r : List D)
theorem e_ixL0 : ixD (.list (a :: r)) (.int 0) = .ok a := e_ixL _ _ _ (atI_nat (j := 0) rfl)
theorem e_ixL1 : ixD (.list (a :: b :: r)) (.int 1) = .ok b := e_ixL _ _ _ (atI_nat (j := 1) rfl)
theorem e_ixL2 : ixD (.list (a :: b :: c :: r)) (.int 2) = .ok c := e_ixL _ _ _ (atI_nat (j := 2) rfl)
theorem e_ixL3 : ixD (.list (a :: b :: c :: d :: r)) (.int 3) = .ok d := e_ixL _ _ _ (atI_nat (j := 3) rfl)
theorem e_ixL4 : ixD (.list (a :: b :: c :: d :: e :: r)) (.int 4) = .ok e := e_ixL _ _ _ (atI_nat (j := 4) rfl)
theorem e_ixL5 : ixD (.list (a :: b :: c :: d :: e :: f :: r)) (.int 5) = .ok f := e_ixL _ _ _ (atI_nat (j := 5) rfl)
theorem e_ixL6 : ixD (.list (a :: b :: c :: d :: e :: f :: g :: r)) (.int 6) = .ok g := e_ixL _ _ _ (atI_nat (j := 6) rfl)
theorem e_ixL7 : ixD (.list (a :: b :: c :: d :: e :: f :: g :: h :: r)) (.int 7) = .ok h := e_ixL _ _ _ (atI_nat (j := 7) rfl)
theorem e_ixL8 : ixD (.list (a :: b :: c :: d :: e :: f :: g :: h :: i :: r)) (.int 8) = .ok i := e_ixL _ _ _ (atI_nat (j := 8) rfl)
theorem e_ixT0 : ixD (.tup (a :: r)) (.int 0) = .ok a := e_ixT _ _ _ (atI_nat (j := 0) rfl)
theorem e_ixT1 : ixD (.tup (a :: b :: r)) (.int 1) = .ok b := e_ixT _ _ _ (atI_nat (j := 1) rfl)
theorem e_ixT2 : ixD (.tup (a :: b :: c :: r)) (.int 2) = .ok c := e_ixT _ _ _ (atI_nat (j := 2) rfl)
theorem e_ixT3 : ixD (.tup (a :: b :: c :: d :: r)) (.int 3) = .ok d := e_ixT _ _ _ (atI_nat (j := 3) rfl)
theorem e_ixT4 : ixD (.tup (a :: b :: c :: d :: e :: r)) (.int 4) = .ok e := e_ixT _ _ _ (atI_nat (j := 4) rfl)
theorem e_ixT5 : ixD (.tup (a :: b :: c :: d :: e :: f :: r)) (.int 5) = .ok f := e_ixT _ _ _ (atI_nat (j := 5) rfl)
end
theorem e_tupleL (ds : List D) : tupleD [.list ds] = .ok (.tup ds) := rfl
theorem e_listT (ds : List D) : listD [.tup ds] = .ok (.list ds) := rfl
theorem e_tupleT (ds : List D) : tupleD [.tup ds] = .ok (.tup ds) := rfl
theorem e_catL (a b : List D) (h : a.length + b.length ≤ 16777216) : catD (.list a) (.list b) = .ok (.list (a ++ b)) := if_pos (line_small h)
section
variable {i : Nat} {τ : D → Rho → R Rho} {b : Rho → S} {ρ : Rho} {gi : Rho → R (List D)} {ge : Rho → R D} {p : Rho → R Bool} {vs : List Nat} {items : List D}
theorem forL_out {r : S} (hr : forL τ b items ρ = r) (Inv : Nat → Rho → Prop) (i0 : Inv 0 ρ) (hs : ∀ j d ρ, items[j]? = some d → Inv j ρ → ∃ ρ1, τ d ρ = .ok ρ1 ∧ ∃ ρ2, b ρ1 = .nx ρ2 ∧ Inv (j + 1) ρ2) : ∃ ρ', r = .nx ρ' ∧ Inv items.length ρ' := by
  obtain ⟨ρ', e, h⟩ := forL_nx Inv items 0 ρ i0 fun j d ρ e h => by
    rw [Nat.zero_add] at h ⊢
    obtain ⟨ρ1, a, ρ2, b, c⟩ := hs j d ρ e h
    exact ⟨ρ1, ρ2, a, b, c⟩
  rw [Nat.zero_add] at h
  exact ⟨ρ', hr.symm.trans e, h⟩
theorem gLc_map {r : R D} (hr : gLc gi vs (τName i) bYes ge ρ = r) (f : D → D) (hi : gi ρ = .ok items) (hz : items.length ≤ 16777216) (hs : ∀ d ∈ items, ge ((wipeR ρ vs).set i (some d)) = .ok (f d)) : r = .ok (.list (items.map f)) := by
  rw [← hr]
  exact e_lc items _ gi vs (τName i) bYes ge ρ hi hz (lcR_map f items hs)
end
/-- data of scalars, lists and tuples, so deep at most, the texts not long -/
def shL : Nat → D → Bool
  | _, .non => true | _, .bl _ => true | _, .int _ => true
  | _, .str s => PyData.strOk s && decide (s.length ≤ 1000)
  | n + 1, .list ds => ds.all (shL n)
  | n + 1, .tup ds => ds.all (shL n)
  | _, _ => false
theorem shL_sh : ∀ {n : Nat} {d : D}, shL n d = true → shN n d = true
  | n, .non, _ => by cases n <;> rfl
  | n, .bl _, _ => by cases n <;> rfl
  | n, .int _, _ => by cases n <;> rfl
  | n, .str s, h => by
    have h' : (PyData.strOk s && decide (s.length ≤ 1000)) = true := by cases n <;> exact h
    rw [Bool.and_eq_true] at h'
    cases n <;> exact h'.1
  | 0, .list _, h => by cases h
  | 0, .tup _, h => by cases h
  | n + 1, .list ds, h => List.all_eq_true.mpr fun d hd => shL_sh (n := n) (List.all_eq_true.mp (show ds.all (shL n) = true from h) d hd)
  | n + 1, .tup ds, h => List.all_eq_true.mpr fun d hd => shL_sh (n := n) (List.all_eq_true.mp (show ds.all (shL n) = true from h) d hd)
  | n, .dict _ _, h => by cases n <;> cases h
  | n, .dictT _, h => by cases n <;> cases h
  | n, .obj _ _, h => by cases n <;> cases h
  | n, .loc _, h => by cases n <;> cases h
  | n, .tpx _, h => by cases n <;> cases h
  | n, .exc _ _, h => by cases n <;> cases h
  | n, .adr _, h => by cases n <;> cases h
/-- scalars, lists, tuples of these; or {} -/
def Th (n : Nat) (d : D) : Prop := shL n d = true ∨ d = .dict false []
theorem eqX_int (i j : Int) : eqXD (.int i) (.int j) = .ok (.bl (i == j)) := rfl
theorem neX_int (i j : Int) : neXD (.int i) (.int j) = .ok (.bl (!(i == j))) := rfl
theorem eqX_t0 (ds : List D) : eqXD (.tup ds) (.tup []) = .ok (.bl ds.isEmpty) := rfl
theorem neX_t0 (ds : List D) : neXD (.tup ds) (.tup []) = .ok (.bl (!ds.isEmpty)) := rfl
theorem eqX_S (s w : Str) : eqXD (.str s) (.str w) = .ok (.bl (s == w)) := rfl
theorem neX_S (s w : Str) : neXD (.str s) (.str w) = .ok (.bl (!(s == w))) := rfl
theorem eqv_same {n : Nat} {d : D} (h : shN n d = true) : eqvD d d = true := by
  obtain ⟨_, c, _⟩ := shN_ok n d h
  exact PySem.SeqAt.eqv_refl d.py c
theorem Th.of {n : Nat} {d : D} (h : shL n d = true) : Th n d := .inl h
theorem ofString_inj {a b : String} (h : Str.ofString a = Str.ofString b) : a = b := by
  have h1 : TL.tl (Str.ofString a) = TL.tl (Str.ofString b) := by rw [h]
  rw [TL.tl_ofString, TL.tl_ofString] at h1
  have h2 : a.toList = b.toList := by
    have inj : ∀ (x y : List Char), x.map Char.toNat = y.map Char.toNat → x = y := by
      intro x
      induction x with
      | nil => intro y e; cases y with
        | nil => rfl
        | cons _ _ => cases e
      | cons c x ih =>
        intro y e
        cases y with
        | nil => cases e
        | cons d y =>
          rw [List.map_cons, List.map_cons] at e
          injection e with e1 e2
          rw [ih y e2, Char.toNat_inj.mp e1]
    exact inj _ _ h1
  exact String.toList_inj.mp h2
theorem e_strLit (a b : String) : (Str.ofString a == Str.ofString b) = (a == b) := by
  by_cases h : a = b
  · subst h
    simp
  · rw [beq_eq_false_iff_ne.mpr h, beq_eq_false_iff_ne.mpr fun e => h (ofString_inj e)]
def S.next (r : S) (k : Rho → S) : S := match r with
  | .nx ρ => k ρ
  | .ct ρ => k ρ
  | .bk ρ => .nx ρ
  | r => r
section
variable {i : Nat} {b : Rho → S} {ρ : Rho} {k : Rho → S}
theorem e_forN (d : D) (ds : List D) : forL (τName i) b (d :: ds) ρ = (b (ρ.set i (some d))).next (forL (τName i) b ds) := rfl
theorem e_for0 {τ : D → Rho → R Rho} : forL τ b [] ρ = .nx ρ := rfl
theorem e_nxn (ρ1 : Rho) : (S.nx ρ1).next k = k ρ1 := rfl
end
section
variable {s u : SQF} {ρ : RhoQ} {M : Mem}
def SQ.then (r : SQ) (u : SQF) : SQ := match r with
  | .nx ρ M => u ρ M
  | r => r
theorem q_seq : sqSeq s u ρ M = (s ρ M).then u := rfl
theorem q_tnx (ρ1 : RhoQ) (M1 : Mem) : (SQ.nx ρ1 M1).then u = u ρ1 M1 := rfl
def SQ.pick (r : R Bool) (ρ : RhoQ) (M : Mem) (a b : SQ) : SQ := match r with
  | .ok k => if k = true then a else b
  | .ex x => .ex x ρ M
  | .st => .st
theorem q_if (g : Rho → R Bool) : sqIf (qT g) s u ρ M = SQ.pick (g (clR ρ)) ρ M (s ρ M) (u ρ M) := by
  unfold sqIf qT
  cases g (clR ρ) <;> rfl
theorem q_pick (k : Bool) (a b : SQ) : SQ.pick (.ok k) ρ M a b = if k = true then a else b := rfl
theorem q_nil : sqNil ρ M = .nx ρ M := rfl
end
end Pd
namespace Pd
open PySem PySem.Spec PyProof.Rows L2
section
variable {g go gk : GQ} {t : GQA} {ρ : RhoQ} {M M1 M2 : Mem} {s u : SQF} {gp : Rho → R D}
def SQ.of (r : RQ P) (ρ : RhoQ) (k : P → Mem → SQ) : SQ := match r with
  | .ok p M => k p M
  | .ex x M => .ex x ρ M
  | .st => .st
theorem e_sqSet (i : Nat) : sqSet i g ρ M = SQ.of (g ρ M) ρ fun p M => .nx (ρ.set i (some p)) M := rfl
def R.new (r : R D) (M : Mem) : RQ P := match r with
  | .ok d => .ok (true, .loc M.length) (M ++ [(false, d)])
  | .ex x => .ex x M
  | .st => .st
theorem e_qNew : qNew gp ρ M = (gp (clR ρ)).new M := rfl
theorem e_qSn : qSn gp ρ M = upS M (gp (snR M ρ)) := rfl
def RQ.tst (r : R Bool) (M : Mem) : RQ Bool := match r with
  | .ok b => .ok b M
  | .ex x => if D.offF (tagsM M) x.fs = true then .ex x M else .st
  | .st => .st
theorem e_qSnT (p : Rho → R Bool) : qSnT p ρ M = RQ.tst (p (snR M ρ)) M := rfl
theorem e_tok (b : Bool) : RQ.tst (.ok b) M = .ok b M := rfl
def SQ.pk (r : RQ Bool) (ρ : RhoQ) (a b : Mem → SQ) : SQ := match r with
  | .ok k M => if k = true then a M else b M
  | .ex x M => .ex x ρ M
  | .st => .st
theorem q_ifS (p : RhoQ → Mem → RQ Bool) : sqIf p s u ρ M = SQ.pk (p ρ M) ρ (s ρ) (u ρ) := rfl
theorem pk_ok (k : Bool) (a b : Mem → SQ) : SQ.pk (.ok k M) ρ a b = if k = true then a M else b M := rfl
theorem e_qMeth {tb : List (Str × GF)} {mn : Str} {c : Str} {fs : List (Str × D)} {b : Bool} {G : GF} {p : P} {ps : List P} (hgo : go ρ M = .ok p M1) (ho : objP M1 p = some (b, c, fs)) (hf : fs.lookup mn = none) (ht : tb.lookup c = some G) (ha : t ρ M1 = .ok ps M2) :
    qMeth tb mn go t ρ M = G (p :: ps) M2 := by
  unfold qMeth
  rw [hgo]
  show metQ tb mn p M1 (fun G => (t ρ M1).bind fun ps M2 => G (p :: ps) M2) = _
  unfold metQ
  rw [ho]
  show (match fs.lookup mn with
    | some _ => RQ.st
    | none => match tb.lookup c with
      | some G => (t ρ M1).bind fun ps M2 => G (p :: ps) M2
      | none => .st) = _
  rw [hf]
  show (match tb.lookup c with
      | some G => (t ρ M1).bind fun ps M2 => G (p :: ps) M2
      | none => RQ.st) = _
  rw [ht, ha]
  rfl
end
end Pd
namespace Pd
open PySem PySem.Spec PyProof.Rows L2
theorem forLX_out {k : Nat} {bb : Bool} {ds0 : List D} {τ : TQM} {b : SQF} (Inv : Nat → RhoQ → Mem → Prop) (hM : ∀ j ρ M, Inv j ρ M → M[k]? = some (bb, .list ds0)) : ∀ (ds : List D) (n : Nat) (ρ : RhoQ) (M : Mem), Inv n ρ M →
    (∀ j d ρ M, ds[j]? = some d → Inv (n + j) ρ M → ∃ ρ1, τ (bb, d) ρ M = some ρ1 ∧ ∃ ρ2 M2, b ρ1 M = .nx ρ2 M2 ∧ Inv (n + j + 1) ρ2 M2) → ∃ ρ' M', forLX k bb ds0 τ b ds ρ M = .nx ρ' M' ∧ Inv (n + ds.length) ρ' M'
  | [], n, ρ, M, h, _ => by
    refine ⟨ρ, M, ?_, h⟩
    unfold forLX
    rw [if_pos (hM _ _ _ h)]
  | d :: ds, n, ρ, M, h, hs => by
    obtain ⟨ρ1, e1, ρ2, M2, e2, h2⟩ := hs 0 d ρ M rfl h
    obtain ⟨ρ', M', e3, h3⟩ := forLX_out Inv hM ds (n + 1) ρ2 M2 h2 fun j d' ρ' M' e i => by
      have := hs (j + 1) d' ρ' M' (by simpa using e) (by rw [show n + (j + 1) = n + 1 + j by omega]; exact i)
      rw [show n + (j + 1) + 1 = n + 1 + j + 1 by omega] at this
      exact this
    refine ⟨ρ', M', ?_, by rw [List.length_cons, show n + (ds.length + 1) = n + 1 + ds.length by omega]; exact h3⟩
    unfold forLX
    rw [if_pos (hM _ _ _ h), e1]
    dsimp only
    rw [e2]
    exact e3
theorem e_sqForL {g : GQ} {τ : TQM} {b : SQF} {ρ : RhoQ} {M M1 : Mem} {k : Nat} {bb : Bool} {ds : List D} (h : g ρ M = .ok (true, .loc k) M1) (hM : M1[k]? = some (bb, .list ds)) : sqForL g τ b ρ M = forLX k bb ds τ b ds ρ M1 := by
  unfold sqForL
  rw [h]
  dsimp only
  rw [hM]
theorem e_qNewS {g : Rho → R D} {ρ : RhoQ} {M : Mem} {ds : List D} (h : g (snR M ρ) = .ok (.list ds)) (ho : D.offAll (tagsM M) ds = true) : qNewS g ρ M = .ok (true, .loc M.length) (M ++ [(false, .list ds)]) := by
  unfold qNewS
  rw [h]
  dsimp only
  rw [if_pos ho]
theorem lcQ_out {τ : TQ} {ge : GQ} {ρ : RhoQ} (Inv : Nat → List P → Mem → Prop) : ∀ (items : List D) (n : Nat) (qs : List P) (M : Mem), Inv n qs M →
    (∀ j d qs M, items[j]? = some d → Inv (n + j) qs M → ∃ ρ1 q M1, τ (false, d) ρ = some ρ1 ∧ ge ρ1 M = .ok q M1 ∧ Inv (n + j + 1) (qs ++ [q]) M1) → ∃ rs M', lcQ τ ge ρ items M = .ok rs M' ∧ Inv (n + items.length) (qs ++ rs) M'
  | [], n, qs, M, h, _ => ⟨[], M, rfl, by rw [List.append_nil]; exact h⟩
  | d :: items, n, qs, M, h, hs => by
    obtain ⟨ρ1, q, M1, e1, e2, h2⟩ := hs 0 d qs M rfl h
    obtain ⟨rs, M', e3, h3⟩ := lcQ_out Inv items (n + 1) (qs ++ [q]) M1 h2 fun j d' qs' M' e i => by
      have := hs (j + 1) d' qs' M' (by simpa using e) (by rw [show n + (j + 1) = n + 1 + j by omega]; exact i)
      rw [show n + (j + 1) + 1 = n + 1 + j + 1 by omega] at this
      exact this
    refine ⟨q :: rs, M', ?_, by rw [List.length_cons, show n + (items.length + 1) = n + 1 + items.length by omega]; rw [List.append_assoc] at h3; exact h3⟩
    unfold lcQ
    rw [e1]
    dsimp only
    rw [e2]
    show (lcQ τ ge ρ items M1).bind (fun qs M2 => RQ.ok (q :: qs) M2) = _
    rw [e3]
    rfl
theorem e_qLcE {gi : Rho → R (List D)} {vs : List Nat} {τ : TQ} {ge : GQ} {ρ : RhoQ} {M M' : Mem} {items : List D} {rs : List P} (h : gi (clR ρ) = .ok items) (hl : items.length ≤ sizeLine) (hr : lcQ τ ge (wipeQ ρ vs) items M = .ok rs M') :
    qLcE gi vs τ ge ρ M = .ok (true, .loc M'.length) (M' ++ [(rs.any fun p => p.1, .list (rs.map fun p => p.2))]) := by
  unfold qLcE
  rw [h]
  dsimp only
  rw [if_pos hl, hr]
  rfl
end Pd
namespace Pd
open PySem PySem.Spec PyProof.Rows L2
theorem r_qfld {cs : List Str} {f c : Str} {go : GQ} {ρ : RhoQ} {M M1 : Mem} {k : Nat} {b : Bool} {fs : List (Str × D)} {d : D} (h : go ρ M = .ok (true, .loc k) M1) (hM : M1[k]? = some (b, .obj c fs)) (hc : cs.contains c = true) (hl : fs.lookup f = some d) : qFld cs f go ρ M = .ok (b, d) M1 := by
  have ho : objP M1 (true, .loc k) = some (b, c, fs) := by
    show (match M1[k]? with | some (b, .obj c fs) => some (b, c, fs) | _ => none) = _
    rw [hM]
  unfold qFld
  rw [h]
  show (match objP M1 (true, .loc k) with | some (b, c, fs) => if cs.contains c = true then (match fs.lookup f with | some d => RQ.ok (b, d) M1 | none => .st) else .st | none => .st) = _
  rw [ho]
  dsimp only
  rw [if_pos hc, hl]
end Pd
namespace Pd
open PySem PySem.Spec PyProof.Rows L2
def mskN : Nat → (Nat → Bool) → Nat
  | 0, _ => 0
  | n + 1, P => if P n = true then mskN n P ||| 2 ^ n else mskN n P
theorem mskN_test (P : Nat → Bool) (k : Nat) : ∀ n, (mskN n P).testBit k = (decide (k < n) && P k)
  | 0 => by simp [mskN]
  | n + 1 => by
    have ih := mskN_test P k n
    unfold mskN
    by_cases h : P n = true
    · rw [if_pos h, Nat.testBit_or, ih, Nat.testBit_two_pow]
      by_cases e : n = k
      · subst e
        simp [h]
      · rw [decide_eq_false e, Bool.or_false]
        have : decide (k < n + 1) = decide (k < n) := by
          rw [decide_eq_decide]; omega
        rw [this]
    · rw [if_neg h, ih]
      by_cases e : k = n
      · subst e
        simp [h]
      · have : decide (k < n + 1) = decide (k < n) := by
          rw [decide_eq_decide]; omega
        rw [this]
theorem mskN_all (n : Nat) : mskN n (fun _ => true) = 2 ^ n - 1 := by
  refine Nat.eq_of_testBit_eq fun k => ?_
  rw [mskN_test, Nat.testBit_two_pow_sub_one, Bool.and_true]
theorem mskN_ne {P : Nat → Bool} {n k : Nat} (hk : k < n) (h : P k = true) : mskN n P ≠ 0 := fun e => by
  have := mskN_test P k n
  rw [e] at this
  simp [hk, h] at this
theorem shl_nat (k : Nat) (hk : k ≤ 1000000) : shlD (.int 1) (.int (k : Int)) = .ok (.int ((2 ^ k : Nat) : Int)) := by
  have h : powOk 1 (k : Int) = true := by
    unfold powOk
    rw [decide_eq_true (show (0 : Int) ≤ (k : Int) by omega), decide_eq_true (show (k : Int) ≤ 1000000 by omega)]
    rfl
  show (if powOk 1 (k : Int) = true then R.ok (D.int (1 * 2 ^ (k : Int).toNat)) else .st) = _
  rw [if_pos h, Int.one_mul, Int.toNat_natCast]
  exact congrArg (fun z => R.ok (D.int z)) (Int.natCast_pow 2 k).symm
theorem all_nat (k : Nat) : ((2 ^ k : Nat) : Int) - 1 = ((mskN k (fun _ => true) : Nat) : Int) := by
  rw [mskN_all]
  have : 1 ≤ 2 ^ k := Nat.one_le_two_pow
  omega
abbrev Wd : Type := List Nat
def stepR (rows : List (List Nat)) (k : Nat) : List (List Nat) := rows.flatMap fun r => (List.range k).map fun j => r ++ [j]
def rowsR : List Nat → List (List Nat)
  | [] => [[]]
  | k :: r => stepR (rowsR r) k
def prodR : List Nat → Nat
  | [] => 1
  | k :: r => prodR r * k
def dgR : List Nat → Nat → List Nat
  | [], _ => []
  | k :: r, n => dgR r (n / k) ++ [n % k]
theorem dgR_len : ∀ (rs : List Nat) (n : Nat), (dgR rs n).length = rs.length
  | [], n => rfl
  | k :: r, n => by
    show (dgR r (n / k) ++ [n % k]).length = r.length + 1
    rw [List.length_append, dgR_len r]
    rfl
/-- a switch: its word, its settings -/
abbrev Sw : Type := Wd × List Wd
/-- what is chosen: the switch's word, its settings, the one -/
abbrev As : Type := Wd × List Wd × Wd
def asgR : List Sw → Nat → List As
  | [], _ => []
  | (w, S) :: r, n => asgR r (n / S.length) ++ [(w, S, S.getD (n % S.length) [])]
def asg (L : List Sw) (n : Nat) : List As := asgR L.reverse n
def szs (L : List Sw) : List Nat := L.map fun q => q.2.length
def tot (L : List Sw) : Nat := prodR (szs L).reverse
def dig (L : List Sw) (n : Nat) : List Nat := dgR (szs L).reverse n
def rows (L : List Sw) : List (List Nat) := rowsR (szs L).reverse
theorem asgR_len : ∀ (rs : List Sw) (n : Nat), (asgR rs n).length = rs.length
  | [], n => rfl
  | (w, S) :: r, n => by
    show (asgR r (n / S.length) ++ [_]).length = r.length + 1
    rw [List.length_append, asgR_len r]
    rfl
theorem asgR_at : ∀ (rs : List Sw) (n i : Nat) (w : Wd) (S : List Wd) (c : Wd), (∀ q ∈ rs, 0 < q.2.length) → (asgR rs n)[i]? = some (w, S, c) →
    rs.reverse[i]? = some (w, S) ∧ ∃ d, (dgR (rs.map fun q => q.2.length) n)[i]? = some d ∧ S[d]? = some c
  | [], n, i, w, S, c, _, h => by simp [asgR] at h
  | (w0, S0) :: r, n, i, w, S, c, hp, h => by
    have h' : (asgR r (n / S0.length) ++ [(w0, S0, S0.getD (n % S0.length) [])])[i]? = some (w, S, c) := h
    rw [List.reverse_cons]
    show (r.reverse ++ [(w0, S0)])[i]? = _ ∧ ∃ d, (dgR (r.map fun q => q.2.length) (n / S0.length) ++ [n % S0.length])[i]? = some d ∧ S[d]? = some c
    by_cases hi : i < r.length
    · rw [List.getElem?_append_left (by rw [asgR_len]; exact hi)] at h'
      obtain ⟨h1, d, h2, h3⟩ := asgR_at r (n / S0.length) i w S c (fun q hq => hp q (List.mem_cons_of_mem _ hq)) h'
      refine ⟨by rw [List.getElem?_append_left (by simpa using hi)]; exact h1, d, ?_, h3⟩
      rw [List.getElem?_append_left (by rw [dgR_len]; simpa using hi)]
      exact h2
    · rw [List.getElem?_append_right (by rw [asgR_len]; omega), asgR_len] at h'
      have hi' : i - r.length = 0 := by
        have := (List.getElem?_eq_some_iff.mp h').1
        simp at this
        exact this
      rw [hi'] at h'
      cases h'
      have h0 := hp _ List.mem_cons_self
      refine ⟨?_, n % S0.length, ?_, ?_⟩
      · rw [List.getElem?_append_right (by simp; omega), List.length_reverse, hi']
        rfl
      · rw [List.getElem?_append_right (by rw [dgR_len]; simp; omega), dgR_len, List.length_map, hi']
        rfl
      · have hlt : n % S0.length < S0.length := Nat.mod_lt _ h0
        rw [List.getD_eq_getElem?_getD, List.getElem?_eq_getElem hlt]
        rfl
theorem asg_len (L : List Sw) (n : Nat) : (asg L n).length = L.length := by
  unfold asg
  rw [asgR_len, List.length_reverse]
theorem asg_at {L : List Sw} {n i : Nat} {w : Wd} {S : List Wd} {c : Wd} (hp : ∀ q ∈ L, 0 < q.2.length) (h : (asg L n)[i]? = some (w, S, c)) :
    L[i]? = some (w, S) ∧ ∃ d, (dig L n)[i]? = some d ∧ S[d]? = some c := by
  obtain ⟨h1, d, h2, h3⟩ := asgR_at L.reverse n i w S c (fun q hq => hp q (List.mem_reverse.mp hq)) h
  rw [List.reverse_reverse] at h1
  refine ⟨h1, d, ?_, h3⟩
  unfold dig szs
  rw [← List.map_reverse]
  exact h2
theorem asg_ex {L : List Sw} {n i : Nat} {w : Wd} {S : List Wd} (hp : ∀ q ∈ L, 0 < q.2.length) (h : L[i]? = some (w, S)) : ∃ c, (asg L n)[i]? = some (w, S, c) := by
  have hi : i < (asg L n).length := by rw [asg_len]; exact (List.getElem?_eq_some_iff.mp h).1
  obtain ⟨⟨w', S', c⟩, e⟩ : ∃ q, (asg L n)[i]? = some q := ⟨_, List.getElem?_eq_getElem hi⟩
  obtain ⟨h1, _⟩ := asg_at hp e
  rw [h] at h1
  cases h1
  exact ⟨c, e⟩
end Pd
namespace Pd
open PySem PySem.Spec PyProof.Rows L2
def sp (c : Nat) (l : List Nat) : List (List Nat) := TL.spl [c] 0 [] l
end Pd
set_option maxHeartbeats 4000000
namespace Pd
open PySem PySem.Spec PyProof.Rows L2
local macro_rules | `(tactic| walk_at "pd") => `(tactic| try simp -implicitDefEqProofs only [e_seq, e_thn, e_trt, e_trn, e_tex, e_if, e_pick, e_pickx, e_ret, e_retN, e_set, e_drop, e_for, e_ofR, e_ofRx, e_ofI, e_nil, e_asg, endS_rt, endS_rn, endS_nx, endS_ex, endN_rn, endN_ex, gC, g1, g2, g3, gA, aNil, aCons, gAnd, gOr, gNot, gB, gTru, bAnd, bOr, bNot, gIf, iA, iSeq, gSl, pNone, pSome, ok_bind, ex_bind, st_bind, gVar, List.getElem?_cons_zero, List.getElem?_cons_succ, List.set_cons_zero, List.set_cons_succ, if_true, if_false, Bool.not_true, Bool.not_false, Bool.false_eq_true, ↓reduceIte, e_asB, e_lt, e_gt, e_le, e_ge, e_ltS, e_gtS, e_eqI, e_eqS, e_eqB, e_neI, e_neS, e_neB, e_addI, e_iaddI, e_subI, e_negI, e_andI, e_orI, e_xorI, e_lenL, e_lenT, e_ord, e_intB, e_intI, e_inS, e_ninS, e_itL, e_itT, e_itS, e_zip, e_enum, e_slL, e_slT, e_asI, e_isN1, e_isN2, e_notN1, e_notN2, e_truB, e_truI, e_truL, e_isi_int_non, e_isi_int_bl, e_isi_int_int, e_isi_int_str, e_isi_int_list, e_isi_int_tup, e_isi_int_dict, e_isi_int_dictT, e_isi_bool_non, e_isi_bool_bl, e_isi_bool_int, e_isi_bool_str, e_isi_bool_list, e_isi_bool_tup, e_isi_bool_dict, e_isi_bool_dictT, e_isi_str_non, e_isi_str_bl, e_isi_str_int, e_isi_str_str, e_isi_str_list, e_isi_str_tup, e_isi_str_dict, e_isi_str_dictT, e_isi_list_non, e_isi_list_bl, e_isi_list_int, e_isi_list_str, e_isi_list_list, e_isi_list_tup, e_isi_list_dict, e_isi_list_dictT, e_isi_tuple_non, e_isi_tuple_bl, e_isi_tuple_int, e_isi_tuple_str, e_isi_tuple_list, e_isi_tuple_tup, e_isi_tuple_dict, e_isi_tuple_dictT, e_isi_dict_non, e_isi_dict_bl, e_isi_dict_int, e_isi_dict_str, e_isi_dict_list, e_isi_dict_tup, e_isi_dict_dict, e_isi_dict_dictT, e_iteAnd, e_iteOr, e_iteAndD, e_iteOrD, e_then_ite, e_endS_ite, e_endN_ite, e_ofR_ite, e_pick_ite, e_bind_ite, e_modI, e_fdivI, e_mul1, e_pow10, e_pow2, e_shl1, e_shrI, e_addS, e_iaddS, e_addL, e_addT, e_lenS, e_lst, e_strLit, String.reduceBEq, e_ixL0, e_ixL1, e_ixL2, e_ixL3, e_ixL4, e_ixL5, e_ixL6, e_ixL7, e_ixL8, e_ixT0, e_ixT1, e_ixT2, e_ixT3, e_ixT4, e_ixT5, e_tupleL, e_listT, e_tupleT, eqX_int, neX_int, eqX_S, neX_S, eqX_t0, neX_t0, e_catL, e_tup, e_inT, e_ninT, e_inL, e_ninL, e_slS, Int.reduceLT, Int.reduceLE, Int.reduceMul, Int.reduceAdd, Int.reduceSub, Int.reducePow, Int.reduceNeg, Int.reduceToNat, List.length_cons, List.length_nil, List.length_append, Nat.reduceAdd, Nat.reduceLeDiff, flD, List.all_cons, List.all_nil, Bool.and_true, Bool.true_and, Bool.and_self, decide_true, decide_false, or_true, true_or, and_true, true_and, eq_self])
local macro_rules | `(tactic| walk_at "pdh") => `(tactic| try simp -implicitDefEqProofs only [e_seq, e_thn, e_trt, e_trn, e_tex, e_if, e_pick, e_pickx, e_ret, e_retN, e_set, e_drop, e_for, e_ofR, e_ofRx, e_ofI, e_nil, e_asg, endS_rt, endS_rn, endS_nx, endS_ex, endN_rn, endN_ex, gC, g1, g2, g3, gA, aNil, aCons, gAnd, gOr, gNot, gB, gTru, bAnd, bOr, bNot, gIf, iA, iSeq, gSl, pNone, pSome, ok_bind, ex_bind, st_bind, gVar, List.getElem?_cons_zero, List.getElem?_cons_succ, List.set_cons_zero, List.set_cons_succ, if_true, if_false, Bool.not_true, Bool.not_false, Bool.false_eq_true, ↓reduceIte, e_asB, e_lt, e_gt, e_le, e_ge, e_ltS, e_gtS, e_eqI, e_eqS, e_eqB, e_neI, e_neS, e_neB, e_addI, e_iaddI, e_subI, e_negI, e_andI, e_orI, e_xorI, e_lenL, e_lenT, e_ord, e_intB, e_intI, e_inS, e_ninS, e_itL, e_itT, e_itS, e_zip, e_enum, e_slL, e_slT, e_asI, e_isN1, e_isN2, e_notN1, e_notN2, e_truB, e_truI, e_truL, e_isi_int_non, e_isi_int_bl, e_isi_int_int, e_isi_int_str, e_isi_int_list, e_isi_int_tup, e_isi_int_dict, e_isi_int_dictT, e_isi_bool_non, e_isi_bool_bl, e_isi_bool_int, e_isi_bool_str, e_isi_bool_list, e_isi_bool_tup, e_isi_bool_dict, e_isi_bool_dictT, e_isi_str_non, e_isi_str_bl, e_isi_str_int, e_isi_str_str, e_isi_str_list, e_isi_str_tup, e_isi_str_dict, e_isi_str_dictT, e_isi_list_non, e_isi_list_bl, e_isi_list_int, e_isi_list_str, e_isi_list_list, e_isi_list_tup, e_isi_list_dict, e_isi_list_dictT, e_isi_tuple_non, e_isi_tuple_bl, e_isi_tuple_int, e_isi_tuple_str, e_isi_tuple_list, e_isi_tuple_tup, e_isi_tuple_dict, e_isi_tuple_dictT, e_isi_dict_non, e_isi_dict_bl, e_isi_dict_int, e_isi_dict_str, e_isi_dict_list, e_isi_dict_tup, e_isi_dict_dict, e_isi_dict_dictT, e_iteAnd, e_iteOr, e_iteAndD, e_iteOrD, e_then_ite, e_endS_ite, e_endN_ite, e_ofR_ite, e_pick_ite, e_bind_ite, e_modI, e_fdivI, e_mul1, e_pow10, e_pow2, e_shl1, e_shrI, e_addS, e_iaddS, e_addL, e_addT, e_lenS, e_lst, e_strLit, String.reduceBEq, e_ixL0, e_ixL1, e_ixL2, e_ixL3, e_ixL4, e_ixL5, e_ixL6, e_ixL7, e_ixL8, e_ixT0, e_ixT1, e_ixT2, e_ixT3, e_ixT4, e_ixT5, e_tupleL, e_listT, e_tupleT, eqX_int, neX_int, eqX_S, neX_S, eqX_t0, neX_t0, e_catL, e_tup, e_inT, e_ninT, e_inL, e_ninL, e_slS, Int.reduceLT, Int.reduceLE, Int.reduceMul, Int.reduceAdd, Int.reduceSub, Int.reducePow, Int.reduceNeg, Int.reduceToNat, List.length_cons, List.length_nil, List.length_append, Nat.reduceAdd, Nat.reduceLeDiff, flD, List.all_cons, List.all_nil, Bool.and_true, Bool.true_and, Bool.and_self, decide_true, decide_false, or_true, true_or, and_true, true_and, eq_self, *])
theorem mix_int (c k : Int) (hk : 0 ≤ k) : ∃ r, F__law_mix [.int c, .int k] = .ok (.int r) ∧ 0 ≤ r := by
  show ∃ r, endS (S__law_mix [some (.int c), some (.int k), none, none]) = .ok (.int r) ∧ 0 ≤ r
  unfold S__law_mix
  have h0 : 0 ≤ 27 * k + 1 := by omega
  walk_at "pdh"
  generalize hx : (c % 1000000007 + 7919 * k) * 48271 % 2147483647 = x
  have hx0 : -18446744073709551616 < x := by have := Int.emod_nonneg ((c % 1000000007 + 7919 * k) * 48271) (show (2147483647 : Int) ≠ 0 by decide); omega
  have hx1 : x < 18446744073709551616 := by have := Int.emod_lt_of_pos ((c % 1000000007 + 7919 * k) * 48271) (show (0 : Int) < 2147483647 by decide); omega
  clear hx
  walk_at "pdh"
  generalize hy : x * x % 2147483629 = y
  have hy0 : -18446744073709551616 < y := by have := Int.emod_nonneg (x * x) (show (2147483629 : Int) ≠ 0 by decide); omega
  have hy1 : y < 18446744073709551616 := by have := Int.emod_lt_of_pos (x * x) (show (0 : Int) < 2147483629 by decide); omega
  clear hy
  walk_at "pdh"
  have m0 : 0 ≤ Builtin.bitAnd (c / 2 ^ (27 * k + 1).toNat) 134217727 := (and_bd _ 134217727).1
  have m1 : 0 ≤ y * (y + 3) % 2147483587 := Int.emod_nonneg _ (by decide)
  repeat' split
  all_goals exact ⟨_, rfl, by assumption⟩
noncomputable def mixN (c : Int) (k : Nat) : Nat := match F__law_mix [.int c, .int (k : Int)] with
  | .ok (.int r) => r.toNat
  | _ => 0
theorem mix_at (c : Int) (k : Nat) : F__law_mix [.int c, .int (k : Int)] = .ok (.int (mixN c k : Int)) := by
  obtain ⟨r, e, h⟩ := mix_int c (k : Int) (by omega)
  unfold mixN
  rw [e]
  show R.ok (D.int r) = .ok (.int ((r.toNat : Nat) : Int))
  rw [Int.toNat_of_nonneg h]
abbrev TS (l : List Nat) : Str := ⟨l.toArray⟩
theorem TS_app (a b : List Nat) : TS a ++ TS b = TS (a ++ b) := TL.ext_tl (by rw [TL.tl_append])
theorem TS_len (l : List Nat) : (TS l).length = l.length := TL.len_tl (TS l)
theorem TS_inj {a b : List Nat} (h : TS a = TS b) : a = b := congrArg TL.tl h
theorem TS_beq (a b : List Nat) : (TS a == TS b) = (a == b) := by
  rw [Bool.eq_iff_iff, beq_iff_eq, beq_iff_eq]
  exact ⟨TS_inj, fun h => by rw [h]⟩
theorem TS_pre (l : List Nat) (k : Nat) : cutS (TS l) none (some (k : Int)) = TS (l.take k) := TL.ext_tl (by
  show cps (cutS (TS l) none (some (k : Int))) = l.take k
  rw [cps_cut, cutD_pre])
theorem TS_joinE (ls : List (List Nat)) : Txt.join "" (ls.map TS) = TS ls.flatten := TL.ext_tl (by
  show cps (Txt.join "" (ls.map TS)) = ls.flatten
  rw [cps_join, List.map_map]
  exact congrArg List.flatten (List.map_id ls))
theorem slD_pre (l : List Nat) (k : Nat) (h : l.length ≤ 16777216) : slD (.str (TS l)) none (some (k : Int)) = .ok (.str (TS (l.take k))) := by
  rw [e_slS _ _ _ (by rw [TS_len]; exact h), TS_pre]
theorem addD_TS (a b : List Nat) (h : a.length + b.length ≤ 16777216) : addD (.str (TS a)) (.str (TS b)) = .ok (.str (TS (a ++ b))) := by
  rw [e_addS _ _ (by rw [TS_len, TS_len]; exact h), TS_app]
def ltr (n : Nat) : Nat := 97 + n % 26
theorem ltr_bd (i : Nat) : 97 ≤ ltr i ∧ ltr i ≤ 122 := by unfold ltr; omega
theorem alpha_at : ∀ j : Nat, j < 26 → ("abcdefghijklmnopqrstuvwxyz" : Str).cps.toList[j]? = some (97 + j) := by decide +kernel
theorem ltr_ix (i : Nat) : ixD (.str "abcdefghijklmnopqrstuvwxyz") (.int ((i : Int) % 26)) = .ok (.str (TS [ltr i])) := by
  have h : ((i : Int) % 26) = ((i % 26 : Nat) : Int) := by omega
  rw [h]
  have e := atI_nat (xs := ("abcdefghijklmnopqrstuvwxyz" : Str).cps.toList) (alpha_at (i % 26) (by omega))
  show (if (("abcdefghijklmnopqrstuvwxyz" : Str)).length ≤ sizeLine then (match atI ("abcdefghijklmnopqrstuvwxyz" : Str).cps.toList ((i % 26 : Nat) : Int) with | some c => R.ok (D.str ⟨#[c]⟩) | none => .st) else .st) = _
  rw [if_pos (by decide +kernel), e]
  rfl
noncomputable def baseW (c : Int) : List Nat := (List.range 8).map fun j => ltr (mixN c (2 + j))
def oneAt (j a : Nat) : Nat := if j = a then 1 else 0
noncomputable def wordW (c : Int) (k : Nat) : List Nat :=
  if mixN c 1 / 64 % 3 = 0 then (baseW c).take (1 + (mixN c 1 / 192 + 3 * k) % 8)
  else (List.range (1 + mixN c 1 % 8)).map fun j => ltr (mixN c (2 + j) + 5 * k * oneAt j (mixN c 1 / 8 % (1 + mixN c 1 % 8)))
theorem e_mtSj (t : Rho → R (List D)) (ρ : Rho) (z : Str) : gMt "str" joinD (gC (.str z)) t ρ = (t ρ).bind fun ds => joinD (.str z) ds := e_mtS _ _ _ _ _ rfl
theorem sum_one1 (ls : List Nat) : ((ls.map fun j => TS [j]).map (·.length)).sum = ls.length := by
  induction ls with
  | nil => rfl
  | cons a l ih =>
    rw [List.map_cons, List.map_cons, List.sum_cons, ih, TS_len, List.length_cons, List.length_cons, List.length_nil]
    omega
theorem join_ones (l : List Nat) (h : l.length ≤ 1000) : joinD (.str "") [.list ((l.map fun j => TS [j]).map D.str)] = .ok (.str (TS l)) := by
  rw [e_join "" _ (joinE_ok (by rw [sum_one1]; omega))]
  have := TS_joinE (l.map fun j => [j])
  rw [List.map_map] at this
  rw [show (l.map fun j => TS [j]) = l.map (TS ∘ fun j => [j]) from rfl, this]
  exact congrArg (fun z => R.ok (D.str (TS z))) (by
    induction l with
    | nil => rfl
    | cons a l ih => rw [List.map_cons, List.flatten_cons, ih (by simp only [List.length_cons] at h; omega) (by have := TS_joinE (l.map fun j => [j]); rw [List.map_map] at this; exact this)]; rfl)
def wdD (w : List Nat) : D := .str (TS w)
theorem word_step (c : Int) (k at' long : Nat) (hk : k ≤ 100) (hl : long ≤ 8) (o1 o3 o4 o5 : Option D) (acc : List D) (ha : acc.length ≤ 1000) (o10 : Option D) :
    ∃ o10', B__law_words_0 [some (.int c), o1, some (.str "abcdefghijklmnopqrstuvwxyz"), o3, o4, none, some (.int (k : Int)), some (.int (long : Int)), some (.int (at' : Int)), some (.list acc), o10] =
      .nx [some (.int c), o1, some (.str "abcdefghijklmnopqrstuvwxyz"), o3, o4, none, some (.int (k : Int)), some (.int (long : Int)), some (.int (at' : Int)), some (.list (acc ++ [wdD ((List.range long).map fun j => ltr (mixN c (2 + j) + 5 * k * oneAt j at'))])), o10'] := by
  refine ⟨some (.list (((List.range long).map fun j => TS [ltr (mixN c (2 + j) + 5 * k * oneAt j at')]).map D.str)), ?_⟩
  unfold B__law_words_0
  rw [e_seq, e_set]
  generalize hg : gLc _ _ _ _ _ _ = r
  have e1 := gLc_map hg (fun d => match d with | .int j => .str (TS [ltr (mixN c (2 + j.toNat) + 5 * k * oneAt j.toNat at')]) | _ => .non) (items := rngL 0 long) (by walk_at "pd"; rw [e_rng1 _ (small_ok (by omega) (by omega))]; rfl) (by rw [rng_len]; omega) (fun d hd => by
    obtain ⟨j, hj, rfl⟩ := mem_rng hd
    unfold wipeR wipeR
    walk_at "pd"
    rw [show (2 : Int) + (0 + (j : Int)) = ((2 + j : Nat) : Int) by omega, mix_at]
    walk_at "pd"
    rw [e_mul1 (5 * (k : Int)) _ (.inl ⟨by omega, by omega⟩)]
    walk_at "pd"
    have e2 : ((mixN c (2 + j) : Nat) : Int) + 5 * (k : Int) * (if (0 + (j : Int) == (at' : Int)) = true then 1 else 0) = ((mixN c (2 + j) + 5 * k * oneAt j at' : Nat) : Int) := by
      unfold oneAt
      by_cases h : j = at'
      · subst h
        rw [if_pos rfl, if_pos (by rw [Int.zero_add]; exact beq_self_eq_true _)]
        omega
      · rw [if_neg h, if_neg (by rw [Int.zero_add, beq_iff_eq]; omega)]
        omega
    rw [e2, ltr_ix]
    rw [show (0 + (j : Int)).toNat = j by omega])
  rw [e1]
  have e3 : (rngL 0 long).map (fun d => match d with | .int j => D.str (TS [ltr (mixN c (2 + j.toNat) + 5 * k * oneAt j.toNat at')]) | _ => .non) = ((List.range long).map fun j => TS [ltr (mixN c (2 + j) + 5 * k * oneAt j at')]).map D.str := by
    unfold rngL
    rw [List.map_map, List.map_map]
    refine List.map_congr_left fun j hj => ?_
    show D.str (TS [ltr (mixN c (2 + (0 + (j : Int)).toNat) + 5 * k * oneAt (0 + (j : Int)).toNat at')]) = _
    rw [show (0 + (j : Int)).toNat = j by omega]
    rfl
  rw [e3]
  walk_at "pd"
  rw [e_append acc rfl, e_mtSj]
  walk_at "pd"
  have e4 : ((List.range long).map fun j => TS [ltr (mixN c (2 + j) + 5 * k * oneAt j at')]) = ((List.range long).map fun j => ltr (mixN c (2 + j) + 5 * k * oneAt j at')).map fun j => TS [j] := by rw [List.map_map]; rfl
  rw [e4, join_ones _ (by rw [List.length_map, List.length_range]; omega)]
  walk_at "pd"
  rw [if_pos (by rw [sizeLine_eq]; omega)]
  rfl
theorem words_at (c : Int) (m : Nat) (hm : m ≤ 100) : F__law_words [.int c, .int (m : Int)] = .ok (.list ((List.range m).map fun k => wdD (wordW c k))) := by
  show endS (S__law_words [some (.int c), some (.int (m : Int)), none, none, none, none, none, none, none, none, none]) = _
  unfold S__law_words
  walk_at "pd"
  rw [show F__law_mix [.int c, .int 1] = .ok (.int (mixN c 1 : Int)) from mix_at c 1]
  walk_at "pd"
  have hd : ((mixN c 1 : Nat) : Int) / 64 % 3 = ((mixN c 1 / 64 % 3 : Nat) : Int) := by omega
  by_cases h3 : mixN c 1 / 64 % 3 = 0
  · have e4 : (((mixN c 1 : Nat) : Int) / 64 % 3 == 0) = true := by rw [hd, h3]; rfl
    rw [e4]
    walk_at "pd"
    rw [e_mtSj]
    walk_at "pd"
    generalize hg : gLc _ _ _ _ _ _ = r
    have e1 := gLc_map hg (fun d => match d with | .int j => .str (TS [ltr (mixN c (2 + j.toNat))]) | _ => .non) (items := rngL 0 8) (by walk_at "pd"; rw [e_rng1 _ (small_ok (by omega) (by omega))]; rfl) (by rw [rng_len]; omega) (fun d hd => by
      obtain ⟨j, hj, rfl⟩ := mem_rng hd
      unfold wipeR wipeR
      walk_at "pd"
      rw [show (2 : Int) + (0 + (j : Int)) = ((2 + j : Nat) : Int) by omega, mix_at]
      walk_at "pd"
      rw [ltr_ix]
      rw [show (0 + (j : Int)).toNat = j by omega])
    have e3 : (rngL 0 8).map (fun d => match d with | .int j => D.str (TS [ltr (mixN c (2 + j.toNat))]) | _ => .non) = ((baseW c).map fun j => TS [j]).map D.str := by
      unfold rngL baseW
      rw [List.map_map, List.map_map, List.map_map]
      refine List.map_congr_left fun j hj => ?_
      show D.str (TS [ltr (mixN c (2 + (0 + (j : Int)).toNat))]) = _
      rw [show (0 + (j : Int)).toNat = j by omega]
      rfl
    have hb : (baseW c).length = 8 := by unfold baseW; simp
    rw [e1, e3]
    walk_at "pd"
    rw [join_ones _ (by omega)]
    walk_at "pd"
    generalize hg2 : gLc _ _ _ _ _ _ = r2
    have e5 := gLc_map hg2 (fun d => match d with | .int j => wdD (wordW c j.toNat) | _ => .non) (items := rngL 0 m) (by walk_at "pd"; rw [e_rng1 _ (small_ok (by omega) (by omega)), Int.toNat_natCast]) (by rw [rng_len]; omega) (fun d hd => by
      obtain ⟨j, hj, rfl⟩ := mem_rng hd
      unfold wipeR wipeR
      walk_at "pd"
      rw [show (1 : Int) + (((mixN c 1 : Nat) : Int) / 192 + 3 * (0 + (j : Int))) % 8 = ((1 + (mixN c 1 / 192 + 3 * j) % 8 : Nat) : Int) by omega, slD_pre _ _ (by omega)]
      rw [show (0 + (j : Int)).toNat = j by omega]
      unfold wordW wdD
      rw [if_pos h3])
    rw [e5]
    walk_at "pd"
    refine congrArg (fun z => R.ok (D.list z)) ?_
    unfold rngL
    rw [List.map_map]
    refine List.map_congr_left fun j hj => ?_
    show wdD (wordW c (0 + (j : Int)).toNat) = _
    rw [show (0 + (j : Int)).toNat = j by omega]
  · have e4 : (((mixN c 1 : Nat) : Int) / 64 % 3 == 0) = false := beq_eq_false_iff_ne.mpr (by omega)
    rw [e4]
    walk_at "pd"
    rw [show (1 : Int) + ((mixN c 1 : Nat) : Int) % 8 = ((1 + mixN c 1 % 8 : Nat) : Int) by omega, e_modI _ _ (by omega)]
    walk_at "pd"
    rw [show ((mixN c 1 : Nat) : Int) / 8 % ((1 + mixN c 1 % 8 : Nat) : Int) = ((mixN c 1 / 8 % (1 + mixN c 1 % 8) : Nat) : Int) by rw [Int.natCast_emod, Int.natCast_ediv]; rfl]
    rw [e_rng1 _ (small_ok (by omega) (by omega)), Int.toNat_natCast]
    walk_at "pd"
    generalize hf : forL _ _ _ _ = r
    obtain ⟨ρ', e, o6, o10, rfl⟩ := forL_out hf (fun j ρ => ∃ o6 o10, ρ = [some (.int c), some (.int (m : Int)), some (.str "abcdefghijklmnopqrstuvwxyz"), some (.int (mixN c 1 : Int)), none, none, o6, some (.int ((1 + mixN c 1 % 8 : Nat) : Int)), some (.int ((mixN c 1 / 8 % (1 + mixN c 1 % 8) : Nat) : Int)), some (.list ((List.range j).map fun k => wdD (wordW c k))), o10]) ⟨_, _, rfl⟩ (fun j d ρ hd hi => by
      obtain ⟨o6, o10, rfl⟩ := hi
      have hj : j < m := by
        have := (List.getElem?_eq_some_iff.mp hd).1
        rw [rng_len] at this
        exact this
      have ed : d = .int (j : Int) := by
        unfold rngL at hd
        rw [List.getElem?_map, List.getElem?_range hj] at hd
        cases hd
        show D.int (0 + (j : Int)) = D.int (j : Int)
        rw [Int.zero_add]
      subst ed
      obtain ⟨o10', eb⟩ := word_step c j (mixN c 1 / 8 % (1 + mixN c 1 % 8)) (1 + mixN c 1 % 8) (by omega) (by omega) (some (.int (m : Int))) (some (.int (mixN c 1 : Int))) none none ((List.range j).map fun k => wdD (wordW c k)) (by rw [List.length_map, List.length_range]; omega) o10
      refine ⟨_, rfl, _, eb, some (.int (j : Int)), o10', ?_⟩
      rw [List.range_succ, List.map_append]
      have : wordW c j = (List.range (1 + mixN c 1 % 8)).map fun i => ltr (mixN c (2 + i) + 5 * j * oneAt i (mixN c 1 / 8 % (1 + mixN c 1 % 8))) := by
        unfold wordW
        rw [if_neg h3]
      rw [← this]
      rfl)
    rw [e, rng_len]
    walk_at "pd"
    rfl
structure IsW (w : List Nat) : Prop where
  ne : 1 ≤ w.length
  le : w.length ≤ 8
  al : ∀ c ∈ w, 97 ≤ c ∧ c ≤ 122
theorem wordW_is (c : Int) (k : Nat) : IsW (wordW c k) := by
  unfold wordW
  by_cases h3 : mixN c 1 / 64 % 3 = 0
  · rw [if_pos h3]
    have hb : (baseW c).length = 8 := by unfold baseW; simp
    refine ⟨by rw [List.length_take]; omega, by rw [List.length_take]; omega, fun x hx => ?_⟩
    have := List.mem_of_mem_take hx
    unfold baseW at this
    obtain ⟨j, _, rfl⟩ := List.mem_map.mp this
    exact ltr_bd _
  · rw [if_neg h3]
    refine ⟨by rw [List.length_map, List.length_range]; omega, by rw [List.length_map, List.length_range]; omega, fun x hx => ?_⟩
    obtain ⟨j, _, rfl⟩ := List.mem_map.mp hx
    exact ltr_bd _
theorem wordW_inj {c : Int} {i j : Nat} (hi : i ≤ 4) (hj : j ≤ 4) (h : wordW c i = wordW c j) : i = j := by
  unfold wordW at h
  by_cases h3 : mixN c 1 / 64 % 3 = 0
  · rw [if_pos h3, if_pos h3] at h
    have hb : (baseW c).length = 8 := by unfold baseW; simp
    have h4 := congrArg List.length h
    rw [List.length_take, List.length_take] at h4
    omega
  · rw [if_neg h3, if_neg h3] at h
    have ha : mixN c 1 / 8 % (1 + mixN c 1 % 8) < 1 + mixN c 1 % 8 := Nat.mod_lt _ (by omega)
    have h4 := congrArg (fun l => l[mixN c 1 / 8 % (1 + mixN c 1 % 8)]?) h
    simp only [List.getElem?_map, List.getElem?_range ha, Option.map_some, Option.some.injEq] at h4
    unfold oneAt ltr at h4
    rw [if_pos rfl] at h4
    omega
end Pd
set_option maxHeartbeats 4000000
namespace Pd
open PySem PySem.Spec PyProof.Rows L2
local macro_rules | `(tactic| walk_at "pd") => `(tactic| try simp -implicitDefEqProofs only [e_seq, e_thn, e_trt, e_trn, e_tex, e_if, e_pick, e_pickx, e_ret, e_retN, e_set, e_drop, e_for, e_ofR, e_ofRx, e_ofI, e_nil, e_asg, endS_rt, endS_rn, endS_nx, endS_ex, endN_rn, endN_ex, gC, g1, g2, g3, gA, aNil, aCons, gAnd, gOr, gNot, gB, gTru, bAnd, bOr, bNot, gIf, iA, iSeq, gSl, pNone, pSome, ok_bind, ex_bind, st_bind, gVar, List.getElem?_cons_zero, List.getElem?_cons_succ, List.set_cons_zero, List.set_cons_succ, if_true, if_false, Bool.not_true, Bool.not_false, Bool.false_eq_true, ↓reduceIte, e_asB, e_lt, e_gt, e_le, e_ge, e_ltS, e_gtS, e_eqI, e_eqS, e_eqB, e_neI, e_neS, e_neB, e_addI, e_iaddI, e_subI, e_negI, e_andI, e_orI, e_xorI, e_lenL, e_lenT, e_ord, e_intB, e_intI, e_inS, e_ninS, e_itL, e_itT, e_itS, e_zip, e_enum, e_slL, e_slT, e_asI, e_isN1, e_isN2, e_notN1, e_notN2, e_truB, e_truI, e_truL, e_isi_int_non, e_isi_int_bl, e_isi_int_int, e_isi_int_str, e_isi_int_list, e_isi_int_tup, e_isi_int_dict, e_isi_int_dictT, e_isi_bool_non, e_isi_bool_bl, e_isi_bool_int, e_isi_bool_str, e_isi_bool_list, e_isi_bool_tup, e_isi_bool_dict, e_isi_bool_dictT, e_isi_str_non, e_isi_str_bl, e_isi_str_int, e_isi_str_str, e_isi_str_list, e_isi_str_tup, e_isi_str_dict, e_isi_str_dictT, e_isi_list_non, e_isi_list_bl, e_isi_list_int, e_isi_list_str, e_isi_list_list, e_isi_list_tup, e_isi_list_dict, e_isi_list_dictT, e_isi_tuple_non, e_isi_tuple_bl, e_isi_tuple_int, e_isi_tuple_str, e_isi_tuple_list, e_isi_tuple_tup, e_isi_tuple_dict, e_isi_tuple_dictT, e_isi_dict_non, e_isi_dict_bl, e_isi_dict_int, e_isi_dict_str, e_isi_dict_list, e_isi_dict_tup, e_isi_dict_dict, e_isi_dict_dictT, e_iteAnd, e_iteOr, e_iteAndD, e_iteOrD, e_then_ite, e_endS_ite, e_endN_ite, e_ofR_ite, e_pick_ite, e_bind_ite, e_modI, e_fdivI, e_mul1, e_pow10, e_pow2, e_shl1, e_shrI, e_addS, e_iaddS, e_addL, e_addT, e_lenS, e_lst, e_strLit, String.reduceBEq, e_ixL0, e_ixL1, e_ixL2, e_ixL3, e_ixL4, e_ixL5, e_ixL6, e_ixL7, e_ixL8, e_ixT0, e_ixT1, e_ixT2, e_ixT3, e_ixT4, e_ixT5, e_tupleL, e_listT, e_tupleT, eqX_int, neX_int, eqX_S, neX_S, eqX_t0, neX_t0, e_catL, e_tup, e_inT, e_ninT, e_inL, e_ninL, e_slS, Int.reduceLT, Int.reduceLE, Int.reduceMul, Int.reduceAdd, Int.reduceSub, Int.reducePow, Int.reduceNeg, Int.reduceToNat, List.length_cons, List.length_nil, List.length_append, Nat.reduceAdd, Nat.reduceLeDiff, flD, List.all_cons, List.all_nil, Bool.and_true, Bool.true_and, Bool.and_self, decide_true, decide_false, or_true, true_or, and_true, true_and, eq_self])
def cellI (ns : List Int) (k : Nat) : Int := if k < ns.length then ns.getD k 0 else 0
def scr (ns : List Int) : D := .list (ns.map .int)
theorem cell_at (ns : List Int) (k : Nat) (hk : k ≤ 1000) : F__law_cell_at [scr ns, .int (k : Int)] = .ok (.int (cellI ns k)) := by
  show endS (S__law_cell_at [some (.list (ns.map .int)), some (.int (k : Int))]) = _
  unfold S__law_cell_at cellI
  walk_at "pd"
  rw [List.length_map]
  by_cases h : k < ns.length
  · rw [decide_eq_true (show (k : Int) < (ns.length : Int) by omega), if_pos h]
    walk_at "pd"
    rw [e_ixL _ _ (.int (ns.getD k 0)) (atI_nat (by rw [List.getElem?_map, List.getD_eq_getElem?_getD, List.getElem?_eq_getElem h]; rfl))]
    walk_at "pd"
  · rw [decide_eq_false (show ¬ (k : Int) < (ns.length : Int) by omega), if_neg h]
    walk_at "pd"
def swD (q : Sw) : D := .tup [wdD q.1, .list (q.2.map wdD)]
def swsD (L : List Sw) : D := .list (L.map swD)
structure GoodL (L : List Sw) : Prop where
  ne : 1 ≤ L.length
  le : L.length ≤ 5
  wd : ∀ q ∈ L, IsW q.1
  nd : (L.map (·.1)).Nodup
  st : ∀ q ∈ L, 2 ≤ q.2.length ∧ q.2.length ≤ 4 ∧ q.2.Nodup ∧ ∀ w ∈ q.2, IsW w
  tt : tot L ≤ 256
theorem tot_snoc (L : List Sw) (q : Sw) : tot (L ++ [q]) = tot L * q.2.length := by
  unfold tot szs
  rw [List.map_append, List.map_cons, List.map_nil, List.reverse_append, List.reverse_cons, List.reverse_nil, List.nil_append, List.singleton_append]
  rfl
theorem nodup_at {α : Type} {l : List α} (h : ∀ (i j : Nat) (x : α), l[i]? = some x → l[j]? = some x → i = j) : l.Nodup := by
  rw [List.nodup_iff_pairwise_ne, List.pairwise_iff_getElem]
  intro i j hi hj hij e
  have := h i j l[i] (by simp [hi]) (by rw [List.getElem?_eq_getElem hj, ← e])
  omega
noncomputable def setW (c : Int) (sz : Nat) : List Wd := (List.range sz).map fun j => wordW c j
theorem setW_nodup (c : Int) {sz : Nat} (h : sz ≤ 4) : (setW c sz).Nodup := nodup_at fun i j x hi hj => by
  unfold setW at hi hj
  rw [List.getElem?_map] at hi hj
  obtain ⟨a, e1, rfl⟩ := Option.map_eq_some_iff.mp hi
  obtain ⟨b, e2, e3⟩ := Option.map_eq_some_iff.mp hj
  obtain ⟨ha, e1'⟩ := List.getElem?_eq_some_iff.mp e1
  obtain ⟨hb, e2'⟩ := List.getElem?_eq_some_iff.mp e2
  rw [List.getElem_range] at e1' e2'
  rw [List.length_range] at ha hb
  have := wordW_inj (c := c) (i := b) (j := a) (by omega) (by omega) e3
  omega
/-- the switches as they are drawn, from the first j words -/
structure DrL (c : Int) (j : Nat) (L : List Sw) : Prop where
  each : ∀ q ∈ L, ∃ k, k < j ∧ q.1 = wordW c k ∧ ∃ sz, 2 ≤ sz ∧ sz ≤ 4 ∧ q.2 = setW (c + (k : Int) + 1) sz
  nd : (L.map (·.1)).Nodup
theorem DrL.up {c : Int} {j : Nat} {L : List Sw} (h : DrL c j L) : DrL c (j + 1) L := ⟨fun q hq => by
  obtain ⟨k, hk, r⟩ := h.each q hq
  exact ⟨k, by omega, r⟩, h.nd⟩
theorem DrL.snoc {c : Int} {j : Nat} {L : List Sw} (h : DrL c j L) (hj : j ≤ 4) {sz : Nat} (h2 : 2 ≤ sz) (h4 : sz ≤ 4) : DrL c (j + 1) (L ++ [(wordW c j, setW (c + (j : Int) + 1) sz)]) := by
  refine ⟨fun q hq => ?_, ?_⟩
  · rcases List.mem_append.mp hq with hq | hq
    · exact h.up.each q hq
    · obtain rfl := List.mem_singleton.mp hq
      exact ⟨j, by omega, rfl, sz, h2, h4, rfl⟩
  · rw [List.map_append, List.nodup_append]
    refine ⟨h.nd, by simp, fun a ha b hb => ?_⟩
    obtain ⟨q, hq, rfl⟩ := List.mem_map.mp ha
    have hb' : b = wordW c j := by simpa using hb
    subst hb'
    obtain ⟨k, hk, e, _⟩ := h.each q hq
    intro z
    rw [e] at z
    have := wordW_inj (by omega) (by omega) z
    omega
theorem DrL.good {c : Int} {j : Nat} {L : List Sw} (h : DrL c j L) (h1 : 1 ≤ L.length) (h5 : L.length ≤ 5) (ht : tot L ≤ 256) : GoodL L := by
  refine ⟨h1, h5, fun q hq => ?_, h.nd, fun q hq => ?_, ht⟩
  · obtain ⟨k, _, e, _⟩ := h.each q hq
    rw [e]
    exact wordW_is c k
  · obtain ⟨k, _, _, sz, h2, h4, e⟩ := h.each q hq
    rw [e]
    refine ⟨by unfold setW; simpa using h2, by unfold setW; simpa using h4, setW_nodup _ h4, fun w hw => ?_⟩
    unfold setW at hw
    obtain ⟨i, _, rfl⟩ := List.mem_map.mp hw
    exact wordW_is _ _
def SwI (c : Int) (most : Nat) (j : Nat) (ρ : Rho) : Prop := ∃ (L : List Sw) (o5 o6 : Option D),
  ρ = [some (.int c), some (.int (most : Int)), some (.list ((List.range 5).map fun k => wdD (wordW c k))), some (swsD L), some (.int (tot L : Int)), o5, o6] ∧ DrL c j L ∧ tot L ≤ most ∧ L.length ≤ j ∧ (1 ≤ j → 1 ≤ L.length)
noncomputable def swK : Rho → S := (sSeq (sSet 4 (g2 mulD (gVar 4) (gVar 6)))
  (sAppend 3 (gA tupD (aCons (g2 ixD (gVar 2) (gVar 5)) (aCons (gA F__law_words (aCons (g2 addD (g2 addD (gVar 0) (gVar 5)) (gC (.int 1))) (aCons (gVar 6) aNil))) aNil)))))
noncomputable def swK2 : Rho → S := (sIf (gB (g2 leD (g2 mulD (gVar 4) (gVar 6)) (gVar 1))) swK sNil)
theorem sw_body : B__law_switches_0 = sSeq (sSet 6 (g2 addD (gC (.int 2)) (g2 modD (gA F__law_mix (aCons (gVar 0) (aCons (g2 addD (gC (.int 21)) (gVar 5)) aNil))) (gC (.int 3))))) (sSeq (sIf (gB (g2 gtD (g2 mulD (gVar 4) (gVar 6)) (gVar 1))) (sSet 6 (gC (.int 2))) sNil) swK2) := rfl
theorem swK2_at (c : Int) (most j sz : Nat) (hm : most ≤ 256) (hm4 : 4 ≤ most) (hj : j < 5) (h2 : 2 ≤ sz) (h4 : sz ≤ 4) (L : List Sw) (h : DrL c j L) (ht : tot L ≤ most) (hl : L.length ≤ j) (h1 : 1 ≤ j → 1 ≤ L.length) :
    ∃ ρ2, swK2 [some (.int c), some (.int (most : Int)), some (.list ((List.range 5).map fun k => wdD (wordW c k))), some (swsD L), some (.int (tot L : Int)), some (.int (j : Int)), some (.int (sz : Int))] = .nx ρ2 ∧ SwI c most (j + 1) ρ2 := by
  unfold swK2
  walk_at "pd"
  rw [e_mul1 _ _ (.inl ⟨by omega, by omega⟩)]
  walk_at "pd"
  by_cases hp : tot L * sz ≤ most
  · rw [decide_eq_true (show (tot L : Int) * (sz : Int) ≤ (most : Int) by rw [← Int.natCast_mul]; omega)]
    walk_at "pd"
    unfold swK
    walk_at "pd"
    rw [e_mul1 _ _ (.inl ⟨by omega, by omega⟩)]
    walk_at "pd"
    rw [e_append (L.map swD) rfl]
    walk_at "pd"
    rw [e_ixL _ _ (wdD (wordW c j)) (atI_nat (by rw [List.getElem?_map, List.getElem?_range hj]; rfl))]
    walk_at "pd"
    rw [words_at (c + (j : Int) + 1) sz (by omega)]
    walk_at "pd"
    rw [if_pos (by rw [sizeLine_eq, List.length_map]; omega)]
    refine ⟨_, rfl, L ++ [(wordW c j, setW (c + (j : Int) + 1) sz)], some (.int (j : Int)), some (.int (sz : Int)), ?_, h.snoc (by omega) h2 h4, ?_, ?_, ?_⟩
    · have es : (setW (c + (j : Int) + 1) sz).length = sz := by unfold setW; simp
      rw [tot_snoc, es, Int.natCast_mul]
      unfold swsD
      rw [List.map_append]
      have ed : swD (wordW c j, setW (c + (j : Int) + 1) sz) = .tup [wdD (wordW c j), .list ((List.range sz).map fun k => wdD (wordW (c + (j : Int) + 1) k))] := by
        unfold swD setW
        rw [List.map_map]
        rfl
      rw [List.map_cons, ed]
      rfl
    · have es : (setW (c + (j : Int) + 1) sz).length = sz := by unfold setW; simp
      rw [tot_snoc, es]
      exact hp
    · rw [List.length_append]
      simp only [List.length_cons, List.length_nil]
      omega
    · intro _
      rw [List.length_append]
      simp only [List.length_cons, List.length_nil]
      omega
  · rw [decide_eq_false (show ¬ (tot L : Int) * (sz : Int) ≤ (most : Int) by rw [← Int.natCast_mul]; omega)]
    walk_at "pd"
    refine ⟨_, rfl, L, _, _, rfl, h.up, ht, by omega, fun _ => ?_⟩
    by_cases h0 : 1 ≤ j
    · exact h1 h0
    · exfalso
      have hl0 : L = [] := List.length_eq_zero_iff.mp (by omega)
      subst hl0
      apply hp
      show 1 * sz ≤ most
      omega
theorem sw_step (c : Int) (most : Nat) (hm : most ≤ 256) (hm4 : 4 ≤ most) (j : Nat) (hj : j < 5) (ρ : Rho) (h : SwI c most j ρ) : ∃ ρ2, B__law_switches_0 (ρ.set 5 (some (.int (j : Int)))) = .nx ρ2 ∧ SwI c most (j + 1) ρ2 := by
  obtain ⟨L, o5, o6, rfl, hd, ht, hl, h1⟩ := h
  rw [sw_body]
  walk_at "pd"
  rw [show (21 : Int) + (j : Int) = ((21 + j : Nat) : Int) by omega, mix_at]
  walk_at "pd"
  rw [show (2 : Int) + ((mixN c (21 + j) : Nat) : Int) % 3 = ((2 + mixN c (21 + j) % 3 : Nat) : Int) by omega]
  rw [e_mul1 _ _ (.inl ⟨by omega, by omega⟩)]
  walk_at "pd"
  by_cases hg : (most : Int) < (tot L : Int) * ((2 + mixN c (21 + j) % 3 : Nat) : Int)
  · rw [decide_eq_true hg]
    walk_at "pd"
    exact swK2_at c most j 2 hm hm4 hj (by omega) (by omega) L hd ht hl h1
  · rw [decide_eq_false hg]
    walk_at "pd"
    exact swK2_at c most j (2 + mixN c (21 + j) % 3) hm hm4 hj (by omega) (by omega) L hd ht hl h1
theorem switches_at (c : Int) (most : Nat) (hm : most ≤ 256) (hm4 : 4 ≤ most) : ∃ L, F__law_switches [.int c, .int (most : Int)] = .ok (swsD L) ∧ GoodL L ∧ tot L ≤ most := by
  show ∃ L, endS (S__law_switches [some (.int c), some (.int (most : Int)), none, none, none, none, none]) = .ok (swsD L) ∧ GoodL L ∧ tot L ≤ most
  unfold S__law_switches
  walk_at "pd"
  rw [show F__law_words [.int c, .int 5] = .ok (.list ((List.range 5).map fun k => wdD (wordW c k))) from words_at c 5 (by omega)]
  walk_at "pd"
  rw [show F__law_mix [.int c, .int 20] = .ok (.int (mixN c 20 : Int)) from mix_at c 20]
  walk_at "pd"
  rw [show (1 : Int) + ((mixN c 20 : Nat) : Int) % 5 = ((1 + mixN c 20 % 5 : Nat) : Int) by omega, e_rng1 _ (small_ok (by omega) (by omega)), Int.toNat_natCast]
  walk_at "pd"
  generalize hf : forL _ _ _ _ = r
  obtain ⟨ρ', e, L, o5, o6, rfl, hd, ht, hl, h1⟩ := forL_out hf (SwI c most) ⟨[], none, none, rfl, ⟨(fun q hq => nomatch hq), List.nodup_nil⟩, by show 1 ≤ most; omega, Nat.le_refl 0, fun z => by omega⟩ (fun j d ρ hd hi => by
    have hj : j < 1 + mixN c 20 % 5 := by
      have := (List.getElem?_eq_some_iff.mp hd).1
      rw [rng_len] at this
      exact this
    have ed : d = .int (j : Int) := by
      unfold rngL at hd
      rw [List.getElem?_map, List.getElem?_range hj] at hd
      cases hd
      show D.int (0 + (j : Int)) = D.int (j : Int)
      rw [Int.zero_add]
    subst ed
    obtain ⟨ρ2, e2, i2⟩ := sw_step c most hm hm4 j (by omega) ρ hi
    exact ⟨_, rfl, ρ2, e2, i2⟩)
  rw [e]
  rw [rng_len] at hl h1
  walk_at "pd"
  exact ⟨L, rfl, hd.good (h1 (by omega)) (by omega) (by omega), ht⟩
def stepW (R : List (List Wd)) (ss : List Wd) : List (List Wd) := R.flatMap fun r => ss.map fun s => r ++ [s]
def rowsW : List Sw → List (List Wd)
  | [] => [[]]
  | q :: r => stepW (rowsW r) q.2
def rowD (r : List Wd) : D := .list (r.map wdD)
def rowsD (R : List (List Wd)) : D := .list (R.map rowD)
theorem stepW_cons (r : List Wd) (rs : List (List Wd)) (ss : List Wd) : stepW (r :: rs) ss = (ss.map fun s => r ++ [s]) ++ stepW rs ss := by
  unfold stepW
  rw [List.flatMap_cons]
theorem stepW_len (ss : List Wd) : ∀ rows : List (List Wd), (stepW rows ss).length = rows.length * ss.length
  | [] => by simp [stepW]
  | r :: rs => by
    rw [stepW_cons, List.length_append, stepW_len ss rs, List.length_map, List.length_cons, Nat.add_mul, Nat.one_mul, Nat.add_comm]
theorem stepW_at {ss : List Wd} (hk : 0 < ss.length) : ∀ (rows : List (List Wd)) (n : Nat), (stepW rows ss)[n]? = (rows[n / ss.length]?).map (· ++ [ss.getD (n % ss.length) []])
  | [], n => by simp [stepW]
  | r :: rs, n => by
    rw [stepW_cons]
    by_cases h : n < ss.length
    · rw [List.getElem?_append_left (by simpa using h), List.getElem?_map, Nat.div_eq_of_lt h, Nat.mod_eq_of_lt h, List.getElem?_eq_getElem h, List.getD_eq_getElem?_getD, List.getElem?_eq_getElem h]
      rfl
    · rw [List.getElem?_append_right (by simpa using Nat.le_of_not_lt h), List.length_map, stepW_at hk rs (n - ss.length)]
      have e1 : n / ss.length = (n - ss.length) / ss.length + 1 := by rw [Nat.div_eq_sub_div hk (Nat.le_of_not_lt h)]
      have e2 : n % ss.length = (n - ss.length) % ss.length := Nat.mod_eq_sub_mod (Nat.le_of_not_lt h)
      rw [e1, e2, List.getElem?_cons_succ]
def selW (A : List As) : List Wd := A.map fun q => q.2.2
theorem rowsW_at : ∀ {rs : List Sw}, (∀ q ∈ rs, 0 < q.2.length) → ∀ {n : Nat}, n < prodR (rs.map fun q => q.2.length) → (rowsW rs)[n]? = some (selW (asgR rs n))
  | [], _, n, h => by
    have : n = 0 := by have h' : n < 1 := h; omega
    subst this
    rfl
  | (w, S) :: r, hp, n, h => by
    have hk : 0 < S.length := hp _ List.mem_cons_self
    show (stepW (rowsW r) S)[n]? = some (selW (asgR r (n / S.length) ++ [(w, S, S.getD (n % S.length) [])]))
    have h' : n < prodR (r.map fun q => q.2.length) * S.length := h
    rw [stepW_at hk, rowsW_at (fun j hj => hp j (List.mem_cons_of_mem _ hj)) (Nat.div_lt_of_lt_mul (by rw [Nat.mul_comm]; exact h'))]
    unfold selW
    rw [List.map_append]
    rfl
theorem rowsW_len : ∀ rs : List Sw, (rowsW rs).length = prodR (rs.map fun q => q.2.length)
  | [] => rfl
  | q :: r => by
    show (stepW (rowsW r) q.2).length = prodR (r.map fun q => q.2.length) * q.2.length
    rw [stepW_len, rowsW_len r]
def lawRows (L : List Sw) : List (List Wd) := rowsW L.reverse
theorem lawRows_len (L : List Sw) : (lawRows L).length = tot L := by
  unfold lawRows tot szs
  rw [rowsW_len, List.map_reverse]
theorem lawRows_at {L : List Sw} (hp : ∀ q ∈ L, 0 < q.2.length) {n : Nat} (h : n < tot L) : (lawRows L)[n]? = some (selW (asg L n)) := by
  unfold lawRows asg
  refine rowsW_at (fun q hq => hp q (List.mem_reverse.mp hq)) ?_
  unfold tot szs at h
  rw [List.map_reverse]
  exact h
theorem lawRows_snoc (L : List Sw) (q : Sw) : lawRows (L ++ [q]) = stepW (lawRows L) q.2 := by
  unfold lawRows
  rw [List.reverse_append]
  rfl
theorem take_snoc {α : Type} {l : List α} {j : Nat} {x : α} (h : l[j]? = some x) : l.take (j + 1) = l.take j ++ [x] := by
  rw [List.take_succ, h]
  rfl
theorem tot_take {L : List Sw} (h : ∀ q ∈ L, q.2.length ≤ 4) : ∀ j, tot (L.take j) ≤ 4 ^ j
  | 0 => by rw [List.take_zero]; exact Nat.le_refl 1
  | j + 1 => by
    cases e : L[j]? with
    | none =>
      have hl := List.getElem?_eq_none_iff.mp e
      rw [List.take_of_length_le (show L.length ≤ j + 1 by omega), ← List.take_of_length_le hl]
      exact Nat.le_trans (tot_take h j) (Nat.pow_le_pow_right (by decide) (Nat.le_succ j))
    | some q =>
      rw [take_snoc e, tot_snoc, Nat.pow_succ]
      exact Nat.mul_le_mul (tot_take h j) (h q (List.mem_of_getElem? e))
theorem rows_inner (o0 o2 : Option D) (R : List (List Wd)) (ss : List Wd) (r : List Wd) (hr : r.length ≤ 100) (acc : List (List Wd)) (ha : acc.length ≤ 100000) (hs : ss.length ≤ 4) (o6 : Option D) :
    ∃ o6', B__law_rows_1 [o0, some (rowsD R), o2, some (.list (ss.map wdD)), some (rowsD acc), some (rowD r), o6] = .nx [o0, some (rowsD R), o2, some (.list (ss.map wdD)), some (rowsD (acc ++ ss.map fun s => r ++ [s])), some (rowD r), o6'] := by
  unfold B__law_rows_1
  walk_at "pd"
  generalize hf : forL _ _ _ _ = res
  obtain ⟨ρ', e, o6', rfl⟩ := forL_out hf (fun j ρ => ∃ o6, ρ = [o0, some (rowsD R), o2, some (.list (ss.map wdD)), some (rowsD (acc ++ (ss.take j).map fun s => r ++ [s])), some (rowD r), o6]) ⟨_, by rw [List.take_zero, List.map_nil, List.append_nil]⟩ (fun j d ρ hd hi => by
    obtain ⟨o6, rfl⟩ := hi
    rw [List.getElem?_map] at hd
    obtain ⟨w, hw, rfl⟩ := Option.map_eq_some_iff.mp hd
    have hj := (List.getElem?_eq_some_iff.mp hw).1
    refine ⟨_, rfl, _, ?_, some (wdD w), rfl⟩
    unfold B__law_rows_0
    rw [show ([o0, some (rowsD R), o2, some (.list (ss.map wdD)), some (rowsD (acc ++ (ss.take j).map fun s => r ++ [s])), some (rowD r), o6] : Rho).set 6 (some (wdD w)) = [o0, some (rowsD R), o2, some (.list (ss.map wdD)), some (rowsD (acc ++ (ss.take j).map fun s => r ++ [s])), some (rowD r), some (wdD w)] from rfl]
    rw [e_append ((acc ++ (ss.take j).map fun s => r ++ [s]).map rowD) rfl]
    walk_at "pd"
    rw [show rowD r = .list (r.map wdD) from rfl]
    walk_at "pd"
    rw [e_addL _ _ (by rw [List.length_map]; simp only [List.length_cons, List.length_nil]; omega)]
    walk_at "pd"
    rw [if_pos (by rw [sizeLine_eq, List.length_map, List.length_append, List.length_map, List.length_take]; omega)]
    have ee : rowsD (acc ++ (ss.take (j + 1)).map fun s => r ++ [s]) = .list ((acc ++ (ss.take j).map fun s => r ++ [s]).map rowD ++ [.list (r.map wdD ++ [wdD w])]) := by
      rw [take_snoc hw, List.map_append, ← List.append_assoc]
      unfold rowsD
      rw [List.map_append]
      have er : rowD (r ++ [w]) = .list (r.map wdD ++ [wdD w]) := by
        unfold rowD
        rw [List.map_append]
        rfl
      rw [← er]
      rfl
    rw [ee])
  rw [List.length_map, List.take_length] at e
  exact ⟨o6', e⟩
theorem stepW_snoc (R : List (List Wd)) (r : List Wd) (ss : List Wd) : stepW (R ++ [r]) ss = stepW R ss ++ ss.map fun s => r ++ [s] := by
  unfold stepW
  rw [List.flatMap_append]
  simp
theorem rows_mid (o0 : Option D) (R : List (List Wd)) (o2 : Option D) (ss : List Wd) (hR : R.length ≤ 1024) (hr : ∀ r ∈ R, r.length ≤ 100) (hs : ss.length ≤ 4) (o4 o5 o6 : Option D) :
    ∃ o5' o6', B__law_rows_2 [o0, some (rowsD R), o2, some (.list (ss.map wdD)), o4, o5, o6] = .nx [o0, some (rowsD (stepW R ss)), o2, some (.list (ss.map wdD)), some (rowsD (stepW R ss)), o5', o6'] := by
  unfold B__law_rows_2
  walk_at "pd"
  have ei : iSeq (gVar 1) [o0, some (rowsD R), o2, some (.list (ss.map wdD)), some (.list []), o5, o6] = .ok (R.map rowD) := rfl
  rw [show rowsD R = .list (R.map rowD) from rfl]
  walk_at "pd"
  generalize hf : forL _ _ _ _ = res
  obtain ⟨ρ', e, o5', o6', rfl⟩ := forL_out hf (fun j ρ => ∃ o5 o6, ρ = [o0, some (rowsD R), o2, some (.list (ss.map wdD)), some (rowsD (stepW (R.take j) ss)), o5, o6]) ⟨_, _, rfl⟩ (fun j d ρ hd hi => by
    obtain ⟨o5, o6, rfl⟩ := hi
    rw [List.getElem?_map] at hd
    obtain ⟨r, hq, rfl⟩ := Option.map_eq_some_iff.mp hd
    have hj := (List.getElem?_eq_some_iff.mp hq).1
    have l1 : (stepW (R.take j) ss).length ≤ 100000 := by
      rw [stepW_len, List.length_take]
      have : min j R.length * ss.length ≤ 1024 * 4 := Nat.mul_le_mul (by omega) hs
      omega
    obtain ⟨o6', eb⟩ := rows_inner o0 o2 R ss r (hr r (List.mem_of_getElem? hq)) (stepW (R.take j) ss) l1 hs o6
    refine ⟨_, rfl, _, eb, some (rowD r), o6', ?_⟩
    rw [take_snoc hq, stepW_snoc])
  rw [e, List.length_map, List.take_length]
  walk_at "pd"
  exact ⟨o5', o6', rfl⟩
theorem rowsW_mem : ∀ (rs : List Sw) (r : List Wd), r ∈ rowsW rs → r.length = rs.length
  | [], r, h => by
    have : r = [] := by simpa [rowsW] using h
    subst this
    rfl
  | q :: rs, r, h => by
    have h' : r ∈ (rowsW rs).flatMap fun r => q.2.map fun j => r ++ [j] := h
    obtain ⟨r0, h0, h1⟩ := List.mem_flatMap.mp h'
    obtain ⟨j, _, rfl⟩ := List.mem_map.mp h1
    rw [List.length_append, rowsW_mem rs r0 h0]
    rfl
theorem lawRows_mem {L : List Sw} {r : List Wd} (h : r ∈ lawRows L) : r.length = L.length := by
  rw [rowsW_mem _ r h, List.length_reverse]
theorem rows_at {L : List Sw} (h4 : ∀ q ∈ L, q.2.length ≤ 4) (h5 : L.length ≤ 5) : F__law_rows [swsD L] = .ok (rowsD (lawRows L)) := by
  show endS (S__law_rows [some (swsD L), none, none, none, none, none, none]) = _
  unfold S__law_rows
  rw [show swsD L = .list (L.map swD) from rfl]
  walk_at "pd"
  generalize hf : forL _ _ _ _ = res
  obtain ⟨ρ', e, o2, o3, o4, o5, o6, rfl⟩ := forL_out hf (fun j ρ => ∃ o2 o3 o4 o5 o6, ρ = [some (.list (L.map swD)), some (rowsD (lawRows (L.take j))), o2, o3, o4, o5, o6]) ⟨_, _, _, _, _, rfl⟩ (fun j d ρ hd hi => by
    obtain ⟨o2, o3, o4, o5, o6, rfl⟩ := hi
    rw [List.getElem?_map] at hd
    obtain ⟨q, hq, rfl⟩ := Option.map_eq_some_iff.mp hd
    have hj := (List.getElem?_eq_some_iff.mp hq).1
    have hm := List.mem_of_getElem? hq
    have tl := tot_take h4 j
    have tl2 : 4 ^ j ≤ 4 ^ 5 := Nat.pow_le_pow_right (by decide) (by omega)
    have rl : (lawRows (L.take j)).length ≤ 1024 := by rw [lawRows_len]; omega
    obtain ⟨o5', o6', eb⟩ := rows_mid (some (.list (L.map swD))) (lawRows (L.take j)) (some (wdD q.1)) q.2 rl (fun r hr => by rw [lawRows_mem hr, List.length_take]; omega) (h4 q hm) o4 o5 o6
    refine ⟨_, rfl, _, eb, some (wdD q.1), some (.list (q.2.map wdD)), some (rowsD (stepW (lawRows (L.take j)) q.2)), o5', o6', ?_⟩
    rw [take_snoc hq, lawRows_snoc])
  rw [e]
  walk_at "pd"
  rw [List.length_map, List.take_length]
end Pd
set_option maxHeartbeats 4000000
namespace Pd
open PySem PySem.Spec PyProof.Rows L2
local macro_rules | `(tactic| walk_at "pd") => `(tactic| try simp -implicitDefEqProofs only [e_seq, e_thn, e_trt, e_trn, e_tex, e_if, e_pick, e_pickx, e_ret, e_retN, e_set, e_drop, e_for, e_ofR, e_ofRx, e_ofI, e_nil, e_asg, endS_rt, endS_rn, endS_nx, endS_ex, endN_rn, endN_ex, gC, g1, g2, g3, gA, aNil, aCons, gAnd, gOr, gNot, gB, gTru, bAnd, bOr, bNot, gIf, iA, iSeq, gSl, pNone, pSome, ok_bind, ex_bind, st_bind, gVar, List.getElem?_cons_zero, List.getElem?_cons_succ, List.set_cons_zero, List.set_cons_succ, if_true, if_false, Bool.not_true, Bool.not_false, Bool.false_eq_true, ↓reduceIte, e_asB, e_lt, e_gt, e_le, e_ge, e_ltS, e_gtS, e_eqI, e_eqS, e_eqB, e_neI, e_neS, e_neB, e_addI, e_iaddI, e_subI, e_negI, e_andI, e_orI, e_xorI, e_lenL, e_lenT, e_ord, e_intB, e_intI, e_inS, e_ninS, e_itL, e_itT, e_itS, e_zip, e_enum, e_slL, e_slT, e_asI, e_isN1, e_isN2, e_notN1, e_notN2, e_truB, e_truI, e_truL, e_isi_int_non, e_isi_int_bl, e_isi_int_int, e_isi_int_str, e_isi_int_list, e_isi_int_tup, e_isi_int_dict, e_isi_int_dictT, e_isi_bool_non, e_isi_bool_bl, e_isi_bool_int, e_isi_bool_str, e_isi_bool_list, e_isi_bool_tup, e_isi_bool_dict, e_isi_bool_dictT, e_isi_str_non, e_isi_str_bl, e_isi_str_int, e_isi_str_str, e_isi_str_list, e_isi_str_tup, e_isi_str_dict, e_isi_str_dictT, e_isi_list_non, e_isi_list_bl, e_isi_list_int, e_isi_list_str, e_isi_list_list, e_isi_list_tup, e_isi_list_dict, e_isi_list_dictT, e_isi_tuple_non, e_isi_tuple_bl, e_isi_tuple_int, e_isi_tuple_str, e_isi_tuple_list, e_isi_tuple_tup, e_isi_tuple_dict, e_isi_tuple_dictT, e_isi_dict_non, e_isi_dict_bl, e_isi_dict_int, e_isi_dict_str, e_isi_dict_list, e_isi_dict_tup, e_isi_dict_dict, e_isi_dict_dictT, e_iteAnd, e_iteOr, e_iteAndD, e_iteOrD, e_then_ite, e_endS_ite, e_endN_ite, e_ofR_ite, e_pick_ite, e_bind_ite, e_modI, e_fdivI, e_mul1, e_pow10, e_pow2, e_shl1, e_shrI, e_addS, e_iaddS, e_addL, e_addT, e_lenS, e_lst, e_strLit, String.reduceBEq, e_ixL0, e_ixL1, e_ixL2, e_ixL3, e_ixL4, e_ixL5, e_ixL6, e_ixL7, e_ixL8, e_ixT0, e_ixT1, e_ixT2, e_ixT3, e_ixT4, e_ixT5, e_tupleL, e_listT, e_tupleT, eqX_int, neX_int, eqX_S, neX_S, eqX_t0, neX_t0, e_catL, e_tup, e_inT, e_ninT, e_inL, e_ninL, e_slS, Int.reduceLT, Int.reduceLE, Int.reduceMul, Int.reduceAdd, Int.reduceSub, Int.reducePow, Int.reduceNeg, Int.reduceToNat, List.length_cons, List.length_nil, List.length_append, Nat.reduceAdd, Nat.reduceLeDiff, flD, List.all_cons, List.all_nil, Bool.and_true, Bool.true_and, Bool.and_self, decide_true, decide_false, or_true, true_or, and_true, true_and, eq_self])
theorem signs_all (s : Str) (P : D → Bool) : (signs s).all P = s.cps.toList.all fun c => P (.str ⟨#[c]⟩) := by
  unfold signs
  rw [List.all_map]
  rfl
theorem mem_signs {s : Str} {d : D} (h : d ∈ signs s) : ∃ c, c ∈ s.cps.toList ∧ d = .str ⟨#[c]⟩ := by
  unfold signs at h
  obtain ⟨c, hc, rfl⟩ := List.mem_map.mp h
  exact ⟨c, hc, rfl⟩
def ofS (s g : Str) (lo hi : Int) : Bool := (decide (lo ≤ (s.length : Int)) && decide ((s.length : Int) ≤ hi)) && s.cps.toList.all fun c => decide (c ∈ g.cps.toList)
def inStr (g : Str) : D → Bool
  | .str z => hasSub g z
  | _ => false
theorem inStr_all (s g : Str) : (signs s).all (inStr g) = s.cps.toList.all fun c => decide (c ∈ g.cps.toList) := by
  rw [signs_all]
  congr 1
  funext c
  exact hasSub_one g c
theorem is_of_str (s g : Str) (n : Int) (hs : s.length ≤ 16777216) : F_is_of [.str s, .str g, .int n] = .ok (.bl (ofS s g 1 n)) := by
  show endS (S_is_of [some (.str s), some (.str g), some (.int n), none]) = _
  unfold S_is_of ofS
  walk_at "pd"
  rw [e_lenS s hs]
  walk_at "pd"
  by_cases h1 : 1 ≤ (s.length : Int)
  · by_cases h2 : (s.length : Int) ≤ n
    · rw [decide_eq_true h1, decide_eq_true h2]
      walk_at "pd"
      obtain ⟨ρ', hρ, e⟩ := forL_all (i := 3) (b := B_is_of_0) (inStr g) (.rt (.bl false)) (.inl ⟨_, rfl⟩) [some (.str s), some (.str g), some (.int n), none] (signs s) _ (.inl rfl) (fun d hd => by
        obtain ⟨c, hc, rfl⟩ := mem_signs hd
        unfold B_is_of_0
        walk_at "pd"
        show (if (!hasSub g ⟨#[c]⟩) = true then _ else _) = if hasSub g ⟨#[c]⟩ = true then _ else _
        cases hasSub g ⟨#[c]⟩ <;> rfl)
      rw [e, inStr_all]
      cases hb : s.cps.toList.all fun c => decide (c ∈ g.cps.toList) <;> rfl
    · rw [decide_eq_true h1, decide_eq_false h2]
      rfl
  · rw [decide_eq_false h1]
    rfl
theorem eqv_wd (a b : Wd) : eqvD (wdD a) (wdD b) = (a == b) := TS_beq a b
theorem any_wd (w : Wd) (l : List Wd) : (l.map wdD).any (fun z => eqvD z (wdD w)) = l.contains w := by
  rw [List.any_map, List.contains_eq_any_beq]
  congr 1
  funext x
  show eqvD (wdD x) (wdD w) = (w == x)
  rw [eqv_wd, Bool.eq_iff_iff, beq_iff_eq, beq_iff_eq]
  exact ⟨fun h => h.symm, fun h => h.symm⟩
theorem fl_wd (w : Wd) (l : List Wd) : (flD (wdD w) && (l.map wdD).all flD) = true := by
  rw [List.all_map]
  show (true && _) = true
  rw [Bool.true_and]
  exact List.all_eq_true.mpr fun x _ => rfl
theorem in_wdL (w : Wd) (l : List Wd) : inDD (wdD w) (.list (l.map wdD)) = .ok (.bl (l.contains w)) := by
  rw [e_inL _ _ (fl_wd w l), any_wd]
theorem alpha_all : ∀ c : Nat, 97 ≤ c ∧ c ≤ 122 → c ∈ ("abcdefghijklmnopqrstuvwxyz" : Str).cps.toList := by
  have key : ∀ c : Nat, c < 123 → 97 ≤ c → c ∈ ("abcdefghijklmnopqrstuvwxyz" : Str).cps.toList := by decide +kernel
  exact fun c h => key c (by omega) h.1
theorem is_word_at {w : Wd} (h : IsW w) : F_is_word [wdD w] = .ok (.bl true) := by
  show endS (S_is_word [some (wdD w)]) = _
  unfold S_is_word
  walk_at "pd"
  rw [show wdD w = .str (TS w) from rfl, is_of_str _ _ _ (by rw [TS_len]; have := h.le; omega)]
  have e : ofS (TS w) "abcdefghijklmnopqrstuvwxyz" 1 8 = true := by
    unfold ofS
    rw [TS_len, decide_eq_true (show (1 : Int) ≤ (w.length : Int) by have := h.ne; omega), decide_eq_true (show (w.length : Int) ≤ 8 by have := h.le; omega)]
    show (w.all fun c => decide (c ∈ _)) = true
    exact List.all_eq_true.mpr fun c hc => decide_eq_true (alpha_all c (h.al c hc))
  rw [e]
  rfl
theorem take_free {l : List Wd} {j : Nat} {w : Wd} (hn : l.Nodup) (h : l[j]? = some w) : (l.take j).contains w = false := by
  rw [Bool.eq_false_iff]
  intro hc
  have hm : w ∈ l.take j := List.elem_iff.mp hc
  obtain ⟨i, hi⟩ := List.mem_iff_getElem?.mp hm
  rw [List.getElem?_take] at hi
  split at hi
  · rename_i hij
    obtain ⟨a, ea⟩ := List.getElem?_eq_some_iff.mp hi
    obtain ⟨b, eb⟩ := List.getElem?_eq_some_iff.mp h
    have hp := List.pairwise_iff_getElem.mp (List.nodup_iff_pairwise_ne.mp hn) i j a b hij
    exact hp (ea.trans eb.symm)
  · cases hi
theorem are_settings_at {ws : List Wd} (h2 : 2 ≤ ws.length) (h4 : ws.length ≤ 4) (hn : ws.Nodup) (hw : ∀ w ∈ ws, IsW w) : F_are_settings [.list (ws.map wdD)] = .ok (.bl true) := by
  show endS (S_are_settings [some (.list (ws.map wdD)), none, none]) = _
  unfold S_are_settings
  walk_at "pd"
  rw [List.length_map, decide_eq_true (show (2 : Int) ≤ (ws.length : Int) by omega), decide_eq_true (show (ws.length : Int) ≤ 4 by omega)]
  walk_at "pd"
  generalize hf : forL _ _ _ _ = r
  obtain ⟨ρ', e, o1, o2, rfl⟩ := forL_out hf (fun j ρ => ∃ o1 o2, ρ = [some (.list (ws.map wdD)), o1, o2]) ⟨_, _, rfl⟩ (fun j d ρ hd hi => by
    obtain ⟨o1, o2, rfl⟩ := hi
    rw [enumL_at, List.getElem?_map] at hd
    cases ew : ws[j]? with
    | none => rw [ew] at hd; cases hd
    | some w =>
      rw [ew] at hd
      cases hd
      refine ⟨_, rfl, _, ?_, some (.int ((0 + j : Nat) : Int)), some (wdD w), rfl⟩
      unfold B_are_settings_0
      walk_at "pd"
      rw [is_word_at (hw w (List.mem_of_getElem? ew))]
      walk_at "pd"
      rw [cutD_pre, Nat.zero_add, ← List.map_take, in_wdL, take_free hn ew]
      walk_at "pd")
  rw [e]
  walk_at "pd"
  rfl
theorem are_switches_at {L : List Sw} (h : GoodL L) : F_are_switches [swsD L] = .ok (.bl true) := by
  show endS (S_are_switches [some (swsD L), none, none, none]) = _
  unfold S_are_switches
  rw [show swsD L = .list (L.map swD) from rfl]
  walk_at "pd"
  have n1 := h.ne
  have n5 := h.le
  rw [List.length_map, decide_eq_true (show (1 : Int) ≤ (L.length : Int) by omega), decide_eq_true (show (L.length : Int) ≤ 5 by omega)]
  walk_at "pd"
  generalize hf : forL _ _ _ _ = r
  obtain ⟨ρ', e, o3, rfl⟩ := forL_out hf (fun j ρ => ∃ o3, ρ = [some (.list (L.map swD)), some (.list (((L.take j).map (·.1)).map wdD)), some (.int (tot (L.take j) : Int)), o3]) ⟨_, rfl⟩ (fun j d ρ hd hi => by
    obtain ⟨o3, rfl⟩ := hi
    rw [List.getElem?_map] at hd
    obtain ⟨q, hq, rfl⟩ := Option.map_eq_some_iff.mp hd
    have hj := (List.getElem?_eq_some_iff.mp hq).1
    have hm := List.mem_of_getElem? hq
    obtain ⟨s2, s4, sn, sw⟩ := h.st q hm
    refine ⟨_, rfl, _, ?_, some (swD q), rfl⟩
    unfold B_are_switches_0
    rw [show swD q = .tup [wdD q.1, .list (q.2.map wdD)] from rfl]
    walk_at "pd"
    rw [show (false || !((((2 : Nat) : Int)) == 2)) = false from rfl]
    unfold bScal
    walk_at "pd"
    rw [is_word_at (h.wd q hm)]
    walk_at "pd"
    have et : ((L.take j).map (·.1)).contains q.1 = false := by
      rw [List.map_take]
      exact take_free h.nd (by rw [List.getElem?_map, hq]; rfl)
    rw [in_wdL, et]
    walk_at "pd"
    rw [are_settings_at s2 s4 sn sw]
    walk_at "pd"
    rw [show noX (R.ok false) = .ok false from rfl]
    walk_at "pd"
    rw [e_append (((L.take j).map (·.1)).map wdD) rfl]
    walk_at "pd"
    have tl := tot_take (fun q hq => (h.st q hq).2.1) j
    have tl2 : 4 ^ j ≤ 4 ^ 5 := Nat.pow_le_pow_right (by decide) (by omega)
    rw [if_pos (by rw [sizeLine_eq, List.length_map, List.length_map, List.length_take]; omega)]
    walk_at "pd"
    rw [List.length_map, e_mul1 _ _ (.inl ⟨by omega, by omega⟩)]
    walk_at "pd"
    rw [take_snoc hq, tot_snoc, List.map_append, List.map_append, Int.natCast_mul]
    rfl)
  rw [e]
  walk_at "pd"
  rw [List.length_map, List.take_length, decide_eq_true (show (tot L : Int) ≤ 256 by have := h.tt; omega)]
  rfl
def dialX (q : Sw) : D := .tup [wdD q.1, .tpx (q.2.map wdD)]
def dialsX (L : List Sw) : D := .list (L.map dialX)
theorem e_lenX (ds : List D) : lenD [.tpx ds] = .ok (.int ds.length) := rfl
theorem e_ixX {ds : List D} {i : Int} {d : D} (h : atI ds i = some d) : ixD (.tpx ds) (.int i) = .ok d := by
  show (match atI ds i with | some d => R.ok d | none => .st) = _
  rw [h]
theorem nin_wdX (w : Wd) (l : List Wd) : notInDD (wdD w) (.tpx (l.map wdD)) = .ok (.bl (!l.contains w)) := by
  have h : inD (wdD w) (.tpx (l.map wdD)) = .ok (l.contains w) := by
    show (if (flD (wdD w) && (l.map wdD).all flD) = true then R.ok ((l.map wdD).any fun z => eqvD z (wdD w)) else .st) = _
    rw [if_pos (fl_wd w l), any_wd]
  unfold notInDD
  rw [h]
  rfl
def pfX (L : List Sw) (b r f : D) : List (Str × D) := [("dials", dialsX L), ("total", .int (tot L : Int)), ("bars", b), ("barring", r), ("free", f)]
def panX (L : List Sw) (b r f : D) : D := .obj "Panel" (pfX L b r f)
theorem e_gFld {f : Str} {go : Rho → R D} {ρ : Rho} {fs : List (Str × D)} {d : D} (h : go ρ = .ok (.obj "Panel" fs)) (hl : fs.lookup f = some d) : gFld ["Panel"] f go ρ = .ok d := by
  unfold gFld fldD
  rw [h]
  rw [ok_bind]
  dsimp only
  rw [if_pos (by decide +kernel), hl]
theorem e_gMeth {mn : Str} {G : List D → R D} {go : Rho → R D} {t : Rho → R (List D)} {ρ : Rho} {fs : List (Str × D)} {as : List D} (h : go ρ = .ok (.obj "Panel" fs)) (hl : fs.lookup mn = none) (ha : t ρ = .ok as) : gMeth [("Panel", G)] mn go t ρ = G (.obj "Panel" fs :: as) := by
  unfold gMeth metD
  rw [h, ok_bind]
  dsimp only
  rw [hl]
  dsimp only
  rw [List.lookup_cons_self]
  dsimp only
  rw [ha]
  rfl
theorem e_strEq (a b : String) : (Str.ofString a = Str.ofString b) = (a = b) := propext ⟨ofString_inj, fun h => by rw [h]⟩
local macro_rules | `(tactic| walk_at "lkp") => `(tactic| simp only [List.lookup_cons, List.lookup_nil, e_strLit, String.reduceBEq, putD, e_strEq, String.reduceEq, if_true, if_false, ↓reduceIte])
structure PanF (L : List Sw) (fs : List (Str × D)) : Prop where
  dials : fs.lookup ("dials" : Str) = some (dialsX L)
  total : fs.lookup ("total" : Str) = some (.int (tot L : Int))
  m1 : fs.lookup ("are_terms" : Str) = none
  m2 : fs.lookup ("told" : Str) = none
  m3 : fs.lookup ("box" : Str) = none
  m4 : fs.lookup ("copied_terms" : Str) = none
  m5 : fs.lookup ("all_choices" : Str) = none
theorem pfX_ok (L : List Sw) (b r f : D) : PanF L (pfX L b r f) := by
  unfold pfX
  constructor <;> (walk_at "lkp")
section
variable {L : List Sw} {b r f : D}
theorem all_choices_at {fs : List (Str × D)} (h : PanF L fs) (ht : tot L ≤ 256) : F_Panel_all_choices [.obj "Panel" fs] = .ok (.int ((mskN (tot L) fun _ => true : Nat) : Int)) := by
  show endS (S_Panel_all_choices [some (.obj "Panel" fs)]) = _
  unfold S_Panel_all_choices
  walk_at "pd"
  rw [e_gFld (go := gVar 0) rfl h.total]
  walk_at "pd"
  rw [shl_nat _ (by omega)]
  walk_at "pd"
  rw [all_nat]
theorem dvm_at (n k : Nat) (hk : 0 < k) (hk4 : k ≤ 1000) : dvmD [.int (n : Int), .int (k : Int)] = .ok (.tup [.int ((n / k : Nat) : Int), .int ((n % k : Nat) : Int)]) := by
  show (if (decide (0 < (k : Int)) && Builtin.divisionGoesByPylong (n : Int) (k : Int) == false) = true then R.ok (D.tup [.int ((n : Int) / (k : Int)), .int ((n : Int) % (k : Int))]) else .st) = _
  rw [PyProof.noPylong_small (x := (n : Int)) (y := (k : Int)) (by omega), decide_eq_true (show 0 < (k : Int) by omega)]
  rfl
theorem e_insF (i : Nat) {t : Rho → R (List D)} {ρ : Rho} {ds : List D} {d : D} (h : ρ[i]? = some (some (.list ds))) (ht : t ρ = .ok [.int 0, d]) (hl : ds.length < 16777216) : sOwnL i insF t ρ = .nx (ρ.set i (some (.list (d :: ds)))) := by
  unfold sOwnL
  rw [h, ht]
  show (match (if (decide (ds.length < sizeLine) && (decide ((0 : Int) ≤ 0) && decide ((0 : Int) < 4611686018427387904))) = true then R.ok (ds.take (0 : Int).toNat ++ [d] ++ ds.drop (0 : Int).toNat) else .st) with | .ok es => _ | _ => _) = _
  rw [decide_eq_true (show ds.length < sizeLine by rw [sizeLine_eq]; exact hl)]
  rfl
def selD (q : As) : D := wdD q.2.2
theorem told_loop (P : D) : ∀ (rs : List Sw) (n : Nat) (acc : List D) (o3 o4 o5 : Option D), (∀ q ∈ rs, 2 ≤ q.2.length ∧ q.2.length ≤ 4) → acc.length + rs.length ≤ 1000 →
    ∃ (n' : Nat) (o3' o4' o5' : Option D), forL (τTup 2 (τCons (τName 3) (τCons (τName 4) τNil))) B_Panel_told_0 (rs.map dialX) [some P, some (.int (n : Int)), some (.list acc), o3, o4, o5] = .nx [some P, some (.int (n' : Int)), some (.list ((asgR rs n).map selD ++ acc)), o3', o4', o5']
  | [], n, acc, o3, o4, o5, _, _ => ⟨n, o3, o4, o5, rfl⟩
  | (w, S) :: rs, n, acc, o3, o4, o5, h, hl => by
    have hS := h (w, S) List.mem_cons_self
    have hS0 : 0 < S.length := by have : 2 ≤ S.length := hS.1; omega
    have hS4 : S.length ≤ 4 := hS.2
    have hlt : n % S.length < S.length := Nat.mod_lt _ hS0
    obtain ⟨n', o3', o4', o5', e⟩ := told_loop P rs (n / S.length) (selD (w, S, S.getD (n % S.length) []) :: acc) (some (wdD w)) (some (.tpx (S.map wdD))) (some (.int ((n % S.length : Nat) : Int))) (fun q hq => h q (List.mem_cons_of_mem _ hq)) (by simp only [List.length_cons] at hl ⊢; omega)
    refine ⟨n', o3', o4', o5', ?_⟩
    have eb : B_Panel_told_0 [some P, some (.int (n : Int)), some (.list acc), some (wdD w), some (.tpx (S.map wdD)), o5] = .nx [some P, some (.int ((n / S.length : Nat) : Int)), some (.list (selD (w, S, S.getD (n % S.length) []) :: acc)), some (wdD w), some (.tpx (S.map wdD)), some (.int ((n % S.length : Nat) : Int))] := by
      unfold B_Panel_told_0
      walk_at "pd"
      rw [e_lenX]
      walk_at "pd"
      rw [List.length_map, dvm_at n S.length hS0 (by omega)]
      walk_at "pd"
      show sOwnL 2 insF _ [some P, some (.int ((n / S.length : Nat) : Int)), some (.list acc), some (wdD w), some (.tpx (S.map wdD)), some (.int ((n % S.length : Nat) : Int))] = _
      rw [e_insF 2 (ds := acc) (d := selD (w, S, S.getD (n % S.length) [])) rfl (by
        walk_at "pd"
        rw [e_ixX (d := wdD (S.getD (n % S.length) [])) (atI_nat (by rw [List.getElem?_map, List.getD_eq_getElem?_getD, List.getElem?_eq_getElem hlt]; rfl))]
        rfl) (by simp only [List.length_cons] at hl; omega)]
      rfl
    have e1 : forL (τTup 2 (τCons (τName 3) (τCons (τName 4) τNil))) B_Panel_told_0 (((w, S) :: rs).map dialX) [some P, some (.int (n : Int)), some (.list acc), o3, o4, o5] =
        (match B_Panel_told_0 [some P, some (.int (n : Int)), some (.list acc), some (wdD w), some (.tpx (S.map wdD)), o5] with
          | .nx ρ2 => forL (τTup 2 (τCons (τName 3) (τCons (τName 4) τNil))) B_Panel_told_0 (rs.map dialX) ρ2
          | .ct ρ2 => forL (τTup 2 (τCons (τName 3) (τCons (τName 4) τNil))) B_Panel_told_0 (rs.map dialX) ρ2
          | .bk ρ2 => .nx ρ2
          | r => r) := rfl
    rw [e1, eb]
    show forL _ _ _ _ = _
    rw [e]
    show Pd.S.nx [_, _, some (.list ((asgR rs (n / S.length)).map selD ++ selD (w, S, S.getD (n % S.length) []) :: acc)), _, _, _] = Pd.S.nx [_, _, some (.list ((asgR rs (n / S.length) ++ [(w, S, S.getD (n % S.length) [])]).map selD ++ acc)), _, _, _]
    rw [List.map_append, List.append_assoc]
    rfl
theorem told_at {fs : List (Str × D)} (h : PanF L fs) (hg : GoodL L) {n : Nat} (hn : n < tot L) : F_Panel_told [.obj "Panel" fs, .int (n : Int)] = .ok (.tup ((asg L n).map selD)) := by
  show endS (S_Panel_told [some (.obj "Panel" fs), some (.int (n : Int)), none, none, none, none]) = _
  unfold S_Panel_told
  walk_at "pd"
  rw [show F_is_whole [.int (n : Int)] = .ok (.bl true) from rfl]
  walk_at "pd"
  rw [decide_eq_true (show (0 : Int) ≤ (n : Int) by omega)]
  walk_at "pd"
  rw [e_gFld (go := gVar 0) rfl h.total]
  walk_at "pd"
  rw [decide_eq_true (show (n : Int) < (tot L : Int) by omega)]
  walk_at "pd"
  have ei : iG revD (gFld ["Panel"] "dials" (gVar 0)) [some (.obj "Panel" fs), some (.int (n : Int)), some (.list []), none, none, none] = .ok (L.reverse.map dialX) := by
    unfold iG
    rw [e_gFld (go := gVar 0) rfl h.dials]
    show R.ok (L.map dialX).reverse = _
    rw [List.map_reverse]
  rw [ei]
  walk_at "pd"
  obtain ⟨n', o3', o4', o5', e⟩ := told_loop (.obj "Panel" fs) L.reverse n [] none none none (fun q hq => ⟨(hg.st q (List.mem_reverse.mp hq)).1, (hg.st q (List.mem_reverse.mp hq)).2.1⟩) (by rw [List.length_reverse]; have := hg.le; simp; omega)
  rw [e]
  walk_at "pd"
  rw [List.append_nil]
  rfl
/-- what is no number of a choice -/
inductive NoNum (t : Nat) : D → Prop
  | non : NoNum t .non
  | bl (b : Bool) : NoNum t (.bl b)
  | str (s : Str) : NoNum t (.str s)
  | low (i : Int) (h : i < 0) : NoNum t (.int i)
  | far (i : Int) (h : (t : Int) ≤ i) : NoNum t (.int i)
theorem told_no {fs : List (Str × D)} (h : PanF L fs) {d : D} (hd : NoNum (tot L) d) : F_Panel_told [.obj "Panel" fs, d] = .ex ⟨"NoChoice", []⟩ := by
  show endS (S_Panel_told [some (.obj "Panel" fs), some d, none, none, none, none]) = _
  unfold S_Panel_told
  walk_at "pd"
  cases hd with
  | non => rfl
  | bl b => rfl
  | str s => rfl
  | low i hi =>
    rw [show F_is_whole [.int i] = .ok (.bl true) from rfl]
    walk_at "pd"
    rw [decide_eq_false (show ¬ (0 : Int) ≤ i by omega)]
    walk_at "pd"
    rfl
  | far i hi =>
    rw [show F_is_whole [.int i] = .ok (.bl true) from rfl]
    walk_at "pd"
    rw [decide_eq_true (show (0 : Int) ≤ i by omega)]
    walk_at "pd"
    rw [e_gFld (go := gVar 0) rfl h.total]
    walk_at "pd"
    rw [decide_eq_false (show ¬ i < (tot L : Int) by omega)]
    walk_at "pd"
    rfl
def numOf : List Nat → List Nat → Nat → Nat
  | k :: ks, d :: ds, acc => numOf ks ds (acc * k + d)
  | _, _, acc => acc
theorem numOf_snoc : ∀ (ks ds : List Nat) (k d acc : Nat), ks.length = ds.length → numOf (ks ++ [k]) (ds ++ [d]) acc = numOf ks ds acc * k + d
  | [], [], k, d, acc, _ => rfl
  | a :: ks, b :: ds, k, d, acc, h => numOf_snoc ks ds k d (acc * a + b) (by simpa using h)
  | [], _ :: _, _, _, _, h => by simp at h
  | _ :: _, [], _, _, _, h => by simp at h
theorem numOf_dg : ∀ (rs : List Nat) (n : Nat), n < prodR rs → numOf rs.reverse (dgR rs n) 0 = n
  | [], n, h => by
    have h' : n < 1 := h
    show 0 = n
    omega
  | k :: r, n, h => by
    have h' : n < prodR r * k := h
    rw [List.reverse_cons]
    show numOf (r.reverse ++ [k]) (dgR r (n / k) ++ [n % k]) 0 = n
    rw [numOf_snoc _ _ _ _ _ (by rw [List.length_reverse, dgR_len]), numOf_dg r (n / k) (Nat.div_lt_of_lt_mul (by rw [Nat.mul_comm]; exact h'))]
    exact Nat.div_add_mod' n k
theorem sIdx_nodup : ∀ {S : List Wd} {d : Nat} {c : Wd}, S.Nodup → S[d]? = some c → sIdx (S.map TS) (TS c) = some d
  | [], d, c, _, h => by simp at h
  | a :: S, 0, c, hn, h => by
    cases h
    show (if (TS a == TS a) = true then some 0 else _) = _
    rw [if_pos (beq_self_eq_true _)]
  | a :: S, d + 1, c, hn, h => by
    rw [List.nodup_cons] at hn
    have h' : S[d]? = some c := by simpa using h
    show (if (TS a == TS c) = true then some 0 else (sIdx (S.map TS) (TS c)).map (· + 1)) = _
    rw [if_neg, sIdx_nodup hn.2 h']
    · rfl
    · rw [TS_beq, beq_iff_eq]
      intro e
      subst e
      exact hn.1 (List.mem_of_getElem? h')
theorem strsOf_wd (S : List Wd) : strsOf (S.map wdD) = some (S.map TS) := by
  induction S with
  | nil => rfl
  | cons a S ih =>
    show (strsOf (S.map wdD)).map (TS a :: ·) = _
    rw [ih]
    rfl
theorem index_wd {S : List Wd} {d : Nat} {c : Wd} (hn : S.Nodup) (h : S[d]? = some c) : indexXD (.tpx (S.map wdD)) [wdD c] = .ok (.int (d : Int)) := by
  show (match strsOf (S.map wdD) with | some ys => (match sIdx ys (TS c) with | some j => R.ok (D.int (j : Nat)) | none => .st) | none => .st) = _
  rw [strsOf_wd]
  dsimp only
  rw [sIdx_nodup hn h]
theorem gMtX_at {F : D → List D → R D} {go : Rho → R D} {t : Rho → R (List D)} {ρ : Rho} {xs ds : List D} (h : go ρ = .ok (.tpx xs)) (ht : t ρ = .ok ds) : gMtX F go t ρ = F (.tpx xs) ds := by
  unfold gMtX
  rw [h, ok_bind]
  dsimp only
  rw [ht]
  rfl
theorem number_step (P s : D) (a : Nat) {w : Wd} {S : List Wd} {c : Wd} {d : Nat} (hn : S.Nodup) (hd : S[d]? = some c) (hS : S.length ≤ 4) (ha : a ≤ 100000) :
    B_Panel_number_of_0 [some P, some s, some (.int (a : Int)), some (wdD c), some (dialX (w, S))] = .nx [some P, some s, some (.int ((a * S.length + d : Nat) : Int)), some (wdD c), some (dialX (w, S))] := by
  unfold B_Panel_number_of_0
  rw [show dialX (w, S) = .tup [wdD w, .tpx (S.map wdD)] from rfl]
  walk_at "pd"
  have hc : S.contains c = true := List.elem_iff.mpr (List.mem_of_getElem? hd)
  rw [nin_wdX, hc]
  walk_at "pd"
  rw [e_lenX]
  walk_at "pd"
  rw [List.length_map, e_mul1 _ _ (.inl ⟨by omega, by omega⟩)]
  walk_at "pd"
  rw [gMtX_at (xs := S.map wdD) (ds := [wdD c]) rfl rfl, index_wd hn hd]
  walk_at "pd"
  rw [Int.natCast_add, Int.natCast_mul]
theorem zip_at : ∀ (a b : List D) (j : Nat), (zipL a b)[j]? = (match a[j]?, b[j]? with | some x, some y => some (.tup [x, y]) | _, _ => none)
  | [], _, j => by cases j <;> rfl
  | x :: a, [], j => by
    rw [show zipL (x :: a) ([] : List D) = [] from rfl]
    simp
  | x :: a, y :: b, 0 => rfl
  | x :: a, y :: b, j + 1 => by
    show (zipL a b)[j]? = _
    rw [zip_at a b j]
    simp
theorem zip_len : ∀ (a b : List D), a.length = b.length → (zipL a b).length = a.length
  | [], _, _ => rfl
  | x :: a, [], h => by simp at h
  | x :: a, y :: b, h => by
    show (zipL a b).length + 1 = a.length + 1
    rw [zip_len a b (by simpa using h)]
theorem num_bd (hg : GoodL L) (n j : Nat) : numOf ((szs L).take j) ((dig L n).take j) 0 ≤ 100000 := by
  have h5 := hg.le
  have hp : ∀ q ∈ L, 0 < q.2.length := fun q hq => by have := (hg.st q hq).1; omega
  have hdl : (dig L n).length = L.length := by unfold dig; rw [dgR_len, List.length_reverse]; simp [szs]
  have key : ∀ (ks ds : List Nat) (acc : Nat), (∀ k ∈ ks, k ≤ 4) → (∀ d ∈ ds, d ≤ 4) → numOf ks ds acc ≤ (acc + 2) * 5 ^ ks.length := by
    intro ks
    induction ks with
    | nil => intro ds acc _ _; cases ds <;> (show acc ≤ (acc + 2) * 1; omega)
    | cons k ks ih =>
      intro ds acc hk hd
      cases ds with
      | nil =>
        show acc ≤ (acc + 2) * 5 ^ (k :: ks).length
        have : 1 ≤ 5 ^ (k :: ks).length := Nat.one_le_pow _ _ (by decide)
        calc acc ≤ acc + 2 := by omega
          _ = (acc + 2) * 1 := by omega
          _ ≤ _ := Nat.mul_le_mul_left _ this
      | cons d ds =>
        show numOf ks ds (acc * k + d) ≤ _
        have h1 := ih ds (acc * k + d) (fun x hx => hk x (List.mem_cons_of_mem _ hx)) (fun x hx => hd x (List.mem_cons_of_mem _ hx))
        have hk4 : k ≤ 4 := hk k List.mem_cons_self
        have hd4 : d ≤ 4 := hd d List.mem_cons_self
        have h2 : acc * k ≤ acc * 4 := Nat.mul_le_mul_left _ hk4
        rw [List.length_cons, Nat.pow_succ]
        calc _ ≤ (acc * k + d + 2) * 5 ^ ks.length := h1
          _ ≤ ((acc + 2) * 5) * 5 ^ ks.length := Nat.mul_le_mul_right _ (by omega)
          _ = _ := by rw [Nat.mul_assoc, Nat.mul_comm 5]
  have h1 := key ((szs L).take j) ((dig L n).take j) 0 (fun k hk => by
    have := List.mem_of_mem_take hk
    unfold szs at this
    obtain ⟨q, hq, rfl⟩ := List.mem_map.mp this
    exact (hg.st q hq).2.1) (fun d hd => by
    have := List.mem_of_mem_take hd
    obtain ⟨i, hi⟩ := List.mem_iff_getElem?.mp this
    have hil : i < L.length := by rw [← hdl]; exact (List.getElem?_eq_some_iff.mp hi).1
    obtain ⟨c', ec⟩ := asg_ex (n := n) hp (w := L[i].1) (S := L[i].2) (by rw [List.getElem?_eq_getElem hil])
    obtain ⟨h1, d', h2, h3⟩ := asg_at hp ec
    rw [hi] at h2
    cases h2
    have := (List.getElem?_eq_some_iff.mp h3).1
    have h4 := (hg.st _ (List.getElem_mem hil)).2.1
    omega)
  rw [List.length_take] at h1
  have hz : (szs L).length = L.length := by simp [szs]
  have h2 : 5 ^ min j (szs L).length ≤ 5 ^ 5 := Nat.pow_le_pow_right (by decide) (by omega)
  omega
theorem number_at (hg : GoodL L) {n : Nat} (hn : n < tot L) : F_Panel_number_of [panX L b r f, .list ((asg L n).map selD)] = .ok (.int (n : Int)) := by
  have h := pfX_ok L b r f
  have h5 := hg.le
  have ht := hg.tt
  have hp : ∀ q ∈ L, 0 < q.2.length := fun q hq => by have := (hg.st q hq).1; omega
  have hl := asg_len L n
  show endS (S_Panel_number_of [some (panX L b r f), some (.list ((asg L n).map selD)), none, none, none]) = _
  unfold S_Panel_number_of
  walk_at "pd"
  rw [e_gFld (go := gVar 0) rfl h.dials]
  rw [show dialsX L = .list (L.map dialX) from rfl]
  walk_at "pd"
  rw [List.length_map, List.length_map, hl]
  rw [show (!((L.length : Int) == (L.length : Int))) = false by rw [beq_self_eq_true]; rfl]
  walk_at "pd"
  rw [e_gFld (go := gVar 0) rfl h.dials]
  rw [show dialsX L = .list (L.map dialX) from rfl]
  walk_at "pd"
  generalize hf : forL _ _ _ _ = res
  obtain ⟨ρ', e, o3, o4, rfl⟩ := forL_out hf (fun j ρ => ∃ o3 o4, ρ = [some (panX L b r f), some (.list ((asg L n).map selD)), some (.int ((numOf ((szs L).take j) ((dig L n).take j) 0 : Nat) : Int)), o3, o4]) ⟨_, _, rfl⟩ (fun j d ρ hd hi => by
    obtain ⟨o3, o4, rfl⟩ := hi
    rw [zip_at, List.getElem?_map, List.getElem?_map] at hd
    cases ea : (asg L n)[j]? with
    | none => rw [ea] at hd; cases hd
    | some q =>
      obtain ⟨w, S, c⟩ := q
      obtain ⟨hL, dg, hdg, hS⟩ := asg_at hp ea
      rw [ea, hL] at hd
      cases hd
      obtain ⟨s2, s4, sn, _⟩ := hg.st _ (List.mem_of_getElem? hL)
      have hj : j < L.length := (List.getElem?_eq_some_iff.mp hL).1
      have hdl : (dig L n).length = L.length := by unfold dig; rw [dgR_len, List.length_reverse]; simp [szs]
      have hsz : (szs L)[j]? = some S.length := by unfold szs; rw [List.getElem?_map, hL]; rfl
      have bd := num_bd hg n j
      refine ⟨_, rfl, _, number_step (panX L b r f) (.list ((asg L n).map selD)) _ sn hS s4 bd, some (wdD c), some (dialX (w, S)), ?_⟩
      rw [take_snoc hsz, take_snoc hdg, numOf_snoc _ _ _ _ _ (by rw [List.length_take, List.length_take, hdl]; simp [szs])])
  rw [e, zip_len _ _ (by rw [List.length_map, List.length_map, hl]), List.length_map, hl]
  walk_at "pd"
  have hdl : (dig L n).length = L.length := by unfold dig; rw [dgR_len, List.length_reverse]; simp [szs]
  rw [List.take_of_length_le (show (szs L).length ≤ L.length by simp [szs]), List.take_of_length_le (by omega)]
  have := numOf_dg (szs L).reverse n hn
  rw [List.reverse_reverse] at this
  unfold dig
  rw [this]
end
end Pd
set_option maxHeartbeats 4000000
namespace Pd
open PySem PySem.Spec PyProof.Rows L2
local macro_rules | `(tactic| walk_at "pd") => `(tactic| try simp -implicitDefEqProofs only [e_seq, e_thn, e_trt, e_trn, e_tex, e_if, e_pick, e_pickx, e_ret, e_retN, e_set, e_drop, e_for, e_ofR, e_ofRx, e_ofI, e_nil, e_asg, endS_rt, endS_rn, endS_nx, endS_ex, endN_rn, endN_ex, gC, g1, g2, g3, gA, aNil, aCons, gAnd, gOr, gNot, gB, gTru, bAnd, bOr, bNot, gIf, iA, iSeq, gSl, pNone, pSome, ok_bind, ex_bind, st_bind, gVar, List.getElem?_cons_zero, List.getElem?_cons_succ, List.set_cons_zero, List.set_cons_succ, if_true, if_false, Bool.not_true, Bool.not_false, Bool.false_eq_true, ↓reduceIte, e_asB, e_lt, e_gt, e_le, e_ge, e_ltS, e_gtS, e_eqI, e_eqS, e_eqB, e_neI, e_neS, e_neB, e_addI, e_iaddI, e_subI, e_negI, e_andI, e_orI, e_xorI, e_lenL, e_lenT, e_ord, e_intB, e_intI, e_inS, e_ninS, e_itL, e_itT, e_itS, e_zip, e_enum, e_slL, e_slT, e_asI, e_isN1, e_isN2, e_notN1, e_notN2, e_truB, e_truI, e_truL, e_isi_int_non, e_isi_int_bl, e_isi_int_int, e_isi_int_str, e_isi_int_list, e_isi_int_tup, e_isi_int_dict, e_isi_int_dictT, e_isi_bool_non, e_isi_bool_bl, e_isi_bool_int, e_isi_bool_str, e_isi_bool_list, e_isi_bool_tup, e_isi_bool_dict, e_isi_bool_dictT, e_isi_str_non, e_isi_str_bl, e_isi_str_int, e_isi_str_str, e_isi_str_list, e_isi_str_tup, e_isi_str_dict, e_isi_str_dictT, e_isi_list_non, e_isi_list_bl, e_isi_list_int, e_isi_list_str, e_isi_list_list, e_isi_list_tup, e_isi_list_dict, e_isi_list_dictT, e_isi_tuple_non, e_isi_tuple_bl, e_isi_tuple_int, e_isi_tuple_str, e_isi_tuple_list, e_isi_tuple_tup, e_isi_tuple_dict, e_isi_tuple_dictT, e_isi_dict_non, e_isi_dict_bl, e_isi_dict_int, e_isi_dict_str, e_isi_dict_list, e_isi_dict_tup, e_isi_dict_dict, e_isi_dict_dictT, e_iteAnd, e_iteOr, e_iteAndD, e_iteOrD, e_then_ite, e_endS_ite, e_endN_ite, e_ofR_ite, e_pick_ite, e_bind_ite, e_modI, e_fdivI, e_mul1, e_pow10, e_pow2, e_shl1, e_shrI, e_addS, e_iaddS, e_addL, e_addT, e_lenS, e_lst, e_strLit, String.reduceBEq, e_ixL0, e_ixL1, e_ixL2, e_ixL3, e_ixL4, e_ixL5, e_ixL6, e_ixL7, e_ixL8, e_ixT0, e_ixT1, e_ixT2, e_ixT3, e_ixT4, e_ixT5, e_tupleL, e_listT, e_tupleT, eqX_int, neX_int, eqX_S, neX_S, eqX_t0, neX_t0, e_catL, e_tup, e_inT, e_ninT, e_inL, e_ninL, e_slS, Int.reduceLT, Int.reduceLE, Int.reduceMul, Int.reduceAdd, Int.reduceSub, Int.reducePow, Int.reduceNeg, Int.reduceToNat, List.length_cons, List.length_nil, List.length_append, Nat.reduceAdd, Nat.reduceLeDiff, flD, List.all_cons, List.all_nil, Bool.and_true, Bool.true_and, Bool.and_self, decide_true, decide_false, or_true, true_or, and_true, true_and, eq_self])
local macro_rules | `(tactic| walk_at "lkp") => `(tactic| simp only [List.lookup_cons, List.lookup_nil, e_strLit, String.reduceBEq, putD, e_strEq, String.reduceEq, if_true, if_false, ↓reduceIte])
section
variable {L : List Sw} {b r f : D}
theorem number_len (ds : List D) (h : ds.length ≠ L.length) : F_Panel_number_of [panX L b r f, .list ds] = .ex ⟨"NoChoice", []⟩ := by
  have hf := pfX_ok L b r f
  show endS (S_Panel_number_of [some (panX L b r f), some (.list ds), none, none, none]) = _
  unfold S_Panel_number_of
  walk_at "pd"
  rw [e_gFld (go := gVar 0) rfl hf.dials]
  rw [show dialsX L = .list (L.map dialX) from rfl]
  walk_at "pd"
  rw [List.length_map]
  rw [show (!((ds.length : Int) == (L.length : Int))) = true by rw [beq_eq_false_iff_ne.mpr (by omega)]; rfl]
  walk_at "pd"
  rfl
theorem number_bad (hg : GoodL L) {n : Nat} (a : Nat) (ha : a < L.length) (w' : Wd) (hw : ∀ q ∈ L, w' ∉ q.2) :
    F_Panel_number_of [panX L b r f, .list (((selW (asg L n)).set a w').map wdD)] = .ex ⟨"NoChoice", []⟩ := by
  have h := pfX_ok L b r f
  have hp : ∀ q ∈ L, 0 < q.2.length := fun q hq => by have := (hg.st q hq).1; omega
  have hl := asg_len L n
  have hsl : (selW (asg L n)).length = L.length := by unfold selW; rw [List.length_map, hl]
  show endS (S_Panel_number_of [some (panX L b r f), some (.list (((selW (asg L n)).set a w').map wdD)), none, none, none]) = _
  unfold S_Panel_number_of
  walk_at "pd"
  rw [e_gFld (go := gVar 0) rfl h.dials]
  rw [show dialsX L = .list (L.map dialX) from rfl]
  walk_at "pd"
  rw [List.length_map, List.length_map, List.length_set, hsl]
  rw [show (!((L.length : Int) == (L.length : Int))) = false by rw [beq_self_eq_true]; rfl]
  walk_at "pd"
  rw [e_gFld (go := gVar 0) rfl h.dials]
  rw [show dialsX L = .list (L.map dialX) from rfl]
  walk_at "pd"
  refine forL_rule (fun r => endS (r.then _) = .ex ⟨"NoChoice", []⟩) (fun j ρ => j ≤ a ∧ ∃ o3 o4, ρ = [some (panX L b r f), some (.list (((selW (asg L n)).set a w').map wdD)), some (.int ((numOf ((szs L).take j) ((dig L n).take j) 0 : Nat) : Int)), o3, o4]) _ 0 _ ⟨Nat.zero_le _, _, _, rfl⟩ ?_ ?_
  · rintro j d ρ hd ⟨hja, o3, o4, rfl⟩
    rw [Nat.zero_add] at *
    have hj : j < L.length := by omega
    obtain ⟨⟨w, S⟩, hL⟩ : ∃ q, L[j]? = some q := ⟨_, List.getElem?_eq_getElem hj⟩
    obtain ⟨c, ea⟩ := asg_ex (n := n) hp hL
    obtain ⟨_, dg, hdg, hS⟩ := asg_at hp ea
    have hdl : (dig L n).length = L.length := by unfold dig; rw [dgR_len, List.length_reverse]; simp [szs]
    have hsz : (szs L)[j]? = some S.length := by unfold szs; rw [List.getElem?_map, hL]; rfl
    have hsw : (selW (asg L n))[j]? = some c := by unfold selW; rw [List.getElem?_map, ea]; rfl
    rw [zip_at, List.getElem?_map, List.getElem?_map, hL, List.getElem?_set] at hd
    obtain ⟨s2, s4, sn, _⟩ := hg.st _ (List.mem_of_getElem? hL)
    by_cases hjq : a = j
    · subst hjq
      rw [if_pos rfl, if_pos (by rw [hsl]; exact hj)] at hd
      cases hd
      refine ⟨_, rfl, ?_⟩
      have hc : S.contains w' = false := Bool.eq_false_iff.mpr fun z => hw _ (List.mem_of_getElem? hL) (List.elem_iff.mp z)
      have eb : B_Panel_number_of_0 [some (panX L b r f), some (.list (((selW (asg L n)).set a w').map wdD)), some (.int ((numOf ((szs L).take a) ((dig L n).take a) 0 : Nat) : Int)), some (wdD w'), some (dialX (w, S))] =
          .ex ⟨"NoChoice", []⟩ [some (panX L b r f), some (.list (((selW (asg L n)).set a w').map wdD)), some (.int ((numOf ((szs L).take a) ((dig L n).take a) 0 : Nat) : Int)), some (wdD w'), some (dialX (w, S))] := by
        unfold B_Panel_number_of_0
        rw [show dialX (w, S) = .tup [wdD w, .tpx (S.map wdD)] from rfl]
        walk_at "pd"
        rw [nin_wdX, hc]
        walk_at "pd"
        rfl
      show (match B_Panel_number_of_0 [some (panX L b r f), some (.list (((selW (asg L n)).set a w').map wdD)), some (.int ((numOf ((szs L).take a) ((dig L n).take a) 0 : Nat) : Int)), some (wdD w'), some (dialX (w, S))] with | .nx ρ2 => _ | .ct ρ2 => _ | .bk ρ2 => _ | r => _)
      rw [eb]
      rfl
    · rw [if_neg hjq, hsw] at hd
      cases hd
      refine ⟨_, rfl, ?_⟩
      have eb := number_step (panX L b r f) (.list (((selW (asg L n)).set a w').map wdD)) (numOf ((szs L).take j) ((dig L n).take j) 0) (w := w) (c := c) (d := dg) sn hS s4 (num_bd hg n j)
      show (match B_Panel_number_of_0 [some (panX L b r f), some (.list (((selW (asg L n)).set a w').map wdD)), some (.int ((numOf ((szs L).take j) ((dig L n).take j) 0 : Nat) : Int)), some (wdD c), some (dialX (w, S))] with | .nx ρ2 => _ | .ct ρ2 => _ | .bk ρ2 => _ | r => _)
      rw [eb]
      refine ⟨by omega, some (wdD c), some (dialX (w, S)), ?_⟩
      rw [take_snoc hsz, take_snoc hdg, numOf_snoc _ _ _ _ _ (by rw [List.length_take, List.length_take, hdl]; simp [szs])]
  · rintro ρ ⟨hle, _⟩
    exfalso
    rw [Nat.zero_add, zip_len _ _ (by rw [List.length_map, List.length_map, List.length_set, hsl]), List.length_map, List.length_set, hsl] at hle
    omega
theorem try_ex {tb : List (Str × Bool)} {s u : Rho → S} {ρ ρ1 : Rho} {x : Ex} (h : s ρ = .ex x ρ1) (ht : tb.lookup x.cls = some true) : sTry tb s u ρ = noXS (u ρ1) := by
  unfold sTry
  rw [h]
  dsimp only
  rw [ht]
theorem set_ok {i : Nat} {g : Rho → R D} {ρ : Rho} {d : D} (h : g ρ = .ok d) : sSet i g ρ = .nx (ρ.set i (some d)) := by rw [e_set, h]; rfl
theorem set_ex {i : Nat} {g : Rho → R D} {ρ : Rho} {x : Ex} (h : g ρ = .ex x) : sSet i g ρ = .ex x ρ := by rw [e_set, h]; rfl
theorem law_number_no (s : D) (h : F_Panel_number_of [panX L b r f, s] = .ex ⟨"NoChoice", []⟩) : F__law_number [panX L b r f, s] = .ok (.str "none") := by
  show endS (S__law_number [some (panX L b r f), some s, none]) = _
  unfold S__law_number
  rw [e_seq, set_ok (d := .non) rfl, e_thn, e_seq]
  rw [try_ex (set_ex (by rw [e_gMeth (go := gVar 0) (as := [s]) rfl (by unfold pfX; walk_at "lkp") rfl]; exact h)) rfl]
  rfl
theorem law_told_no {d : D} (hd : NoNum (tot L) d) : F__law_told [panX L b r f, d] = .ok (.str "none") := by
  show endS (S__law_told [some (panX L b r f), some d, none]) = _
  unfold S__law_told
  rw [e_seq, set_ok (d := .non) rfl, e_thn, e_seq]
  rw [try_ex (set_ex (by rw [e_gMeth (go := gVar 0) (as := [d]) rfl (pfX_ok L b r f).m2 rfl]; exact told_no (pfX_ok L b r f) hd)) rfl]
  rfl
theorem barred_no {d : D} (hd : NoNum (tot L) d) : F_Panel_barred [panX L b r f, d] = .ex ⟨"NoChoice", []⟩ := by
  show endS (S_Panel_barred [some (panX L b r f), some d, none, none]) = _
  unfold S_Panel_barred
  rw [e_seq, e_drop, e_gMeth (go := gVar 0) (as := [d]) rfl (pfX_ok L b r f).m2 rfl, told_no (pfX_ok L b r f) hd]
  rfl
theorem law_bar_no {d : D} (hd : NoNum (tot L) d) : F__law_bar [panX L b r f, d] = .ok (.str "none") := by
  show endS (S__law_bar [some (panX L b r f), some d, none]) = _
  unfold S__law_bar
  rw [e_seq, set_ok (d := .non) rfl, e_thn, e_seq]
  rw [try_ex (set_ex (by rw [e_gMeth (go := gVar 0) (as := [d]) rfl (by unfold pfX; walk_at "lkp") rfl]; exact barred_no hd)) rfl]
  rfl
theorem barred_free (hg : GoodL L) {n : Nat} (hn : n < tot L) : F_Panel_barred [panX L b (.list []) f, .int (n : Int)] = .ok .non := by
  show endS (S_Panel_barred [some (panX L b (.list []) f), some (.int (n : Int)), none, none]) = _
  unfold S_Panel_barred
  rw [e_seq, e_drop, e_gMeth (go := gVar 0) (as := [.int (n : Int)]) rfl (pfX_ok L b (.list []) f).m2 rfl, told_at (pfX_ok L b (.list []) f) hg hn]
  walk_at "pd"
  rw [e_gFld (go := gVar 0) (d := .list []) rfl (by unfold pfX; walk_at "lkp")]
  walk_at "pd"
  rfl
end
end Pd
set_option maxHeartbeats 4000000
namespace Pd
open PySem PySem.Spec PyProof.Rows L2
local macro_rules | `(tactic| walk_at "pd") => `(tactic| try simp -implicitDefEqProofs only [e_seq, e_thn, e_trt, e_trn, e_tex, e_if, e_pick, e_pickx, e_ret, e_retN, e_set, e_drop, e_for, e_ofR, e_ofRx, e_ofI, e_nil, e_asg, endS_rt, endS_rn, endS_nx, endS_ex, endN_rn, endN_ex, gC, g1, g2, g3, gA, aNil, aCons, gAnd, gOr, gNot, gB, gTru, bAnd, bOr, bNot, gIf, iA, iSeq, gSl, pNone, pSome, ok_bind, ex_bind, st_bind, gVar, List.getElem?_cons_zero, List.getElem?_cons_succ, List.set_cons_zero, List.set_cons_succ, if_true, if_false, Bool.not_true, Bool.not_false, Bool.false_eq_true, ↓reduceIte, e_asB, e_lt, e_gt, e_le, e_ge, e_ltS, e_gtS, e_eqI, e_eqS, e_eqB, e_neI, e_neS, e_neB, e_addI, e_iaddI, e_subI, e_negI, e_andI, e_orI, e_xorI, e_lenL, e_lenT, e_ord, e_intB, e_intI, e_inS, e_ninS, e_itL, e_itT, e_itS, e_zip, e_enum, e_slL, e_slT, e_asI, e_isN1, e_isN2, e_notN1, e_notN2, e_truB, e_truI, e_truL, e_isi_int_non, e_isi_int_bl, e_isi_int_int, e_isi_int_str, e_isi_int_list, e_isi_int_tup, e_isi_int_dict, e_isi_int_dictT, e_isi_bool_non, e_isi_bool_bl, e_isi_bool_int, e_isi_bool_str, e_isi_bool_list, e_isi_bool_tup, e_isi_bool_dict, e_isi_bool_dictT, e_isi_str_non, e_isi_str_bl, e_isi_str_int, e_isi_str_str, e_isi_str_list, e_isi_str_tup, e_isi_str_dict, e_isi_str_dictT, e_isi_list_non, e_isi_list_bl, e_isi_list_int, e_isi_list_str, e_isi_list_list, e_isi_list_tup, e_isi_list_dict, e_isi_list_dictT, e_isi_tuple_non, e_isi_tuple_bl, e_isi_tuple_int, e_isi_tuple_str, e_isi_tuple_list, e_isi_tuple_tup, e_isi_tuple_dict, e_isi_tuple_dictT, e_isi_dict_non, e_isi_dict_bl, e_isi_dict_int, e_isi_dict_str, e_isi_dict_list, e_isi_dict_tup, e_isi_dict_dict, e_isi_dict_dictT, e_iteAnd, e_iteOr, e_iteAndD, e_iteOrD, e_then_ite, e_endS_ite, e_endN_ite, e_ofR_ite, e_pick_ite, e_bind_ite, e_modI, e_fdivI, e_mul1, e_pow10, e_pow2, e_shl1, e_shrI, e_addS, e_iaddS, e_addL, e_addT, e_lenS, e_lst, e_strLit, String.reduceBEq, e_ixL0, e_ixL1, e_ixL2, e_ixL3, e_ixL4, e_ixL5, e_ixL6, e_ixL7, e_ixL8, e_ixT0, e_ixT1, e_ixT2, e_ixT3, e_ixT4, e_ixT5, e_tupleL, e_listT, e_tupleT, eqX_int, neX_int, eqX_S, neX_S, eqX_t0, neX_t0, e_catL, e_tup, e_inT, e_ninT, e_inL, e_ninL, e_slS, Int.reduceLT, Int.reduceLE, Int.reduceMul, Int.reduceAdd, Int.reduceSub, Int.reducePow, Int.reduceNeg, Int.reduceToNat, List.length_cons, List.length_nil, List.length_append, Nat.reduceAdd, Nat.reduceLeDiff, flD, List.all_cons, List.all_nil, Bool.and_true, Bool.true_and, Bool.and_self, decide_true, decide_false, or_true, true_or, and_true, true_and, eq_self])
local macro_rules | `(tactic| walk_at "lkp") => `(tactic| simp only [List.lookup_cons, List.lookup_nil, e_strLit, String.reduceBEq, putD, e_strEq, String.reduceEq, if_true, if_false, ↓reduceIte])
section
variable {M : Mem}
theorem at_app (T : Mem) (i : Nat) : (M ++ T)[M.length + i]? = T[i]? := by rw [List.getElem?_append_right (by omega), Nat.add_sub_cancel_left]
theorem at_app0 (T : Mem) : (M ++ T)[M.length]? = T[0]? := at_app T 0
theorem set_app0 (p : P) (q : P) (T : Mem) : (M ++ p :: T).set M.length q = M ++ q :: T := by
  rw [List.set_append_right _ _ (by omega), Nat.sub_self]
  rfl
theorem memD_f {X : Mem} {n k : Nat} {d : D} (h : X[k]? = some (false, d)) : memD X (n + 1) k = some d := by
  unfold memD
  rw [h]
theorem memD_t {X : Mem} {n k : Nat} {d : D} (h : X[k]? = some (true, d)) : memD X (n + 1) k = d.put (memD X n) := by
  conv => lhs; unfold memD
  rw [h]
theorem full_loc {X : Mem} {k : Nat} {p : P} (h : X[k]? = some p) : ∃ n, X.length = n + 1 ∧ P.full X (true, .loc k) = memD X (n + 1) k := by
  have hk := (List.getElem?_eq_some_iff.mp h).1
  refine ⟨X.length - 1, by omega, ?_⟩
  show memD X X.length k = _
  rw [show X.length - 1 + 1 = X.length by omega]
theorem full_f {X : Mem} {k : Nat} {d : D} (h : X[k]? = some (false, d)) : P.full X (true, .loc k) = some d := by
  obtain ⟨n, _, e⟩ := full_loc h
  rw [e, memD_f h]
/-- the maker's fields and what they hold -/
theorem full_pan {X : Mem} {b : Nat} {fs gs : List (Str × D)} (h : X[b]? = some (true, .obj "Panel" fs)) (h2 : X[b + 1]? ≠ none) (hp : ∀ n, D.putFl (memD X (n + 1)) fs = some gs) : P.full X (true, .loc b) = some (.obj "Panel" gs) := by
  have hk : b + 1 < X.length := by
    rcases Nat.lt_or_ge (b + 1) X.length with h | h
    · exact h
    · exact absurd (List.getElem?_eq_none_iff.mpr h) h2
  obtain ⟨n, hn, e⟩ := full_loc h
  rw [e, memD_t h]
  show (D.putFl (memD X n) fs).map (D.obj "Panel") = _
  have : n = n - 1 + 1 := by omega
  rw [this, hp]
  rfl
end
section
variable {M : Mem} {sw : P} {ru : D}
def S0 (b : Nat) (sw : P) (ru : D) (o3 o4 o5 o6 : Option P) : RhoQ := [some (true, .loc b), some sw, some (false, ru), o3, o4, o5, o6]
theorem snS {X : Mem} {b : Nat} {o3 o4 o5 o6 : Option P} {self : D} {L : List Sw} (h0 : P.full X (true, .loc b) = some self) (h1 : P.full X sw = some (swsD L)) :
    snR X (S0 b sw ru o3 o4 o5 o6) = [some self, some (swsD L), some ru, o3.bind (P.full X), o4.bind (P.full X), o5.bind (P.full X), o6.bind (P.full X)] := by
  show [P.full X (true, .loc b), P.full X sw, some ru, _, _, _, _] = _
  rw [h0, h1]
  cases o3 <;> cases o4 <;> cases o5 <;> cases o6 <;> rfl
theorem e_fldX {f : Str} {g : GQ} {ρ : RhoQ} {fs : List (Str × D)} {d : D} {fl pf : Bool} {T T' : Mem} (hi : ρ[0]? = some (some (true, .loc M.length))) (hg : g ρ (M ++ T) = .ok (pf, d) (M ++ (fl, .obj "Panel" fs) :: T')) (hf : fs.length < 1000) :
    sqFld ["Panel"] f (qVar 0) g ρ (M ++ T) = .nx ρ (M ++ (fl || pf, .obj "Panel" (putD f d fs)) :: T') := by
  unfold sqFld sqE qVar
  rw [hg]
  dsimp only
  rw [hi]
  dsimp only
  rw [at_app0]
  show (if ((["Panel"] : List Str).contains "Panel" && decide (fs.length < 1000)) = true then SQ.nx ρ ((M ++ (fl, .obj "Panel" fs) :: T').set M.length (fl || pf, .obj "Panel" (putD f d fs))) else .st) = _
  rw [decide_eq_true hf, show (["Panel"] : List Str).contains "Panel" = true by decide +kernel, set_app0]
  rfl
theorem e_selfFld {f : Str} {ρ : RhoQ} {fs : List (Str × D)} {d : D} {fl : Bool} {T : Mem} (hi : ρ[0]? = some (some (true, .loc M.length))) (hl : fs.lookup f = some d) : qFld ["Panel"] f (qVar 0) ρ (M ++ (fl, .obj "Panel" fs) :: T) = .ok (fl, d) (M ++ (fl, .obj "Panel" fs) :: T) :=
  r_qfld (k := M.length) (b := fl) (c := "Panel") (fs := fs) (by unfold qVar; rw [hi]) (by rw [at_app0]; rfl) (by decide +kernel) hl
/-- the fields, one after the other -/
def fA (b t : Nat) : List (Str × D) := [("dials", .loc (b + 1)), ("total", .int (t : Int))]
def fB (b t k : Nat) : List (Str × D) := [("dials", .loc (b + 1)), ("total", .int (t : Int)), ("bars", .loc k)]
def fC (b t k j : Nat) : List (Str × D) := [("dials", .loc (b + 1)), ("total", .int (t : Int)), ("bars", .loc k), ("barring", .loc j)]
def fD (b t k j : Nat) (x : D) : List (Str × D) := [("dials", .loc (b + 1)), ("total", .int (t : Int)), ("bars", .loc k), ("barring", .loc j), ("free", x)]
def gA1 (L : List Sw) (t : Nat) : List (Str × D) := [("dials", dialsX L), ("total", .int (t : Int))]
def gB1 (L : List Sw) (t : Nat) : List (Str × D) := [("dials", dialsX L), ("total", .int (t : Int)), ("bars", .list [])]
def gC1 (L : List Sw) (t : Nat) : List (Str × D) := [("dials", dialsX L), ("total", .int (t : Int)), ("bars", .list []), ("barring", .list [])]
theorem full_A {X : Mem} {b t : Nat} {L : List Sw} (h : X[b]? = some (true, .obj "Panel" (fA b t))) (h1 : X[b + 1]? = some (false, dialsX L)) : P.full X (true, .loc b) = some (.obj "Panel" (gA1 L t)) :=
  full_pan h (by rw [h1]; simp) fun n => by
    show (memD X (n + 1) (b + 1)).bind _ = _
    rw [memD_f h1]
    rfl
theorem full_B {X : Mem} {b t k : Nat} {L : List Sw} (h : X[b]? = some (true, .obj "Panel" (fB b t k))) (h1 : X[b + 1]? = some (false, dialsX L)) (h2 : X[k]? = some (false, .list [])) : P.full X (true, .loc b) = some (.obj "Panel" (gB1 L t)) :=
  full_pan h (by rw [h1]; simp) fun n => by
    show (memD X (n + 1) (b + 1)).bind (fun e => ((some (D.int (t : Int))).bind fun e' => ((memD X (n + 1) k).bind fun e'' => _).map _).map _) = _
    rw [memD_f h1, memD_f h2]
    rfl
theorem full_C {X : Mem} {b t k j : Nat} {L : List Sw} (h : X[b]? = some (true, .obj "Panel" (fC b t k j))) (h1 : X[b + 1]? = some (false, dialsX L)) (h2 : X[k]? = some (false, .list [])) (h3 : X[j]? = some (false, .list [])) : P.full X (true, .loc b) = some (.obj "Panel" (gC1 L t)) :=
  full_pan h (by rw [h1]; simp) fun n => by
    show (memD X (n + 1) (b + 1)).bind (fun e => ((some (D.int (t : Int))).bind fun e' => ((memD X (n + 1) k).bind fun e'' => ((memD X (n + 1) j).bind fun e3 => _).map _).map _).map _) = _
    rw [memD_f h1, memD_f h2, memD_f h3]
    rfl
theorem full_D {X : Mem} {b k j : Nat} {L : List Sw} {x : Int} (h : X[b]? = some (true, .obj "Panel" (fD b (tot L) k j (.int x)))) (h1 : X[b + 1]? = some (false, dialsX L)) (h2 : X[k]? = some (false, .list [])) (h3 : X[j]? = some (false, .list [])) : P.full X (true, .loc b) = some (panX L (.list []) (.list []) (.int x)) :=
  full_pan h (by rw [h1]; simp) fun n => by
    show (memD X (n + 1) (b + 1)).bind (fun e => ((some (D.int (tot L : Int))).bind fun e' => ((memD X (n + 1) k).bind fun e'' => ((memD X (n + 1) j).bind fun e3 => ((some (D.int x)).bind _).map _).map _).map _).map _) = _
    rw [memD_f h1, memD_f h2, memD_f h3]
    rfl
theorem putA1 (b : Nat) : putD "dials" (.loc (b + 1)) [] = [(("dials" : Str), D.loc (b + 1))] := rfl
theorem putA2 (b : Nat) : putD "total" (.int 1) [(("dials" : Str), D.loc (b + 1))] = fA b 1 := by unfold fA; walk_at "lkp"; rfl
theorem putA3 (b t t' : Nat) : putD "total" (.int (t' : Int)) (fA b t) = fA b t' := by unfold fA; walk_at "lkp"
theorem putB (b t k : Nat) : putD "bars" (.loc k) (fA b t) = fB b t k := by unfold fA fB; walk_at "lkp"
theorem putB2 (b t k k' : Nat) : putD "bars" (.loc k') (fB b t k) = fB b t k' := by unfold fB; walk_at "lkp"
theorem putC (b t k j : Nat) : putD "barring" (.loc j) (fB b t k) = fC b t k j := by unfold fB fC; walk_at "lkp"
theorem putDf (b t k j : Nat) (x : D) : putD "free" x (fC b t k j) = fD b t k j x := by unfold fC fD; walk_at "lkp"
theorem e_snX {g : Rho → R D} {ρ : RhoQ} {X : Mem} {i : Int} (h : g (snR X ρ) = .ok (.int i)) : qSn g ρ X = .ok (false, .int i) X := by
  rw [e_qSn, h]
  rfl
theorem gC1_ok (L : List Sw) : PanF L (gC1 L (tot L)) := by
  unfold gC1
  constructor <;> (walk_at "lkp")
theorem lcR_ix {τ : D → Rho → R Rho} {ge : Rho → R D} {ρ : Rho} : ∀ (items ys : List D), items.length = ys.length → (∀ (i : Nat) (d y : D), items[i]? = some d → ys[i]? = some y → ∃ ρ1, τ d ρ = .ok ρ1 ∧ ge ρ1 = .ok y) → lcR τ bYes ge ρ items = .ok ys
  | [], [], _, _ => rfl
  | [], _ :: _, h, _ => by simp at h
  | _ :: _, [], h, _ => by simp at h
  | d :: ds, y :: ys, h, hs => by
    obtain ⟨ρ1, e1, e2⟩ := hs 0 d y rfl rfl
    have ih := lcR_ix (τ := τ) (ge := ge) (ρ := ρ) ds ys (by simpa using h) fun i d' y' a b => hs (i + 1) d' y' (by simpa using a) (by simpa using b)
    unfold lcR
    rw [e1, ok_bind]
    rw [show bYes ρ1 = .ok true from rfl, ok_bind, if_pos rfl, e2, ok_bind, ih]
    rfl
theorem off_dials (g : Tg) : ∀ L : List Sw, D.offAll g (L.map dialX) = true
  | [] => rfl
  | q :: L => by
    have h : ∀ l : List Wd, D.offAll g (l.map wdD) = true := by
      intro l
      induction l with
      | nil => rfl
      | cons a l ih => exact ih
    show ((true && (D.offAll g (q.2.map wdD) && true)) && D.offAll g (L.map dialX)) = true
    rw [h, off_dials g L]
    rfl
theorem dials_lc {L : List Sw} (h5 : L.length ≤ 5) (self ru : D) (a3 a4 a5 a6 : Option D) :
    gLc (iSeq (gVar 1)) [3, 4] (τTup 2 (τCons (τName 3) (τCons (τName 4) τNil))) bYes (gA tupD (aCons (gVar 3) (aCons (gA tupXD (aCons (gVar 4) aNil)) aNil))) [some self, some (swsD L), some ru, a3, a4, a5, a6] = .ok (dialsX L) := by
  refine e_lc (L.map swD) (L.map dialX) _ _ _ _ _ _ rfl (by rw [List.length_map]; omega) (lcR_ix _ _ (by simp) fun i d y hd hy => ?_)
  rw [List.getElem?_map] at hd hy
  cases e : L[i]? with
  | none => rw [e] at hd; cases hd
  | some q =>
    rw [e] at hd hy
    cases hd
    cases hy
    refine ⟨_, rfl, ?_⟩
    unfold wipeR wipeR wipeR
    walk_at "pd"
    rfl
theorem total_step (b : Nat) {t : Nat} {q : Sw} {L : List Sw} (ht : t ≤ 100000) {X : Mem} (hM : M.length = b) (T : Mem) (hX : X = M ++ (true, .obj "Panel" (fA b t)) :: (false, dialsX L) :: T) (hs : P.full X sw = some (swsD L)) (o5 o6 : Option P) :
    B_Panel_init_loc_0 (S0 b sw ru (some (false, wdD q.1)) (some (false, .tpx (q.2.map wdD))) o5 o6) X =
      .nx (S0 b sw ru (some (false, wdD q.1)) (some (false, .tpx (q.2.map wdD))) o5 o6) (M ++ (true, .obj "Panel" (fA b (t * q.2.length))) :: (false, dialsX L) :: T) := by
  subst hM
  have h0 : P.full X (true, .loc M.length) = some (.obj "Panel" (gA1 L t)) := full_A (by rw [hX, at_app0]; rfl) (by rw [hX, at_app]; rfl)
  unfold B_Panel_init_loc_0
  have hg : qSn (g2 mulD (gFld ["Panel"] "total" (gVar 0)) (gA lenD (aCons (gVar 4) aNil))) (S0 M.length sw ru (some (false, wdD q.1)) (some (false, .tpx (q.2.map wdD))) o5 o6) X = .ok (false, .int ((t * q.2.length : Nat) : Int)) X := by
    refine e_snX ?_
    have hsn := snS (ru := ru) (o3 := some (false, wdD q.1)) (o4 := some (false, .tpx (q.2.map wdD))) (o5 := o5) (o6 := o6) h0 hs
    rw [show (some ((false, wdD q.1) : P)).bind (P.full X) = some (wdD q.1) from rfl, show (some ((false, .tpx (q.2.map wdD)) : P)).bind (P.full X) = some (.tpx (q.2.map wdD)) from rfl] at hsn
    rw [hsn]
    unfold g2
    rw [e_gFld (go := gVar 0) (d := .int (t : Int)) rfl (by unfold gA1; walk_at "lkp")]
    walk_at "pd"
    rw [e_lenX]
    walk_at "pd"
    rw [List.length_map, e_mul1 _ _ (.inl ⟨by omega, by omega⟩), Int.natCast_mul]
  rw [hX] at hg ⊢
  rw [e_fldX rfl hg (by show 2 < 1000; decide), putA3]
  rfl
end
section
variable {M : Mem} {sw : P} {ru : D}
theorem told_rules_nil (P : D) : F_Panel_told_rules [P, .list []] = .ok (.list []) := by
  show endN (S_Panel_told_rules [some P, some (.list []), none, none]) = _
  unfold S_Panel_told_rules
  walk_at "pd"
  rfl
theorem tot_pos {L : List Sw} (hg : GoodL L) : 0 < tot L := by
  have key : ∀ l : List Nat, (∀ k ∈ l, 0 < k) → 0 < prodR l := by
    intro l
    induction l with
    | nil => intro _; show 0 < 1; decide
    | cons k l ih => intro hl; exact Nat.mul_pos (ih fun k hk => hl k (List.mem_cons_of_mem _ hk)) (hl k List.mem_cons_self)
  refine key (szs L).reverse fun k hk => ?_
  have := List.mem_reverse.mp hk
  unfold szs at this
  obtain ⟨q, hq, rfl⟩ := List.mem_map.mp this
  have := (hg.st q hq).1
  omega
def rep (r : Nat) : Mem := List.replicate r (false, .list [])
/-- the first half: up to the rules -/
def X0 (M : Mem) : Mem := M ++ [(false, .obj "Panel" [])]
def XA (M : Mem) (L : List Sw) (t : Nat) : Mem := M ++ (true, .obj "Panel" (fA M.length t)) :: [(false, dialsX L)]
def XB (M : Mem) (L : List Sw) (r : Nat) : Mem := M ++ (true, .obj "Panel" (fB M.length (tot L) (M.length + r + 1))) :: (false, dialsX L) :: rep r
def XC (M : Mem) (L : List Sw) (r : Nat) : Mem := M ++ (true, .obj "Panel" (fC M.length (tot L) (M.length + r + 1) (M.length + r + 1 + 1))) :: (false, dialsX L) :: rep (r + 1)
def XD (M : Mem) (L : List Sw) (r : Nat) (x : D) : Mem := M ++ (true, .obj "Panel" (fD M.length (tot L) (M.length + r + 1) (M.length + r + 1 + 1) x)) :: (false, dialsX L) :: rep (r + 1)
theorem rep_at {L : List Sw} {r : Nat} (hr : r = 1 ∨ r = 2) (p : P) : (p :: (false, dialsX L) :: rep (r + 1))[r + 1]? = some (false, .list []) := by rcases hr with rfl | rfl <;> rfl
theorem rep_at1 {L : List Sw} {r : Nat} (hr : r = 1 ∨ r = 2) (p : P) : (p :: (false, dialsX L) :: rep (r + 1))[r + 1 + 1]? = some (false, .list []) := by rcases hr with rfl | rfl <;> rfl
theorem rep_at0 {L : List Sw} {r : Nat} (hr : r = 1 ∨ r = 2) (p : P) : (p :: (false, dialsX L) :: rep r)[r + 1]? = some (false, .list []) := by rcases hr with rfl | rfl <;> rfl
theorem p_dials {L : List Sw} (h5 : L.length ≤ 5) (hsw : ∀ T, P.full (M ++ T) sw = some (swsD L)) : sqFld ["Panel"] "dials" (qVar 0) (qNewS (gLc (iSeq (gVar 1)) [3, 4] (τTup 2 (τCons (τName 3) (τCons (τName 4) τNil))) bYes (gA tupD (aCons (gVar 3) (aCons (gA tupXD (aCons (gVar 4) aNil)) aNil))))) (S0 M.length sw ru none none none none) (X0 M) =
    .nx (S0 M.length sw ru none none none none) (M ++ (true, .obj "Panel" [("dials", .loc (M.length + 1))]) :: [(false, dialsX L)]) := by
  have hsn0 := snS (ru := ru) (o3 := none) (o4 := none) (o5 := none) (o6 := none) (full_f (X := X0 M) (k := M.length) (d := .obj "Panel" []) (by unfold X0; rw [at_app0]; rfl)) (hsw [(false, .obj "Panel" [])])
  have g1 : qNewS (gLc (iSeq (gVar 1)) [3, 4] (τTup 2 (τCons (τName 3) (τCons (τName 4) τNil))) bYes (gA tupD (aCons (gVar 3) (aCons (gA tupXD (aCons (gVar 4) aNil)) aNil)))) (S0 M.length sw ru none none none none) (X0 M) =
      .ok (true, .loc (M.length + 1)) (M ++ (false, .obj "Panel" []) :: [(false, dialsX L)]) := by
    rw [e_qNewS (ds := L.map dialX) (by rw [hsn0]; exact dials_lc h5 _ _ _ _ _ _) (off_dials _ L)]
    unfold X0
    rw [List.length_append, List.append_assoc]
    rfl
  unfold X0 at g1 ⊢
  rw [e_fldX (fl := false) (pf := true) rfl g1 (by show 0 < 1000; decide), putA1]
  rfl
theorem p_total {L : List Sw} (hg : GoodL L) (hsw : ∀ T, P.full (M ++ T) sw = some (swsD L)) : ∃ o3 o4, sqForL (qFld ["Panel"] "dials" (qVar 0)) (tqM (tqTup 2 (tqCons (tqName 3) (tqCons (tqName 4) tqNil)))) B_Panel_init_loc_0 (S0 M.length sw ru none none none none) (XA M L 1) =
    .nx (S0 M.length sw ru o3 o4 none none) (XA M L (tot L)) := by
  have h5 := hg.le
  unfold XA
  rw [e_sqForL (k := M.length + 1) (bb := false) (ds := L.map dialX) (M1 := M ++ (true, .obj "Panel" (fA M.length 1)) :: [(false, dialsX L)]) (e_selfFld rfl (by unfold fA; walk_at "lkp")) (by rw [at_app]; rfl)]
  obtain ⟨ρ1, M1, ef, o3, o4, hρ1, hM1⟩ := forLX_out (k := M.length + 1) (bb := false) (ds0 := L.map dialX) (τ := tqM (tqTup 2 (tqCons (tqName 3) (tqCons (tqName 4) tqNil)))) (b := B_Panel_init_loc_0)
    (fun j ρ X => ∃ o3 o4, ρ = S0 M.length sw ru o3 o4 none none ∧ X = M ++ (true, .obj "Panel" (fA M.length (tot (L.take j)))) :: [(false, dialsX L)])
    (fun j ρ X ⟨o3, o4, _, hX⟩ => by rw [hX, at_app]; rfl) (L.map dialX) 0 (S0 M.length sw ru none none none none) (M ++ (true, .obj "Panel" (fA M.length 1)) :: [(false, dialsX L)]) ⟨none, none, rfl, rfl⟩
    (fun j d ρ X hd ⟨o3, o4, hρ, hX⟩ => by
      rw [Nat.zero_add] at *
      subst hρ
      rw [List.getElem?_map] at hd
      obtain ⟨q, hq, rfl⟩ := Option.map_eq_some_iff.mp hd
      have hj := (List.getElem?_eq_some_iff.mp hq).1
      have tl := tot_take (fun q hq => (hg.st q hq).2.1) j
      have tl2 : 4 ^ j ≤ 4 ^ 5 := Nat.pow_le_pow_right (by decide) (by omega)
      have eb := total_step (sw := sw) (ru := ru) (q := q) (L := L) M.length (t := tot (L.take j)) (by omega) (M := M) rfl [] hX (by rw [hX]; exact hsw _) none none
      refine ⟨_, rfl, _, _, eb, some (false, wdD q.1), some (false, .tpx (q.2.map wdD)), rfl, ?_⟩
      rw [take_snoc hq, tot_snoc])
  rw [Nat.zero_add, List.length_map, List.take_length] at hM1
  exact ⟨o3, o4, by rw [ef, hρ1, hM1]⟩
theorem p_rules {L : List Sw} (hsw : ∀ T, P.full (M ++ T) sw = some (swsD L)) (hlk : ∀ T, P.full ((M ++ T).map lkP) sw = some (swsD L)) (hru : ru = .non ∨ ru = .list []) (o3 o4 : Option P) :
    ∃ r, (r = 1 ∨ r = 2) ∧ sqIf (qT (gB (g2 notND (gVar 2) (gC .non)))) (sqFld ["Panel"] "bars" (qVar 0) (qNewSL (gMeth [("Panel", F_Panel_told_rules)] "told_rules" (gVar 0) (aCons (gVar 2) aNil)))) sqNil
      (S0 M.length sw ru o3 o4 none none) (XB M L 1) = .nx (S0 M.length sw ru o3 o4 none none) (XB M L r) := by
  have hc : clR (S0 M.length sw ru o3 o4 none none) = none :: (clR [some sw] ++ some ru :: clR [o3, o4, none, none]) := by
    obtain ⟨bb, d⟩ := sw
    cases bb <;> rfl
  have hc2 : (clR [some sw] ++ some ru :: clR [o3, o4, none, none])[1]? = some (some ru) := by
    obtain ⟨bb, d⟩ := sw
    cases bb <;> rfl
  have hv : gVar 2 (clR (S0 M.length sw ru o3 o4 none none)) = .ok ru := by
    unfold gVar
    rw [hc]
    show (match (clR [some sw] ++ some ru :: clR [o3, o4, none, none])[1]? with | some (some d) => R.ok d | _ => .st) = _
    rw [hc2]
  rcases hru with rfl | rfl
  · refine ⟨1, .inl rfl, ?_⟩
    have ht : gB (g2 notND (gVar 2) (gC .non)) (clR (S0 M.length sw .non o3 o4 none none)) = .ok false := by
      unfold gB g2
      rw [hv]
      rfl
    rw [q_if, ht, q_pick, if_neg Bool.false_ne_true]
    rfl
  · refine ⟨2, .inr rfl, ?_⟩
    have ht : gB (g2 notND (gVar 2) (gC .non)) (clR (S0 M.length sw (.list []) o3 o4 none none)) = .ok true := by
      unfold gB g2
      rw [hv]
      rfl
    rw [q_if, ht, q_pick, if_pos rfl]
    have g3 : qNewSL (gMeth [("Panel", F_Panel_told_rules)] "told_rules" (gVar 0) (aCons (gVar 2) aNil)) (S0 M.length sw (.list []) o3 o4 none none) (XB M L 1) =
        .ok (true, .loc (M.length + 3)) (M ++ (true, .obj "Panel" (fB M.length (tot L) (M.length + 2))) :: [(false, dialsX L), (false, .list []), (false, .list [])]) := by
      unfold qNewSL
      have hsn := snS (ru := .list []) (o3 := o3) (o4 := o4) (o5 := none) (o6 := none) (full_B (X := (XB M L 1).map lkP) (b := M.length) (t := tot L) (k := M.length + 2) (L := L)
        (by unfold XB; rw [List.getElem?_map, at_app0]; rfl) (by unfold XB; rw [List.getElem?_map, at_app]; rfl) (by unfold XB; rw [List.getElem?_map, at_app]; rfl)) (hlk _)
      rw [hsn, e_gMeth (go := gVar 0) (as := [.list []]) rfl (by unfold gB1; walk_at "lkp") rfl, told_rules_nil]
      show RQ.ok (true, D.loc (XB M L 1).length) (XB M L 1 ++ [(false, D.list [])]) = _
      unfold XB
      rw [List.length_append, List.append_assoc]
      rfl
    unfold XB at g3 ⊢
    rw [e_fldX (fl := true) (pf := true) rfl g3 (by show 3 < 1000; decide), putB2]
    rfl
theorem p_barring {L : List Sw} {r : Nat} (hr : r = 1 ∨ r = 2) (hsw : ∀ T, P.full (M ++ T) sw = some (swsD L)) (o3 o4 : Option P) :
    sqFld ["Panel"] "barring" (qVar 0) (qNewS (gLc (iSeq (gFld ["Panel"] "bars" (gVar 0))) [5] (τName 5) bYes (gMeth [("Panel", F_Panel_box)] "box" (gVar 0) (aCons (gVar 5) aNil)))) (S0 M.length sw ru o3 o4 none none) (XB M L r) = .nx (S0 M.length sw ru o3 o4 none none) (XC M L r) := by
  have g4 : qNewS (gLc (iSeq (gFld ["Panel"] "bars" (gVar 0))) [5] (τName 5) bYes (gMeth [("Panel", F_Panel_box)] "box" (gVar 0) (aCons (gVar 5) aNil))) (S0 M.length sw ru o3 o4 none none) (XB M L r) =
      .ok (true, .loc (M.length + r + 1 + 1)) (M ++ (true, .obj "Panel" (fB M.length (tot L) (M.length + r + 1))) :: (false, dialsX L) :: rep (r + 1)) := by
    have hsn := snS (ru := ru) (o3 := o3) (o4 := o4) (o5 := none) (o6 := none) (full_B (X := XB M L r) (b := M.length) (t := tot L) (k := M.length + r + 1) (L := L)
      (by unfold XB; rw [at_app0]; rfl) (by unfold XB; rw [at_app]; rfl) (by unfold XB; rw [Nat.add_assoc, at_app]; exact rep_at0 hr _)) (hsw _)
    rw [e_qNewS (ds := []) (by
      rw [hsn]
      exact e_lc [] [] _ _ _ _ _ _ (by unfold iSeq; rw [e_gFld (go := gVar 0) (d := .list []) rfl (by unfold gB1; walk_at "lkp")]; rfl) (by decide) rfl) rfl]
    unfold XB
    rw [List.length_append, List.append_assoc]
    rcases hr with rfl | rfl <;> rfl
  unfold XB at g4 ⊢
  rw [e_fldX (fl := true) (pf := true) rfl g4 (by show 3 < 1000; decide), putC]
  rfl
theorem p_free {L : List Sw} {r : Nat} (hr : r = 1 ∨ r = 2) (h256 : tot L ≤ 256) (o3 o4 : Option P) :
    sqFld ["Panel"] "free" (qVar 0) (qMeth [("Panel", (snG F_Panel_all_choices))] "all_choices" (qVar 0) (qPA aNil)) (S0 M.length sw ru o3 o4 none none) (XC M L r) = .nx (S0 M.length sw ru o3 o4 none none) (XD M L r (.int ((mskN (tot L) fun _ => true : Nat) : Int))) := by
  have h0 : (XC M L r)[M.length]? = some (true, .obj "Panel" (fC M.length (tot L) (M.length + r + 1) (M.length + r + 1 + 1))) := by unfold XC; rw [at_app0]; rfl
  have g5 : qMeth [("Panel", (snG F_Panel_all_choices))] "all_choices" (qVar 0) (qPA aNil) (S0 M.length sw ru o3 o4 none none) (XC M L r) = .ok (false, .int ((mskN (tot L) fun _ => true : Nat) : Int)) (XC M L r) := by
    rw [e_qMeth (c := "Panel") (fs := fC M.length (tot L) (M.length + r + 1) (M.length + r + 1 + 1)) (b := true) (G := snG F_Panel_all_choices) (p := (true, .loc M.length)) (ps := []) rfl (by
      show (match (XC M L r)[M.length]? with | some (b, .obj c fs) => some (b, c, fs) | _ => none) = _
      rw [h0]) (by unfold fC; walk_at "lkp") (by rw [List.lookup_cons_self]) rfl]
    have hf := full_C (X := XC M L r) (b := M.length) (t := tot L) (k := M.length + r + 1) (j := M.length + r + 1 + 1) (L := L) h0 (by unfold XC; rw [at_app]; rfl)
      (by unfold XC; rw [Nat.add_assoc, at_app]; exact rep_at hr _) (by unfold XC; rw [Nat.add_assoc, Nat.add_assoc, at_app]; exact rep_at1 hr _)
    show (match (P.full (XC M L r) (true, .loc M.length)).bind (fun d => (some []).map (d :: ·)) with | some ds => upS _ (F_Panel_all_choices ds) | none => .st) = _
    rw [hf]
    show upS _ (F_Panel_all_choices [.obj "Panel" (gC1 L (tot L))]) = _
    rw [all_choices_at (gC1_ok L) h256]
    rfl
  unfold XC at g5 ⊢
  rw [e_fldX (fl := true) (pf := false) rfl g5 (by show 4 < 1000; decide), putDf]
  rfl
theorem xd_at {L : List Sw} {r : Nat} (hr : r = 1 ∨ r = 2) (x : D) : (XD M L r x)[M.length]? = some (true, .obj "Panel" (fD M.length (tot L) (M.length + r + 1) (M.length + r + 1 + 1) x)) ∧ (XD M L r x)[M.length + 1]? = some (false, dialsX L) ∧ (XD M L r x)[M.length + r + 1]? = some (false, .list []) ∧ (XD M L r x)[M.length + r + 1 + 1]? = some (false, .list []) := by
  unfold XD
  refine ⟨by rw [at_app0]; rfl, by rw [at_app]; rfl, by rw [Nat.add_assoc, at_app]; exact rep_at hr _, by rw [Nat.add_assoc, Nat.add_assoc, at_app]; exact rep_at1 hr _⟩
theorem initX {L : List Sw} (hg : GoodL L) (hsw : ∀ T, P.full (M ++ T) sw = some (swsD L)) (hlk : ∀ T, P.full ((M ++ T).map lkP) sw = some (swsD L)) (hru : ru = .non ∨ ru = .list []) :
    ∃ r, (r = 1 ∨ r = 2) ∧ mkQ "Panel" FQ_Panel_init_loc [sw, (false, ru)] M = .ok (true, .loc M.length) (XD M L r (.int ((mskN (tot L) fun _ => true : Nat) : Int))) := by
  have h256 := hg.tt
  have h5 := hg.le
  have e0 : mkQ "Panel" FQ_Panel_init_loc [sw, (false, ru)] M = (match endQ (SQ_Panel_init_loc (S0 M.length sw ru none none none none) (X0 M)) with
    | .ok (_, .non) M1 => RQ.ok (true, D.loc M.length) M1
    | .ok _ _ => .st
    | .ex x M1 => .ex x M1
    | .st => .st) := rfl
  rw [e0]
  suffices hh : ∃ r, (r = 1 ∨ r = 2) ∧ ∃ ρ', SQ_Panel_init_loc (S0 M.length sw ru none none none none) (X0 M) = .nx ρ' (XD M L r (.int ((mskN (tot L) fun _ => true : Nat) : Int))) by
    obtain ⟨r, hr, ρ', e⟩ := hh
    refine ⟨r, hr, ?_⟩
    rw [e]
    rfl
  unfold SQ_Panel_init_loc
  rw [q_seq, q_ifS, e_qSnT]
  have hsn0 := snS (ru := ru) (o3 := none) (o4 := none) (o5 := none) (o6 := none) (full_f (X := X0 M) (k := M.length) (d := .obj "Panel" []) (by unfold X0; rw [at_app0]; rfl)) (hsw [(false, .obj "Panel" [])])
  rw [hsn0]
  have e1 : ∀ a3 a4 a5 a6, bNot (gB (gA F_are_switches (aCons (gVar 1) aNil))) [some (.obj "Panel" []), some (swsD L), some ru, a3, a4, a5, a6] = .ok false := fun a3 a4 a5 a6 => by
    walk_at "pd"
    rw [are_switches_at hg]
    walk_at "pd"
  rw [e1, e_tok, pk_ok, if_neg Bool.false_ne_true, q_nil, q_tnx, q_seq]
  rw [p_dials h5 hsw, q_tnx, q_seq]
  rw [e_fldX (fl := true) (pf := false) (d := .int 1) (fs := [("dials", .loc (M.length + 1))]) (T' := [(false, dialsX L)]) rfl rfl (by show 1 < 1000; decide), q_tnx, putA2, q_seq]
  rw [show M ++ (true || false, D.obj "Panel" (fA M.length 1)) :: [(false, dialsX L)] = XA M L 1 from rfl]
  obtain ⟨o3, o4, et⟩ := p_total (sw := sw) (ru := ru) hg hsw
  rw [et, q_tnx, q_seq]
  have g2' : qNew (gA lstD aNil) (S0 M.length sw ru o3 o4 none none) (XA M L (tot L)) = .ok (true, .loc (M.length + 2)) (M ++ (true, .obj "Panel" (fA M.length (tot L))) :: [(false, dialsX L), (false, .list [])]) := by
    rw [e_qNew]
    show RQ.ok (true, D.loc (XA M L (tot L)).length) (XA M L (tot L) ++ [(false, D.list [])]) = _
    unfold XA
    rw [List.length_append, List.append_assoc]
    rfl
  have g3' : sqFld ["Panel"] "bars" (qVar 0) (qNew (gA lstD aNil)) (S0 M.length sw ru o3 o4 none none) (XA M L (tot L)) = .nx (S0 M.length sw ru o3 o4 none none) (XB M L 1) := by
    unfold XA at g2' ⊢
    rw [e_fldX (fl := true) (pf := true) rfl g2' (by show 2 < 1000; decide), putB]
    rfl
  rw [g3', q_tnx, q_seq]
  obtain ⟨r, hr, er⟩ := p_rules hsw hlk hru o3 o4
  refine ⟨r, hr, ?_⟩
  rw [er, q_tnx, q_seq, p_barring hr hsw, q_tnx, q_seq, p_free hr h256, q_tnx, q_seq]
  obtain ⟨x0, x1, x2, x3⟩ := xd_at (M := M) (L := L) hr (.int ((mskN (tot L) fun _ => true : Nat) : Int))
  have efl : sqForL (qFld ["Panel"] "barring" (qVar 0)) (tqM (tqName 6)) B_Panel_init_loc_1 (S0 M.length sw ru o3 o4 none none) (XD M L r (.int ((mskN (tot L) fun _ => true : Nat) : Int))) = .nx (S0 M.length sw ru o3 o4 none none) (XD M L r (.int ((mskN (tot L) fun _ => true : Nat) : Int))) := by
    rw [e_sqForL (k := M.length + r + 1 + 1) (bb := false) (ds := []) (M1 := XD M L r (.int ((mskN (tot L) fun _ => true : Nat) : Int))) (r_qfld (k := M.length) (b := true) (c := "Panel") (fs := fD M.length (tot L) (M.length + r + 1) (M.length + r + 1 + 1) (.int ((mskN (tot L) fun _ => true : Nat) : Int))) rfl x0 (by decide +kernel) (by unfold fD; walk_at "lkp")) x3]
    unfold forLX
    rw [if_pos x3]
  rw [efl, q_tnx, q_ifS, e_qSnT]
  rw [snS (full_D (L := L) x0 x1 x2 x3) (show P.full (XD M L r (.int ((mskN (tot L) fun _ => true : Nat) : Int))) sw = some (swsD L) from hsw _)]
  have hne := mskN_ne (P := fun _ => true) (tot_pos hg) rfl
  have et : ∀ a3 a4 a5 a6, gB (g2 eqD (gFld ["Panel"] "free" (gVar 0)) (gC (.int 0))) [some (panX L (.list []) (.list []) (.int ((mskN (tot L) fun _ => true : Nat) : Int))), some (swsD L), some ru, a3, a4, a5, a6] = .ok false := fun a3 a4 a5 a6 => by
    unfold gB g2
    rw [e_gFld (go := gVar 0) (d := .int ((mskN (tot L) fun _ => true : Nat) : Int)) rfl (by unfold pfX; walk_at "lkp"), ok_bind]
    show asB (.bl (((mskN (tot L) fun _ => true : Nat) : Int) == 0)) = _
    rw [beq_eq_false_iff_ne.mpr (by omega)]
    rfl
  rw [et, e_tok, pk_ok, if_neg Bool.false_ne_true]
  exact ⟨_, rfl⟩
end
end Pd
set_option maxHeartbeats 4000000
namespace Pd
open PySem PySem.Spec PyProof.Rows L2
local macro_rules | `(tactic| walk_at "pd") => `(tactic| try simp -implicitDefEqProofs only [e_seq, e_thn, e_trt, e_trn, e_tex, e_if, e_pick, e_pickx, e_ret, e_retN, e_set, e_drop, e_for, e_ofR, e_ofRx, e_ofI, e_nil, e_asg, endS_rt, endS_rn, endS_nx, endS_ex, endN_rn, endN_ex, gC, g1, g2, g3, gA, aNil, aCons, gAnd, gOr, gNot, gB, gTru, bAnd, bOr, bNot, gIf, iA, iSeq, gSl, pNone, pSome, ok_bind, ex_bind, st_bind, gVar, List.getElem?_cons_zero, List.getElem?_cons_succ, List.set_cons_zero, List.set_cons_succ, if_true, if_false, Bool.not_true, Bool.not_false, Bool.false_eq_true, ↓reduceIte, e_asB, e_lt, e_gt, e_le, e_ge, e_ltS, e_gtS, e_eqI, e_eqS, e_eqB, e_neI, e_neS, e_neB, e_addI, e_iaddI, e_subI, e_negI, e_andI, e_orI, e_xorI, e_lenL, e_lenT, e_ord, e_intB, e_intI, e_inS, e_ninS, e_itL, e_itT, e_itS, e_zip, e_enum, e_slL, e_slT, e_asI, e_isN1, e_isN2, e_notN1, e_notN2, e_truB, e_truI, e_truL, e_isi_int_non, e_isi_int_bl, e_isi_int_int, e_isi_int_str, e_isi_int_list, e_isi_int_tup, e_isi_int_dict, e_isi_int_dictT, e_isi_bool_non, e_isi_bool_bl, e_isi_bool_int, e_isi_bool_str, e_isi_bool_list, e_isi_bool_tup, e_isi_bool_dict, e_isi_bool_dictT, e_isi_str_non, e_isi_str_bl, e_isi_str_int, e_isi_str_str, e_isi_str_list, e_isi_str_tup, e_isi_str_dict, e_isi_str_dictT, e_isi_list_non, e_isi_list_bl, e_isi_list_int, e_isi_list_str, e_isi_list_list, e_isi_list_tup, e_isi_list_dict, e_isi_list_dictT, e_isi_tuple_non, e_isi_tuple_bl, e_isi_tuple_int, e_isi_tuple_str, e_isi_tuple_list, e_isi_tuple_tup, e_isi_tuple_dict, e_isi_tuple_dictT, e_isi_dict_non, e_isi_dict_bl, e_isi_dict_int, e_isi_dict_str, e_isi_dict_list, e_isi_dict_tup, e_isi_dict_dict, e_isi_dict_dictT, e_iteAnd, e_iteOr, e_iteAndD, e_iteOrD, e_then_ite, e_endS_ite, e_endN_ite, e_ofR_ite, e_pick_ite, e_bind_ite, e_modI, e_fdivI, e_mul1, e_pow10, e_pow2, e_shl1, e_shrI, e_addS, e_iaddS, e_addL, e_addT, e_lenS, e_lst, e_strLit, String.reduceBEq, e_ixL0, e_ixL1, e_ixL2, e_ixL3, e_ixL4, e_ixL5, e_ixL6, e_ixL7, e_ixL8, e_ixT0, e_ixT1, e_ixT2, e_ixT3, e_ixT4, e_ixT5, e_tupleL, e_listT, e_tupleT, eqX_int, neX_int, eqX_S, neX_S, eqX_t0, neX_t0, e_catL, e_tup, e_inT, e_ninT, e_inL, e_ninL, e_slS, Int.reduceLT, Int.reduceLE, Int.reduceMul, Int.reduceAdd, Int.reduceSub, Int.reducePow, Int.reduceNeg, Int.reduceToNat, List.length_cons, List.length_nil, List.length_append, Nat.reduceAdd, Nat.reduceLeDiff, flD, List.all_cons, List.all_nil, Bool.and_true, Bool.true_and, Bool.and_self, decide_true, decide_false, or_true, true_or, and_true, true_and, eq_self])
theorem e_aqOk {g : GQ} {t : GQA} {ρ : RhoQ} {M M1 M2 : Mem} {p : P} {ps : List P} (h : g ρ M = .ok p M1) (h2 : t ρ M1 = .ok ps M2) : aqCons g t ρ M = .ok (p :: ps) M2 := by
  unfold aqCons
  rw [h]
  show (t ρ M1).bind _ = _
  rw [h2]
  rfl
def handD : Nat → List Sw → List D
  | _, [] => []
  | k, q :: L => .tup [wdD q.1, .loc k] :: handD (k + 1) L
theorem handD_snoc : ∀ (L : List Sw) (k : Nat) (q : Sw), handD k (L ++ [q]) = handD k L ++ [.tup [wdD q.1, .loc (k + L.length)]]
  | [], k, q => rfl
  | p :: L, k, q => by
    show D.tup [wdD p.1, .loc k] :: handD (k + 1) (L ++ [q]) = _
    rw [handD_snoc L (k + 1) q, List.length_cons, show k + 1 + L.length = k + (L.length + 1) by omega]
    rfl
theorem handD_at : ∀ (L : List Sw) (k j : Nat) (d : D), (handD k L)[j]? = some d → ∃ q, L[j]? = some q ∧ d = .tup [wdD q.1, .loc (k + j)]
  | [], k, j, d, h => by simp [handD] at h
  | q :: L, k, 0, d, h => by
    cases h
    exact ⟨q, rfl, rfl⟩
  | q :: L, k, j + 1, d, h => by
    obtain ⟨q', h1, h2⟩ := handD_at L (k + 1) j d (by simpa [handD] using h)
    exact ⟨q', by simpa using h1, by rw [h2, show k + 1 + j = k + (j + 1) by omega]⟩
theorem put_hand {f : Nat → Option D} : ∀ (L : List Sw) (k : Nat), (∀ i q, L[i]? = some q → f (k + i) = some (.list (q.2.map wdD))) → D.putAll f (handD k L) = some (L.map swD)
  | [], k, _ => rfl
  | q :: L, k, h => by
    have h0 := h 0 q rfl
    have ih := put_hand (f := f) L (k + 1) fun i q' e => by rw [show k + 1 + i = k + (i + 1) by omega]; exact h (i + 1) q' (by simpa using e)
    show (((some (wdD q.1)).bind fun e => (((f k).bind fun e' => (some []).map (e' :: ·))).map (e :: ·)).map D.tup).bind (fun e => (D.putAll f (handD (k + 1) L)).map (e :: ·)) = _
    rw [show f k = _ from h0, ih]
    rfl
def cellsM (L : List Sw) : Mem := L.map fun q => (false, .list (q.2.map wdD))
def handM (L : List Sw) : Mem := cellsM L ++ [(true, .list (handD 0 L))]
theorem cellsM_len (L : List Sw) : (cellsM L).length = L.length := List.length_map _
theorem handM_len (L : List Sw) : (handM L).length = L.length + 1 := by unfold handM; rw [List.length_append, cellsM_len]; rfl
theorem cellsM_at {L : List Sw} {i : Nat} {q : Sw} (h : L[i]? = some q) : (cellsM L)[i]? = some (false, .list (q.2.map wdD)) := by unfold cellsM; rw [List.getElem?_map, h]; rfl
theorem handM_at {L : List Sw} {i : Nat} {q : Sw} (h : L[i]? = some q) : (handM L)[i]? = some (false, .list (q.2.map wdD)) := by
  unfold handM
  rw [List.getElem?_append_left (by rw [cellsM_len]; exact (List.getElem?_eq_some_iff.mp h).1), cellsM_at h]
theorem handM_n (L : List Sw) : (handM L)[L.length]? = some (true, .list (handD 0 L)) := by
  unfold handM
  rw [List.getElem?_append_right (by rw [cellsM_len]; exact Nat.le_refl _), cellsM_len, Nat.sub_self]
  rfl
theorem handM_lk (L : List Sw) : (handM L).map lkP = handM L := by
  unfold handM cellsM
  rw [List.map_append, List.map_map]
  rfl
theorem hand_full {L : List Sw} (h1 : 1 ≤ L.length) (T : Mem) : P.full (handM L ++ T) (true, .loc L.length) = some (swsD L) := by
  have hn : (handM L ++ T)[L.length]? = some (true, .list (handD 0 L)) := by rw [List.getElem?_append_left (by rw [handM_len]; omega), handM_n]
  obtain ⟨n, hX, e⟩ := full_loc hn
  rw [e, memD_t hn]
  rw [List.length_append, handM_len] at hX
  show (D.putAll (memD (handM L ++ T) n) (handD 0 L)).map D.list = _
  have : n = n - 1 + 1 := by omega
  rw [this, put_hand L 0 fun i q hq => by
    rw [Nat.zero_add]
    exact memD_f (by rw [List.getElem?_append_left (by rw [handM_len]; have := (List.getElem?_eq_some_iff.mp hq).1; omega), handM_at hq])]
  rfl
theorem offL_wds {g : Tg} : ∀ ws : List Wd, D.offAll g (ws.map wdD) = true
  | [] => rfl
  | w :: ws => offL_wds ws
def lpR (L : List Sw) (z : Int) (a b c d : Option P) : RhoQ := [some (false, swsD L), some (false, .int z), a, b, c, d]
theorem hand_made {L : List Sw} (h1 : 1 ≤ L.length) (h5 : L.length ≤ 5) (z : Int) :
    qLcE (iSeq (gVar 0)) [3, 4] (tqTup 2 (tqCons (tqName 3) (tqCons (tqName 4) tqNil))) (qTup (aqCons (qVar 3) (aqCons (qNewS (gA listD (aCons (gVar 4) aNil))) aqNil))) (lpR L z none none none none) [] = .ok (true, .loc L.length) (handM L) := by
  obtain ⟨rs, M', e, hM, hr⟩ := lcQ_out (τ := tqTup 2 (tqCons (tqName 3) (tqCons (tqName 4) tqNil))) (ge := qTup (aqCons (qVar 3) (aqCons (qNewS (gA listD (aCons (gVar 4) aNil))) aqNil))) (ρ := wipeQ (lpR L z none none none none) [3, 4])
    (fun n qs M => M = cellsM (L.take n) ∧ qs = (handD 0 (L.take n)).map fun d => (true, d)) (L.map swD) 0 [] [] ⟨by rw [List.take_zero]; rfl, by rw [List.take_zero]; rfl⟩ (fun j d qs M hd ⟨hM, hq⟩ => by
      rw [Nat.zero_add] at *
      rw [List.getElem?_map] at hd
      obtain ⟨q, hq', rfl⟩ := Option.map_eq_some_iff.mp hd
      have hj := (List.getElem?_eq_some_iff.mp hq').1
      have hl : M.length = j := by rw [hM, cellsM_len, List.length_take]; omega
      have g1 : qNewS (gA listD (aCons (gVar 4) aNil)) [some (false, swsD L), some (false, .int z), none, some (false, wdD q.1), some (false, .list (q.2.map wdD)), none] M = .ok (true, .loc j) (M ++ [(false, .list (q.2.map wdD))]) := by
        rw [e_qNewS (ds := q.2.map wdD) rfl (offL_wds _), hl]
      refine ⟨[some (false, swsD L), some (false, .int z), none, some (false, wdD q.1), some (false, .list (q.2.map wdD)), none], (true, .tup [wdD q.1, .loc j]), M ++ [(false, .list (q.2.map wdD))], rfl, ?_, ?_, ?_⟩
      · unfold qTup
        rw [e_aqOk (p := (false, wdD q.1)) (M1 := M) rfl (e_aqOk g1 (ps := []) rfl)]
        rfl
      · rw [hM, take_snoc hq']
        unfold cellsM
        rw [List.map_append]
        rfl
      · rw [hq, take_snoc hq', handD_snoc, List.map_append, Nat.zero_add, List.length_take, show min j L.length = j by omega]
        rfl)
  rw [Nat.zero_add, List.length_map, List.take_length] at hM hr
  rw [List.nil_append] at hr
  rw [e_qLcE (M' := M') (rs := rs) (items := L.map swD) rfl (by rw [List.length_map, sizeLine_eq]; omega) e, hM, hr, cellsM_len]
  have ha : ((handD 0 L).map fun d => ((true, d) : P)).any (fun p => p.1) = true := by
    cases L with
    | nil => simp at h1
    | cons q L => rfl
  rw [ha, List.map_map]
  unfold handM
  rw [show ((fun p : P => p.2) ∘ fun d => (true, d)) = (id : D → D) from rfl, List.map_id]
/-- what is handed in stands in the memory, for ever so much more of it -/
structure SwP (M : Mem) (L : List Sw) : Prop where
  a : ∀ T, P.full (M ++ T) (true, .loc L.length) = some (swsD L)
  b : ∀ T, P.full ((M ++ T).map lkP) (true, .loc L.length) = some (swsD L)
theorem swP_hand {L : List Sw} (h1 : 1 ≤ L.length) : SwP (handM L) L := ⟨hand_full h1, fun T => by rw [List.map_append, handM_lk]; exact hand_full h1 _⟩
theorem SwP.up {M : Mem} {L : List Sw} (h : SwP M L) (Y : Mem) : SwP (M ++ Y) L := ⟨fun T => by rw [List.append_assoc]; exact h.a _, fun T => by rw [List.append_assoc]; exact h.b _⟩
/-- a panel stands in the memory behind what was handed in -/
structure PanAt (L : List Sw) (b : Nat) (X : Mem) : Prop where
  ge : L.length < b
  at_ : ∃ k j, X[b]? = some (true, .obj "Panel" (fD b (tot L) k j (.int ((mskN (tot L) fun _ => true : Nat) : Int)))) ∧ X[b + 1]? = some (false, dialsX L) ∧ (b < k ∧ X[k]? = some (false, .list [])) ∧ (b < j ∧ X[j]? = some (false, .list []))
theorem PanAt.keep {L : List Sw} {b : Nat} {X Y : Mem} (h : PanAt L b X) (k : ∀ i, L.length < i → Y[i]? = X[i]?) : PanAt L b Y := by
  obtain ⟨hb, k1, j1, h1, h2, ⟨h3, h4⟩, h5, h6⟩ := h
  exact ⟨hb, k1, j1, by rw [k b hb, h1], by rw [k (b + 1) (by omega), h2], ⟨h3, by rw [k k1 (by omega), h4]⟩, h5, by rw [k j1 (by omega), h6]⟩
theorem PanAt.full {L : List Sw} {b : Nat} {X : Mem} (h : PanAt L b X) : P.full X (true, .loc b) = some (panX L (.list []) (.list []) (.int ((mskN (tot L) fun _ => true : Nat) : Int))) := by
  obtain ⟨_, k, j, h1, h2, ⟨_, h4⟩, _, h6⟩ := h
  exact full_D h1 h2 h4 h6
theorem xd_pan {M : Mem} {L : List Sw} {r : Nat} (hr : r = 1 ∨ r = 2) (hM : L.length < M.length) : PanAt L M.length (XD M L r (.int ((mskN (tot L) fun _ => true : Nat) : Int))) := by
  obtain ⟨x0, x1, x2, x3⟩ := xd_at (M := M) (L := L) hr (.int ((mskN (tot L) fun _ => true : Nat) : Int))
  exact ⟨hM, _, _, x0, x1, ⟨by omega, x2⟩, by omega, x3⟩
/-- the state between two steps: M is handM L and more -/
structure LpS (L : List Sw) (b : Nat) (X : Mem) : Prop where
  h : ∃ Y, X = handM L ++ Y
  p : PanAt L b X
theorem mk_pan {L : List Sw} (hg : GoodL L) {M : Mem} (hY : ∃ Y, M = handM L ++ Y) {ru : D} (hru : ru = .non ∨ ru = .list []) : ∃ X, mkQ "Panel" FQ_Panel_init_loc [(true, .loc L.length), (false, ru)] M = .ok (true, .loc M.length) X ∧ LpS L M.length X := by
  obtain ⟨Y, rfl⟩ := hY
  have hs := (swP_hand hg.ne).up Y
  obtain ⟨r, hr, e⟩ := initX (M := handM L ++ Y) (sw := (true, .loc L.length)) hg hs.a hs.b hru
  exact ⟨_, e, ⟨_, by unfold XD; rw [List.append_assoc]⟩, xd_pan hr (by rw [List.length_append, handM_len]; omega)⟩
theorem again {L : List Sw} (hg : GoodL L) (z : Int) (t : Rho → R Bool) (ru : D) (gr : GQ) (hru : ru = .non ∨ ru = .list []) {b : Nat} {X : Mem} (h : LpS L b X) (k : Bool) (ht : ∀ a b c, t [some (swsD L), some (.int z), none, a, b, c] = .ok k) (hgr : ∀ ρ M, gr ρ M = .ok (false, ru) M) :
    ∃ b' X', sqIf (qT t) (sqSet 5 (qCall (mkQ "Panel" FQ_Panel_init_loc) (aqCons (qVar 2) (aqCons gr aqNil)))) sqNil (lpR L z (some (true, .loc L.length)) none none (some (true, .loc b))) X = .nx (lpR L z (some (true, .loc L.length)) none none (some (true, .loc b'))) X' ∧ LpS L b' X' := by
  rw [q_if, show clR (lpR L z (some (true, .loc L.length)) none none (some (true, .loc b))) = [some (swsD L), some (.int z), none, none, none, none] from rfl, ht, q_pick]
  cases k with
  | false => exact ⟨b, X, rfl, h⟩
  | true =>
    obtain ⟨X', e, h'⟩ := mk_pan hg h.h hru
    refine ⟨_, X', ?_, h'⟩
    rw [if_pos rfl, e_sqSet]
    have ea : aqCons (qVar 2) (aqCons gr aqNil) (lpR L z (some (true, .loc L.length)) none none (some (true, .loc b))) X = .ok [(true, .loc L.length), (false, ru)] X := by
      exact e_aqOk rfl (e_aqOk (hgr _ _) rfl)
    have ec : qCall (mkQ "Panel" FQ_Panel_init_loc) (aqCons (qVar 2) (aqCons gr aqNil)) (lpR L z (some (true, .loc L.length)) none none (some (true, .loc b))) X = .ok (true, .loc X.length) X' := by
      unfold qCall
      rw [ea]
      exact e
    rw [ec]
    rfl
theorem law_panel_at {L : List Sw} (hg : GoodL L) (z : Int) : FQ__law_panel.down [swsD L, .int z] = .ok (panX L (.list []) (.list []) (.int ((mskN (tot L) fun _ => true : Nat) : Int))) := by
  have h1 := hg.ne
  have h5 := hg.le
  have e0 : FQ__law_panel.down [swsD L, .int z] = (endQ (SQ__law_panel (lpR L z none none none none) [])).down := rfl
  rw [e0]
  unfold SQ__law_panel
  rw [q_seq, e_sqSet, hand_made h1 h5]
  rw [show SQ.of (.ok (true, D.loc L.length) (handM L)) (lpR L z none none none none) (fun p M => SQ.nx ((lpR L z none none none none).set 2 (some p)) M) = SQ.nx (lpR L z (some (true, .loc L.length)) none none none) (handM L) from rfl, q_tnx]
  obtain ⟨X1, e1, s1⟩ := mk_pan hg (M := handM L) ⟨[], by rw [List.append_nil]⟩ (ru := .non) (.inl rfl)
  have ec : qCall (mkQ "Panel" FQ_Panel_init_loc.dfl) (aqCons (qVar 2) aqNil) (lpR L z (some (true, .loc L.length)) none none none) (handM L) = .ok (true, .loc (handM L).length) X1 := e1
  rw [q_seq, e_sqSet, ec]
  rw [show SQ.of (.ok (true, D.loc (handM L).length) X1) (lpR L z (some (true, .loc L.length)) none none none) (fun p M => SQ.nx ((lpR L z (some (true, .loc L.length)) none none none).set 5 (some p)) M) = SQ.nx (lpR L z (some (true, .loc L.length)) none none (some (true, .loc (handM L).length))) X1 from rfl, q_tnx, q_seq]
  obtain ⟨b2, X2, e2, s2⟩ := again hg z (gB (g2 eqD (g2 modD (gVar 1) (gC (.int 3))) (gC (.int 1)))) .non (qP (gC .non)) (.inl rfl) s1 (z % 3 == 1) (fun a b c => by walk_at "pd") (fun ρ M => rfl)
  rw [e2, q_tnx, q_seq]
  obtain ⟨b3, X3, e3, s3⟩ := again hg z (gB (g2 eqD (g2 modD (gVar 1) (gC (.int 3))) (gC (.int 2)))) (.list []) (qP (gA lstD aNil)) (.inr rfl) s2 (z % 3 == 2) (fun a b c => by walk_at "pd") (fun ρ M => rfl)
  rw [e3, q_tnx, q_seq]
  -- what was handed in is emptied
  obtain ⟨⟨Y, hY⟩, hp⟩ := s3
  have hn : X3[L.length]? = some (true, .list (handD 0 L)) := by rw [hY, List.getElem?_append_left (by rw [handM_len]; omega), handM_n]
  rw [e_sqForL (k := L.length) (bb := true) (ds := handD 0 L) (M1 := X3) rfl hn]
  obtain ⟨ρ4, X4, e4, o3, o4, hρ4, hn4, hk4, _⟩ := forLX_out (k := L.length) (bb := true) (ds0 := handD 0 L) (τ := tqM (tqTup 2 (tqCons (tqName 3) (tqCons (tqName 4) tqNil)))) (b := B__law_panel_0)
    (fun j ρ X => ∃ o3 o4, ρ = lpR L z (some (true, .loc L.length)) o3 o4 (some (true, .loc b3)) ∧ X[L.length]? = some (true, .list (handD 0 L)) ∧ (∀ i, L.length < i → X[i]? = X3[i]?) ∧ ∀ i, i < L.length → ∃ l, X[i]? = some (false, .list l))
    (fun j ρ X ⟨o3, o4, _, hX, _⟩ => hX) (handD 0 L) 0 (lpR L z (some (true, .loc L.length)) none none (some (true, .loc b3))) X3 ⟨none, none, rfl, hn, fun i _ => rfl, fun i hi => by
      obtain ⟨q, hq⟩ : ∃ q, L[i]? = some q := ⟨_, List.getElem?_eq_getElem hi⟩
      exact ⟨_, by rw [hY, List.getElem?_append_left (by rw [handM_len]; omega), handM_at hq]⟩⟩
    (fun j d ρ X hd ⟨o3, o4, hρ, hX, hk, hl⟩ => by
      subst hρ
      obtain ⟨q, hq, rfl⟩ := handD_at L 0 j d hd
      have hj := (List.getElem?_eq_some_iff.mp hq).1
      rw [Nat.zero_add]
      obtain ⟨l, el⟩ := hl j hj
      have hjX : j < X.length := (List.getElem?_eq_some_iff.mp el).1
      refine ⟨_, rfl, lpR L z (some (true, .loc L.length)) (some (true, wdD q.1)) (some (true, .loc j)) (some (true, .loc b3)), X.set j (false, .list []), ?_, _, _, rfl, ?_, fun i hi => ?_, fun i hi => ?_⟩
      · unfold B__law_panel_0
        show clrP _ (true, .loc j) X = _
        unfold clrP
        dsimp only
        rw [el]
        rfl
      · rw [List.getElem?_set_ne (by omega)]
        exact hX
      · rw [List.getElem?_set_ne (by omega)]
        exact hk i hi
      · by_cases hij : j = i
        · subst hij
          exact ⟨[], by rw [List.getElem?_set_self hjX]⟩
        · rw [List.getElem?_set_ne hij]
          exact hl i hi)
  rw [e4, q_tnx, hρ4, q_seq]
  have ec5 : sqClr (qVar 2) (lpR L z (some (true, .loc L.length)) o3 o4 (some (true, .loc b3))) X4 = .nx (lpR L z (some (true, .loc L.length)) o3 o4 (some (true, .loc b3))) (X4.set L.length (false, .list [])) := by
    show clrP _ (true, .loc L.length) X4 = _
    unfold clrP
    dsimp only
    rw [hn4]
  rw [ec5, q_tnx]
  have hp5 : PanAt L b3 (X4.set L.length (false, .list [])) := hp.keep fun i hi => by rw [List.getElem?_set_ne (by omega), hk4 i hi]
  show (match P.full (X4.set L.length (false, .list [])) (true, .loc b3) with | some d => R.ok d | none => .st) = _
  rw [hp5.full]
end Pd
set_option maxHeartbeats 4000000
namespace Pd
open PySem PySem.Spec PyProof.Rows L2
local macro_rules | `(tactic| walk_at "pd") => `(tactic| try simp -implicitDefEqProofs only [e_seq, e_thn, e_trt, e_trn, e_tex, e_if, e_pick, e_pickx, e_ret, e_retN, e_set, e_drop, e_for, e_ofR, e_ofRx, e_ofI, e_nil, e_asg, endS_rt, endS_rn, endS_nx, endS_ex, endN_rn, endN_ex, gC, g1, g2, g3, gA, aNil, aCons, gAnd, gOr, gNot, gB, gTru, bAnd, bOr, bNot, gIf, iA, iSeq, gSl, pNone, pSome, ok_bind, ex_bind, st_bind, gVar, List.getElem?_cons_zero, List.getElem?_cons_succ, List.set_cons_zero, List.set_cons_succ, if_true, if_false, Bool.not_true, Bool.not_false, Bool.false_eq_true, ↓reduceIte, e_asB, e_lt, e_gt, e_le, e_ge, e_ltS, e_gtS, e_eqI, e_eqS, e_eqB, e_neI, e_neS, e_neB, e_addI, e_iaddI, e_subI, e_negI, e_andI, e_orI, e_xorI, e_lenL, e_lenT, e_ord, e_intB, e_intI, e_inS, e_ninS, e_itL, e_itT, e_itS, e_zip, e_enum, e_slL, e_slT, e_asI, e_isN1, e_isN2, e_notN1, e_notN2, e_truB, e_truI, e_truL, e_isi_int_non, e_isi_int_bl, e_isi_int_int, e_isi_int_str, e_isi_int_list, e_isi_int_tup, e_isi_int_dict, e_isi_int_dictT, e_isi_bool_non, e_isi_bool_bl, e_isi_bool_int, e_isi_bool_str, e_isi_bool_list, e_isi_bool_tup, e_isi_bool_dict, e_isi_bool_dictT, e_isi_str_non, e_isi_str_bl, e_isi_str_int, e_isi_str_str, e_isi_str_list, e_isi_str_tup, e_isi_str_dict, e_isi_str_dictT, e_isi_list_non, e_isi_list_bl, e_isi_list_int, e_isi_list_str, e_isi_list_list, e_isi_list_tup, e_isi_list_dict, e_isi_list_dictT, e_isi_tuple_non, e_isi_tuple_bl, e_isi_tuple_int, e_isi_tuple_str, e_isi_tuple_list, e_isi_tuple_tup, e_isi_tuple_dict, e_isi_tuple_dictT, e_isi_dict_non, e_isi_dict_bl, e_isi_dict_int, e_isi_dict_str, e_isi_dict_list, e_isi_dict_tup, e_isi_dict_dict, e_isi_dict_dictT, e_iteAnd, e_iteOr, e_iteAndD, e_iteOrD, e_then_ite, e_endS_ite, e_endN_ite, e_ofR_ite, e_pick_ite, e_bind_ite, e_modI, e_fdivI, e_mul1, e_pow10, e_pow2, e_shl1, e_shrI, e_addS, e_iaddS, e_addL, e_addT, e_lenS, e_lst, e_strLit, String.reduceBEq, e_ixL0, e_ixL1, e_ixL2, e_ixL3, e_ixL4, e_ixL5, e_ixL6, e_ixL7, e_ixL8, e_ixT0, e_ixT1, e_ixT2, e_ixT3, e_ixT4, e_ixT5, e_tupleL, e_listT, e_tupleT, eqX_int, neX_int, eqX_S, neX_S, eqX_t0, neX_t0, e_catL, e_tup, e_inT, e_ninT, e_inL, e_ninL, e_slS, Int.reduceLT, Int.reduceLE, Int.reduceMul, Int.reduceAdd, Int.reduceSub, Int.reducePow, Int.reduceNeg, Int.reduceToNat, List.length_cons, List.length_nil, List.length_append, Nat.reduceAdd, Nat.reduceLeDiff, flD, List.all_cons, List.all_nil, Bool.and_true, Bool.true_and, Bool.and_self, decide_true, decide_false, or_true, true_or, and_true, true_and, eq_self])
def oDial : D := .tup [.str "x", .tpx [.str "a", .str "b"]]
def oSws : D := .list [.tup [.str "x", .list [.str "a", .str "b"]]]
def oBox : D := .dict true [(.inr "x", .list [.str "a"])]
def otherD : D := .obj "Panel" [("dials", .list [oDial]), ("total", .int 2), ("bars", .list [oBox]), ("barring", .list [.int 1]), ("free", .int 2)]
theorem other_made : mkD "Panel" FQ_Panel_init [oSws, .list [oBox]] = .ok otherD := by kernel_rfl
section
variable {L : List Sw} {b r f : D}
theorem ne_none : neD (.str "none") (.str "none") = .ok (.bl false) := by kernel_rfl
theorem selW_wd (A : List As) : (selW A).map wdD = A.map selD := by unfold selW; rw [List.map_map]; rfl
theorem num_ref (s : List D) (h : F_Panel_number_of [panX L b r f, .list s] = .ex ⟨"NoChoice", []⟩) (o1 o2 o3 o4 o5 o7 : Option D) :
    B__law_refused_0 [some (panX L b r f), o1, o2, o3, o4, o5, some (.list s), o7] = .nx [some (panX L b r f), o1, o2, o3, o4, o5, some (.list s), o7] := by
  unfold B__law_refused_0
  walk_at "pd"
  rw [law_number_no _ h]
  walk_at "pd"
  try (rw [ne_none]; walk_at "pd")
theorem thing_ref {d : D} (h : NoNum (tot L) d) (o1 o2 o3 o4 o5 o6 : Option D) :
    B__law_refused_1 [some (panX L b r f), o1, o2, o3, o4, o5, o6, some d] = .nx [some (panX L b r f), o1, o2, o3, o4, o5, o6, some d] := by
  unfold B__law_refused_1
  walk_at "pd"
  rw [law_told_no h, law_bar_no h]
  walk_at "pd"
  try (rw [ne_none]; walk_at "pd")
theorem ix_row (hg : GoodL L) (z : Int) : ∃ n, n < tot L ∧ ixD (rowsD (lawRows L)) (.int (z % (tot L : Int))) = .ok (rowD (selW (asg L n))) := by
  have hp : ∀ q ∈ L, 0 < q.2.length := fun q hq => by have := (hg.st q hq).1; omega
  have ht := tot_pos hg
  have h0 : 0 ≤ z % (tot L : Int) := Int.emod_nonneg _ (by omega)
  have h1 : z % (tot L : Int) < tot L := Int.emod_lt_of_pos _ (by omega)
  refine ⟨(z % (tot L : Int)).toNat, by omega, ?_⟩
  have e : z % (tot L : Int) = (((z % (tot L : Int)).toNat : Nat) : Int) := by omega
  generalize (z % (tot L : Int)).toNat = n at e
  rw [e]
  exact e_ixL _ _ _ (atI_nat (by rw [List.getElem?_map, lawRows_at hp (by omega)]; rfl))
theorem cut_last {α : Type} (l : List α) (h : 1 ≤ l.length) : (cutD l none (some (-1))).length = l.length - 1 := by
  have e1 : HT.sIx l.length l.length (some (-1)) = l.length - 1 := by
    unfold HT.sIx
    simp
    omega
  have e0 : HT.sIx l.length 0 none = 0 := rfl
  unfold cutD
  rw [e1, e0, List.drop_zero, List.length_take]
  omega
end
end Pd
set_option maxHeartbeats 4000000
namespace Pd
open PySem PySem.Spec PyProof.Rows L2
local macro_rules | `(tactic| walk_at "pd") => `(tactic| try simp -implicitDefEqProofs only [e_seq, e_thn, e_trt, e_trn, e_tex, e_if, e_pick, e_pickx, e_ret, e_retN, e_set, e_drop, e_for, e_ofR, e_ofRx, e_ofI, e_nil, e_asg, endS_rt, endS_rn, endS_nx, endS_ex, endN_rn, endN_ex, gC, g1, g2, g3, gA, aNil, aCons, gAnd, gOr, gNot, gB, gTru, bAnd, bOr, bNot, gIf, iA, iSeq, gSl, pNone, pSome, ok_bind, ex_bind, st_bind, gVar, List.getElem?_cons_zero, List.getElem?_cons_succ, List.set_cons_zero, List.set_cons_succ, if_true, if_false, Bool.not_true, Bool.not_false, Bool.false_eq_true, ↓reduceIte, e_asB, e_lt, e_gt, e_le, e_ge, e_ltS, e_gtS, e_eqI, e_eqS, e_eqB, e_neI, e_neS, e_neB, e_addI, e_iaddI, e_subI, e_negI, e_andI, e_orI, e_xorI, e_lenL, e_lenT, e_ord, e_intB, e_intI, e_inS, e_ninS, e_itL, e_itT, e_itS, e_zip, e_enum, e_slL, e_slT, e_asI, e_isN1, e_isN2, e_notN1, e_notN2, e_truB, e_truI, e_truL, e_isi_int_non, e_isi_int_bl, e_isi_int_int, e_isi_int_str, e_isi_int_list, e_isi_int_tup, e_isi_int_dict, e_isi_int_dictT, e_isi_bool_non, e_isi_bool_bl, e_isi_bool_int, e_isi_bool_str, e_isi_bool_list, e_isi_bool_tup, e_isi_bool_dict, e_isi_bool_dictT, e_isi_str_non, e_isi_str_bl, e_isi_str_int, e_isi_str_str, e_isi_str_list, e_isi_str_tup, e_isi_str_dict, e_isi_str_dictT, e_isi_list_non, e_isi_list_bl, e_isi_list_int, e_isi_list_str, e_isi_list_list, e_isi_list_tup, e_isi_list_dict, e_isi_list_dictT, e_isi_tuple_non, e_isi_tuple_bl, e_isi_tuple_int, e_isi_tuple_str, e_isi_tuple_list, e_isi_tuple_tup, e_isi_tuple_dict, e_isi_tuple_dictT, e_isi_dict_non, e_isi_dict_bl, e_isi_dict_int, e_isi_dict_str, e_isi_dict_list, e_isi_dict_tup, e_isi_dict_dict, e_isi_dict_dictT, e_iteAnd, e_iteOr, e_iteAndD, e_iteOrD, e_then_ite, e_endS_ite, e_endN_ite, e_ofR_ite, e_pick_ite, e_bind_ite, e_modI, e_fdivI, e_mul1, e_pow10, e_pow2, e_shl1, e_shrI, e_addS, e_iaddS, e_addL, e_addT, e_lenS, e_lst, e_strLit, String.reduceBEq, e_ixL0, e_ixL1, e_ixL2, e_ixL3, e_ixL4, e_ixL5, e_ixL6, e_ixL7, e_ixL8, e_ixT0, e_ixT1, e_ixT2, e_ixT3, e_ixT4, e_ixT5, e_tupleL, e_listT, e_tupleT, eqX_int, neX_int, eqX_S, neX_S, eqX_t0, neX_t0, e_catL, e_tup, e_inT, e_ninT, e_inL, e_ninL, e_slS, Int.reduceLT, Int.reduceLE, Int.reduceMul, Int.reduceAdd, Int.reduceSub, Int.reducePow, Int.reduceNeg, Int.reduceToNat, List.length_cons, List.length_nil, List.length_append, Nat.reduceAdd, Nat.reduceLeDiff, flD, List.all_cons, List.all_nil, Bool.and_true, Bool.true_and, Bool.and_self, decide_true, decide_false, or_true, true_or, and_true, true_and, eq_self])
theorem aCons_ok {g : Rho → R D} {t : Rho → R (List D)} {ρ : Rho} {d : D} {ds : List D} (h : g ρ = .ok d) (h2 : t ρ = .ok ds) : aCons g t ρ = .ok (d :: ds) := by
  unfold aCons
  rw [h, ok_bind, h2]
  rfl
theorem gA_ok {f : List D → R D} {t : Rho → R (List D)} {ρ : Rho} {ds : List D} (h : t ρ = .ok ds) : gA f t ρ = f ds := by
  unfold gA
  rw [h]
  rfl
section
variable {L : List Sw} {b r f : D}
theorem not_word {w : Wd} (hg : GoodL L) (c : Wd) : ∀ q ∈ L, (([110, 111, 46] ++ c : Wd)) ∉ q.2 := fun q hq hm => by
  have := ((hg.st q hq).2.2.2 _ hm).al 46 (by simp)
  omega
theorem sets_len (hg : GoodL L) (n : Nat) : (selW (asg L n)).length = L.length := by unfold selW; rw [List.length_map, asg_len]
theorem e_wd3 (c : Wd) (h : c.length ≤ 100) : addD (.str "no.") (wdD c) = .ok (wdD ([110, 111, 46] ++ c)) := by
  have e : (D.str "no.") = wdD [110, 111, 46] := by unfold wdD; exact congrArg D.str (by decide +kernel)
  rw [e]
  exact addD_TS _ _ (by simp only [List.length_cons, List.length_nil]; omega)
theorem set_split (l : List Wd) (a : Nat) (w : Wd) (h : a < l.length) : l.set a w = l.take a ++ [w] ++ l.drop (a + 1) := by
  rw [List.set_eq_take_append_cons_drop, if_pos h]
  simp
theorem bad_list (hg : GoodL L) {n : Nat} (zz z : Int) : ∃ w', (∀ q ∈ L, w' ∉ q.2) ∧ ∃ a, a < L.length ∧ z % (L.length : Int) = ((a : Nat) : Int) ∧
    g2 addD (g2 addD (gSl (gVar 3) pNone (pSome (gVar 4))) (gA lstD (aCons (g2 addD (gC (.str "no.")) (g2 ixD (gVar 3) (gVar 4))) aNil))) (gSl (gVar 3) (pSome (g2 addD (gVar 4) (gC (.int 1)))) pNone) [some (panX L b r f), some (rowsD (lawRows L)), some (.int zz), some (rowD (selW (asg L n))), some (.int ((a : Nat) : Int)), none, none, none] = .ok (.list (((selW (asg L n)).set a w').map wdD)) := by
  have h1 := hg.ne
  have h5 := hg.le
  have hl := sets_len hg n
  have h0 : 0 ≤ z % (L.length : Int) := Int.emod_nonneg _ (by omega)
  have h2 : z % (L.length : Int) < L.length := Int.emod_lt_of_pos _ (by omega)
  obtain ⟨a, ha⟩ : ∃ a : Nat, z % (L.length : Int) = (a : Int) := ⟨(z % (L.length : Int)).toNat, by omega⟩
  have hal : a < (selW (asg L n)).length := by omega
  have hp : ∀ q ∈ L, 0 < q.2.length := fun q hq => by have := (hg.st q hq).1; omega
  obtain ⟨c, hc⟩ : ∃ c, (selW (asg L n))[a]? = some c := ⟨_, List.getElem?_eq_getElem hal⟩
  have hc100 : c.length ≤ 100 := by
    unfold selW at hc
    rw [List.getElem?_map] at hc
    obtain ⟨⟨w, S, c'⟩, e1, e2⟩ := Option.map_eq_some_iff.mp hc
    obtain ⟨hL, d, _, hS⟩ := asg_at hp e1
    have := ((hg.st _ (List.mem_of_getElem? hL)).2.2.2 c' (List.mem_of_getElem? hS)).le
    have e3 : c' = c := e2
    subst e3
    omega
  refine ⟨[110, 111, 46] ++ c, not_word (w := c) hg c, a, by omega, ha, ?_⟩
  rw [show rowD (selW (asg L n)) = .list ((selW (asg L n)).map wdD) from rfl]
  walk_at "pd"
  rw [e_ixL _ _ (wdD c) (atI_nat (by rw [List.getElem?_map, hc]; rfl))]
  walk_at "pd"
  rw [e_wd3 c hc100]
  walk_at "pd"
  rw [cutD_pre, e_addL _ _ (by rw [List.length_take, List.length_map, hl]; simp only [List.length_cons, List.length_nil]; omega)]
  walk_at "pd"
  rw [show ((a : Nat) : Int) + 1 = ((a + 1 : Nat) : Int) by omega, cutD_suf, e_addL _ _ (by rw [List.length_append, List.length_take, List.length_drop, List.length_map, hl]; simp only [List.length_cons, List.length_nil]; omega)]
  rw [set_split _ _ _ hal, List.map_append, List.map_append, List.map_take, List.map_drop]
  rfl
theorem refused_at (hg : GoodL L) (z : Int) : F__law_refused [panX L b r f, rowsD (lawRows L), .int z] = .ok (.bl true) := by
  have h1 := hg.ne
  have h5 := hg.le
  have ht := tot_pos hg
  have ht2 := hg.tt
  show endS (S__law_refused [some (panX L b r f), some (rowsD (lawRows L)), some (.int z), none, none, none, none, none]) = _
  unfold S__law_refused
  obtain ⟨n, hn, er⟩ := ix_row hg z
  have hl := sets_len hg n
  have el : lenD [rowsD (lawRows L)] = .ok (.int (tot L : Int)) := by
    show R.ok (D.int (((lawRows L).map rowD).length : Nat)) = _
    rw [List.length_map, lawRows_len]
  have e3 : sSet 3 (g2 ixD (gVar 1) (g2 modD (gVar 2) (gA lenD (aCons (gVar 1) aNil)))) [some (panX L b r f), some (rowsD (lawRows L)), some (.int z), none, none, none, none, none] =
      .nx [some (panX L b r f), some (rowsD (lawRows L)), some (.int z), some (rowD (selW (asg L n))), none, none, none, none] := by
    rw [set_ok (d := rowD (selW (asg L n))) (by
      walk_at "pd"
      rw [el]
      walk_at "pd"
      rw [e_modI _ _ (by omega)]
      walk_at "pd"
      rw [er])]
    rfl
  rw [e_seq, e3, e_thn, e_seq]
  obtain ⟨w', hw', a, hal, ha, eb⟩ := bad_list (b := b) (r := r) (f := f) hg (n := n) z (z / (tot L : Int))
  have e4 : sSet 4 (g2 modD (g2 fdivD (gVar 2) (gA lenD (aCons (gVar 1) aNil))) (gA lenD (aCons (gVar 3) aNil))) [some (panX L b r f), some (rowsD (lawRows L)), some (.int z), some (rowD (selW (asg L n))), none, none, none, none] =
      .nx [some (panX L b r f), some (rowsD (lawRows L)), some (.int z), some (rowD (selW (asg L n))), some (.int ((a : Nat) : Int)), none, none, none] := by
    rw [set_ok (d := .int ((a : Nat) : Int)) (by
      walk_at "pd"
      rw [el]
      walk_at "pd"
      rw [e_fdivI _ _ (by omega) (by omega)]
      walk_at "pd"
      rw [show lenD [rowD (selW (asg L n))] = .ok (.int (L.length : Int)) from by
        show R.ok (D.int (((selW (asg L n)).map wdD).length : Nat)) = _
        rw [List.length_map, hl]]
      walk_at "pd"
      rw [e_modI _ _ (by omega), ha])]
    rfl
  rw [e4, e_thn, e_seq]
  obtain ⟨s1, hs1, l1⟩ : ∃ s1, gSl (gVar 3) pNone (pSome (g1 negD (gC (.int 1)))) [some (panX L b r f), some (rowsD (lawRows L)), some (.int z), some (rowD (selW (asg L n))), some (.int ((a : Nat) : Int)), none, none, none] = .ok (.list s1) ∧ s1.length = L.length - 1 := by
    refine ⟨cutD ((selW (asg L n)).map wdD) none (some (-1)), by rw [show rowD (selW (asg L n)) = .list ((selW (asg L n)).map wdD) from rfl]; walk_at "pd", ?_⟩
    rw [cut_last _ (by rw [List.length_map, hl]; omega), List.length_map, hl]
  obtain ⟨s2, hs2, l2⟩ : ∃ s2, g2 addD (gVar 3) (gSl (gVar 3) pNone (pSome (gC (.int 1)))) [some (panX L b r f), some (rowsD (lawRows L)), some (.int z), some (rowD (selW (asg L n))), some (.int ((a : Nat) : Int)), none, none, none] = .ok (.list s2) ∧ s2.length = L.length + 1 := by
    refine ⟨(selW (asg L n)).map wdD ++ ((selW (asg L n)).map wdD).take 1, ?_, by rw [List.length_append, List.length_take, List.length_map, hl]; omega⟩
    rw [show rowD (selW (asg L n)) = .list ((selW (asg L n)).map wdD) from rfl]
    walk_at "pd"
    rw [show cutD ((selW (asg L n)).map wdD) none (some 1) = ((selW (asg L n)).map wdD).take 1 from cutD_pre _ 1, e_addL _ _ (by rw [List.length_take, List.length_map, hl]; omega)]
  have n1 := number_len (L := L) (b := b) (r := r) (f := f) s1 (by omega)
  have n2 := number_len (L := L) (b := b) (r := r) (f := f) s2 (by omega)
  have n3 := number_bad (b := b) (r := r) (f := f) hg (n := n) a hal w' hw'
  have n4 := number_len (L := L) (b := b) (r := r) (f := f) [] (by simp only [List.length_nil]; omega)
  have e5 : sSet 5 (gA lstD (aCons (gSl (gVar 3) pNone (pSome (g1 negD (gC (.int 1))))) (aCons (g2 addD (gVar 3) (gSl (gVar 3) pNone (pSome (gC (.int 1))))) (aCons (g2 addD (g2 addD (gSl (gVar 3) pNone (pSome (gVar 4))) (gA lstD (aCons (g2 addD (gC (.str "no.")) (g2 ixD (gVar 3) (gVar 4))) aNil))) (gSl (gVar 3) (pSome (g2 addD (gVar 4) (gC (.int 1)))) pNone)) (aCons (gA lstD aNil) aNil)))))
      [some (panX L b r f), some (rowsD (lawRows L)), some (.int z), some (rowD (selW (asg L n))), some (.int ((a : Nat) : Int)), none, none, none] =
      .nx [some (panX L b r f), some (rowsD (lawRows L)), some (.int z), some (rowD (selW (asg L n))), some (.int ((a : Nat) : Int)), some (.list [.list s1, .list s2, .list (((selW (asg L n)).set a w').map wdD), .list []]), none, none] := by
    rw [set_ok (d := .list [.list s1, .list s2, .list (((selW (asg L n)).set a w').map wdD), .list []]) (by
      rw [gA_ok (aCons_ok hs1 (aCons_ok hs2 (aCons_ok eb (aCons_ok (d := .list []) (ds := []) rfl rfl))))]
      rfl)]
    rfl
  rw [e5, e_thn, e_seq]
  have e6 : ∀ o6 o7, sFor (iSeq (gVar 5)) (τName 6) B__law_refused_0 [some (panX L b r f), some (rowsD (lawRows L)), some (.int z), some (rowD (selW (asg L n))), some (.int ((a : Nat) : Int)), some (.list [.list s1, .list s2, .list (((selW (asg L n)).set a w').map wdD), .list []]), o6, o7] =
      .nx [some (panX L b r f), some (rowsD (lawRows L)), some (.int z), some (rowD (selW (asg L n))), some (.int ((a : Nat) : Int)), some (.list [.list s1, .list s2, .list (((selW (asg L n)).set a w').map wdD), .list []]), some (.list []), o7] := fun o6 o7 => by
    unfold sFor
    rw [show iSeq (gVar 5) [some (panX L b r f), some (rowsD (lawRows L)), some (.int z), some (rowD (selW (asg L n))), some (.int ((a : Nat) : Int)), some (.list [.list s1, .list s2, .list (((selW (asg L n)).set a w').map wdD), .list []]), o6, o7] = .ok [.list s1, .list s2, .list (((selW (asg L n)).set a w').map wdD), .list []] from rfl]
    dsimp only
    simp only [e_forN, e_for0, e_nxn, List.set_cons_succ, List.set_cons_zero, num_ref _ n1, num_ref _ n2, num_ref _ n3, num_ref _ n4]
  rw [e6, e_thn, e_seq]
  have h30 : 0 ≤ z % 10 ^ 30 := Int.emod_nonneg _ (by decide)
  have h9 : 0 ≤ z % 10 ^ 9 := Int.emod_nonneg _ (by decide)
  have ei : ∀ o5 o6 o7, iSeq (gA lstD (aCons (g1 negD (gC (.int 1))) (aCons (gA lenD (aCons (gVar 1) aNil)) (aCons (g2 addD (gA lenD (aCons (gVar 1) aNil)) (g2 modD (gVar 2) (g2 powD (gC (.int 10)) (gC (.int 30))))) (aCons (gC (.bl true)) (aCons (gC .non) (aCons (gC (.str "0")) (aCons (g2 subD (g1 negD (gC (.int 1))) (g2 modD (gVar 2) (g2 powD (gC (.int 10)) (gC (.int 9))))) aNil)))))))) [some (panX L b r f), some (rowsD (lawRows L)), some (.int z), some (rowD (selW (asg L n))), some (.int ((a : Nat) : Int)), o5, o6, o7] =
      .ok [.int (-1), .int (tot L : Int), .int ((tot L : Int) + z % 10 ^ 30), .bl true, .non, .str "0", .int (-1 - z % 10 ^ 9)] := fun o5 o6 o7 => by
    unfold iSeq
    walk_at "pd"
    rw [el]
    walk_at "pd"
    try rfl
  have t1 := thing_ref (L := L) (b := b) (r := r) (f := f) (NoNum.low (-1) (by decide))
  have t2 := thing_ref (L := L) (b := b) (r := r) (f := f) (NoNum.far (tot L : Int) (Int.le_refl _))
  have t3 := thing_ref (L := L) (b := b) (r := r) (f := f) (NoNum.far ((tot L : Int) + z % 10 ^ 30) (by omega))
  have t4 := thing_ref (L := L) (b := b) (r := r) (f := f) (NoNum.bl true)
  have t5 := thing_ref (L := L) (b := b) (r := r) (f := f) NoNum.non
  have t6 := thing_ref (L := L) (b := b) (r := r) (f := f) (NoNum.str "0")
  have t7 := thing_ref (L := L) (b := b) (r := r) (f := f) (NoNum.low (-1 - z % 10 ^ 9) (by omega))
  unfold sFor
  rw [ei]
  simp only [e_forN, e_for0, e_nxn, List.set_cons_succ, List.set_cons_zero, t1, t2, t3, t4, t5, t6, t7]
  rfl
end
end Pd
set_option maxHeartbeats 4000000
namespace Pd
open PySem PySem.Spec PyProof.Rows L2
local macro_rules | `(tactic| walk_at "pd") => `(tactic| try simp -implicitDefEqProofs only [e_seq, e_thn, e_trt, e_trn, e_tex, e_if, e_pick, e_pickx, e_ret, e_retN, e_set, e_drop, e_for, e_ofR, e_ofRx, e_ofI, e_nil, e_asg, endS_rt, endS_rn, endS_nx, endS_ex, endN_rn, endN_ex, gC, g1, g2, g3, gA, aNil, aCons, gAnd, gOr, gNot, gB, gTru, bAnd, bOr, bNot, gIf, iA, iSeq, gSl, pNone, pSome, ok_bind, ex_bind, st_bind, gVar, List.getElem?_cons_zero, List.getElem?_cons_succ, List.set_cons_zero, List.set_cons_succ, if_true, if_false, Bool.not_true, Bool.not_false, Bool.false_eq_true, ↓reduceIte, e_asB, e_lt, e_gt, e_le, e_ge, e_ltS, e_gtS, e_eqI, e_eqS, e_eqB, e_neI, e_neS, e_neB, e_addI, e_iaddI, e_subI, e_negI, e_andI, e_orI, e_xorI, e_lenL, e_lenT, e_ord, e_intB, e_intI, e_inS, e_ninS, e_itL, e_itT, e_itS, e_zip, e_enum, e_slL, e_slT, e_asI, e_isN1, e_isN2, e_notN1, e_notN2, e_truB, e_truI, e_truL, e_isi_int_non, e_isi_int_bl, e_isi_int_int, e_isi_int_str, e_isi_int_list, e_isi_int_tup, e_isi_int_dict, e_isi_int_dictT, e_isi_bool_non, e_isi_bool_bl, e_isi_bool_int, e_isi_bool_str, e_isi_bool_list, e_isi_bool_tup, e_isi_bool_dict, e_isi_bool_dictT, e_isi_str_non, e_isi_str_bl, e_isi_str_int, e_isi_str_str, e_isi_str_list, e_isi_str_tup, e_isi_str_dict, e_isi_str_dictT, e_isi_list_non, e_isi_list_bl, e_isi_list_int, e_isi_list_str, e_isi_list_list, e_isi_list_tup, e_isi_list_dict, e_isi_list_dictT, e_isi_tuple_non, e_isi_tuple_bl, e_isi_tuple_int, e_isi_tuple_str, e_isi_tuple_list, e_isi_tuple_tup, e_isi_tuple_dict, e_isi_tuple_dictT, e_isi_dict_non, e_isi_dict_bl, e_isi_dict_int, e_isi_dict_str, e_isi_dict_list, e_isi_dict_tup, e_isi_dict_dict, e_isi_dict_dictT, e_iteAnd, e_iteOr, e_iteAndD, e_iteOrD, e_then_ite, e_endS_ite, e_endN_ite, e_ofR_ite, e_pick_ite, e_bind_ite, e_modI, e_fdivI, e_mul1, e_pow10, e_pow2, e_shl1, e_shrI, e_addS, e_iaddS, e_addL, e_addT, e_lenS, e_lst, e_strLit, String.reduceBEq, e_ixL0, e_ixL1, e_ixL2, e_ixL3, e_ixL4, e_ixL5, e_ixL6, e_ixL7, e_ixL8, e_ixT0, e_ixT1, e_ixT2, e_ixT3, e_ixT4, e_ixT5, e_tupleL, e_listT, e_tupleT, eqX_int, neX_int, eqX_S, neX_S, eqX_t0, neX_t0, e_catL, e_tup, e_inT, e_ninT, e_inL, e_ninL, e_slS, Int.reduceLT, Int.reduceLE, Int.reduceMul, Int.reduceAdd, Int.reduceSub, Int.reducePow, Int.reduceNeg, Int.reduceToNat, List.length_cons, List.length_nil, List.length_append, Nat.reduceAdd, Nat.reduceLeDiff, flD, List.all_cons, List.all_nil, Bool.and_true, Bool.true_and, Bool.and_self, decide_true, decide_false, or_true, true_or, and_true, true_and, eq_self])
local macro_rules | `(tactic| walk_at "lkp") => `(tactic| simp only [List.lookup_cons, List.lookup_nil, e_strLit, String.reduceBEq, putD, e_strEq, String.reduceEq, if_true, if_false, ↓reduceIte])
noncomputable def lw1 : Rho → S := (sSet 1 (gA F__law_cell_at (aCons (gVar 0) (aCons (gC (.int 0)) aNil))))
noncomputable def lw2 : Rho → S := (sSet 2 (gA F__law_switches (aCons (gVar 1) (aCons (g2 ixD (gA lstD (aCons (gC (.int 24)) (aCons (gC (.int 256)) aNil))) (gA intD (aCons (g2 eqD (g2 modD (gA F__law_cell_at (aCons (gVar 0) (aCons (gC (.int 1)) aNil))) (gC (.int 8))) (gC (.int 1))) aNil))) aNil))))
noncomputable def lw3 : Rho → S := (sSet 3 (gA F__law_rows (aCons (gVar 2) aNil)))
noncomputable def lw4 : Rho → S := (sSet 4 (gA FQ__law_panel.down (aCons (gVar 2) (aCons (g2 fdivD (gA F__law_cell_at (aCons (gVar 0) (aCons (gC (.int 1)) aNil))) (gC (.int 8))) aNil))))
noncomputable def lw5 : Rho → S := (sSet 5 (gA (mkD "Panel" FQ_Panel_init) (aCons (gA lstD (aCons (gA tupD (aCons (gC (.str "x")) (aCons (gA lstD (aCons (gC (.str "a")) (aCons (gC (.str "b")) aNil))) aNil))) aNil)) (aCons (gA lstD (aCons (gLk (gDisp [((gC (.str "x")), (gA lstD (aCons (gC (.str "a")) aNil)))])) aNil)) aNil))))
noncomputable def lw6 : Rho → S := (sSet 6 (gC (.int 0)))
noncomputable def lw7 : Rho → S := (sFor (iA enumD (aCons (gVar 3) aNil)) (τTup 2 (τCons (τName 7) (τCons (τName 8) τNil))) B_law_0)
noncomputable def lw8 : Rho → S := (sSet 10 (gMeth [("Panel", F_Panel_switches)] "switches" (gVar 4) aNil))
noncomputable def lw9 : Rho → S := (sIf (bScal (bOr (bNot (gB (g1 (isiD "list") (gVar 10)))) (gB (g2 neD (gVar 10) (gLc (iSeq (gVar 2)) [11, 9] (τTup 2 (τCons (τName 11) (τCons (τName 9) τNil))) bYes (gA tupD (aCons (gVar 11) (aCons (gA tupleD (aCons (gVar 9) aNil)) aNil))))))))   (sRet (gC (.bl false)))   sNil)
noncomputable def lw10 : Rho → S := (sClr 10)
noncomputable def lw11 : Rho → S := (sIf (bOr (gB (g2 neD (gA lenD (aCons (gMeth [("Panel", F_Panel_switches)] "switches" (gVar 4) aNil) aNil)) (gA lenD (aCons (gVar 2) aNil)))) (gB (g2 neD (gMeth [("Panel", F_Panel_rules)] "rules" (gVar 4) aNil) (gA lstD aNil))))   (sRet (gC (.bl false)))   sNil)
noncomputable def lw12 : Rho → S := (sIf (bOr (bNot (gB (gA F__law_whole (aCons (gMeth [("Panel", F_Panel_all_choices)] "all_choices" (gVar 4) aNil) (aCons (gVar 6) aNil))))) (bNot (gB (gA F__law_whole (aCons (gMeth [("Panel", F_Panel_allowed)] "allowed" (gVar 4) aNil) (aCons (gVar 6) aNil))))))   (sRet (gC (.bl false)))   sNil)
noncomputable def lw13 : Rho → S := (sIf (bOr (bNot (gB (gA F__law_whole (aCons (gMeth [("Panel", F_Panel_many)] "many" (gVar 4) aNil) (aCons (gA lenD (aCons (gVar 3) aNil)) aNil))))) (bOr (gB (g2 neD (gMeth [("Panel", F_Panel_allowed)] "allowed" (gVar 5) aNil) (gC (.int 2)))) (gB (g2 neD (gMeth [("Panel", F_Panel_many)] "many" (gVar 5) aNil) (gC (.int 2))))))   (sRet (gC (.bl false)))   sNil)
noncomputable def lw14 : Rho → S := (sRet (gA F__law_refused (aCons (gVar 4) (aCons (gVar 3) (aCons (gA F__law_cell_at (aCons (gVar 0) (aCons (gC (.int 2)) aNil))) aNil)))))
theorem e_lw : S_law = sSeq lw1 (sSeq lw2 (sSeq lw3 (sSeq lw4 (sSeq lw5 (sSeq lw6 (sSeq lw7 (sSeq lw8 (sSeq lw9 (sSeq lw10 (sSeq lw11 (sSeq lw12 (sSeq lw13 (lw14))))))))))))) := rfl
def dialT (q : Sw) : D := .tup [wdD q.1, .tup (q.2.map wdD)]
theorem py_dials : ∀ L : List Sw, D.pyAll (L.map dialX) = D.pyAll (L.map dialT)
  | [] => rfl
  | q :: L => by
    show (dialX q).py :: D.pyAll (L.map dialX) = (dialT q).py :: D.pyAll (L.map dialT)
    rw [py_dials L]
    rfl
theorem flat_dials : ∀ L : List Sw, D.flatAll (L.map dialX) = D.flatAll (L.map dialT)
  | [] => rfl
  | q :: L => by
    show ((dialX q).flat && D.flatAll (L.map dialX)) = ((dialT q).flat && D.flatAll (L.map dialT))
    rw [flat_dials L]
    rfl
theorem shL_wd {w : Wd} (h : IsW w) (n : Nat) : shL n (wdD w) = true := by
  have e : PyData.strOk (TS w) = true := strOk_of fun c hc => by
    have := h.al c hc
    omega
  have h2 : (PyData.strOk (TS w) && decide ((TS w).length ≤ 1000)) = true := by
    rw [e, TS_len, decide_eq_true (by have := h.le; omega)]
    rfl
  cases n <;> exact h2
theorem shL_dials {L : List Sw} (hg : GoodL L) : shL 3 (.list (L.map dialT)) = true := by
  show (L.map dialT).all (shL 2) = true
  refine List.all_eq_true.mpr fun d hd => ?_
  obtain ⟨q, hq, rfl⟩ := List.mem_map.mp hd
  show (shL 1 (wdD q.1) && (shL 1 (.tup (q.2.map wdD)) && true)) = true
  rw [shL_wd (hg.wd q hq)]
  have : shL 1 (.tup (q.2.map wdD)) = true := by
    show (q.2.map wdD).all (shL 0) = true
    refine List.all_eq_true.mpr fun d hd => ?_
    obtain ⟨w, hw, rfl⟩ := List.mem_map.mp hd
    exact shL_wd ((hg.st q hq).2.2.2 w hw) 0
  rw [this]
  rfl
theorem ne_dials {L : List Sw} (hg : GoodL L) : neD (dialsX L) (.list (L.map dialT)) = .ok (.bl false) := by
  have h2 := sh_of 3 (shL_sh (shL_dials hg))
  have h1 : D.sh (dialsX L) = true := by
    have e : D.sh (dialsX L) = D.sh (.list (L.map dialT)) := by
      show (D.flatAll (L.map dialX) && SeqAt.shaped (.list (D.pyAll (L.map dialX)))) = (D.flatAll (L.map dialT) && SeqAt.shaped (.list (D.pyAll (L.map dialT))))
      rw [flat_dials, py_dials]
    rw [e]
    exact h2
  rw [e_neSh _ _ h1 h2]
  have e : eqvD (dialsX L) (.list (L.map dialT)) = eqvD (.list (L.map dialT)) (.list (L.map dialT)) := by
    show PyData.eqv (.list (D.pyAll (L.map dialX))) _ = PyData.eqv (.list (D.pyAll (L.map dialT))) _
    rw [py_dials]
  rw [e, eqv_same (shL_sh (shL_dials hg))]
  rfl
section
variable {L : List Sw}
def allI (L : List Sw) : Int := ((mskN (tot L) fun _ => true : Nat) : Int)
abbrev pX (L : List Sw) : D := panX L (.list []) (.list []) (.int (allI L))
def lwR (sc : D) (c : Int) (L : List Sw) (e : Int) (a b o d x y : Option D) : Rho := [some sc, some (.int c), some (swsD L), some (rowsD (lawRows L)), some (pX L), some otherD, some (.int e), a, b, o, d, x]
theorem ne_row {L : List Sw} (hg : GoodL L) {n : Nat} : neD (.list ((asg L n).map selD)) (rowD (selW (asg L n))) = .ok (.bl false) := by
  have hp : ∀ q ∈ L, 0 < q.2.length := fun q hq => by have := (hg.st q hq).1; omega
  rw [show rowD (selW (asg L n)) = .list ((asg L n).map selD) from by unfold rowD; rw [selW_wd]]
  have h : shL 3 (.list ((asg L n).map selD)) = true := by
    show ((asg L n).map selD).all (shL 2) = true
    refine List.all_eq_true.mpr fun d hd => ?_
    obtain ⟨⟨w, S, c⟩, hq, rfl⟩ := List.mem_map.mp hd
    obtain ⟨i, hi⟩ := List.mem_iff_getElem?.mp hq
    obtain ⟨hL, dg, _, hS⟩ := asg_at hp hi
    exact shL_wd ((hg.st _ (List.mem_of_getElem? hL)).2.2.2 c (List.mem_of_getElem? hS)) 2
  rw [e_neSh _ _ (sh_of 3 (shL_sh h)) (sh_of 3 (shL_sh h)), eqv_same (shL_sh h)]
  rfl
theorem whole_at (i : Int) : F__law_whole [.int i, .int i] = .ok (.bl true) := by
  show endS (S__law_whole [some (.int i), some (.int i)]) = _
  unfold S__law_whole
  walk_at "pd"
  rw [beq_self_eq_true]
theorem row_step (hg : GoodL L) (sc : D) (c : Int) {n : Nat} (hn : n < tot L) (o d x y : Option D) :
    ∃ o', B_law_0 (lwR sc c L (((2 ^ n : Nat) : Int) - 1) (some (.int (n : Int))) (some (rowD (selW (asg L n)))) o d x y) = .nx (lwR sc c L (((2 ^ (n + 1) : Nat) : Int) - 1) (some (.int (n : Int))) (some (rowD (selW (asg L n)))) o' d x y) := by
  have ht := hg.tt
  have hf := pfX_ok L (.list []) (.list []) (.int (allI L))
  refine ⟨some (.tup ((asg L n).map selD)), ?_⟩
  unfold B_law_0 lwR
  walk_at "pd"
  rw [shl_nat _ (by omega)]
  walk_at "pd"
  rw [show (((2 ^ n : Nat) : Int) - 1 + ((2 ^ n : Nat) : Int)) = ((2 ^ (n + 1) : Nat) : Int) - 1 by rw [Nat.pow_succ]; omega]
  rw [e_gMeth (go := gVar 4) (as := [.int (n : Int)]) rfl hf.m2 rfl, told_at hf hg hn]
  walk_at "pd"
  rw [ne_row hg]
  walk_at "pd"
  rw [e_gMeth (go := gVar 4) (as := [rowD (selW (asg L n))]) rfl (by unfold pfX; walk_at "lkp") (by rw [show rowD (selW (asg L n)) = .list ((selW (asg L n)).map wdD) from rfl]; rfl)]
  rw [show rowD (selW (asg L n)) = .list ((asg L n).map selD) from by unfold rowD; rw [selW_wd]]
  rw [show F_Panel_number_of [.obj "Panel" (pfX L (.list []) (.list []) (.int (allI L))), .list ((asg L n).map selD)] = .ok (.int (n : Int)) from number_at hg hn]
  walk_at "pd"
  rw [whole_at]
  walk_at "pd"
  rw [e_gMeth (go := gVar 4) (as := [.int (n : Int)]) rfl (by unfold pfX; walk_at "lkp") rfl]
  rw [show F_Panel_barred [.obj "Panel" (pfX L (.list []) (.list []) (.int (allI L))), .int (n : Int)] = .ok .non from barred_free hg hn]
  walk_at "pd"
  try rfl
theorem switches_told : F_Panel_switches [pX L] = .ok (dialsX L) := by
  show endN (S_Panel_switches [some (pX L)]) = _
  unfold S_Panel_switches
  walk_at "pd"
  rw [e_gFld (go := gVar 0) (d := dialsX L) rfl (pfX_ok L _ _ _).dials]
  rfl
theorem rules_told : F_Panel_rules [pX L] = .ok (.list []) := by
  show endN (S_Panel_rules [some (pX L), none]) = _
  unfold S_Panel_rules
  rw [e_retN, e_lc [] [] _ _ _ _ _ _ (by unfold iSeq; rw [e_gFld (go := gVar 0) (d := .list []) rfl (by unfold pfX; walk_at "lkp")]; rfl) (by decide) rfl]
  rfl
theorem allowed_told : F_Panel_allowed [pX L] = .ok (.int (allI L)) := by
  show endS (S_Panel_allowed [some (pX L)]) = _
  unfold S_Panel_allowed
  walk_at "pd"
  rw [e_gFld (go := gVar 0) (d := .int (allI L)) rfl (by unfold pfX; walk_at "lkp")]
  rfl
theorem many_told : F_Panel_many [pX L] = .ok (.int (tot L : Int)) := by
  show endS (S_Panel_many [some (pX L)]) = _
  unfold S_Panel_many
  walk_at "pd"
  rw [e_gFld (go := gVar 0) (d := .int (tot L : Int)) rfl (pfX_ok L _ _ _).total]
  rfl
theorem o_allowed : F_Panel_allowed [otherD] = .ok (.int 2) := by kernel_rfl
theorem o_many : F_Panel_many [otherD] = .ok (.int 2) := by kernel_rfl
theorem tuples_at (hg : GoodL L) (sc : D) (c e : Int) (a b o d x y : Option D) : gLc (iSeq (gVar 2)) [11, 9] (τTup 2 (τCons (τName 11) (τCons (τName 9) τNil))) bYes (gA tupD (aCons (gVar 11) (aCons (gA tupleD (aCons (gVar 9) aNil)) aNil))) (lwR sc c L e a b o d x y) = .ok (.list (L.map dialT)) := by
  have h5 := hg.le
  refine e_lc (L.map swD) (L.map dialT) _ _ _ _ _ _ rfl (by rw [List.length_map]; omega) (lcR_ix _ _ (by simp) fun i d y hd hy => ?_)
  rw [List.getElem?_map] at hd hy
  cases e : L[i]? with
  | none => rw [e] at hd; cases hd
  | some q =>
    rw [e] at hd hy
    cases hd
    cases hy
    refine ⟨_, rfl, ?_⟩
    unfold lwR wipeR wipeR wipeR
    walk_at "pd"
    rfl
theorem law_true (ns : List Int) (hn : ns.length ≤ 63) : F_law [.list (ns.map D.int)] = .ok (.bl true) := by
  show endS (S_law [some (scr ns), none, none, none, none, none, none, none, none, none, none, none]) = _
  rw [e_lw]
  have c0 : F__law_cell_at [scr ns, .int 0] = .ok (.int (cellI ns 0)) := cell_at ns 0 (by decide)
  have c1 : F__law_cell_at [scr ns, .int 1] = .ok (.int (cellI ns 1)) := cell_at ns 1 (by decide)
  have c2 : F__law_cell_at [scr ns, .int 2] = .ok (.int (cellI ns 2)) := cell_at ns 2 (by decide)
  have s1 : lw1 [some (scr ns), none, none, none, none, none, none, none, none, none, none, none] = .nx [some (scr ns), some (.int (cellI ns 0)), none, none, none, none, none, none, none, none, none, none] := by
    unfold lw1
    walk_at "pd"
    rw [c0]
    walk_at "pd"
  have s2 : ∃ L, GoodL L ∧ lw2 [some (scr ns), some (.int (cellI ns 0)), none, none, none, none, none, none, none, none, none, none] = .nx [some (scr ns), some (.int (cellI ns 0)), some (swsD L), none, none, none, none, none, none, none, none, none] := by
    unfold lw2
    by_cases hb : cellI ns 1 % 8 = 1
    · obtain ⟨L, e, hg, _⟩ := switches_at (cellI ns 0) 256 (by decide) (by decide)
      refine ⟨L, hg, ?_⟩
      rw [set_ok (d := swsD L) (by
        walk_at "pd"
        rw [c1]
        walk_at "pd"
        rw [show (cellI ns 1 % 8 == 1) = true by rw [hb]; rfl]
        exact e)]
      rfl
    · obtain ⟨L, e, hg, _⟩ := switches_at (cellI ns 0) 24 (by decide) (by decide)
      refine ⟨L, hg, ?_⟩
      rw [set_ok (d := swsD L) (by
        walk_at "pd"
        rw [c1]
        walk_at "pd"
        rw [show (cellI ns 1 % 8 == 1) = false from beq_eq_false_iff_ne.mpr hb]
        exact e)]
      rfl
  obtain ⟨L, hg, s2⟩ := s2
  have ht := hg.tt
  have s3 : lw3 [some (scr ns), some (.int (cellI ns 0)), some (swsD L), none, none, none, none, none, none, none, none, none] = .nx [some (scr ns), some (.int (cellI ns 0)), some (swsD L), some (rowsD (lawRows L)), none, none, none, none, none, none, none, none] := by
    unfold lw3
    rw [set_ok (d := rowsD (lawRows L)) (rows_at (fun q hq => (hg.st q hq).2.1) hg.le)]
    rfl
  have s4 : lw4 [some (scr ns), some (.int (cellI ns 0)), some (swsD L), some (rowsD (lawRows L)), none, none, none, none, none, none, none, none] = .nx [some (scr ns), some (.int (cellI ns 0)), some (swsD L), some (rowsD (lawRows L)), some (pX L), none, none, none, none, none, none, none] := by
    unfold lw4
    rw [set_ok (d := pX L) (by
      walk_at "pd"
      rw [c1]
      walk_at "pd"
      exact law_panel_at hg _)]
    rfl
  have s5 : lw5 [some (scr ns), some (.int (cellI ns 0)), some (swsD L), some (rowsD (lawRows L)), some (pX L), none, none, none, none, none, none, none] = .nx [some (scr ns), some (.int (cellI ns 0)), some (swsD L), some (rowsD (lawRows L)), some (pX L), some otherD, none, none, none, none, none, none] := by
    unfold lw5
    rw [set_ok (d := otherD) other_made]
    rfl
  rw [e_seq, s1, e_thn, e_seq, s2, e_thn, e_seq, s3, e_thn, e_seq, s4, e_thn, e_seq, s5, e_thn, e_seq]
  rw [show lw6 [some (scr ns), some (.int (cellI ns 0)), some (swsD L), some (rowsD (lawRows L)), some (pX L), some otherD, none, none, none, none, none, none] = .nx (lwR (scr ns) (cellI ns 0) L 0 none none none none none none) from rfl, e_thn, e_seq]
  have s7 : ∃ a b o, lw7 (lwR (scr ns) (cellI ns 0) L 0 none none none none none none) = .nx (lwR (scr ns) (cellI ns 0) L (allI L) a b o none none none) := by
    unfold lw7
    unfold sFor
    rw [show iA enumD (aCons (gVar 3) aNil) (lwR (scr ns) (cellI ns 0) L 0 none none none none none none) = .ok (enumL 0 ((lawRows L).map rowD)) from rfl]
    dsimp only
    generalize hf : forL _ _ _ _ = r
    obtain ⟨ρ', e, a, b, o, rfl⟩ := forL_out hf (fun j ρ => ∃ a b o, ρ = lwR (scr ns) (cellI ns 0) L (((2 ^ j : Nat) : Int) - 1) a b o none none none) ⟨none, none, none, rfl⟩ (fun j d ρ hd hi => by
      obtain ⟨a, b, o, rfl⟩ := hi
      have hp : ∀ q ∈ L, 0 < q.2.length := fun q hq => by have := (hg.st q hq).1; omega
      have hj : j < tot L := by
        have := (List.getElem?_eq_some_iff.mp hd).1
        rw [enumL_len, List.length_map, lawRows_len] at this
        exact this
      rw [enumL_at, List.getElem?_map, lawRows_at hp hj, Nat.zero_add] at hd
      cases hd
      obtain ⟨o', eb⟩ := row_step hg (scr ns) (cellI ns 0) hj o none none none
      exact ⟨_, rfl, _, eb, _, _, o', rfl⟩)
    refine ⟨a, b, o, ?_⟩
    rw [e, enumL_len, List.length_map, lawRows_len, all_nat]
    rfl
  obtain ⟨a, b, o, s7⟩ := s7
  rw [s7, e_thn, e_seq]
  have mS : ∀ (a b o d x y : Option D), gMeth [("Panel", F_Panel_switches)] "switches" (gVar 4) aNil (lwR (scr ns) (cellI ns 0) L (allI L) a b o d x y) = .ok (dialsX L) := fun a b o d x y => by
    rw [e_gMeth (go := gVar 4) (fs := pfX L (.list []) (.list []) (.int (allI L))) (as := []) rfl (by unfold pfX; walk_at "lkp") rfl]
    exact switches_told
  have s8 : lw8 (lwR (scr ns) (cellI ns 0) L (allI L) a b o none none none) = .nx (lwR (scr ns) (cellI ns 0) L (allI L) a b o (some (dialsX L)) none none) := by
    unfold lw8
    rw [set_ok (mS a b o none none none)]
    rfl
  rw [s8, e_thn, e_seq]
  have s9 : lw9 (lwR (scr ns) (cellI ns 0) L (allI L) a b o (some (dialsX L)) none none) = .nx (lwR (scr ns) (cellI ns 0) L (allI L) a b o (some (dialsX L)) none none) := by
    unfold lw9
    have et : bScal (bOr (bNot (gB (g1 (isiD "list") (gVar 10)))) (gB (g2 neD (gVar 10) (gLc (iSeq (gVar 2)) [11, 9] (τTup 2 (τCons (τName 11) (τCons (τName 9) τNil))) bYes (gA tupD (aCons (gVar 11) (aCons (gA tupleD (aCons (gVar 9) aNil)) aNil))))))) (lwR (scr ns) (cellI ns 0) L (allI L) a b o (some (dialsX L)) none none) = .ok false := by
      unfold bScal
      have e1 : bNot (gB (g1 (isiD "list") (gVar 10))) (lwR (scr ns) (cellI ns 0) L (allI L) a b o (some (dialsX L)) none none) = .ok false := rfl
      have e2 : gB (g2 neD (gVar 10) (gLc (iSeq (gVar 2)) [11, 9] (τTup 2 (τCons (τName 11) (τCons (τName 9) τNil))) bYes (gA tupD (aCons (gVar 11) (aCons (gA tupleD (aCons (gVar 9) aNil)) aNil))))) (lwR (scr ns) (cellI ns 0) L (allI L) a b o (some (dialsX L)) none none) = .ok false := by
        unfold gB
        unfold g2
        rw [show gVar 10 (lwR (scr ns) (cellI ns 0) L (allI L) a b o (some (dialsX L)) none none) = .ok (dialsX L) from rfl, ok_bind, tuples_at hg (scr ns) (cellI ns 0) (allI L) a b o (some (dialsX L)) none none, ok_bind, ne_dials hg]
        rfl
      have e3 : bOr (bNot (gB (g1 (isiD "list") (gVar 10)))) (gB (g2 neD (gVar 10) (gLc (iSeq (gVar 2)) [11, 9] (τTup 2 (τCons (τName 11) (τCons (τName 9) τNil))) bYes (gA tupD (aCons (gVar 11) (aCons (gA tupleD (aCons (gVar 9) aNil)) aNil)))))) (lwR (scr ns) (cellI ns 0) L (allI L) a b o (some (dialsX L)) none none) = .ok false := by
        unfold bOr
        rw [e1]
        exact e2
      rw [e3]
      rfl
    show S.pick _ _ _ _ = _
    rw [et]
    rfl
  rw [s9, e_thn, e_seq]
  rw [show lw10 (lwR (scr ns) (cellI ns 0) L (allI L) a b o (some (dialsX L)) none none) = .nx (lwR (scr ns) (cellI ns 0) L (allI L) a b o (some (.list [])) none none) from rfl, e_thn, e_seq]
  have s11 : lw11 (lwR (scr ns) (cellI ns 0) L (allI L) a b o (some (.list [])) none none) = .nx (lwR (scr ns) (cellI ns 0) L (allI L) a b o (some (.list [])) none none) := by
    unfold lw11
    walk_at "pd"
    rw [mS, show lwR (scr ns) (cellI ns 0) L (allI L) a b o (some (.list [])) none none = [some (scr ns), some (.int (cellI ns 0)), some (swsD L), some (rowsD (lawRows L)), some (pX L), some otherD, some (.int (allI L)), a, b, o, some (.list []), none] from rfl]
    rw [show dialsX L = .list (L.map dialX) from rfl, show swsD L = .list (L.map swD) from rfl]
    walk_at "pd"
    rw [List.length_map, List.length_map]
    rw [show (!((L.length : Int) == (L.length : Int))) = false by rw [beq_self_eq_true]; rfl]
    walk_at "pd"
    rw [e_gMeth (go := gVar 4) (as := []) rfl (by unfold pfX; walk_at "lkp") rfl]
    rw [show F_Panel_rules [.obj "Panel" (pfX L (.list []) (.list []) (.int (allI L)))] = .ok (.list []) from rules_told]
    walk_at "pd"
    rfl
  rw [s11, e_thn, e_seq]
  have s12 : lw12 (lwR (scr ns) (cellI ns 0) L (allI L) a b o (some (.list [])) none none) = .nx (lwR (scr ns) (cellI ns 0) L (allI L) a b o (some (.list [])) none none) := by
    unfold lw12 lwR
    walk_at "pd"
    rw [e_gMeth (go := gVar 4) (as := []) rfl (by unfold pfX; walk_at "lkp") rfl]
    rw [all_choices_at (pfX_ok L _ _ _) ht]
    walk_at "pd"
    rw [show F__law_whole [.int ((mskN (tot L) fun _ => true : Nat) : Int), .int (allI L)] = .ok (.bl true) from whole_at _]
    walk_at "pd"
    rw [e_gMeth (go := gVar 4) (as := []) rfl (by unfold pfX; walk_at "lkp") rfl]
    rw [show F_Panel_allowed [.obj "Panel" (pfX L (.list []) (.list []) (.int (allI L)))] = .ok (.int (allI L)) from allowed_told]
    walk_at "pd"
    rw [whole_at]
    walk_at "pd"
  rw [s12, e_thn, e_seq]
  have s13 : lw13 (lwR (scr ns) (cellI ns 0) L (allI L) a b o (some (.list [])) none none) = .nx (lwR (scr ns) (cellI ns 0) L (allI L) a b o (some (.list [])) none none) := by
    unfold lw13 lwR
    walk_at "pd"
    rw [e_gMeth (go := gVar 4) (as := []) rfl (by unfold pfX; walk_at "lkp") rfl]
    rw [show F_Panel_many [.obj "Panel" (pfX L (.list []) (.list []) (.int (allI L)))] = .ok (.int (tot L : Int)) from many_told]
    rw [show rowsD (lawRows L) = .list ((lawRows L).map rowD) from rfl]
    walk_at "pd"
    rw [List.length_map, lawRows_len, whole_at]
    walk_at "pd"
    rw [show gMeth [("Panel", F_Panel_allowed)] "allowed" (gVar 5) aNil [some (scr ns), some (.int (cellI ns 0)), some (swsD L), some (.list ((lawRows L).map rowD)), some (pX L), some otherD, some (.int (allI L)), a, b, o, some (.list []), none] = .ok (.int 2) from (e_gMeth (go := gVar 5) (as := []) rfl rfl rfl).trans o_allowed]
    walk_at "pd"
    rw [show gMeth [("Panel", F_Panel_many)] "many" (gVar 5) aNil [some (scr ns), some (.int (cellI ns 0)), some (swsD L), some (.list ((lawRows L).map rowD)), some (pX L), some otherD, some (.int (allI L)), a, b, o, some (.list []), none] = .ok (.int 2) from (e_gMeth (go := gVar 5) (as := []) rfl rfl rfl).trans o_many]
    walk_at "pd"
    rfl
  rw [s13, e_thn]
  unfold lw14 lwR
  walk_at "pd"
  rw [c2]
  walk_at "pd"
  rw [refused_at hg]
  rfl
end
end Pd
theorem PySem.Challenge.cw_manyleaf_k03_choices_numbered_holds : PySem.Challenge.rw_manyleaf_k03_choices_numbered.Holds := by
  exact Pd.holds_of Pd.law_true
