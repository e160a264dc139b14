import PyProof.Rows.All
import Wide.All
import OpenK.AllK
import Wide.FinOn
import HandS.ForMost
import HandS.Exc
import HandS.ExcOwn
import HandS.WordsExc
import HandS.IsInst
import HandS.Defaults
import HandS.HeadHook2
import HandS.ExcField
import HandS.ExcInit
import HandS.HeadHook4
import KE.KStateDown
import Lean
import HandS.Head0
import HandS.Head1
import HandS.Head2
import HandS.HeadEnd
import HandS.TryOnly
import HandS.TupAny
import HandS.Deep
import HandS.Ends
import HandS.New
import HandS.New0
import HandS.TupMul
import HandS.Small
import HandS.Iter
import HandS.ExcIs
import PyProof.EqKinds
import PyProof.NeKinds
import HandS.Style
import HandS.SetFor
import HandS.Rev
import HandS.SetKeys
import HandS.DictEq
import HandS.WideBits
import HandS.RevTup
import HandS.Conv
import KE.SortData
import PyProof.DictMoreH
import HandS.More
import KE.GoesZip
import KE.GoesMore
import HandS.NoneIn
import HandS.Set
import HandS.SetTxt0
import HandS.TupSets
import KE.KDictList
import HandS.Sort
import HandS.ExcValue
import HandS.Strs
import HandS.Codes
import PySem.Challenge.RW_manyleaf_k06_refusals_made
set_option Elab.async false
set_option linter.all false
set_option autoImplicit false
set_option maxRecDepth 100000
set_option maxHeartbeats 4000000
namespace Pd
open PySem PySem.Spec PyProof.Rows L2
/-- a method's statement in its class -/
def mth (s : Stmt) (i : Nat) : Stmt := match s with
  | .ClassDef _ _ _ body _ _ _ _ _ _ _ => body.getD i (.Pass ⟨0, 0, 0, 0⟩)
  | _ => .Pass ⟨0, 0, 0, 0⟩
def excB (K : PySem.W.Frag) (D : Addr) : Bool := He.eqO (PySem.W.findIn K (.ref D) "__getattribute__") (some (some (.builtin "BaseException.__getattribute__"))) && (He.eqO (PySem.W.findIn K (.ref D) "__getattr__") (some none) && (decide (PySem.W.subIn K (.ref D) (.type "BaseException") = some true) && (PySem.W.hasDictIn K D &&
  (He.eqO (PySem.W.findIn K (.ref D) "__class__") (some (some (.builtin "object.__class__"))) && (He.eqO (PySem.W.specialIn K (.builtin "object.__class__") "__get__") (some (some (.builtin "getset_descriptor.__get__"))) && (decide (PySem.W.takesIn K (.builtin "object.__class__") = some true) && decide (PySem.W.mroIn K D (.type "object") = some true)))))))
def oexcB (K : PySem.W.Frag) (C : Addr) : Bool := match K.lookup C with
  | some ⟨.type "type", _, .cls cd, sl⟩ => (match cd.mro, sl.toList with
    | .ref C' :: bm, [_, _, _, _, some (.builtin n), _] => C' == C && (n == "ValueError.__new__" && (!cd.hasDel && (cd.hasDict && HandSPX.refsVE bm)))
    | _, _ => false)
  | _ => false
def oexB (K : PySem.W.Frag) (x : Str) : Bool := oexcB K (He.ga K x) && (decide (PySem.W.findIn K (.ref (He.ga K x)) "__setattr__" = some (some (.builtin "object.__setattr__"))) && (decide (PySem.W.subIn K (.ref (He.ga K x)) (.type "BaseException") = some true) &&
  (decide (PySem.W.typeIn K (.ref (He.ga K x)) = some (.type "type")) && PySem.W.keepIn K (.ref (He.ga K x)))))
def raiB (K : PySem.W.Frag) (x y : Str) (fs : List Str) : Bool := oexB K x && (decide (PySem.W.findIn K (.ref (He.ga K x)) "__init__" = some (some (.ref (He.ma K (He.ga K y) "__init__")))) && (decide (PySem.W.typeIn K (.ref (He.ma K (He.ga K y) "__init__")) = some (.type "function")) && fs.all fun n => decide (PySem.W.findIn K (.ref (He.ga K x)) n = some none)))
def veinB (K : PySem.W.Frag) (x : Str) : Bool := decide (PySem.W.specialIn K (.ref (He.ga K x)) "__getattribute__" = some (some (.builtin "type.__getattribute__"))) && (PySem.W.readsIn K (He.ga K x) (.type "type") && (match PySem.W.findCls K (.ref (He.ga K x)) (.type "type") "__init__" with
  | some (.val (.builtin n)) => n == "ValueError.__init__"
  | _ => false))
def asM (g : Addr → Option Obj) (n : Nat) : List Addr := He.asD g n ++ [cStatics]
abbrev AlM : Type := He.AlD × Bool
def obsM (n : Nat) (fa : List He.Fa) (fn : List He.DefD) (ex : PySem.W.Frag → Bool) (g : Addr → Option Obj) : AlM := (He.obsD fa fn (He.frG g (asM g n)), ex (He.frG g (asM g n)))
structure SaysM (fa : List He.Fa) (fn : List He.DefD) (ex : PySem.W.Frag → Bool) (K : PySem.W.Frag) : Prop where
  d : He.SaysD fa fn K
  more : ex K = true
def hookM (n : Nat) (fa : List He.Fa) (fn : List He.DefD) (ex : PySem.W.Frag → Bool) : PySem.W.Hook where
  α := AlM
  obs := fun s => obsM n fa fn ex s.heap.get?
  val := fun _ => (He.valD fn, true)
  says := fun _ h => ∃ K : PySem.W.Frag, K.In h ∧ SaysM fa fn ex K
  of := fun _ _ e => ⟨_, He.frG_in, ⟨congrArg (fun z : AlM => z.1) e, congrArg (fun z : AlM => z.2) e⟩⟩
  keeps := fun _ _ _ ⟨K, hK, c⟩ k => ⟨K, PySem.W.Frag.In.keeps hK k, c⟩
theorem obsM_eq {n : Nat} {fa : List He.Fa} {fn : List He.DefD} {ex : PySem.W.Frag → Bool} {g : Addr → Option Obj} {s : Shared} (h : ∀ a, g a = s.heap.get? a) : obsM n fa fn ex g = (hookM n fa fn ex).obs s := by
  have e : g = s.heap.get? := funext h
  rw [e] <;> rfl
end Pd
set_option maxHeartbeats 0
namespace Pd
open PySem PySem.Spec PyProof.Rows L2
def top (i : Nat) : Stmt := PySem.Challenge.pw_manyleaf_k06_refusals_made.main.body.getD i (.Pass ⟨0, 0, 0, 0⟩)
abbrev s__law_first : Stmt := top 26
abbrev s__law_edits : Stmt := top 27
abbrev s__law_good : Stmt := top 28
abbrev s__law_plain_ones : Stmt := top 29
abbrev s__law_cell_at : Stmt := top 24
abbrev s_BadPage_init : Stmt := mth (top 6) 0
abbrev s_Unlike_init : Stmt := mth (top 7) 0
abbrev s_StandsOn_init : Stmt := mth (top 11) 0
abbrev s_NoEditor_init : Stmt := mth (top 13) 0
abbrev s_NoEdit_init : Stmt := mth (top 8) 0
abbrev s_NotLive_init : Stmt := mth (top 9) 0
abbrev s_IsLive_init : Stmt := mth (top 10) 0
abbrev s__law_with_fields : Stmt := top 30
abbrev s_EditError_init : Stmt := mth (top 14) 0
abbrev s__law_of_edits : Stmt := top 31
abbrev s__law_mix : Stmt := top 25
abbrev s_law : Stmt := top 32
def d__law_first : He.DefD := ⟨("_law_first", none), "_law_first", "_law_first", defArgs s__law_first, defBody s__law_first, defScope s__law_first, [], []⟩
def d__law_edits : He.DefD := ⟨("_law_edits", none), "_law_edits", "_law_edits", defArgs s__law_edits, defBody s__law_edits, defScope s__law_edits, [], []⟩
def d__law_good : He.DefD := ⟨("_law_good", none), "_law_good", "_law_good", defArgs s__law_good, defBody s__law_good, defScope s__law_good, [], []⟩
def d__law_plain_ones : He.DefD := ⟨("_law_plain_ones", none), "_law_plain_ones", "_law_plain_ones", defArgs s__law_plain_ones, defBody s__law_plain_ones, defScope s__law_plain_ones, [], []⟩
def d__law_cell_at : He.DefD := ⟨("_law_cell_at", none), "_law_cell_at", "_law_cell_at", defArgs s__law_cell_at, defBody s__law_cell_at, defScope s__law_cell_at, [], []⟩
def d_BadPage_init : He.DefD := ⟨("BadPage", some "__init__"), "__init__", "BadPage.__init__", defArgs s_BadPage_init, defBody s_BadPage_init, defScope s_BadPage_init, [], []⟩
def d_Unlike_init : He.DefD := ⟨("Unlike", some "__init__"), "__init__", "Unlike.__init__", defArgs s_Unlike_init, defBody s_Unlike_init, defScope s_Unlike_init, [], []⟩
def d_StandsOn_init : He.DefD := ⟨("StandsOn", some "__init__"), "__init__", "StandsOn.__init__", defArgs s_StandsOn_init, defBody s_StandsOn_init, defScope s_StandsOn_init, [], []⟩
def d_NoEditor_init : He.DefD := ⟨("NoEditor", some "__init__"), "__init__", "NoEditor.__init__", defArgs s_NoEditor_init, defBody s_NoEditor_init, defScope s_NoEditor_init, [], []⟩
def d_NoEdit_init : He.DefD := ⟨("NoEdit", some "__init__"), "__init__", "NoEdit.__init__", defArgs s_NoEdit_init, defBody s_NoEdit_init, defScope s_NoEdit_init, [], []⟩
def d_NotLive_init : He.DefD := ⟨("NotLive", some "__init__"), "__init__", "NotLive.__init__", defArgs s_NotLive_init, defBody s_NotLive_init, defScope s_NotLive_init, [], []⟩
def d_IsLive_init : He.DefD := ⟨("IsLive", some "__init__"), "__init__", "IsLive.__init__", defArgs s_IsLive_init, defBody s_IsLive_init, defScope s_IsLive_init, [], []⟩
def d__law_with_fields : He.DefD := ⟨("_law_with_fields", none), "_law_with_fields", "_law_with_fields", defArgs s__law_with_fields, defBody s__law_with_fields, defScope s__law_with_fields, [], []⟩
def d_EditError_init : He.DefD := ⟨("EditError", some "__init__"), "__init__", "EditError.__init__", defArgs s_EditError_init, defBody s_EditError_init, defScope s_EditError_init, [.non], []⟩
def d__law_of_edits : He.DefD := ⟨("_law_of_edits", none), "_law_of_edits", "_law_of_edits", defArgs s__law_of_edits, defBody s__law_of_edits, defScope s__law_of_edits, [], []⟩
def d__law_mix : He.DefD := ⟨("_law_mix", none), "_law_mix", "_law_mix", defArgs s__law_mix, defBody s__law_mix, defScope s__law_mix, [], []⟩
def d_law : He.DefD := ⟨("law", none), "law", "law", defArgs s_law, defBody s_law, defScope s_law, [], []⟩
def fn : List He.DefD := ([d__law_first, d__law_edits, d__law_good, d__law_plain_ones, d__law_cell_at, d_BadPage_init, d_Unlike_init, d_StandsOn_init, d_NoEditor_init, d_NoEdit_init, d_NotLive_init, d_IsLive_init, d__law_with_fields, d_EditError_init, d__law_of_edits, d__law_mix, d_law] : List He.DefD)
def fa : List He.Fa := ([.glo "_law_first", .glo "_law_edits", .glo "_law_good", .glo "_law_plain_ones", .glo "_law_cell_at", .glo "_law_with_fields", .glo "_law_of_edits", .glo "_law_mix", .glo "law", .free "ValueError", .free "enumerate", .free "isinstance", .free "len", .free "range", .glo "BadPage", .glo "Doubled", .glo "EditError", .glo "Far", .glo "IsLive", .glo "Lost", .glo "NoEdit", .glo "NoEditor", .glo "NoHolder", .glo "NoPart", .glo "NotLive", .glo "Ring", .glo "StandsOn", .glo "TooLong", .glo "Unlike", .glo "WrongKind"] : List He.Fa) ++ ([.glo "LeafError", .exc "BadCond", .glo "BadCond", .exc "BadEdit", .glo "BadEdit", .exc "BadPanel", .glo "BadPanel", .exc "LeafError", .exc "NoChoice", .glo "NoChoice", .exc "NoRow", .glo "NoRow"] : List He.Fa)
def exq0 (K : PySem.W.Frag) : List Bool := [raiB K "BadPage" "BadPage" ["line", "choice"], raiB K "Doubled" "EditError" ["part", "choice"], raiB K "EditError" "EditError" ["part", "choice"], raiB K "Far" "EditError" ["part", "choice"], raiB K "IsLive" "IsLive" ["number"], raiB K "Lost" "EditError" ["part", "choice"], raiB K "NoEdit" "NoEdit" ["number"], raiB K "NoEditor" "NoEditor" ["editor"], raiB K "NoHolder" "EditError" ["part", "choice"], raiB K "NoPart" "EditError" ["part", "choice"], raiB K "NotLive" "NotLive" ["number"], raiB K "Ring" "EditError" ["part", "choice"], raiB K "StandsOn" "StandsOn" ["number", "choice"], raiB K "TooLong" "EditError" ["part", "choice"], raiB K "Unlike" "Unlike" ["part", "one", "other"], raiB K "WrongKind" "EditError" ["part", "choice"], veinB K "LeafError", xfB K (He.ga K "TooLong"), decide (PySem.W.findIn K (.ref (He.ga K "TooLong")) "choice" = some none), xfB K (He.ga K "Far"), decide (PySem.W.findIn K (.ref (He.ga K "Far")) "choice" = some none), xfB K (He.ga K "WrongKind"), decide (PySem.W.findIn K (.ref (He.ga K "WrongKind")) "choice" = some none), xfB K (He.ga K "NoHolder"), decide (PySem.W.findIn K (.ref (He.ga K "NoHolder")) "choice" = some none)]
def exq1 (K : PySem.W.Frag) : List Bool := [xfB K (He.ga K "Ring"), decide (PySem.W.findIn K (.ref (He.ga K "Ring")) "choice" = some none), xfB K (He.ga K "Lost"), decide (PySem.W.findIn K (.ref (He.ga K "Lost")) "choice" = some none), xfB K (He.ga K "Doubled"), decide (PySem.W.findIn K (.ref (He.ga K "Doubled")) "choice" = some none), xfB K (He.ga K "NoPart"), decide (PySem.W.findIn K (.ref (He.ga K "NoPart")) "choice" = some none), xfB K (He.ga K "EditError"), decide (PySem.W.findIn K (.ref (He.ga K "EditError")) "choice" = some none), xfB K (He.ga K "StandsOn"), decide (PySem.W.findIn K (.ref (He.ga K "StandsOn")) "choice" = some none), xfB K (He.ga K "BadPage"), decide (PySem.W.findIn K (.ref (He.ga K "BadPage")) "choice" = some none), xfB K (He.ga K "NoEditor"), decide (PySem.W.findIn K (.ref (He.ga K "NoEditor")) "editor" = some none), decide (PySem.W.findIn K (.ref (He.ga K "BadPage")) "line" = some none), decide (PySem.W.findIn K (.ref (He.ga K "StandsOn")) "number" = some none), xfB K (He.ga K "IsLive"), decide (PySem.W.findIn K (.ref (He.ga K "IsLive")) "number" = some none), xfB K (He.ga K "NotLive"), decide (PySem.W.findIn K (.ref (He.ga K "NotLive")) "number" = some none), xfB K (He.ga K "NoEdit"), decide (PySem.W.findIn K (.ref (He.ga K "NoEdit")) "number" = some none), xfB K (He.ga K "Unlike")]
def exq2 (K : PySem.W.Frag) : List Bool := [decide (PySem.W.findIn K (.ref (He.ga K "Unlike")) "one" = some none), decide (PySem.W.findIn K (.ref (He.ga K "Unlike")) "other" = some none), decide (PySem.W.findIn K (.ref (He.ga K "TooLong")) "part" = some none), decide (PySem.W.findIn K (.ref (He.ga K "Far")) "part" = some none), decide (PySem.W.findIn K (.ref (He.ga K "WrongKind")) "part" = some none), decide (PySem.W.findIn K (.ref (He.ga K "NoHolder")) "part" = some none), decide (PySem.W.findIn K (.ref (He.ga K "Ring")) "part" = some none), decide (PySem.W.findIn K (.ref (He.ga K "Lost")) "part" = some none), decide (PySem.W.findIn K (.ref (He.ga K "Doubled")) "part" = some none), decide (PySem.W.findIn K (.ref (He.ga K "NoPart")) "part" = some none), decide (PySem.W.findIn K (.ref (He.ga K "EditError")) "part" = some none), decide (PySem.W.findIn K (.ref (He.ga K "Unlike")) "part" = some none), excB K (He.ga K "TooLong"), decide (PySem.W.kitOne K (.ref (He.ga K "TooLong")) (.ref (He.ga K "BadPanel")) = some false), excB K (He.ga K "Far"), decide (PySem.W.kitOne K (.ref (He.ga K "Far")) (.ref (He.ga K "BadPanel")) = some false), excB K (He.ga K "WrongKind"), decide (PySem.W.kitOne K (.ref (He.ga K "WrongKind")) (.ref (He.ga K "BadPanel")) = some false), excB K (He.ga K "NoHolder"), decide (PySem.W.kitOne K (.ref (He.ga K "NoHolder")) (.ref (He.ga K "BadPanel")) = some false), excB K (He.ga K "Ring"), decide (PySem.W.kitOne K (.ref (He.ga K "Ring")) (.ref (He.ga K "BadPanel")) = some false), excB K (He.ga K "Lost"), decide (PySem.W.kitOne K (.ref (He.ga K "Lost")) (.ref (He.ga K "BadPanel")) = some false), excB K (He.ga K "Doubled")]
def exq3 (K : PySem.W.Frag) : List Bool := [decide (PySem.W.kitOne K (.ref (He.ga K "Doubled")) (.ref (He.ga K "BadPanel")) = some false), excB K (He.ga K "NoPart"), decide (PySem.W.kitOne K (.ref (He.ga K "NoPart")) (.ref (He.ga K "BadPanel")) = some false), excB K (He.ga K "EditError"), decide (PySem.W.kitOne K (.ref (He.ga K "EditError")) (.ref (He.ga K "BadPanel")) = some false), excB K (He.ga K "NoEditor"), decide (PySem.W.kitOne K (.ref (He.ga K "NoEditor")) (.ref (He.ga K "BadPanel")) = some false), excB K (He.ga K "NoRow"), decide (PySem.W.kitOne K (.ref (He.ga K "NoRow")) (.ref (He.ga K "BadPanel")) = some false), excB K (He.ga K "StandsOn"), decide (PySem.W.kitOne K (.ref (He.ga K "StandsOn")) (.ref (He.ga K "BadPanel")) = some false), excB K (He.ga K "IsLive"), decide (PySem.W.kitOne K (.ref (He.ga K "IsLive")) (.ref (He.ga K "BadPanel")) = some false), excB K (He.ga K "NotLive"), decide (PySem.W.kitOne K (.ref (He.ga K "NotLive")) (.ref (He.ga K "BadPanel")) = some false), excB K (He.ga K "NoEdit"), decide (PySem.W.kitOne K (.ref (He.ga K "NoEdit")) (.ref (He.ga K "BadPanel")) = some false), excB K (He.ga K "Unlike"), decide (PySem.W.kitOne K (.ref (He.ga K "Unlike")) (.ref (He.ga K "BadPanel")) = some false), excB K (He.ga K "BadPage"), decide (PySem.W.kitOne K (.ref (He.ga K "BadPage")) (.ref (He.ga K "BadPanel")) = some false), excB K (He.ga K "BadEdit"), decide (PySem.W.kitOne K (.ref (He.ga K "BadEdit")) (.ref (He.ga K "BadPanel")) = some false), excB K (He.ga K "BadCond"), decide (PySem.W.kitOne K (.ref (He.ga K "BadCond")) (.ref (He.ga K "BadPanel")) = some false)]
def exq4 (K : PySem.W.Frag) : List Bool := [excB K (He.ga K "NoChoice"), decide (PySem.W.kitOne K (.ref (He.ga K "NoChoice")) (.ref (He.ga K "BadPanel")) = some false), excB K (He.ga K "BadPanel"), decide (PySem.W.kitOne K (.ref (He.ga K "BadPanel")) (.ref (He.ga K "BadPanel")) = some true), excB K (He.ga K "LeafError"), decide (PySem.W.kitOne K (.ref (He.ga K "LeafError")) (.ref (He.ga K "BadPanel")) = some false), decide (PySem.W.kitOne K (.ref (He.ga K "TooLong")) (.ref (He.ga K "NoChoice")) = some false), decide (PySem.W.kitOne K (.ref (He.ga K "Far")) (.ref (He.ga K "NoChoice")) = some false), decide (PySem.W.kitOne K (.ref (He.ga K "WrongKind")) (.ref (He.ga K "NoChoice")) = some false), decide (PySem.W.kitOne K (.ref (He.ga K "NoHolder")) (.ref (He.ga K "NoChoice")) = some false), decide (PySem.W.kitOne K (.ref (He.ga K "Ring")) (.ref (He.ga K "NoChoice")) = some false), decide (PySem.W.kitOne K (.ref (He.ga K "Lost")) (.ref (He.ga K "NoChoice")) = some false), decide (PySem.W.kitOne K (.ref (He.ga K "Doubled")) (.ref (He.ga K "NoChoice")) = some false), decide (PySem.W.kitOne K (.ref (He.ga K "NoPart")) (.ref (He.ga K "NoChoice")) = some false), decide (PySem.W.kitOne K (.ref (He.ga K "EditError")) (.ref (He.ga K "NoChoice")) = some false), decide (PySem.W.kitOne K (.ref (He.ga K "NoEditor")) (.ref (He.ga K "NoChoice")) = some false), decide (PySem.W.kitOne K (.ref (He.ga K "NoRow")) (.ref (He.ga K "NoChoice")) = some false), decide (PySem.W.kitOne K (.ref (He.ga K "StandsOn")) (.ref (He.ga K "NoChoice")) = some false), decide (PySem.W.kitOne K (.ref (He.ga K "IsLive")) (.ref (He.ga K "NoChoice")) = some false), decide (PySem.W.kitOne K (.ref (He.ga K "NotLive")) (.ref (He.ga K "NoChoice")) = some false), decide (PySem.W.kitOne K (.ref (He.ga K "NoEdit")) (.ref (He.ga K "NoChoice")) = some false), decide (PySem.W.kitOne K (.ref (He.ga K "Unlike")) (.ref (He.ga K "NoChoice")) = some false), decide (PySem.W.kitOne K (.ref (He.ga K "BadPage")) (.ref (He.ga K "NoChoice")) = some false), decide (PySem.W.kitOne K (.ref (He.ga K "BadEdit")) (.ref (He.ga K "NoChoice")) = some false), decide (PySem.W.kitOne K (.ref (He.ga K "BadCond")) (.ref (He.ga K "NoChoice")) = some false)]
def exq5 (K : PySem.W.Frag) : List Bool := [decide (PySem.W.kitOne K (.ref (He.ga K "NoChoice")) (.ref (He.ga K "NoChoice")) = some true), decide (PySem.W.kitOne K (.ref (He.ga K "BadPanel")) (.ref (He.ga K "NoChoice")) = some false), decide (PySem.W.kitOne K (.ref (He.ga K "LeafError")) (.ref (He.ga K "NoChoice")) = some false), decide (PySem.W.kitOne K (.ref (He.ga K "TooLong")) (.ref (He.ga K "BadCond")) = some false), decide (PySem.W.kitOne K (.ref (He.ga K "Far")) (.ref (He.ga K "BadCond")) = some false), decide (PySem.W.kitOne K (.ref (He.ga K "WrongKind")) (.ref (He.ga K "BadCond")) = some false), decide (PySem.W.kitOne K (.ref (He.ga K "NoHolder")) (.ref (He.ga K "BadCond")) = some false), decide (PySem.W.kitOne K (.ref (He.ga K "Ring")) (.ref (He.ga K "BadCond")) = some false), decide (PySem.W.kitOne K (.ref (He.ga K "Lost")) (.ref (He.ga K "BadCond")) = some false), decide (PySem.W.kitOne K (.ref (He.ga K "Doubled")) (.ref (He.ga K "BadCond")) = some false), decide (PySem.W.kitOne K (.ref (He.ga K "NoPart")) (.ref (He.ga K "BadCond")) = some false), decide (PySem.W.kitOne K (.ref (He.ga K "EditError")) (.ref (He.ga K "BadCond")) = some false), decide (PySem.W.kitOne K (.ref (He.ga K "NoEditor")) (.ref (He.ga K "BadCond")) = some false), decide (PySem.W.kitOne K (.ref (He.ga K "NoRow")) (.ref (He.ga K "BadCond")) = some false), decide (PySem.W.kitOne K (.ref (He.ga K "StandsOn")) (.ref (He.ga K "BadCond")) = some false), decide (PySem.W.kitOne K (.ref (He.ga K "IsLive")) (.ref (He.ga K "BadCond")) = some false), decide (PySem.W.kitOne K (.ref (He.ga K "NotLive")) (.ref (He.ga K "BadCond")) = some false), decide (PySem.W.kitOne K (.ref (He.ga K "NoEdit")) (.ref (He.ga K "BadCond")) = some false), decide (PySem.W.kitOne K (.ref (He.ga K "Unlike")) (.ref (He.ga K "BadCond")) = some false), decide (PySem.W.kitOne K (.ref (He.ga K "BadPage")) (.ref (He.ga K "BadCond")) = some false), decide (PySem.W.kitOne K (.ref (He.ga K "BadEdit")) (.ref (He.ga K "BadCond")) = some false), decide (PySem.W.kitOne K (.ref (He.ga K "BadCond")) (.ref (He.ga K "BadCond")) = some true), decide (PySem.W.kitOne K (.ref (He.ga K "NoChoice")) (.ref (He.ga K "BadCond")) = some false), decide (PySem.W.kitOne K (.ref (He.ga K "BadPanel")) (.ref (He.ga K "BadCond")) = some false), decide (PySem.W.kitOne K (.ref (He.ga K "LeafError")) (.ref (He.ga K "BadCond")) = some false)]
def exq6 (K : PySem.W.Frag) : List Bool := [decide (PySem.W.kitOne K (.ref (He.ga K "TooLong")) (.ref (He.ga K "BadEdit")) = some false), decide (PySem.W.kitOne K (.ref (He.ga K "Far")) (.ref (He.ga K "BadEdit")) = some false), decide (PySem.W.kitOne K (.ref (He.ga K "WrongKind")) (.ref (He.ga K "BadEdit")) = some false), decide (PySem.W.kitOne K (.ref (He.ga K "NoHolder")) (.ref (He.ga K "BadEdit")) = some false), decide (PySem.W.kitOne K (.ref (He.ga K "Ring")) (.ref (He.ga K "BadEdit")) = some false), decide (PySem.W.kitOne K (.ref (He.ga K "Lost")) (.ref (He.ga K "BadEdit")) = some false), decide (PySem.W.kitOne K (.ref (He.ga K "Doubled")) (.ref (He.ga K "BadEdit")) = some false), decide (PySem.W.kitOne K (.ref (He.ga K "NoPart")) (.ref (He.ga K "BadEdit")) = some false), decide (PySem.W.kitOne K (.ref (He.ga K "EditError")) (.ref (He.ga K "BadEdit")) = some false), decide (PySem.W.kitOne K (.ref (He.ga K "NoEditor")) (.ref (He.ga K "BadEdit")) = some false), decide (PySem.W.kitOne K (.ref (He.ga K "NoRow")) (.ref (He.ga K "BadEdit")) = some false), decide (PySem.W.kitOne K (.ref (He.ga K "StandsOn")) (.ref (He.ga K "BadEdit")) = some false), decide (PySem.W.kitOne K (.ref (He.ga K "IsLive")) (.ref (He.ga K "BadEdit")) = some false), decide (PySem.W.kitOne K (.ref (He.ga K "NotLive")) (.ref (He.ga K "BadEdit")) = some false), decide (PySem.W.kitOne K (.ref (He.ga K "NoEdit")) (.ref (He.ga K "BadEdit")) = some false), decide (PySem.W.kitOne K (.ref (He.ga K "Unlike")) (.ref (He.ga K "BadEdit")) = some false), decide (PySem.W.kitOne K (.ref (He.ga K "BadPage")) (.ref (He.ga K "BadEdit")) = some false), decide (PySem.W.kitOne K (.ref (He.ga K "BadEdit")) (.ref (He.ga K "BadEdit")) = some true), decide (PySem.W.kitOne K (.ref (He.ga K "BadCond")) (.ref (He.ga K "BadEdit")) = some false), decide (PySem.W.kitOne K (.ref (He.ga K "NoChoice")) (.ref (He.ga K "BadEdit")) = some false), decide (PySem.W.kitOne K (.ref (He.ga K "BadPanel")) (.ref (He.ga K "BadEdit")) = some false), decide (PySem.W.kitOne K (.ref (He.ga K "LeafError")) (.ref (He.ga K "BadEdit")) = some false), decide (PySem.W.kitOne K (.ref (He.ga K "TooLong")) (.ref (He.ga K "NoRow")) = some false), decide (PySem.W.kitOne K (.ref (He.ga K "Far")) (.ref (He.ga K "NoRow")) = some false), decide (PySem.W.kitOne K (.ref (He.ga K "WrongKind")) (.ref (He.ga K "NoRow")) = some false)]
def exq7 (K : PySem.W.Frag) : List Bool := [decide (PySem.W.kitOne K (.ref (He.ga K "NoHolder")) (.ref (He.ga K "NoRow")) = some false), decide (PySem.W.kitOne K (.ref (He.ga K "Ring")) (.ref (He.ga K "NoRow")) = some false), decide (PySem.W.kitOne K (.ref (He.ga K "Lost")) (.ref (He.ga K "NoRow")) = some false), decide (PySem.W.kitOne K (.ref (He.ga K "Doubled")) (.ref (He.ga K "NoRow")) = some false), decide (PySem.W.kitOne K (.ref (He.ga K "NoPart")) (.ref (He.ga K "NoRow")) = some false), decide (PySem.W.kitOne K (.ref (He.ga K "EditError")) (.ref (He.ga K "NoRow")) = some false), decide (PySem.W.kitOne K (.ref (He.ga K "NoEditor")) (.ref (He.ga K "NoRow")) = some false), decide (PySem.W.kitOne K (.ref (He.ga K "NoRow")) (.ref (He.ga K "NoRow")) = some true), decide (PySem.W.kitOne K (.ref (He.ga K "StandsOn")) (.ref (He.ga K "NoRow")) = some false), decide (PySem.W.kitOne K (.ref (He.ga K "IsLive")) (.ref (He.ga K "NoRow")) = some false), decide (PySem.W.kitOne K (.ref (He.ga K "NotLive")) (.ref (He.ga K "NoRow")) = some false), decide (PySem.W.kitOne K (.ref (He.ga K "NoEdit")) (.ref (He.ga K "NoRow")) = some false), decide (PySem.W.kitOne K (.ref (He.ga K "Unlike")) (.ref (He.ga K "NoRow")) = some false), decide (PySem.W.kitOne K (.ref (He.ga K "BadPage")) (.ref (He.ga K "NoRow")) = some false), decide (PySem.W.kitOne K (.ref (He.ga K "BadEdit")) (.ref (He.ga K "NoRow")) = some false), decide (PySem.W.kitOne K (.ref (He.ga K "BadCond")) (.ref (He.ga K "NoRow")) = some false), decide (PySem.W.kitOne K (.ref (He.ga K "NoChoice")) (.ref (He.ga K "NoRow")) = some false), decide (PySem.W.kitOne K (.ref (He.ga K "BadPanel")) (.ref (He.ga K "NoRow")) = some false), decide (PySem.W.kitOne K (.ref (He.ga K "LeafError")) (.ref (He.ga K "NoRow")) = some false), decide (PySem.W.kitOne K (.ref (He.ga K "TooLong")) (.ref (He.ga K "BadPage")) = some false), decide (PySem.W.kitOne K (.ref (He.ga K "Far")) (.ref (He.ga K "BadPage")) = some false), decide (PySem.W.kitOne K (.ref (He.ga K "WrongKind")) (.ref (He.ga K "BadPage")) = some false), decide (PySem.W.kitOne K (.ref (He.ga K "NoHolder")) (.ref (He.ga K "BadPage")) = some false), decide (PySem.W.kitOne K (.ref (He.ga K "Ring")) (.ref (He.ga K "BadPage")) = some false), decide (PySem.W.kitOne K (.ref (He.ga K "Lost")) (.ref (He.ga K "BadPage")) = some false)]
def exq8 (K : PySem.W.Frag) : List Bool := [decide (PySem.W.kitOne K (.ref (He.ga K "Doubled")) (.ref (He.ga K "BadPage")) = some false), decide (PySem.W.kitOne K (.ref (He.ga K "NoPart")) (.ref (He.ga K "BadPage")) = some false), decide (PySem.W.kitOne K (.ref (He.ga K "EditError")) (.ref (He.ga K "BadPage")) = some false), decide (PySem.W.kitOne K (.ref (He.ga K "NoEditor")) (.ref (He.ga K "BadPage")) = some false), decide (PySem.W.kitOne K (.ref (He.ga K "NoRow")) (.ref (He.ga K "BadPage")) = some false), decide (PySem.W.kitOne K (.ref (He.ga K "StandsOn")) (.ref (He.ga K "BadPage")) = some false), decide (PySem.W.kitOne K (.ref (He.ga K "IsLive")) (.ref (He.ga K "BadPage")) = some false), decide (PySem.W.kitOne K (.ref (He.ga K "NotLive")) (.ref (He.ga K "BadPage")) = some false), decide (PySem.W.kitOne K (.ref (He.ga K "NoEdit")) (.ref (He.ga K "BadPage")) = some false), decide (PySem.W.kitOne K (.ref (He.ga K "Unlike")) (.ref (He.ga K "BadPage")) = some false), decide (PySem.W.kitOne K (.ref (He.ga K "BadPage")) (.ref (He.ga K "BadPage")) = some true), decide (PySem.W.kitOne K (.ref (He.ga K "BadEdit")) (.ref (He.ga K "BadPage")) = some false), decide (PySem.W.kitOne K (.ref (He.ga K "BadCond")) (.ref (He.ga K "BadPage")) = some false), decide (PySem.W.kitOne K (.ref (He.ga K "NoChoice")) (.ref (He.ga K "BadPage")) = some false), decide (PySem.W.kitOne K (.ref (He.ga K "BadPanel")) (.ref (He.ga K "BadPage")) = some false), decide (PySem.W.kitOne K (.ref (He.ga K "LeafError")) (.ref (He.ga K "BadPage")) = some false), decide (PySem.W.kitOne K (.ref (He.ga K "TooLong")) (.ref (He.ga K "Unlike")) = some false), decide (PySem.W.kitOne K (.ref (He.ga K "Far")) (.ref (He.ga K "Unlike")) = some false), decide (PySem.W.kitOne K (.ref (He.ga K "WrongKind")) (.ref (He.ga K "Unlike")) = some false), decide (PySem.W.kitOne K (.ref (He.ga K "NoHolder")) (.ref (He.ga K "Unlike")) = some false), decide (PySem.W.kitOne K (.ref (He.ga K "Ring")) (.ref (He.ga K "Unlike")) = some false), decide (PySem.W.kitOne K (.ref (He.ga K "Lost")) (.ref (He.ga K "Unlike")) = some false), decide (PySem.W.kitOne K (.ref (He.ga K "Doubled")) (.ref (He.ga K "Unlike")) = some false), decide (PySem.W.kitOne K (.ref (He.ga K "NoPart")) (.ref (He.ga K "Unlike")) = some false), decide (PySem.W.kitOne K (.ref (He.ga K "EditError")) (.ref (He.ga K "Unlike")) = some false)]
def exq9 (K : PySem.W.Frag) : List Bool := [decide (PySem.W.kitOne K (.ref (He.ga K "NoEditor")) (.ref (He.ga K "Unlike")) = some false), decide (PySem.W.kitOne K (.ref (He.ga K "NoRow")) (.ref (He.ga K "Unlike")) = some false), decide (PySem.W.kitOne K (.ref (He.ga K "StandsOn")) (.ref (He.ga K "Unlike")) = some false), decide (PySem.W.kitOne K (.ref (He.ga K "IsLive")) (.ref (He.ga K "Unlike")) = some false), decide (PySem.W.kitOne K (.ref (He.ga K "NotLive")) (.ref (He.ga K "Unlike")) = some false), decide (PySem.W.kitOne K (.ref (He.ga K "NoEdit")) (.ref (He.ga K "Unlike")) = some false), decide (PySem.W.kitOne K (.ref (He.ga K "Unlike")) (.ref (He.ga K "Unlike")) = some true), decide (PySem.W.kitOne K (.ref (He.ga K "BadPage")) (.ref (He.ga K "Unlike")) = some false), decide (PySem.W.kitOne K (.ref (He.ga K "BadEdit")) (.ref (He.ga K "Unlike")) = some false), decide (PySem.W.kitOne K (.ref (He.ga K "BadCond")) (.ref (He.ga K "Unlike")) = some false), decide (PySem.W.kitOne K (.ref (He.ga K "NoChoice")) (.ref (He.ga K "Unlike")) = some false), decide (PySem.W.kitOne K (.ref (He.ga K "BadPanel")) (.ref (He.ga K "Unlike")) = some false), decide (PySem.W.kitOne K (.ref (He.ga K "LeafError")) (.ref (He.ga K "Unlike")) = some false), decide (PySem.W.kitOne K (.ref (He.ga K "TooLong")) (.ref (He.ga K "NoEdit")) = some false), decide (PySem.W.kitOne K (.ref (He.ga K "Far")) (.ref (He.ga K "NoEdit")) = some false), decide (PySem.W.kitOne K (.ref (He.ga K "WrongKind")) (.ref (He.ga K "NoEdit")) = some false), decide (PySem.W.kitOne K (.ref (He.ga K "NoHolder")) (.ref (He.ga K "NoEdit")) = some false), decide (PySem.W.kitOne K (.ref (He.ga K "Ring")) (.ref (He.ga K "NoEdit")) = some false), decide (PySem.W.kitOne K (.ref (He.ga K "Lost")) (.ref (He.ga K "NoEdit")) = some false), decide (PySem.W.kitOne K (.ref (He.ga K "Doubled")) (.ref (He.ga K "NoEdit")) = some false), decide (PySem.W.kitOne K (.ref (He.ga K "NoPart")) (.ref (He.ga K "NoEdit")) = some false), decide (PySem.W.kitOne K (.ref (He.ga K "EditError")) (.ref (He.ga K "NoEdit")) = some false), decide (PySem.W.kitOne K (.ref (He.ga K "NoEditor")) (.ref (He.ga K "NoEdit")) = some false), decide (PySem.W.kitOne K (.ref (He.ga K "NoRow")) (.ref (He.ga K "NoEdit")) = some false), decide (PySem.W.kitOne K (.ref (He.ga K "StandsOn")) (.ref (He.ga K "NoEdit")) = some false)]
def exq10 (K : PySem.W.Frag) : List Bool := [decide (PySem.W.kitOne K (.ref (He.ga K "IsLive")) (.ref (He.ga K "NoEdit")) = some false), decide (PySem.W.kitOne K (.ref (He.ga K "NotLive")) (.ref (He.ga K "NoEdit")) = some false), decide (PySem.W.kitOne K (.ref (He.ga K "NoEdit")) (.ref (He.ga K "NoEdit")) = some true), decide (PySem.W.kitOne K (.ref (He.ga K "Unlike")) (.ref (He.ga K "NoEdit")) = some false), decide (PySem.W.kitOne K (.ref (He.ga K "BadPage")) (.ref (He.ga K "NoEdit")) = some false), decide (PySem.W.kitOne K (.ref (He.ga K "BadEdit")) (.ref (He.ga K "NoEdit")) = some false), decide (PySem.W.kitOne K (.ref (He.ga K "BadCond")) (.ref (He.ga K "NoEdit")) = some false), decide (PySem.W.kitOne K (.ref (He.ga K "NoChoice")) (.ref (He.ga K "NoEdit")) = some false), decide (PySem.W.kitOne K (.ref (He.ga K "BadPanel")) (.ref (He.ga K "NoEdit")) = some false), decide (PySem.W.kitOne K (.ref (He.ga K "LeafError")) (.ref (He.ga K "NoEdit")) = some false), decide (PySem.W.kitOne K (.ref (He.ga K "TooLong")) (.ref (He.ga K "NotLive")) = some false), decide (PySem.W.kitOne K (.ref (He.ga K "Far")) (.ref (He.ga K "NotLive")) = some false), decide (PySem.W.kitOne K (.ref (He.ga K "WrongKind")) (.ref (He.ga K "NotLive")) = some false), decide (PySem.W.kitOne K (.ref (He.ga K "NoHolder")) (.ref (He.ga K "NotLive")) = some false), decide (PySem.W.kitOne K (.ref (He.ga K "Ring")) (.ref (He.ga K "NotLive")) = some false), decide (PySem.W.kitOne K (.ref (He.ga K "Lost")) (.ref (He.ga K "NotLive")) = some false), decide (PySem.W.kitOne K (.ref (He.ga K "Doubled")) (.ref (He.ga K "NotLive")) = some false), decide (PySem.W.kitOne K (.ref (He.ga K "NoPart")) (.ref (He.ga K "NotLive")) = some false), decide (PySem.W.kitOne K (.ref (He.ga K "EditError")) (.ref (He.ga K "NotLive")) = some false), decide (PySem.W.kitOne K (.ref (He.ga K "NoEditor")) (.ref (He.ga K "NotLive")) = some false), decide (PySem.W.kitOne K (.ref (He.ga K "NoRow")) (.ref (He.ga K "NotLive")) = some false), decide (PySem.W.kitOne K (.ref (He.ga K "StandsOn")) (.ref (He.ga K "NotLive")) = some false), decide (PySem.W.kitOne K (.ref (He.ga K "IsLive")) (.ref (He.ga K "NotLive")) = some false), decide (PySem.W.kitOne K (.ref (He.ga K "NotLive")) (.ref (He.ga K "NotLive")) = some true), decide (PySem.W.kitOne K (.ref (He.ga K "NoEdit")) (.ref (He.ga K "NotLive")) = some false)]
def exq11 (K : PySem.W.Frag) : List Bool := [decide (PySem.W.kitOne K (.ref (He.ga K "Unlike")) (.ref (He.ga K "NotLive")) = some false), decide (PySem.W.kitOne K (.ref (He.ga K "BadPage")) (.ref (He.ga K "NotLive")) = some false), decide (PySem.W.kitOne K (.ref (He.ga K "BadEdit")) (.ref (He.ga K "NotLive")) = some false), decide (PySem.W.kitOne K (.ref (He.ga K "BadCond")) (.ref (He.ga K "NotLive")) = some false), decide (PySem.W.kitOne K (.ref (He.ga K "NoChoice")) (.ref (He.ga K "NotLive")) = some false), decide (PySem.W.kitOne K (.ref (He.ga K "BadPanel")) (.ref (He.ga K "NotLive")) = some false), decide (PySem.W.kitOne K (.ref (He.ga K "LeafError")) (.ref (He.ga K "NotLive")) = some false), decide (PySem.W.kitOne K (.ref (He.ga K "TooLong")) (.ref (He.ga K "IsLive")) = some false), decide (PySem.W.kitOne K (.ref (He.ga K "Far")) (.ref (He.ga K "IsLive")) = some false), decide (PySem.W.kitOne K (.ref (He.ga K "WrongKind")) (.ref (He.ga K "IsLive")) = some false), decide (PySem.W.kitOne K (.ref (He.ga K "NoHolder")) (.ref (He.ga K "IsLive")) = some false), decide (PySem.W.kitOne K (.ref (He.ga K "Ring")) (.ref (He.ga K "IsLive")) = some false), decide (PySem.W.kitOne K (.ref (He.ga K "Lost")) (.ref (He.ga K "IsLive")) = some false), decide (PySem.W.kitOne K (.ref (He.ga K "Doubled")) (.ref (He.ga K "IsLive")) = some false), decide (PySem.W.kitOne K (.ref (He.ga K "NoPart")) (.ref (He.ga K "IsLive")) = some false), decide (PySem.W.kitOne K (.ref (He.ga K "EditError")) (.ref (He.ga K "IsLive")) = some false), decide (PySem.W.kitOne K (.ref (He.ga K "NoEditor")) (.ref (He.ga K "IsLive")) = some false), decide (PySem.W.kitOne K (.ref (He.ga K "NoRow")) (.ref (He.ga K "IsLive")) = some false), decide (PySem.W.kitOne K (.ref (He.ga K "StandsOn")) (.ref (He.ga K "IsLive")) = some false), decide (PySem.W.kitOne K (.ref (He.ga K "IsLive")) (.ref (He.ga K "IsLive")) = some true), decide (PySem.W.kitOne K (.ref (He.ga K "NotLive")) (.ref (He.ga K "IsLive")) = some false), decide (PySem.W.kitOne K (.ref (He.ga K "NoEdit")) (.ref (He.ga K "IsLive")) = some false), decide (PySem.W.kitOne K (.ref (He.ga K "Unlike")) (.ref (He.ga K "IsLive")) = some false), decide (PySem.W.kitOne K (.ref (He.ga K "BadPage")) (.ref (He.ga K "IsLive")) = some false), decide (PySem.W.kitOne K (.ref (He.ga K "BadEdit")) (.ref (He.ga K "IsLive")) = some false)]
def exq12 (K : PySem.W.Frag) : List Bool := [decide (PySem.W.kitOne K (.ref (He.ga K "BadCond")) (.ref (He.ga K "IsLive")) = some false), decide (PySem.W.kitOne K (.ref (He.ga K "NoChoice")) (.ref (He.ga K "IsLive")) = some false), decide (PySem.W.kitOne K (.ref (He.ga K "BadPanel")) (.ref (He.ga K "IsLive")) = some false), decide (PySem.W.kitOne K (.ref (He.ga K "LeafError")) (.ref (He.ga K "IsLive")) = some false), decide (PySem.W.kitOne K (.ref (He.ga K "TooLong")) (.ref (He.ga K "StandsOn")) = some false), decide (PySem.W.kitOne K (.ref (He.ga K "Far")) (.ref (He.ga K "StandsOn")) = some false), decide (PySem.W.kitOne K (.ref (He.ga K "WrongKind")) (.ref (He.ga K "StandsOn")) = some false), decide (PySem.W.kitOne K (.ref (He.ga K "NoHolder")) (.ref (He.ga K "StandsOn")) = some false), decide (PySem.W.kitOne K (.ref (He.ga K "Ring")) (.ref (He.ga K "StandsOn")) = some false), decide (PySem.W.kitOne K (.ref (He.ga K "Lost")) (.ref (He.ga K "StandsOn")) = some false), decide (PySem.W.kitOne K (.ref (He.ga K "Doubled")) (.ref (He.ga K "StandsOn")) = some false), decide (PySem.W.kitOne K (.ref (He.ga K "NoPart")) (.ref (He.ga K "StandsOn")) = some false), decide (PySem.W.kitOne K (.ref (He.ga K "EditError")) (.ref (He.ga K "StandsOn")) = some false), decide (PySem.W.kitOne K (.ref (He.ga K "NoEditor")) (.ref (He.ga K "StandsOn")) = some false), decide (PySem.W.kitOne K (.ref (He.ga K "NoRow")) (.ref (He.ga K "StandsOn")) = some false), decide (PySem.W.kitOne K (.ref (He.ga K "StandsOn")) (.ref (He.ga K "StandsOn")) = some true), decide (PySem.W.kitOne K (.ref (He.ga K "IsLive")) (.ref (He.ga K "StandsOn")) = some false), decide (PySem.W.kitOne K (.ref (He.ga K "NotLive")) (.ref (He.ga K "StandsOn")) = some false), decide (PySem.W.kitOne K (.ref (He.ga K "NoEdit")) (.ref (He.ga K "StandsOn")) = some false), decide (PySem.W.kitOne K (.ref (He.ga K "Unlike")) (.ref (He.ga K "StandsOn")) = some false), decide (PySem.W.kitOne K (.ref (He.ga K "BadPage")) (.ref (He.ga K "StandsOn")) = some false), decide (PySem.W.kitOne K (.ref (He.ga K "BadEdit")) (.ref (He.ga K "StandsOn")) = some false), decide (PySem.W.kitOne K (.ref (He.ga K "BadCond")) (.ref (He.ga K "StandsOn")) = some false), decide (PySem.W.kitOne K (.ref (He.ga K "NoChoice")) (.ref (He.ga K "StandsOn")) = some false), decide (PySem.W.kitOne K (.ref (He.ga K "BadPanel")) (.ref (He.ga K "StandsOn")) = some false)]
def exq13 (K : PySem.W.Frag) : List Bool := [decide (PySem.W.kitOne K (.ref (He.ga K "LeafError")) (.ref (He.ga K "StandsOn")) = some false), decide (PySem.W.kitOne K (.ref (He.ga K "TooLong")) (.ref (He.ga K "NoEditor")) = some false), decide (PySem.W.kitOne K (.ref (He.ga K "Far")) (.ref (He.ga K "NoEditor")) = some false), decide (PySem.W.kitOne K (.ref (He.ga K "WrongKind")) (.ref (He.ga K "NoEditor")) = some false), decide (PySem.W.kitOne K (.ref (He.ga K "NoHolder")) (.ref (He.ga K "NoEditor")) = some false), decide (PySem.W.kitOne K (.ref (He.ga K "Ring")) (.ref (He.ga K "NoEditor")) = some false), decide (PySem.W.kitOne K (.ref (He.ga K "Lost")) (.ref (He.ga K "NoEditor")) = some false), decide (PySem.W.kitOne K (.ref (He.ga K "Doubled")) (.ref (He.ga K "NoEditor")) = some false), decide (PySem.W.kitOne K (.ref (He.ga K "NoPart")) (.ref (He.ga K "NoEditor")) = some false), decide (PySem.W.kitOne K (.ref (He.ga K "EditError")) (.ref (He.ga K "NoEditor")) = some false), decide (PySem.W.kitOne K (.ref (He.ga K "NoEditor")) (.ref (He.ga K "NoEditor")) = some true), decide (PySem.W.kitOne K (.ref (He.ga K "NoRow")) (.ref (He.ga K "NoEditor")) = some false), decide (PySem.W.kitOne K (.ref (He.ga K "StandsOn")) (.ref (He.ga K "NoEditor")) = some false), decide (PySem.W.kitOne K (.ref (He.ga K "IsLive")) (.ref (He.ga K "NoEditor")) = some false), decide (PySem.W.kitOne K (.ref (He.ga K "NotLive")) (.ref (He.ga K "NoEditor")) = some false), decide (PySem.W.kitOne K (.ref (He.ga K "NoEdit")) (.ref (He.ga K "NoEditor")) = some false), decide (PySem.W.kitOne K (.ref (He.ga K "Unlike")) (.ref (He.ga K "NoEditor")) = some false), decide (PySem.W.kitOne K (.ref (He.ga K "BadPage")) (.ref (He.ga K "NoEditor")) = some false), decide (PySem.W.kitOne K (.ref (He.ga K "BadEdit")) (.ref (He.ga K "NoEditor")) = some false), decide (PySem.W.kitOne K (.ref (He.ga K "BadCond")) (.ref (He.ga K "NoEditor")) = some false), decide (PySem.W.kitOne K (.ref (He.ga K "NoChoice")) (.ref (He.ga K "NoEditor")) = some false), decide (PySem.W.kitOne K (.ref (He.ga K "BadPanel")) (.ref (He.ga K "NoEditor")) = some false), decide (PySem.W.kitOne K (.ref (He.ga K "LeafError")) (.ref (He.ga K "NoEditor")) = some false), decide (PySem.W.kitOne K (.ref (He.ga K "TooLong")) (.ref (He.ga K "NoPart")) = some false), decide (PySem.W.kitOne K (.ref (He.ga K "Far")) (.ref (He.ga K "NoPart")) = some false)]
def exq14 (K : PySem.W.Frag) : List Bool := [decide (PySem.W.kitOne K (.ref (He.ga K "WrongKind")) (.ref (He.ga K "NoPart")) = some false), decide (PySem.W.kitOne K (.ref (He.ga K "NoHolder")) (.ref (He.ga K "NoPart")) = some false), decide (PySem.W.kitOne K (.ref (He.ga K "Ring")) (.ref (He.ga K "NoPart")) = some false), decide (PySem.W.kitOne K (.ref (He.ga K "Lost")) (.ref (He.ga K "NoPart")) = some false), decide (PySem.W.kitOne K (.ref (He.ga K "Doubled")) (.ref (He.ga K "NoPart")) = some false), decide (PySem.W.kitOne K (.ref (He.ga K "NoPart")) (.ref (He.ga K "NoPart")) = some true), decide (PySem.W.kitOne K (.ref (He.ga K "EditError")) (.ref (He.ga K "NoPart")) = some false), decide (PySem.W.kitOne K (.ref (He.ga K "NoEditor")) (.ref (He.ga K "NoPart")) = some false), decide (PySem.W.kitOne K (.ref (He.ga K "NoRow")) (.ref (He.ga K "NoPart")) = some false), decide (PySem.W.kitOne K (.ref (He.ga K "StandsOn")) (.ref (He.ga K "NoPart")) = some false), decide (PySem.W.kitOne K (.ref (He.ga K "IsLive")) (.ref (He.ga K "NoPart")) = some false), decide (PySem.W.kitOne K (.ref (He.ga K "NotLive")) (.ref (He.ga K "NoPart")) = some false), decide (PySem.W.kitOne K (.ref (He.ga K "NoEdit")) (.ref (He.ga K "NoPart")) = some false), decide (PySem.W.kitOne K (.ref (He.ga K "Unlike")) (.ref (He.ga K "NoPart")) = some false), decide (PySem.W.kitOne K (.ref (He.ga K "BadPage")) (.ref (He.ga K "NoPart")) = some false), decide (PySem.W.kitOne K (.ref (He.ga K "BadEdit")) (.ref (He.ga K "NoPart")) = some false), decide (PySem.W.kitOne K (.ref (He.ga K "BadCond")) (.ref (He.ga K "NoPart")) = some false), decide (PySem.W.kitOne K (.ref (He.ga K "NoChoice")) (.ref (He.ga K "NoPart")) = some false), decide (PySem.W.kitOne K (.ref (He.ga K "BadPanel")) (.ref (He.ga K "NoPart")) = some false), decide (PySem.W.kitOne K (.ref (He.ga K "LeafError")) (.ref (He.ga K "NoPart")) = some false), decide (PySem.W.kitOne K (.ref (He.ga K "TooLong")) (.ref (He.ga K "Doubled")) = some false), decide (PySem.W.kitOne K (.ref (He.ga K "Far")) (.ref (He.ga K "Doubled")) = some false), decide (PySem.W.kitOne K (.ref (He.ga K "WrongKind")) (.ref (He.ga K "Doubled")) = some false), decide (PySem.W.kitOne K (.ref (He.ga K "NoHolder")) (.ref (He.ga K "Doubled")) = some false), decide (PySem.W.kitOne K (.ref (He.ga K "Ring")) (.ref (He.ga K "Doubled")) = some false)]
def exq15 (K : PySem.W.Frag) : List Bool := [decide (PySem.W.kitOne K (.ref (He.ga K "Lost")) (.ref (He.ga K "Doubled")) = some false), decide (PySem.W.kitOne K (.ref (He.ga K "Doubled")) (.ref (He.ga K "Doubled")) = some true), decide (PySem.W.kitOne K (.ref (He.ga K "NoPart")) (.ref (He.ga K "Doubled")) = some false), decide (PySem.W.kitOne K (.ref (He.ga K "EditError")) (.ref (He.ga K "Doubled")) = some false), decide (PySem.W.kitOne K (.ref (He.ga K "NoEditor")) (.ref (He.ga K "Doubled")) = some false), decide (PySem.W.kitOne K (.ref (He.ga K "NoRow")) (.ref (He.ga K "Doubled")) = some false), decide (PySem.W.kitOne K (.ref (He.ga K "StandsOn")) (.ref (He.ga K "Doubled")) = some false), decide (PySem.W.kitOne K (.ref (He.ga K "IsLive")) (.ref (He.ga K "Doubled")) = some false), decide (PySem.W.kitOne K (.ref (He.ga K "NotLive")) (.ref (He.ga K "Doubled")) = some false), decide (PySem.W.kitOne K (.ref (He.ga K "NoEdit")) (.ref (He.ga K "Doubled")) = some false), decide (PySem.W.kitOne K (.ref (He.ga K "Unlike")) (.ref (He.ga K "Doubled")) = some false), decide (PySem.W.kitOne K (.ref (He.ga K "BadPage")) (.ref (He.ga K "Doubled")) = some false), decide (PySem.W.kitOne K (.ref (He.ga K "BadEdit")) (.ref (He.ga K "Doubled")) = some false), decide (PySem.W.kitOne K (.ref (He.ga K "BadCond")) (.ref (He.ga K "Doubled")) = some false), decide (PySem.W.kitOne K (.ref (He.ga K "NoChoice")) (.ref (He.ga K "Doubled")) = some false), decide (PySem.W.kitOne K (.ref (He.ga K "BadPanel")) (.ref (He.ga K "Doubled")) = some false), decide (PySem.W.kitOne K (.ref (He.ga K "LeafError")) (.ref (He.ga K "Doubled")) = some false), decide (PySem.W.kitOne K (.ref (He.ga K "TooLong")) (.ref (He.ga K "Lost")) = some false), decide (PySem.W.kitOne K (.ref (He.ga K "Far")) (.ref (He.ga K "Lost")) = some false), decide (PySem.W.kitOne K (.ref (He.ga K "WrongKind")) (.ref (He.ga K "Lost")) = some false), decide (PySem.W.kitOne K (.ref (He.ga K "NoHolder")) (.ref (He.ga K "Lost")) = some false), decide (PySem.W.kitOne K (.ref (He.ga K "Ring")) (.ref (He.ga K "Lost")) = some false), decide (PySem.W.kitOne K (.ref (He.ga K "Lost")) (.ref (He.ga K "Lost")) = some true), decide (PySem.W.kitOne K (.ref (He.ga K "Doubled")) (.ref (He.ga K "Lost")) = some false), decide (PySem.W.kitOne K (.ref (He.ga K "NoPart")) (.ref (He.ga K "Lost")) = some false)]
def exq16 (K : PySem.W.Frag) : List Bool := [decide (PySem.W.kitOne K (.ref (He.ga K "EditError")) (.ref (He.ga K "Lost")) = some false), decide (PySem.W.kitOne K (.ref (He.ga K "NoEditor")) (.ref (He.ga K "Lost")) = some false), decide (PySem.W.kitOne K (.ref (He.ga K "NoRow")) (.ref (He.ga K "Lost")) = some false), decide (PySem.W.kitOne K (.ref (He.ga K "StandsOn")) (.ref (He.ga K "Lost")) = some false), decide (PySem.W.kitOne K (.ref (He.ga K "IsLive")) (.ref (He.ga K "Lost")) = some false), decide (PySem.W.kitOne K (.ref (He.ga K "NotLive")) (.ref (He.ga K "Lost")) = some false), decide (PySem.W.kitOne K (.ref (He.ga K "NoEdit")) (.ref (He.ga K "Lost")) = some false), decide (PySem.W.kitOne K (.ref (He.ga K "Unlike")) (.ref (He.ga K "Lost")) = some false), decide (PySem.W.kitOne K (.ref (He.ga K "BadPage")) (.ref (He.ga K "Lost")) = some false), decide (PySem.W.kitOne K (.ref (He.ga K "BadEdit")) (.ref (He.ga K "Lost")) = some false), decide (PySem.W.kitOne K (.ref (He.ga K "BadCond")) (.ref (He.ga K "Lost")) = some false), decide (PySem.W.kitOne K (.ref (He.ga K "NoChoice")) (.ref (He.ga K "Lost")) = some false), decide (PySem.W.kitOne K (.ref (He.ga K "BadPanel")) (.ref (He.ga K "Lost")) = some false), decide (PySem.W.kitOne K (.ref (He.ga K "LeafError")) (.ref (He.ga K "Lost")) = some false), decide (PySem.W.kitOne K (.ref (He.ga K "TooLong")) (.ref (He.ga K "Ring")) = some false), decide (PySem.W.kitOne K (.ref (He.ga K "Far")) (.ref (He.ga K "Ring")) = some false), decide (PySem.W.kitOne K (.ref (He.ga K "WrongKind")) (.ref (He.ga K "Ring")) = some false), decide (PySem.W.kitOne K (.ref (He.ga K "NoHolder")) (.ref (He.ga K "Ring")) = some false), decide (PySem.W.kitOne K (.ref (He.ga K "Ring")) (.ref (He.ga K "Ring")) = some true), decide (PySem.W.kitOne K (.ref (He.ga K "Lost")) (.ref (He.ga K "Ring")) = some false), decide (PySem.W.kitOne K (.ref (He.ga K "Doubled")) (.ref (He.ga K "Ring")) = some false), decide (PySem.W.kitOne K (.ref (He.ga K "NoPart")) (.ref (He.ga K "Ring")) = some false), decide (PySem.W.kitOne K (.ref (He.ga K "EditError")) (.ref (He.ga K "Ring")) = some false), decide (PySem.W.kitOne K (.ref (He.ga K "NoEditor")) (.ref (He.ga K "Ring")) = some false), decide (PySem.W.kitOne K (.ref (He.ga K "NoRow")) (.ref (He.ga K "Ring")) = some false)]
def exq17 (K : PySem.W.Frag) : List Bool := [decide (PySem.W.kitOne K (.ref (He.ga K "StandsOn")) (.ref (He.ga K "Ring")) = some false), decide (PySem.W.kitOne K (.ref (He.ga K "IsLive")) (.ref (He.ga K "Ring")) = some false), decide (PySem.W.kitOne K (.ref (He.ga K "NotLive")) (.ref (He.ga K "Ring")) = some false), decide (PySem.W.kitOne K (.ref (He.ga K "NoEdit")) (.ref (He.ga K "Ring")) = some false), decide (PySem.W.kitOne K (.ref (He.ga K "Unlike")) (.ref (He.ga K "Ring")) = some false), decide (PySem.W.kitOne K (.ref (He.ga K "BadPage")) (.ref (He.ga K "Ring")) = some false), decide (PySem.W.kitOne K (.ref (He.ga K "BadEdit")) (.ref (He.ga K "Ring")) = some false), decide (PySem.W.kitOne K (.ref (He.ga K "BadCond")) (.ref (He.ga K "Ring")) = some false), decide (PySem.W.kitOne K (.ref (He.ga K "NoChoice")) (.ref (He.ga K "Ring")) = some false), decide (PySem.W.kitOne K (.ref (He.ga K "BadPanel")) (.ref (He.ga K "Ring")) = some false), decide (PySem.W.kitOne K (.ref (He.ga K "LeafError")) (.ref (He.ga K "Ring")) = some false), decide (PySem.W.kitOne K (.ref (He.ga K "TooLong")) (.ref (He.ga K "NoHolder")) = some false), decide (PySem.W.kitOne K (.ref (He.ga K "Far")) (.ref (He.ga K "NoHolder")) = some false), decide (PySem.W.kitOne K (.ref (He.ga K "WrongKind")) (.ref (He.ga K "NoHolder")) = some false), decide (PySem.W.kitOne K (.ref (He.ga K "NoHolder")) (.ref (He.ga K "NoHolder")) = some true), decide (PySem.W.kitOne K (.ref (He.ga K "Ring")) (.ref (He.ga K "NoHolder")) = some false), decide (PySem.W.kitOne K (.ref (He.ga K "Lost")) (.ref (He.ga K "NoHolder")) = some false), decide (PySem.W.kitOne K (.ref (He.ga K "Doubled")) (.ref (He.ga K "NoHolder")) = some false), decide (PySem.W.kitOne K (.ref (He.ga K "NoPart")) (.ref (He.ga K "NoHolder")) = some false), decide (PySem.W.kitOne K (.ref (He.ga K "EditError")) (.ref (He.ga K "NoHolder")) = some false), decide (PySem.W.kitOne K (.ref (He.ga K "NoEditor")) (.ref (He.ga K "NoHolder")) = some false), decide (PySem.W.kitOne K (.ref (He.ga K "NoRow")) (.ref (He.ga K "NoHolder")) = some false), decide (PySem.W.kitOne K (.ref (He.ga K "StandsOn")) (.ref (He.ga K "NoHolder")) = some false), decide (PySem.W.kitOne K (.ref (He.ga K "IsLive")) (.ref (He.ga K "NoHolder")) = some false), decide (PySem.W.kitOne K (.ref (He.ga K "NotLive")) (.ref (He.ga K "NoHolder")) = some false)]
def exq18 (K : PySem.W.Frag) : List Bool := [decide (PySem.W.kitOne K (.ref (He.ga K "NoEdit")) (.ref (He.ga K "NoHolder")) = some false), decide (PySem.W.kitOne K (.ref (He.ga K "Unlike")) (.ref (He.ga K "NoHolder")) = some false), decide (PySem.W.kitOne K (.ref (He.ga K "BadPage")) (.ref (He.ga K "NoHolder")) = some false), decide (PySem.W.kitOne K (.ref (He.ga K "BadEdit")) (.ref (He.ga K "NoHolder")) = some false), decide (PySem.W.kitOne K (.ref (He.ga K "BadCond")) (.ref (He.ga K "NoHolder")) = some false), decide (PySem.W.kitOne K (.ref (He.ga K "NoChoice")) (.ref (He.ga K "NoHolder")) = some false), decide (PySem.W.kitOne K (.ref (He.ga K "BadPanel")) (.ref (He.ga K "NoHolder")) = some false), decide (PySem.W.kitOne K (.ref (He.ga K "LeafError")) (.ref (He.ga K "NoHolder")) = some false), decide (PySem.W.kitOne K (.ref (He.ga K "TooLong")) (.ref (He.ga K "WrongKind")) = some false), decide (PySem.W.kitOne K (.ref (He.ga K "Far")) (.ref (He.ga K "WrongKind")) = some false), decide (PySem.W.kitOne K (.ref (He.ga K "WrongKind")) (.ref (He.ga K "WrongKind")) = some true), decide (PySem.W.kitOne K (.ref (He.ga K "NoHolder")) (.ref (He.ga K "WrongKind")) = some false), decide (PySem.W.kitOne K (.ref (He.ga K "Ring")) (.ref (He.ga K "WrongKind")) = some false), decide (PySem.W.kitOne K (.ref (He.ga K "Lost")) (.ref (He.ga K "WrongKind")) = some false), decide (PySem.W.kitOne K (.ref (He.ga K "Doubled")) (.ref (He.ga K "WrongKind")) = some false), decide (PySem.W.kitOne K (.ref (He.ga K "NoPart")) (.ref (He.ga K "WrongKind")) = some false), decide (PySem.W.kitOne K (.ref (He.ga K "EditError")) (.ref (He.ga K "WrongKind")) = some false), decide (PySem.W.kitOne K (.ref (He.ga K "NoEditor")) (.ref (He.ga K "WrongKind")) = some false), decide (PySem.W.kitOne K (.ref (He.ga K "NoRow")) (.ref (He.ga K "WrongKind")) = some false), decide (PySem.W.kitOne K (.ref (He.ga K "StandsOn")) (.ref (He.ga K "WrongKind")) = some false), decide (PySem.W.kitOne K (.ref (He.ga K "IsLive")) (.ref (He.ga K "WrongKind")) = some false), decide (PySem.W.kitOne K (.ref (He.ga K "NotLive")) (.ref (He.ga K "WrongKind")) = some false), decide (PySem.W.kitOne K (.ref (He.ga K "NoEdit")) (.ref (He.ga K "WrongKind")) = some false), decide (PySem.W.kitOne K (.ref (He.ga K "Unlike")) (.ref (He.ga K "WrongKind")) = some false), decide (PySem.W.kitOne K (.ref (He.ga K "BadPage")) (.ref (He.ga K "WrongKind")) = some false)]
def exq19 (K : PySem.W.Frag) : List Bool := [decide (PySem.W.kitOne K (.ref (He.ga K "BadEdit")) (.ref (He.ga K "WrongKind")) = some false), decide (PySem.W.kitOne K (.ref (He.ga K "BadCond")) (.ref (He.ga K "WrongKind")) = some false), decide (PySem.W.kitOne K (.ref (He.ga K "NoChoice")) (.ref (He.ga K "WrongKind")) = some false), decide (PySem.W.kitOne K (.ref (He.ga K "BadPanel")) (.ref (He.ga K "WrongKind")) = some false), decide (PySem.W.kitOne K (.ref (He.ga K "LeafError")) (.ref (He.ga K "WrongKind")) = some false), decide (PySem.W.kitOne K (.ref (He.ga K "TooLong")) (.ref (He.ga K "Far")) = some false), decide (PySem.W.kitOne K (.ref (He.ga K "Far")) (.ref (He.ga K "Far")) = some true), decide (PySem.W.kitOne K (.ref (He.ga K "WrongKind")) (.ref (He.ga K "Far")) = some false), decide (PySem.W.kitOne K (.ref (He.ga K "NoHolder")) (.ref (He.ga K "Far")) = some false), decide (PySem.W.kitOne K (.ref (He.ga K "Ring")) (.ref (He.ga K "Far")) = some false), decide (PySem.W.kitOne K (.ref (He.ga K "Lost")) (.ref (He.ga K "Far")) = some false), decide (PySem.W.kitOne K (.ref (He.ga K "Doubled")) (.ref (He.ga K "Far")) = some false), decide (PySem.W.kitOne K (.ref (He.ga K "NoPart")) (.ref (He.ga K "Far")) = some false), decide (PySem.W.kitOne K (.ref (He.ga K "EditError")) (.ref (He.ga K "Far")) = some false), decide (PySem.W.kitOne K (.ref (He.ga K "NoEditor")) (.ref (He.ga K "Far")) = some false), decide (PySem.W.kitOne K (.ref (He.ga K "NoRow")) (.ref (He.ga K "Far")) = some false), decide (PySem.W.kitOne K (.ref (He.ga K "StandsOn")) (.ref (He.ga K "Far")) = some false), decide (PySem.W.kitOne K (.ref (He.ga K "IsLive")) (.ref (He.ga K "Far")) = some false), decide (PySem.W.kitOne K (.ref (He.ga K "NotLive")) (.ref (He.ga K "Far")) = some false), decide (PySem.W.kitOne K (.ref (He.ga K "NoEdit")) (.ref (He.ga K "Far")) = some false), decide (PySem.W.kitOne K (.ref (He.ga K "Unlike")) (.ref (He.ga K "Far")) = some false), decide (PySem.W.kitOne K (.ref (He.ga K "BadPage")) (.ref (He.ga K "Far")) = some false), decide (PySem.W.kitOne K (.ref (He.ga K "BadEdit")) (.ref (He.ga K "Far")) = some false), decide (PySem.W.kitOne K (.ref (He.ga K "BadCond")) (.ref (He.ga K "Far")) = some false), decide (PySem.W.kitOne K (.ref (He.ga K "NoChoice")) (.ref (He.ga K "Far")) = some false)]
def exq20 (K : PySem.W.Frag) : List Bool := [decide (PySem.W.kitOne K (.ref (He.ga K "BadPanel")) (.ref (He.ga K "Far")) = some false), decide (PySem.W.kitOne K (.ref (He.ga K "LeafError")) (.ref (He.ga K "Far")) = some false), decide (PySem.W.kitOne K (.ref (He.ga K "TooLong")) (.ref (He.ga K "TooLong")) = some true), decide (PySem.W.kitOne K (.ref (He.ga K "Far")) (.ref (He.ga K "TooLong")) = some false), decide (PySem.W.kitOne K (.ref (He.ga K "WrongKind")) (.ref (He.ga K "TooLong")) = some false), decide (PySem.W.kitOne K (.ref (He.ga K "NoHolder")) (.ref (He.ga K "TooLong")) = some false), decide (PySem.W.kitOne K (.ref (He.ga K "Ring")) (.ref (He.ga K "TooLong")) = some false), decide (PySem.W.kitOne K (.ref (He.ga K "Lost")) (.ref (He.ga K "TooLong")) = some false), decide (PySem.W.kitOne K (.ref (He.ga K "Doubled")) (.ref (He.ga K "TooLong")) = some false), decide (PySem.W.kitOne K (.ref (He.ga K "NoPart")) (.ref (He.ga K "TooLong")) = some false), decide (PySem.W.kitOne K (.ref (He.ga K "EditError")) (.ref (He.ga K "TooLong")) = some false), decide (PySem.W.kitOne K (.ref (He.ga K "NoEditor")) (.ref (He.ga K "TooLong")) = some false), decide (PySem.W.kitOne K (.ref (He.ga K "NoRow")) (.ref (He.ga K "TooLong")) = some false), decide (PySem.W.kitOne K (.ref (He.ga K "StandsOn")) (.ref (He.ga K "TooLong")) = some false), decide (PySem.W.kitOne K (.ref (He.ga K "IsLive")) (.ref (He.ga K "TooLong")) = some false), decide (PySem.W.kitOne K (.ref (He.ga K "NotLive")) (.ref (He.ga K "TooLong")) = some false), decide (PySem.W.kitOne K (.ref (He.ga K "NoEdit")) (.ref (He.ga K "TooLong")) = some false), decide (PySem.W.kitOne K (.ref (He.ga K "Unlike")) (.ref (He.ga K "TooLong")) = some false), decide (PySem.W.kitOne K (.ref (He.ga K "BadPage")) (.ref (He.ga K "TooLong")) = some false), decide (PySem.W.kitOne K (.ref (He.ga K "BadEdit")) (.ref (He.ga K "TooLong")) = some false), decide (PySem.W.kitOne K (.ref (He.ga K "BadCond")) (.ref (He.ga K "TooLong")) = some false), decide (PySem.W.kitOne K (.ref (He.ga K "NoChoice")) (.ref (He.ga K "TooLong")) = some false), decide (PySem.W.kitOne K (.ref (He.ga K "BadPanel")) (.ref (He.ga K "TooLong")) = some false), decide (PySem.W.kitOne K (.ref (He.ga K "LeafError")) (.ref (He.ga K "TooLong")) = some false), decide (PySem.W.kitOne K (.ref (He.ga K "TooLong")) (.ref (He.ga K "EditError")) = some true)]
def exq21 (K : PySem.W.Frag) : List Bool := [decide (PySem.W.kitOne K (.ref (He.ga K "Far")) (.ref (He.ga K "EditError")) = some true), decide (PySem.W.kitOne K (.ref (He.ga K "WrongKind")) (.ref (He.ga K "EditError")) = some true), decide (PySem.W.kitOne K (.ref (He.ga K "NoHolder")) (.ref (He.ga K "EditError")) = some true), decide (PySem.W.kitOne K (.ref (He.ga K "Ring")) (.ref (He.ga K "EditError")) = some true), decide (PySem.W.kitOne K (.ref (He.ga K "Lost")) (.ref (He.ga K "EditError")) = some true), decide (PySem.W.kitOne K (.ref (He.ga K "Doubled")) (.ref (He.ga K "EditError")) = some true), decide (PySem.W.kitOne K (.ref (He.ga K "NoPart")) (.ref (He.ga K "EditError")) = some true), decide (PySem.W.kitOne K (.ref (He.ga K "EditError")) (.ref (He.ga K "EditError")) = some true), decide (PySem.W.kitOne K (.ref (He.ga K "NoEditor")) (.ref (He.ga K "EditError")) = some false), decide (PySem.W.kitOne K (.ref (He.ga K "NoRow")) (.ref (He.ga K "EditError")) = some false), decide (PySem.W.kitOne K (.ref (He.ga K "StandsOn")) (.ref (He.ga K "EditError")) = some false), decide (PySem.W.kitOne K (.ref (He.ga K "IsLive")) (.ref (He.ga K "EditError")) = some false), decide (PySem.W.kitOne K (.ref (He.ga K "NotLive")) (.ref (He.ga K "EditError")) = some false), decide (PySem.W.kitOne K (.ref (He.ga K "NoEdit")) (.ref (He.ga K "EditError")) = some false), decide (PySem.W.kitOne K (.ref (He.ga K "Unlike")) (.ref (He.ga K "EditError")) = some false), decide (PySem.W.kitOne K (.ref (He.ga K "BadPage")) (.ref (He.ga K "EditError")) = some false), decide (PySem.W.kitOne K (.ref (He.ga K "BadEdit")) (.ref (He.ga K "EditError")) = some false), decide (PySem.W.kitOne K (.ref (He.ga K "BadCond")) (.ref (He.ga K "EditError")) = some false), decide (PySem.W.kitOne K (.ref (He.ga K "NoChoice")) (.ref (He.ga K "EditError")) = some false), decide (PySem.W.kitOne K (.ref (He.ga K "BadPanel")) (.ref (He.ga K "EditError")) = some false), decide (PySem.W.kitOne K (.ref (He.ga K "LeafError")) (.ref (He.ga K "EditError")) = some false), decide (PySem.W.kitOne K (.ref (He.ga K "TooLong")) (.ref (He.ga K "LeafError")) = some true), decide (PySem.W.kitOne K (.ref (He.ga K "Far")) (.ref (He.ga K "LeafError")) = some true), decide (PySem.W.kitOne K (.ref (He.ga K "WrongKind")) (.ref (He.ga K "LeafError")) = some true), decide (PySem.W.kitOne K (.ref (He.ga K "NoHolder")) (.ref (He.ga K "LeafError")) = some true)]
def exq22 (K : PySem.W.Frag) : List Bool := [decide (PySem.W.kitOne K (.ref (He.ga K "Ring")) (.ref (He.ga K "LeafError")) = some true), decide (PySem.W.kitOne K (.ref (He.ga K "Lost")) (.ref (He.ga K "LeafError")) = some true), decide (PySem.W.kitOne K (.ref (He.ga K "Doubled")) (.ref (He.ga K "LeafError")) = some true), decide (PySem.W.kitOne K (.ref (He.ga K "NoPart")) (.ref (He.ga K "LeafError")) = some true), decide (PySem.W.kitOne K (.ref (He.ga K "EditError")) (.ref (He.ga K "LeafError")) = some true), decide (PySem.W.kitOne K (.ref (He.ga K "NoEditor")) (.ref (He.ga K "LeafError")) = some true), decide (PySem.W.kitOne K (.ref (He.ga K "NoRow")) (.ref (He.ga K "LeafError")) = some true), decide (PySem.W.kitOne K (.ref (He.ga K "StandsOn")) (.ref (He.ga K "LeafError")) = some true), decide (PySem.W.kitOne K (.ref (He.ga K "IsLive")) (.ref (He.ga K "LeafError")) = some true), decide (PySem.W.kitOne K (.ref (He.ga K "NotLive")) (.ref (He.ga K "LeafError")) = some true), decide (PySem.W.kitOne K (.ref (He.ga K "NoEdit")) (.ref (He.ga K "LeafError")) = some true), decide (PySem.W.kitOne K (.ref (He.ga K "Unlike")) (.ref (He.ga K "LeafError")) = some true), decide (PySem.W.kitOne K (.ref (He.ga K "BadPage")) (.ref (He.ga K "LeafError")) = some true), decide (PySem.W.kitOne K (.ref (He.ga K "BadEdit")) (.ref (He.ga K "LeafError")) = some true), decide (PySem.W.kitOne K (.ref (He.ga K "BadCond")) (.ref (He.ga K "LeafError")) = some true), decide (PySem.W.kitOne K (.ref (He.ga K "NoChoice")) (.ref (He.ga K "LeafError")) = some true), decide (PySem.W.kitOne K (.ref (He.ga K "BadPanel")) (.ref (He.ga K "LeafError")) = some true), decide (PySem.W.kitOne K (.ref (He.ga K "LeafError")) (.ref (He.ga K "LeafError")) = some true), decide (PySem.W.kitOne K (.ref (He.ga K "TooLong")) (.type "ValueError") = some true), decide (PySem.W.kitOne K (.ref (He.ga K "Far")) (.type "ValueError") = some true), decide (PySem.W.kitOne K (.ref (He.ga K "WrongKind")) (.type "ValueError") = some true), decide (PySem.W.kitOne K (.ref (He.ga K "NoHolder")) (.type "ValueError") = some true), decide (PySem.W.kitOne K (.ref (He.ga K "Ring")) (.type "ValueError") = some true), decide (PySem.W.kitOne K (.ref (He.ga K "Lost")) (.type "ValueError") = some true), decide (PySem.W.kitOne K (.ref (He.ga K "Doubled")) (.type "ValueError") = some true)]
def exq23 (K : PySem.W.Frag) : List Bool := [decide (PySem.W.kitOne K (.ref (He.ga K "NoPart")) (.type "ValueError") = some true), decide (PySem.W.kitOne K (.ref (He.ga K "EditError")) (.type "ValueError") = some true), decide (PySem.W.kitOne K (.ref (He.ga K "NoEditor")) (.type "ValueError") = some true), decide (PySem.W.kitOne K (.ref (He.ga K "NoRow")) (.type "ValueError") = some true), decide (PySem.W.kitOne K (.ref (He.ga K "StandsOn")) (.type "ValueError") = some true), decide (PySem.W.kitOne K (.ref (He.ga K "IsLive")) (.type "ValueError") = some true), decide (PySem.W.kitOne K (.ref (He.ga K "NotLive")) (.type "ValueError") = some true), decide (PySem.W.kitOne K (.ref (He.ga K "NoEdit")) (.type "ValueError") = some true), decide (PySem.W.kitOne K (.ref (He.ga K "Unlike")) (.type "ValueError") = some true), decide (PySem.W.kitOne K (.ref (He.ga K "BadPage")) (.type "ValueError") = some true), decide (PySem.W.kitOne K (.ref (He.ga K "BadEdit")) (.type "ValueError") = some true), decide (PySem.W.kitOne K (.ref (He.ga K "BadCond")) (.type "ValueError") = some true), decide (PySem.W.kitOne K (.ref (He.ga K "NoChoice")) (.type "ValueError") = some true), decide (PySem.W.kitOne K (.ref (He.ga K "BadPanel")) (.type "ValueError") = some true), decide (PySem.W.kitOne K (.ref (He.ga K "LeafError")) (.type "ValueError") = some true)]
def exl (K : PySem.W.Frag) : List Bool := exq0 K ++ (exq1 K ++ (exq2 K ++ (exq3 K ++ (exq4 K ++ (exq5 K ++ (exq6 K ++ (exq7 K ++ (exq8 K ++ (exq9 K ++ (exq10 K ++ (exq11 K ++ (exq12 K ++ (exq13 K ++ (exq14 K ++ (exq15 K ++ (exq16 K ++ (exq17 K ++ (exq18 K ++ (exq19 K ++ (exq20 K ++ (exq21 K ++ (exq22 K ++ (exq23 K ++ ([]))))))))))))))))))))))))
def exb (K : PySem.W.Frag) : Bool := (exl K).all id
abbrev R0 : PySem.W.OpenRow := PySem.W.OpenLaw.row PySem.Challenge.rw_manyleaf_k06_refusals_made
abbrev hk : PySem.W.Hook := hookM 4 fa fn exb
def ob (s : PySem.W.SharedT) : AlM := obsM 4 fa fn exb (HandSHeadRun.getT s)
theorem ob_eq (s : PySem.W.SharedT) : ob s = hk.obs s.abs := obsM_eq (HandSHeadRun.getT_eq s)
def loose : List Str := (["LeafError", "BadPanel", "NoChoice", "BadCond", "BadEdit", "BadPage", "Unlike", "NoEdit", "NotLive", "IsLive", "StandsOn", "NoRow", "NoEditor", "EditError", "NoPart", "Doubled", "Lost", "Ring", "NoHolder", "WrongKind", "Far", "TooLong", "_law_cell_at", "_law_mix", "_law_first", "_law_edits", "_law_good", "_law_plain_ones", "_law_with_fields", "_law_of_edits"] : List Str)
theorem run (w : World) : HandSHeadRun.RunEq R0 (PySem.W.view R0.prog [32]) hk ob 12000 loose w := by
  intro os
  kernel_rfl
end Pd
namespace Pd
open PySem PySem.Spec PyProof.Rows L2
/-- data -/
inductive D where
  | non | bl (b : Bool) | int (i : Int) | str (s : Str)
  | list (xs : List D) | tup (xs : List D)
  | dict (l : Bool) (kvs : List (Key × D)) | dictT (kvs : List (List Key × D))
  | obj (c : Str) (fs : List (Str × D))
  /-- an exception: its class, its fields, the last one first -/
  | exc (c : Str) (fs : List (Str × D))
  /-- a tuple whose object is known (it has no dict of its own) -/
  | tpx (xs : List D)
  /-- an object that may yet change: its number; where it stands -/
  | loc (k : Nat) | adr (a : Addr)
  deriving Inhabited
/-- an exception -/
structure Ex where
  cls : Str
  fs : List (Str × D)
/-- what a computation comes to; st: not told -/
inductive R (α : Type) where
  | ok (a : α) | ex (x : Ex) | st
def R.bind {α β : Type} (r : R α) (f : α → R β) : R β := match r with
  | .ok a => f a
  | .ex x => .ex x
  | .st => .st
instance : Monad R where
  pure := R.ok
  bind := R.bind
theorem ok_bind {α β : Type} (a : α) (f : α → R β) : (R.ok a).bind f = f a := rfl
theorem ex_bind {α β : Type} (x : Ex) (f : α → R β) : (R.ex x).bind f = R.ex x := rfl
theorem st_bind {α β : Type} (f : α → R β) : (R.st).bind f = R.st := rfl
/-- l: locked (it can be walked, never changed) -/
def RdL (H : Hp) (a : Addr) : Bool → HO → Prop
  | true, u => ∃ o, H a = some (.frz o u)
  | false, u => Rd H a u
theorem RdL.rd {H : Hp} {a : Addr} {l : Bool} {u : HO} (h : RdL H a l u) : Rd H a u := by
  cases l with
  | true => exact .inr h
  | false => exact h
/-- a known tuple -/
def TpX (H : Hp) (a : Addr) (xs : List V) : Prop := ∃ o : Obj, H a = some (.frz o (.tup xs)) ∧ o.cls = .type "tuple" ∧ o.dict = none
inductive Is (K : PySem.W.Frag) (H : Hp) : V → D → Prop
  | non : Is K H .non .non
  | bl (b : Bool) : Is K H (.bl b) (.bl b)
  | int (i : Int) : Is K H (.int i) (.int i)
  | str (s : Str) : Is K H (.str s) (.str s)
  | list {a : Addr} {xs : List V} {ds : List D} (h : SqL K H a xs) (l : xs.length = ds.length) (e : ∀ (i : Nat) x d, xs[i]? = some x → ds[i]? = some d → Is K H x d) : Is K H (.ref a) (.list ds)
  | tup {a : Addr} {xs : List V} {ds : List D} (h : H a = some (.tup xs)) (l : xs.length = ds.length) (e : ∀ (i : Nat) x d, xs[i]? = some x → ds[i]? = some d → Is K H x d) : Is K H (.ref a) (.tup ds)
  | dict {a : Addr} {lk : Bool} {xs : List (Key × V)} {ds : List (Key × D)} (h : RdL H a lk (.dK xs)) (l : xs.length = ds.length) (e : ∀ (i : Nat) x d, xs[i]? = some x → ds[i]? = some d → x.1 = d.1)
      (e2 : ∀ (i : Nat) x d, xs[i]? = some x → ds[i]? = some d → Is K H x.2 d.2) : Is K H (.ref a) (.dict lk ds)
  | dictT {a : Addr} {xs : List (List Key × V)} {ds : List (List Key × D)} (h : H a = some (.dT xs)) (l : xs.length = ds.length) (e : ∀ (i : Nat) x d, xs[i]? = some x → ds[i]? = some d → x.1 = d.1)
      (e2 : ∀ (i : Nat) x d, xs[i]? = some x → ds[i]? = some d → Is K H x.2 d.2) : Is K H (.ref a) (.dictT ds)
  | obj {a : Addr} {c : Str} {dx : Addr} {xs : List (Str × V)} {ds : List (Str × D)} (h : H a = some (.ins (He.ga K c) dx xs)) (l : xs.length = ds.length) (e : ∀ (i : Nat) x d, xs[i]? = some x → ds[i]? = some d → x.1 = d.1)
      (e2 : ∀ (i : Nat) x d, xs[i]? = some x → ds[i]? = some d → Is K H x.2 d.2) : Is K H (.ref a) (.obj c ds)
  | exc0 {a : Addr} {c : Str} (h : H a = some (exo a (He.ga K c) none)) : Is K H (.ref a) (.exc c [])
  | exc {a : Addr} {c : Str} {dx : Addr} {xs : List (Str × V)} {ds : List (Str × D)} (h : H a = some (exo a (He.ga K c) (some dx))) (h1 : H dx = some (exd dx xs)) (l : xs.length = ds.length) (e : ∀ (i : Nat) x d, xs[i]? = some x → ds[i]? = some d → x.1 = d.1)
      (e2 : ∀ (i : Nat) x d, xs[i]? = some x → ds[i]? = some d → Is K H x.2 d.2) : Is K H (.ref a) (.exc c ds)
  | tpx {a : Addr} {xs : List V} {ds : List D} (h : TpX H a xs) (l : xs.length = ds.length) (e : ∀ (i : Nat) x d, xs[i]? = some x → ds[i]? = some d → Is K H x d) : Is K H (.ref a) (.tpx ds)
  | adr (a : Addr) : Is K H (.ref a) (.adr a)
def IsL (K : PySem.W.Frag) (H : Hp) (xs : List V) (ds : List D) : Prop := xs.length = ds.length ∧ ∀ (i : Nat) x d, xs[i]? = some x → ds[i]? = some d → Is K H x d
def IsK {κ : Type} (K : PySem.W.Frag) (H : Hp) (xs : List (κ × V)) (ds : List (κ × D)) : Prop :=
  xs.length = ds.length ∧ (∀ (i : Nat) x d, xs[i]? = some x → ds[i]? = some d → x.1 = d.1) ∧ ∀ (i : Nat) x d, xs[i]? = some x → ds[i]? = some d → Is K H x.2 d.2
/-- a dict that is locked for a while -/
def IsCf (K : PySem.W.Frag) (H : Hp) (u : HO) : D → Prop
  | .dict lk ds => lk = true ∧ ∃ xs, u = .dK xs ∧ IsK K H xs ds
  | _ => False
/-- what stands at an address, as the content of data -/
def IsC (K : PySem.W.Frag) (H : Hp) : HO → D → Prop
  | .lst xs, .list ds => IsL K H xs ds
  | .dK xs, .dict lk ds => lk = false ∧ IsK K H xs ds
  | .dT xs, .dictT ds => IsK K H xs ds
  | .ins C _ xs, .obj c ds => C = He.ga K c ∧ IsK K H xs ds
  | .frz _ u, d => IsCf K H u d
  | _, _ => False
section
variable {K : PySem.W.Frag} {H H' H1 H2 F F' F1 F2 : Hp} {v : V} {d : D}
theorem sameT {a : Addr} {xs : List V} (e : Same H H') (h : SqT K H a xs) : SqT K H' a xs := by
  rcases h with (h | ⟨o, h⟩) | h
  · exact .inl (.inl (e _ _ h))
  · exact .inl (.inr ⟨o, e _ _ h⟩)
  · exact .inr h
theorem sameR {a : Addr} {u : HO} (e : Same H H') (h : Rd H a u) : Rd H' a u := by
  rcases h with h | ⟨o, h⟩
  · exact .inl (e _ _ h)
  · exact .inr ⟨o, e _ _ h⟩
theorem sameRL {a : Addr} {l : Bool} {u : HO} (e : Same H H') (h : RdL H a l u) : RdL H' a l u := by
  cases l with
  | true => obtain ⟨o, h⟩ := h; exact ⟨o, e _ _ h⟩
  | false => exact sameR e h
theorem TpX.mono {a : Addr} {xs : List V} (h : TpX H a xs) (s : Same H H') : TpX H' a xs := by
  obtain ⟨o, h1, h2⟩ := h
  exact ⟨o, s _ _ h1, h2⟩
theorem TpX.sq {a : Addr} {xs : List V} (h : TpX H a xs) : SqT K H a xs := by
  obtain ⟨o, h1, h2⟩ := h
  exact .inl (.inr ⟨o, h1⟩)
theorem Is.mono (h : Is K H v d) (s : Same H H') : Is K H' v d := by
  induction h with
  | non => exact .non
  | bl b => exact .bl b
  | int i => exact .int i
  | str x => exact .str x
  | list h l _ ih => exact .list (s.seq h) l ih
  | tup h l _ ih => exact .tup (s _ _ h) l ih
  | dict h l e _ ih => exact .dict (sameRL s h) l e ih
  | dictT h l e _ ih => exact .dictT (s _ _ h) l e ih
  | obj h l e _ ih => exact .obj (s _ _ h) l e ih
  | exc0 h => exact .exc0 (s _ _ h)
  | exc h h1 l e _ ih => exact .exc (s _ _ h) (s _ _ h1) l e ih
  | tpx h l _ ih => exact .tpx (TpX.mono h s) l ih
  | adr a => exact .adr a
theorem IsL.mono {xs : List V} {ds : List D} (h : IsL K H xs ds) (s : Same H H') : IsL K H' xs ds := ⟨h.1, fun i x d a b => (h.2 i x d a b).mono s⟩
theorem IsK.mono {κ : Type} {xs : List (κ × V)} {ds : List (κ × D)} (h : IsK K H xs ds) (s : Same H H') : IsK K H' xs ds := ⟨h.1, h.2.1, fun i x d a b => (h.2.2 i x d a b).mono s⟩
theorem IsC.mono {o : HO} (h : IsC K H o d) (s : Same H H') : IsC K H' o d := by
  cases o <;> cases d <;> first
    | exact h.elim
    | exact IsL.mono (show IsL K H _ _ from h) s
    | exact IsK.mono (show IsK K H _ _ from h) s
    | exact ⟨h.1, IsK.mono h.2 s⟩
    | exact ⟨h.1, h.2.choose, h.2.choose_spec.1, IsK.mono h.2.choose_spec.2 s⟩
theorem IsL.nil : IsL K H [] [] := ⟨rfl, fun i x d a _ => by simp at a⟩
theorem IsL.cons {x : V} {xs : List V} {ds : List D} (h : Is K H x d) (t : IsL K H xs ds) : IsL K H (x :: xs) (d :: ds) := by
  refine ⟨by simp [t.1], fun i y e a b => ?_⟩
  cases i with
  | zero => simp at a b; subst a; subst b; exact h
  | succ i => exact t.2 i y e (by simpa using a) (by simpa using b)
theorem IsL.uncons {xs : List V} {ds : List D} (h : IsL K H xs (d :: ds)) : ∃ x xr, xs = x :: xr ∧ Is K H x d ∧ IsL K H xr ds := by
  obtain ⟨l, e⟩ := h
  cases xs with
  | nil => simp at l
  | cons x xr => exact ⟨x, xr, rfl, e 0 x d rfl rfl, by simpa using l, fun i y z a b => e (i + 1) y z (by simpa using a) (by simpa using b)⟩
theorem IsL.unnil {xs : List V} (h : IsL K H xs []) : xs = [] := by
  have l := h.1
  cases xs with
  | nil => rfl
  | cons _ _ => simp at l
theorem IsL.append {xs ys : List V} {ds es : List D} (h : IsL K H xs ds) (t : IsL K H ys es) : IsL K H (xs ++ ys) (ds ++ es) := by
  refine ⟨by simp [h.1, t.1], fun i y e a b => ?_⟩
  by_cases hi : i < xs.length
  · rw [List.getElem?_append_left hi] at a
    rw [List.getElem?_append_left (by have := h.1; omega)] at b
    exact h.2 i y e a b
  · rw [List.getElem?_append_right (by omega)] at a
    rw [List.getElem?_append_right (by have := h.1; omega), ← h.1] at b
    exact t.2 _ y e a b
theorem IsL.snoc {x : V} {xs : List V} {ds : List D} (t : IsL K H xs ds) (h : Is K H x d) : IsL K H (xs ++ [x]) (ds ++ [d]) := t.append (.cons h .nil)
theorem IsL.take {xs : List V} {ds : List D} (n : Nat) (t : IsL K H xs ds) : IsL K H (xs.take n) (ds.take n) := by
  refine ⟨by simp [t.1], fun i y e a b => ?_⟩
  rw [List.getElem?_take] at a b
  split at a
  · rw [if_pos (by assumption)] at b; exact t.2 i y e a b
  · cases a
theorem IsL.drop {xs : List V} {ds : List D} (n : Nat) (t : IsL K H xs ds) : IsL K H (xs.drop n) (ds.drop n) := by
  refine ⟨by simp [t.1], fun i y e a b => ?_⟩
  rw [List.getElem?_drop] at a b
  exact t.2 _ y e a b
theorem IsL.at {xs : List V} {ds : List D} (t : IsL K H xs ds) {i : Nat} (h : ds[i]? = some d) : ∃ x, xs[i]? = some x ∧ Is K H x d := by
  have hi : i < ds.length := (List.getElem?_eq_some_iff.mp h).1
  have hx : i < xs.length := by have := t.1; omega
  exact ⟨xs[i], by simp [hx], t.2 i _ d (by simp [hx]) h⟩
theorem IsL.atV {x : V} {xs : List V} {ds : List D} (t : IsL K H xs ds) {i : Nat} (h : xs[i]? = some x) : ∃ d, ds[i]? = some d ∧ Is K H x d := by
  have hi : i < xs.length := (List.getElem?_eq_some_iff.mp h).1
  have hx : i < ds.length := by have := t.1; omega
  exact ⟨ds[i], by simp [hx], t.2 i x _ h (by simp [hx])⟩
theorem is_list {a : Addr} {xs : List V} {ds : List D} (h : SqL K H a xs) (t : IsL K H xs ds) : Is K H (.ref a) (.list ds) := .list h t.1 t.2
theorem is_tup {a : Addr} {xs : List V} {ds : List D} (h : H a = some (.tup xs)) (t : IsL K H xs ds) : Is K H (.ref a) (.tup ds) := .tup h t.1 t.2
theorem Is.list_inv {ds : List D} (h : Is K H v (.list ds)) : ∃ a xs, v = .ref a ∧ SqL K H a xs ∧ IsL K H xs ds := by
  cases h with
  | list h l e => exact ⟨_, _, rfl, h, l, e⟩
theorem Is.tup_inv {ds : List D} (h : Is K H v (.tup ds)) : ∃ a xs, v = .ref a ∧ SqT K H a xs ∧ IsL K H xs ds := by
  cases h with
  | tup h l e => exact ⟨_, _, rfl, .inl (.inl h), l, e⟩
theorem Is.tup_inv0 {ds : List D} (h : Is K H v (.tup ds)) : ∃ a xs, v = .ref a ∧ H a = some (.tup xs) ∧ IsL K H xs ds := by
  cases h with
  | tup h l e => exact ⟨_, _, rfl, h, l, e⟩
theorem Is.tpx_inv {ds : List D} (h : Is K H v (.tpx ds)) : ∃ a xs, v = .ref a ∧ TpX H a xs ∧ IsL K H xs ds := by
  cases h with
  | tpx h l e => exact ⟨_, _, rfl, h, l, e⟩
theorem Is.dict_inv {lk : Bool} {ds : List (Key × D)} (h : Is K H v (.dict lk ds)) : ∃ a xs, v = .ref a ∧ RdL H a lk (.dK xs) ∧ IsK K H xs ds := by
  cases h with
  | dict h l e e2 => exact ⟨_, _, rfl, h, l, e, e2⟩
theorem Is.obj_inv {c : Str} {ds : List (Str × D)} (h : Is K H v (.obj c ds)) : ∃ a dx xs, v = .ref a ∧ H a = some (.ins (He.ga K c) dx xs) ∧ IsK K H xs ds := by
  cases h with
  | obj h l e e2 => exact ⟨_, _, _, rfl, h, l, e, e2⟩
theorem is_of_c {a : Addr} {o : HO} (h : H a = some o) (c : IsC K H o d) : Is K H (.ref a) d := by
  cases o <;> cases d <;> first
    | exact c.elim
    | exact is_list (.of h) c
    | (obtain ⟨c1, c2⟩ := c; subst c1; exact .dict (.of h) c2.1 c2.2.1 c2.2.2)
    | (obtain ⟨c1, xs, c3, c2⟩ := c; subst c1 c3; exact .dict (lk := true) ⟨_, h⟩ c2.1 c2.2.1 c2.2.2)
    | exact .dictT h c.1 c.2.1 c.2.2
    | (obtain ⟨c1, c2⟩ := c; subst c1; exact .obj h c2.1 c2.2.1 c2.2.2)
end
abbrev Rho := List (Option D)
/-- what was there at the def's entry: the shared part, and what the caller lends -/
structure Bs where
  F : Hp
  bor : List (Nat × Addr × Option (D × HO))
/-- slot i is not lent -/
def Bs.ok (B : Bs) (i : Nat) : Prop := ∀ b ∈ B.bor, b.1 ≠ i
theorem Bs.ok_of {B : Bs} {i : Nat} (h : (B.bor.all fun b => !(b.1 == i)) = true) : B.ok i := fun b hb z => by
  have := List.all_eq_true.mp h b hb
  rw [z] at this
  simp at this
/-- F: what is shared (never changes again), H: all that stands. F0, H0: at the def's entry -/
structure Rep (K : PySem.W.Frag) (F0 : Bs) (H0 : Hp) (m : List Bool) (ρ : Rho) (σ : L2.St) (F H : Hp) : Prop where
  len : σ.length = ρ.length
  fh : Same F H
  f0 : Same F0.F F
  h0 : Same H0 H
  new : ∀ p, H0 p ≠ none → F0.F p = none → F p = none
  val : ∀ (i : Nat) d, ρ[i]? = some (some d) → m[i]? ≠ some true → ∃ v, σ[i]? = some (some v) ∧ Is K F v d
  own : ∀ (i : Nat) d, ρ[i]? = some (some d) → m[i]? = some true → ∃ p o, σ[i]? = some (some (.ref p)) ∧ H p = some o ∧ IsC K F o d ∧ F p = none ∧ H0 p = none
  apart : ∀ (i j : Nat) p d e, i ≠ j → m[i]? = some true → m[j]? = some true → ρ[i]? = some (some d) → ρ[j]? = some (some e) → σ[i]? = some (some (.ref p)) → σ[j]? ≠ some (some (.ref p))
  bor : ∀ b ∈ F0.bor, σ[b.1]? = some (some (.ref b.2.1)) ∧ m[b.1]? = some true ∧ (∃ d, ρ[b.1]? = some (some d)) ∧ ∀ d o, b.2.2 = some (d, o) → ρ[b.1]? = some (some d) ∧ H b.2.1 = some o
structure Ext (F H F' H' : Hp) : Prop where
  ff : Same F F'
  hh : Same H H'
  fh : Same F' H'
  nw : ∀ p, H p ≠ none → F p = none → F' p = none
section
variable {K : PySem.W.Frag} {F0 : Bs} {H0 F H F' H' F2 H2 : Hp} {m : List Bool} {ρ : Rho} {σ : L2.St}
theorem Ext.trans (a : Ext F H F' H') (b : Ext F' H' F2 H2) : Ext F H F2 H2 :=
  ⟨a.ff.trans b.ff, a.hh.trans b.hh, b.fh, fun p h f => b.nw p (fun z => by
    cases q : H p with
    | none => exact h q
    | some o => rw [a.hh p o q] at z; cases z) (a.nw p h f)⟩
theorem Ext.refl (h : Same F H) : Ext F H F H := ⟨.refl _, .refl _, h, fun _ _ f => f⟩
theorem same_upd {p : Addr} {o : HO} (h : H p = none) : Same H (upd H p o) := fun b u e => by
  rw [upd_ne (ne_of_none e h)]; exact e
/-- a new object is laid, shared at once -/
theorem Ext.laid {p : Addr} {o : HO} (h : Same F H) (n : H p = none) : Ext F H (upd F p o) (upd H p o) :=
  ⟨same_upd (h.free n), same_upd n, fun b u e => by
    by_cases q : b = p
    · subst q; rw [upd_same] at e ⊢; exact e
    · rw [upd_ne q] at e ⊢; exact h b u e, fun b hb fb => by
    have q : b ≠ p := fun z => hb (z ▸ n)
    rw [upd_ne q]; exact fb⟩
/-- a new object is laid, not shared -/
theorem Ext.laid' {p : Addr} {o : HO} (h : Same F H) (n : H p = none) : Ext F H F (upd H p o) :=
  ⟨.refl _, same_upd n, h.trans (same_upd n), fun _ _ f => f⟩
theorem Rep.ext (r : Rep K F0 H0 m ρ σ F H) (x : Ext F H F' H') : Rep K F0 H0 m ρ σ F' H' where
  len := r.len
  fh := x.fh
  f0 := r.f0.trans x.ff
  h0 := r.h0.trans x.hh
  new := fun p h f => x.nw p (fun z => by
    cases q : H0 p with
    | none => exact h q
    | some o => rw [r.h0 p o q] at z; cases z) (r.new p h f)
  val := fun i d a b => by
    obtain ⟨v, e, h⟩ := r.val i d a b
    exact ⟨v, e, h.mono x.ff⟩
  own := fun i d a b => by
    obtain ⟨p, o, e, h, c, f, h0⟩ := r.own i d a b
    exact ⟨p, o, e, x.hh _ _ h, c.mono x.ff, x.nw p (by rw [h]; simp) f, h0⟩
  apart := r.apart
  bor := fun b hb => by
    obtain ⟨h1, h2, h3, h4⟩ := r.bor b hb
    exact ⟨h1, h2, h3, fun d o e => ⟨(h4 d o e).1, x.hh _ _ (h4 d o e).2⟩⟩
end
/-- an exception that is represented -/
def IsX (K : PySem.W.Frag) (F : Hp) (x : Ex) (cls : Value) (od : Option Addr) : Prop :=
  cls = .ref (He.ga K x.cls) ∧ (x.fs ≠ [] → ∃ d vs, od = some d ∧ F d = some (.xd vs) ∧ IsK K F vs x.fs) ∧ (x.fs = [] → od = none)
def after (K : PySem.W.Frag) (W : WX) (σ : L2.St) (F H : Hp) (r : R D) (Q : VK) : Prop := match r with
  | .ok d => ∀ v F' H', Ext F H F' H' → Is K F' v d → Q v H'
  | .ex x => ∀ cls od F' H', Ext F H F' H' → IsX K F' x cls od → W cls od σ H'
  | .st => False
def tSem (K : PySem.W.Frag) (F0 : Bs) (H0 : Hp) (m : List Bool) (W : WX) (g : Rho → R D) : TE := fun σ H Q => ∃ ρ F, Rep K F0 H0 m ρ σ F H ∧ after K W σ F H (g ρ) Q
/-- a test -/
def tSemT (K : PySem.W.Frag) (F0 : Bs) (H0 : Hp) (m : List Bool) (W : WX) (g : Rho → R Bool) : TT := fun σ H Q => ∃ ρ F, Rep K F0 H0 m ρ σ F H ∧ match g ρ with
  | .ok b => ∀ F' H', Ext F H F' H' → Q b H'
  | .ex x => ∀ cls od F' H', Ext F H F' H' → IsX K F' x cls od → W cls od σ H'
  | .st => False
/-- arguments -/
def tSemA (K : PySem.W.Frag) (F0 : Bs) (H0 : Hp) (m : List Bool) (W : WX) (g : Rho → R (List D)) : TA := fun σ H Q => ∃ ρ F, Rep K F0 H0 m ρ σ F H ∧ match g ρ with
  | .ok ds => ∀ vs F' H', Ext F H F' H' → IsL K F' vs ds → Q vs H'
  | .ex x => ∀ cls od F' H', Ext F H F' H' → IsX K F' x cls od → W cls od σ H'
  | .st => False
abbrev DE (X : Cx) (F0 : Bs) (H0 : Hp) (m : List Bool) (W : WX) (e : Expr) (g : Rho → R D) : Prop := PE X e (tSem X.K F0 H0 m W g)
abbrev DT (X : Cx) (F0 : Bs) (H0 : Hp) (m : List Bool) (W : WX) (e : Expr) (g : Rho → R Bool) : Prop := PT X e (tSemT X.K F0 H0 m W g)
abbrev DA (X : Cx) (F0 : Bs) (H0 : Hp) (m : List Bool) (W : WX) (es : List Expr) (g : Rho → R (List D)) : Prop := PA X es (tSemA X.K F0 H0 m W g)
theorem pe_imp {X : Cx} {e : Expr} {t t' : TE} (h : PE X e t) (f : ∀ σ H Q, t' σ H Q → t σ H Q) : PE X e t' := ⟨fun pins s σ H Q I q => h.run pins s σ H Q I (f σ H Q q)⟩
theorem pt_imp {X : Cx} {e : Expr} {t t' : TT} (h : PT X e t) (f : ∀ σ H Q, t' σ H Q → t σ H Q) : PT X e t' := ⟨fun pins s σ H Q I q => h.run pins s σ H Q I (f σ H Q q)⟩
theorem pa_imp {X : Cx} {e : List Expr} {t t' : TA} (h : PA X e t) (f : ∀ σ H Q, t' σ H Q → t σ H Q) : PA X e t' := ⟨fun pos pins s σ H Q I q => h.run pos pins s σ H Q I (f σ H Q q)⟩
theorem ps_imp {X : Cx} {e : Stmt} {t t' : TS} (h : PS X e t) (f : ∀ D σ H, t' D σ H → t D σ H) : PS X e t' := ⟨fun pins s σ H Q I q => h.run pins s σ H Q I (f Q σ H q)⟩
theorem pss_imp {X : Cx} {e : List Stmt} {t t' : TS} (h : PSs X e t) (f : ∀ D σ H, t' D σ H → t D σ H) : PSs X e t' := ⟨fun pins s σ H Q I q => h.run pins s σ H Q I (f Q σ H q)⟩
section
variable {K : PySem.W.Frag} {F0 : Bs} {H0 F H F' H' : Hp} {m : List Bool} {W : WX} {ρ : Rho} {σ : L2.St} {g : Rho → R D} {Q : VK}
theorem after.ext {r : R D} (h : after K W σ F H r Q) (x : Ext F H F' H') : after K W σ F' H' r Q := by
  cases r with
  | ok d => exact fun v F2 H2 y i => h v F2 H2 (x.trans y) i
  | ex e => exact fun cls od F2 H2 y i => h cls od F2 H2 (x.trans y) i
  | st => exact h
theorem after.now {d : D} {v : V} (h : after K W σ F H (.ok d) Q) (s : Same F H) (i : Is K F v d) : Q v H := h v F H (.refl s) i
/-- one part of an expression is read, then the rest -/
theorem sem_bind {k : D → R D} {Φ : VK} (r : Rep K F0 H0 m ρ σ F H) (h : after K W σ F H ((g ρ).bind k) Q)
    (f : ∀ d v F' H', Ext F H F' H' → Is K F' v d → Rep K F0 H0 m ρ σ F' H' → after K W σ F' H' (k d) Q → Φ v H') : tSem K F0 H0 m W g σ H Φ := by
  refine ⟨ρ, F, r, ?_⟩
  cases e : g ρ with
  | ok d =>
    rw [e] at h
    exact fun v F' H' x i => f d v F' H' x i (r.ext x) (after.ext h x)
  | ex x =>
    rw [e] at h
    exact h
  | st =>
    rw [e] at h
    exact h
theorem semA_bind {ga : Rho → R (List D)} {k : List D → R D} {Φ : List V → Hp → Prop} (r : Rep K F0 H0 m ρ σ F H) (h : after K W σ F H ((ga ρ).bind k) Q)
    (f : ∀ ds vs F' H', Ext F H F' H' → IsL K F' vs ds → Rep K F0 H0 m ρ σ F' H' → after K W σ F' H' (k ds) Q → Φ vs H') : tSemA K F0 H0 m W ga σ H Φ := by
  refine ⟨ρ, F, r, ?_⟩
  cases e : ga ρ with
  | ok d =>
    rw [e] at h
    exact fun vs F' H' x i => f d vs F' H' x i (r.ext x) (after.ext h x)
  | ex x =>
    rw [e] at h
    exact h
  | st =>
    rw [e] at h
    exact h
end
end Pd
namespace Pd
open PySem PySem.Spec PyProof.Rows L2
section
variable {X : Cx} {F0 : Bs} {H0 : Hp} {m : List Bool} {W : WX} {pos : Pos} {a b c : Expr} {ga gb gc : Rho → R D}
def gVar (i : Nat) : Rho → R D := fun ρ => match ρ[i]? with
  | some (some d) => .ok d
  | _ => .st
theorem d_var (i : Nat) {x : Str} (hN : X.N[i]? = some x := by rfl) (hv : Vis X.env.scope x := by first | exact Or.inl rfl | exact Or.inr (Or.inl rfl) | exact Or.inr (Or.inr rfl)) (hm : (m[i]? == some true) = false := by rfl) (hd : (x == ("__debug__" : Str)) = false := by decide)
    (hcd : (x == ("__classdict__" : Str)) = false := by decide) : DE X F0 H0 m W (.Name x pos) (gVar i) := by
  refine pe_imp (pe_var hN hv hd hcd) fun σ H Q ⟨ρ, F, r, h⟩ => ?_
  unfold gVar at h
  split at h
  · rename_i d e
    obtain ⟨v, e1, i1⟩ := r.val i d e (by intro z; rw [z] at hm; cases hm)
    exact ⟨v, e1, after.now h r.fh i1⟩
  · exact h.elim
def gC (d : D) : Rho → R D := fun _ => .ok d
theorem sem_const {K : PySem.W.Frag} {v : V} {d : D} (i : ∀ H, Is K H v d) : ∀ (σ : L2.St) (H : Hp) (Q : VK), tSem K F0 H0 m W (gC d) σ H Q → tC v σ H Q :=
  fun σ H Q ⟨ρ, F, r, h⟩ => after.now h r.fh (i F)
theorem d_int {i : Int} {j} : DE X F0 H0 m W (.Constant (.int i) j pos) (gC (.int i)) := pe_imp pe_int (sem_const fun _ => .int i)
theorem d_bl {i : Bool} {j} : DE X F0 H0 m W (.Constant (.bool i) j pos) (gC (.bl i)) := pe_imp pe_bl (sem_const fun _ => .bl i)
theorem d_str {i : Str} {j} : DE X F0 H0 m W (.Constant (.str i) j pos) (gC (.str i)) := pe_imp pe_str (sem_const fun _ => .str i)
theorem d_non {j} : DE X F0 H0 m W (.Constant .none j pos) (gC .non) := pe_imp pe_non (sem_const fun _ => .non)
def g2 (f : D → D → R D) (ga gb : Rho → R D) : Rho → R D := fun ρ => (ga ρ).bind fun d => (gb ρ).bind fun e => f d e
def OpD (K : PySem.W.Frag) (f : D → D → R D) (r : R2) : Prop :=
  ∀ (W : WX) (σ : L2.St) (F H : Hp) (d e : D) (v u : V) (Q : VK), Same F H → Is K F v d → Is K F u e → after K W σ F H (f d e) Q → r v u H Q
theorem sem2 {f : D → D → R D} {r : R2} (o : OpD X.K f r) : ∀ (σ : L2.St) (H : Hp) (Q : VK), tSem X.K F0 H0 m W (g2 f ga gb) σ H Q → tOp r (tSem X.K F0 H0 m W ga) (tSem X.K F0 H0 m W gb) σ H Q :=
  fun σ H Q ⟨ρ, F, r, h⟩ => sem_bind (k := fun d => (gb ρ).bind fun e => f d e) r h fun d v F1 H1 _ i1 r1 h1 =>
    sem_bind (k := fun e => f d e) r1 h1 fun e u F2 H2 x2 i2 r2 h2 => o W σ F2 H2 d e v u Q r2.fh (i1.mono x2.ff) i2 h2
theorem OpD.or {K : PySem.W.Frag} {f g : D → D → R D} {r r' : R2} (h : OpD K f r) (h' : OpD K g r') : OpD K (fun d e => match f d e with | .st => g d e | x => x) (fun x y H Q => r x y H Q ∨ r' x y H Q) := by
  intro W σ F H d e v u Q s i j q
  dsimp only at q
  cases z : f d e with
  | ok _ => rw [z] at q; exact .inl (h W σ F H d e v u Q s i j (by rw [z]; exact q))
  | ex _ => rw [z] at q; exact .inl (h W σ F H d e v u Q s i j (by rw [z]; exact q))
  | st => rw [z] at q; exact .inr (h' W σ F H d e v u Q s i j q)
theorem OpD.imp {K : PySem.W.Frag} {f g : D → D → R D} {r : R2} (h : OpD K f r) (e : ∀ d e, g d e = f d e ∨ g d e = .st) : OpD K g r := by
  intro W σ F H d e' v u Q s i j q
  rcases e d e' with z | z
  · rw [z] at q; exact h W σ F H d e' v u Q s i j q
  · rw [z] at q; exact q.elim
theorem d_op {op : Operator} {f : D → D → R D} {r : R2} (ho : OpR X (binaryOp op) r) (o : OpD X.K f r) (ha : DE X F0 H0 m W a ga) (hb : DE X F0 H0 m W b gb) : DE X F0 H0 m W (.BinOp a op b pos) (g2 f ga gb) :=
  pe_imp (pe_op ho ha hb) (sem2 o)
theorem d_cmp {op : CmpOp} {f : D → D → R D} {r : R2} (ho : OpR X (compareOp op) r) (o : OpD X.K f r) (ha : DE X F0 H0 m W a ga) (hb : DE X F0 H0 m W b gb) (hm : behindInMarks op b = false) : DE X F0 H0 m W (.Compare a [op] [b] pos) (g2 f ga gb) :=
  pe_imp (pe_cmpR ho ha hb hm) (sem2 o)
/-- a value as a truth value -/
def asB : D → R Bool
  | .bl b => .ok b
  | _ => .st
def gB (g : Rho → R D) : Rho → R Bool := fun ρ => (g ρ).bind asB
theorem t_cmp {op : CmpOp} {f : D → D → R D} {r : R2} (ho : OpR X (compareOp op) r) (o : OpD X.K f r) (ha : DE X F0 H0 m W a ga) (hb : DE X F0 H0 m W b gb) (hm : behindInMarks op b = false) : DT X F0 H0 m W (.Compare a [op] [b] pos) (gB (g2 f ga gb)) := by
  refine pt_imp (pt_cmpR ho ha hb hm) fun σ H Q ⟨ρ, F, r, h⟩ => ?_
  refine sem2 o σ H _ ⟨ρ, F, r, ?_⟩
  unfold gB at h
  cases e : g2 f ga gb ρ with
  | ok d =>
    rw [e] at h
    intro v F' H' x i
    cases i with
    | bl b => exact ⟨b, rfl, h F' H' x⟩
    | _ => exact h.elim
  | ex x =>
    rw [e] at h
    exact h
  | st =>
    rw [e] at h
    exact h.elim
/-- a op b op' c -/
def g3 (f f' : D → D → R D) (ga gb gc : Rho → R D) : Rho → R D := fun ρ => (ga ρ).bind fun d => (gb ρ).bind fun e => (f d e).bind fun z => (asB z).bind fun k => if k = true then (gc ρ).bind fun y => f' e y else .ok (.bl false)
theorem semT_of {t : TE} {g : Rho → R D} (f : ∀ σ H Q, tSem X.K F0 H0 m W g σ H Q → t σ H Q) : ∀ (σ : L2.St) (H : Hp) (Q : Bool → Hp → Prop), tSemT X.K F0 H0 m W (gB g) σ H Q → t σ H fun x H' => ∃ k, x = .bl k ∧ Q k H' :=
  fun σ H Q ⟨ρ, F, r, h⟩ => by
  refine f σ H _ ⟨ρ, F, r, ?_⟩
  unfold gB at h
  cases e : g ρ with
  | ok d =>
    rw [e] at h
    intro v F' H' x i
    cases i with
    | bl b => exact ⟨b, rfl, h F' H' x⟩
    | _ => exact h.elim
  | ex x =>
    rw [e] at h
    exact h
  | st =>
    rw [e] at h
    exact h.elim
/-- a bool as a test -/
theorem t_val {e : Expr} {g : Rho → R D} (h : DE X F0 H0 m W e g) (he : ∀ whole, isTrue e X.env whole = (do let v ← whole; standAt e.pos; holding [v] (truthy v)) := by intro _; rfl) : DT X F0 H0 m W e (gB g) :=
  pt_imp (pt_val h he) (semT_of fun _ _ _ z => z)
/-- truth of data -/
def truD : D → R Bool
  | .non => .ok false
  | .bl b => .ok b
  | .int i => .ok (i != 0)
  | .str s => if s.length ≤ sizeLine then .ok ((s.length : Int) != 0) else .st
  | .list xs => .ok (!xs.isEmpty)
  | .tup xs => .ok (!xs.isEmpty)
  | .tpx xs => .ok (!xs.isEmpty)
  | _ => .st
def gTru (g : Rho → R D) : Rho → R Bool := fun ρ => (g ρ).bind truD
abbrev DW (X : Cx) (F0 : Bs) (H0 : Hp) (m : List Bool) (W : WX) (e : Expr) (g : Rho → R Bool) : Prop := PW X e (tSemT X.K F0 H0 m W g)
theorem pw_imp {e : Expr} {t t' : TT} (h : PW X e t) (f : ∀ σ H Q, t' σ H Q → t σ H Q) : PW X e t' := ⟨fun wh pins s σ H Q I q => h.run wh pins s σ H Q I (f σ H Q q)⟩
def bAnd (p q : Rho → R Bool) : Rho → R Bool := fun ρ => (p ρ).bind fun k => if k = true then q ρ else .ok false
def bOr (p q : Rho → R Bool) : Rho → R Bool := fun ρ => (p ρ).bind fun k => if k = true then .ok true else q ρ
def bNot (p : Rho → R Bool) : Rho → R Bool := fun ρ => (p ρ).bind fun k => .ok (!k)
/-- a test is read, then the rest -/
def afterT (K : PySem.W.Frag) (W : WX) (σ : L2.St) (F H : Hp) (r : R Bool) (Q : Bool → Hp → Prop) : Prop := match r with
  | .ok b => ∀ F' H', Ext F H F' H' → Q b H'
  | .ex x => ∀ cls od F' H', Ext F H F' H' → IsX K F' x cls od → W cls od σ H'
  | .st => False
theorem afterT.ext {K : PySem.W.Frag} {σ : L2.St} {F H F' H' : Hp} {Q : Bool → Hp → Prop} {r : R Bool} (h : afterT K W σ F H r Q) (x : Ext F H F' H') : afterT K W σ F' H' r Q := by
  cases r with
  | ok d => exact fun F2 H2 y => h F2 H2 (x.trans y)
  | ex e => exact fun cls od F2 H2 y i => h cls od F2 H2 (x.trans y) i
  | st => exact h
theorem semTT {K : PySem.W.Frag} {σ : L2.St} {F H : Hp} {ρ : Rho} {p : Rho → R Bool} {k : Bool → R Bool} {Q Φ : Bool → Hp → Prop} (r : Rep K F0 H0 m ρ σ F H) (h : afterT K W σ F H ((p ρ).bind k) Q)
    (f : ∀ b F' H', Ext F H F' H' → Rep K F0 H0 m ρ σ F' H' → afterT K W σ F' H' (k b) Q → Φ b H') : tSemT K F0 H0 m W p σ H Φ := by
  refine ⟨ρ, F, r, ?_⟩
  cases e : p ρ with
  | ok d =>
    rw [e] at h
    exact fun F' H' x => f d F' H' x (r.ext x) (afterT.ext h x)
  | ex x =>
    rw [e] at h
    exact h
  | st =>
    rw [e] at h
    exact h
variable {p q : Rho → R Bool} {rest : List Expr}
theorem w_and1 (ha : DT X F0 H0 m W a p) : DW X F0 H0 m W (.BoolOp .And [a] pos) p := pw_and1 ha
theorem w_or1 (ha : DT X F0 H0 m W a p) : DW X F0 H0 m W (.BoolOp .Or [a] pos) p := pw_or1 ha
theorem w_and (ha : DT X F0 H0 m W a p) (hb : DW X F0 H0 m W (.BoolOp .And (b :: rest) pos) q) : DW X F0 H0 m W (.BoolOp .And (a :: b :: rest) pos) (bAnd p q) := by
  refine pw_imp (pw_and ha hb) fun σ H Q ⟨ρ, F, r, h⟩ => ?_
  refine semTT (k := fun k => if k = true then q ρ else .ok false) r h fun k F1 H1 x1 r1 h1 => ?_
  cases k with
  | true => exact iteT ⟨ρ, F1, r1, h1⟩
  | false => exact iteF (h1 F1 H1 (.refl r1.fh))
theorem w_or (ha : DT X F0 H0 m W a p) (hb : DW X F0 H0 m W (.BoolOp .Or (b :: rest) pos) q) : DW X F0 H0 m W (.BoolOp .Or (a :: b :: rest) pos) (bOr p q) := by
  refine pw_imp (pw_or ha hb) fun σ H Q ⟨ρ, F, r, h⟩ => ?_
  refine semTT (k := fun k => if k = true then .ok true else q ρ) r h fun k F1 H1 x1 r1 h1 => ?_
  cases k with
  | true => exact iteT (h1 F1 H1 (.refl r1.fh))
  | false => exact iteF ⟨ρ, F1, r1, h1⟩
theorem t_w {e : Expr} (h : DW X F0 H0 m W e p) : DT X F0 H0 m W e p := PW.pt h
theorem t_not (ha : DT X F0 H0 m W a p) : DT X F0 H0 m W (.UnaryOp .Not a pos) (bNot p) := by
  refine pt_imp (pt_not ha) fun σ H Q ⟨ρ, F, r, h⟩ => ?_
  exact semTT (k := fun k => .ok (!k)) r h fun k F1 H1 x1 r1 h1 => h1 F1 H1 (.refl r1.fh)
def gAnd (ga gb : Rho → R D) : Rho → R D := fun ρ => (ga ρ).bind fun d => (asB d).bind fun k => if k = true then gb ρ else .ok (.bl false)
def gOr (ga gb : Rho → R D) : Rho → R D := fun ρ => (ga ρ).bind fun d => (asB d).bind fun k => if k = true then .ok (.bl true) else gb ρ
def gNot (ga : Rho → R D) : Rho → R D := fun ρ => (ga ρ).bind fun d => (asB d).bind fun k => .ok (.bl (!k))
theorem asB_of {K : PySem.W.Frag} {F H : Hp} {σ : L2.St} {v : V} {d : D} {k : Bool → R D} {Q : VK} (i : Is K F v d) (h : after K W σ F H ((asB d).bind k) Q) : ∃ b, v = .bl b ∧ d = .bl b ∧ after K W σ F H (k b) Q := by
  cases i with
  | bl b => exact ⟨b, rfl, rfl, h⟩
  | _ => exact h.elim
theorem d_one {op} (ha : DE X F0 H0 m W a ga) : DE X F0 H0 m W (.BoolOp op [a] pos) ga := pe_one ha
theorem d_and (ha : DE X F0 H0 m W a ga) (hb : DE X F0 H0 m W (.BoolOp .And (b :: rest) pos) gb) : DE X F0 H0 m W (.BoolOp .And (a :: b :: rest) pos) (gAnd ga gb) := by
  refine pe_imp (pe_and ha hb) fun σ H Q ⟨ρ, F, r, h⟩ => ?_
  refine sem_bind (k := fun d => (asB d).bind fun k => if k = true then gb ρ else .ok (.bl false)) r h fun d v F1 H1 _ i1 r1 h1 => ?_
  obtain ⟨k, rfl, rfl, h2⟩ := asB_of i1 h1
  refine ⟨k, rfl, ?_⟩
  cases k with
  | true => exact iteT ⟨ρ, F1, r1, h2⟩
  | false => exact iteF (after.now h2 r1.fh (.bl false))
theorem d_not (ha : DE X F0 H0 m W a ga) : DE X F0 H0 m W (.UnaryOp .Not a pos) (gNot ga) := by
  refine pe_imp (pe_not ha) fun σ H Q ⟨ρ, F, r, h⟩ => ?_
  refine sem_bind (k := fun d => (asB d).bind fun k => .ok (.bl (!k))) r h fun d v F1 H1 _ i1 r1 h1 => ?_
  obtain ⟨k, rfl, rfl, h2⟩ := asB_of i1 h1
  exact ⟨k, rfl, after.now h2 r1.fh (.bl _)⟩
def gIf (p : Rho → R Bool) (ga gb : Rho → R D) : Rho → R D := fun ρ => (p ρ).bind fun k => if k = true then ga ρ else gb ρ
def g1 (f : D → R D) (ga : Rho → R D) : Rho → R D := fun ρ => (ga ρ).bind f
def UnD (K : PySem.W.Frag) (f : D → R D) (r : V → Hp → VK → Prop) : Prop :=
  ∀ (W : WX) (σ : L2.St) (F H : Hp) (d : D) (v : V) (Q : VK), Same F H → Is K F v d → after K W σ F H (f d) Q → r v H Q
theorem d_un {op : UnaryOp} {f : D → R D} {r : V → Hp → VK → Prop} (ho : UnR X (unaryOp op) r) (o : UnD X.K f r) (ha : DE X F0 H0 m W a ga) : DE X F0 H0 m W (.UnaryOp op a pos) (g1 f ga) :=
  pe_imp (pe_un ho ha) fun σ H Q ⟨ρ, F, r, h⟩ => sem_bind (k := f) r h fun d v F1 H1 _ i1 r1 h1 => o W σ F1 H1 d v Q r1.fh i1 h1
def negD : D → R D
  | .int i => .ok (.int (-i))
  | _ => .st
theorem o_neg {K : PySem.W.Frag} : UnD K negD (rU fun i => .int (-i)) := by
  intro W σ F H d v Q s i q
  cases i with
  | int k => exact ⟨k, rfl, after.now q s (.int _)⟩
  | _ => exact q.elim
def aNil : Rho → R (List D) := fun _ => .ok []
def aCons (g : Rho → R D) (t : Rho → R (List D)) : Rho → R (List D) := fun ρ => (g ρ).bind fun d => (t ρ).bind fun ds => .ok (d :: ds)
variable {e : Expr} {es : List Expr} {g : Rho → R D} {t : Rho → R (List D)}
theorem da_nil : DA X F0 H0 m W [] aNil := pa_imp pa_nil fun σ H Q ⟨ρ, F, r, h⟩ => h [] F H (.refl r.fh) .nil
def afterA (K : PySem.W.Frag) (W : WX) (σ : L2.St) (F H : Hp) (r : R (List D)) (Q : List V → Hp → Prop) : Prop := match r with
  | .ok ds => ∀ vs F' H', Ext F H F' H' → IsL K F' vs ds → Q vs H'
  | .ex x => ∀ cls od F' H', Ext F H F' H' → IsX K F' x cls od → W cls od σ H'
  | .st => False
theorem afterA.ext {K : PySem.W.Frag} {σ : L2.St} {F H F' H' : Hp} {Q : List V → Hp → Prop} {r : R (List D)} (h : afterA K W σ F H r Q) (x : Ext F H F' H') : afterA K W σ F' H' r Q := by
  cases r with
  | ok d => exact fun vs F2 H2 y i => h vs F2 H2 (x.trans y) i
  | ex e => exact fun cls od F2 H2 y i => h cls od F2 H2 (x.trans y) i
  | st => exact h
theorem da_cons (ha : DE X F0 H0 m W e g) (hr : DA X F0 H0 m W es t) (hs : starEach (e :: es) X.env = (false, eval e X.env) :: starEach es X.env := by rfl) : DA X F0 H0 m W (e :: es) (aCons g t) := by
  refine pa_imp (pa_cons ha hr hs) fun σ H Q ⟨ρ, F, r, h⟩ => ?_
  refine ⟨ρ, F, r, ?_⟩
  have h' : afterA X.K W σ F H ((g ρ).bind fun d => (t ρ).bind fun ds => .ok (d :: ds)) Q := h
  cases eg : g ρ with
  | ok d =>
    rw [eg] at h'
    intro v F1 H1 x1 i1
    refine ⟨ρ, F1, r.ext x1, ?_⟩
    have h2 : afterA X.K W σ F1 H1 ((t ρ).bind fun ds => .ok (d :: ds)) Q := afterA.ext h' x1
    show afterA X.K W σ F1 H1 (t ρ) _
    cases et : t ρ with
    | ok ds =>
      rw [et] at h2
      exact fun vs F2 H2 x2 i2 => h2 (v :: vs) F2 H2 x2 (.cons (i1.mono x2.ff) i2)
    | ex x =>
      rw [et] at h2
      exact h2
    | st =>
      rw [et] at h2
      exact h2.elim
  | ex x =>
    rw [eg] at h'
    exact h'
  | st =>
    rw [eg] at h'
    exact h'.elim
def gA (f : List D → R D) (t : Rho → R (List D)) : Rho → R D := fun ρ => (t ρ).bind f
def CallD (K : PySem.W.Frag) (f : List D → R D) (r : List V → Hp → VK → Prop) : Prop :=
  ∀ (W : WX) (σ : L2.St) (F H : Hp) (ds : List D) (vs : List V) (Q : VK), Same F H → IsL K F vs ds → after K W σ F H (f ds) Q → r vs H Q
theorem semA {f : List D → R D} {r : List V → Hp → VK → Prop} (o : CallD X.K f r) : ∀ (σ : L2.St) (H : Hp) (Q : VK), tSem X.K F0 H0 m W (gA f t) σ H Q → tSemA X.K F0 H0 m W t σ H fun vs H1 => r vs H1 Q :=
  fun σ H Q ⟨ρ, F, r, h⟩ => semA_bind (k := f) r h fun ds vs F1 H1 _ i1 r1 h1 => o W σ F1 H1 ds vs Q r1.fh i1 h1
theorem d_callB {x : Str} {p : Pos} {id : String} {f : List D → R D} {r : List V → Hp → VK → Prop} (hc : CallR X (.builtin id) r) (o : CallD X.K f r) (hm : X.mg x = none) (ha : DA X F0 H0 m W (e :: es) t) (hg : Gl X x := by rfl) (hv : bootBuiltins x = some (.builtin id) := by decide +kernel) (hn : x ≠ "__name__" := by decide) (hdb : (x == ("__debug__" : Str)) = false := by decide)
    (he : starEach (e :: es) X.env = (false, eval e X.env) :: starEach es X.env := by rfl) (hpl : (backTo pos (starEach es X.env)).any (·.1) = false := by rfl) : DE X F0 H0 m W (.Call (.Name x p) (e :: es) [] pos) (gA f t) :=
  pe_imp (pe_callB hc hg hm hv ha hn hdb he hpl) (semA o)
def lstD : List D → R D := fun ds => if ds.length ≤ sizeLine then .ok (.list ds) else .st
def tupD : List D → R D := fun ds => if ds.length ≤ sizeLine then .ok (.tup ds) else .st
theorem d_tup {k} (ha : DA X F0 H0 m W es t) : DE X F0 H0 m W (.Tuple es k pos) (gA tupD t) := by
  refine pe_imp (pe_tup ha) fun σ H Q ⟨ρ, F, r, h⟩ => semA_bind (k := tupD) r h fun ds vs F1 H1 _ i1 r1 h1 => ?_
  unfold tupD at h1
  split at h1
  · rename_i hl
    refine ⟨by rw [i1.1]; exact hl, fun p hp => ?_⟩
    have x := Ext.laid (o := .tup vs) r1.fh hp
    exact h1 (.ref p) _ _ x (is_tup upd_same (i1.mono x.ff))
  · exact h1.elim
end
end Pd
namespace Pd
open PySem PySem.Spec PyProof.Rows L2
section
variable {K : PySem.W.Frag}
def iD (g : Int → Int → D) : D → D → R D
  | .int i, .int j => .ok (g i j)
  | _, _ => .st
def icD (C : Int → Int → Bool) (g : Int → Int → D) : D → D → R D
  | .int i, .int j => if C i j = true then .ok (g i j) else .st
  | _, _ => .st
theorem o_i {g : Int → Int → D} {g' : Int → Int → V} (h : ∀ i j H, Is K H (g' i j) (g i j)) : OpD K (iD g) (rI0 g') := by
  intro W σ F H d e v u Q s i j q
  cases i with
  | int k =>
    cases j with
    | int l => exact ⟨k, l, rfl, rfl, after.now q s (h k l F)⟩
    | _ => exact q.elim
  | _ => exact q.elim
theorem o_ic {C : Int → Int → Prop} {C' : Int → Int → Bool} {g : Int → Int → D} {g' : Int → Int → V} (hC : ∀ i j, C' i j = true → C i j) (h : ∀ i j H, Is K H (g' i j) (g i j)) : OpD K (icD C' g) (rI C g') := by
  intro W σ F H d e v u Q s i j q
  cases i with
  | int k =>
    cases j with
    | int l =>
      have q' : after K W σ F H (if C' k l = true then .ok (g k l) else .st) Q := q
      by_cases hc : C' k l = true
      · rw [if_pos hc] at q'
        exact ⟨k, l, rfl, rfl, hC k l hc, after.now q' s (h k l F)⟩
      · rw [if_neg hc] at q'
        exact q'.elim
    | _ => exact q.elim
  | _ => exact q.elim
def subD : D → D → R D := iD fun i j => .int (i - j)
def small64b (i : Int) : Bool := decide (-(2 ^ 64) < i) && decide (i < 2 ^ 64)
def mulD : D → D → R D := icD (fun i j => small64b i || small64b j) fun i j => .int (i * j)
theorem o_mul : OpD K mulD (rI CMul fun i j => .int (i * j)) := o_ic (fun i j h => by
  simp only [small64b, Bool.or_eq_true, Bool.and_eq_true, decide_eq_true_eq] at h
  exact h) fun _ _ _ => .int _
def fdivD : D → D → R D := icD (fun _ j => decide (0 < j) && decide (j < 1073741824)) fun i j => .int (i / j)
theorem o_fdiv : OpD K fdivD (rI CDiv fun i j => .int (i / j)) := o_ic (fun i j h => by
  simp only [Bool.and_eq_true, decide_eq_true_eq] at h
  exact h) fun _ _ _ => .int _
def modD : D → D → R D := icD (fun _ j => decide (0 < j)) fun i j => .int (i % j)
theorem o_mod : OpD K modD (rI (fun _ j => 0 < j) fun i j => .int (i % j)) := o_ic (fun i j h => of_decide_eq_true h) fun _ _ _ => .int _
def powOk (i j : Int) : Bool := decide (0 ≤ j) && (decide (j ≤ 1000000) && decide (i.natAbs < 2 ^ 64))
def powD : D → D → R D := icD powOk fun i j => .int (i ^ j.toNat)
def shlD : D → D → R D := icD powOk fun i j => .int (i * 2 ^ j.toNat)
def shrD : D → D → R D := icD (fun _ j => decide (0 ≤ j)) fun i j => .int (i / 2 ^ j.toNat)
theorem o_shr : OpD K shrD (rI (fun _ j => 0 ≤ j) fun i j => .int (i / 2 ^ j.toNat)) := o_ic (fun i j h => of_decide_eq_true h) fun _ _ _ => .int _
def andD : D → D → R D := iD fun i j => .int (Builtin.bitAnd i j)
theorem o_and : OpD K andD (rI0 fun i j => .int (Builtin.bitAnd i j)) := o_i fun _ _ _ => .int _
def orD : D → D → R D := iD fun i j => .int (Builtin.bitOr i j)
def xorD : D → D → R D := iD fun i j => .int (Builtin.bitXor i j)
def rCatL (K : PySem.W.Frag) : R2 := fun x y H Q => ∃ l b xs zs, x = .ref l ∧ y = .ref b ∧ SqL K H l xs ∧ SqL K H b zs ∧ xs.length + zs.length ≤ sizeLine ∧ ∀ p, H p = none → Q (.ref p) (upd H p (.lst (xs ++ zs)))
theorem op_catL {X : Cx} : OpR X (binaryOp .Add) (rCatL X.K) := by
  intro pins s σ H x y v u Q I rx ry h
  obtain ⟨l, b, xs, zs, rfl, rfl, hH, hB, hz, q⟩ := h
  cases rx
  cases ry
  obtain ⟨its, r, pl, z⟩ := I.list hH
  obtain ⟨its2, r2, pl2, z2⟩ := I.list hB
  obtain ⟨⟨cls, dd, data, sl⟩, n, ho, hc, h0, hd⟩ := id pl
  obtain ⟨⟨cls2, dd2, data2, sl2⟩, n2, ho2, hc2, h02, hd2⟩ := id pl2
  simp only at hc hd hc2 hd2
  subst hc hd hc2 hd2
  have ea : its.toArray ++ its2.toArray = (its ++ its2).toArray := by simp
  refine concat_meets ⟨_, ho, rfl⟩ ⟨_, ho2, rfl⟩ noFill_list_add seq_list_add PySem.F.slot_list_add PySem.F.entry_list_add (PySem.F.args_list_add_2 _ _) (list_addW l b its.toArray its2.toArray n n2 dd dd2 sl sl2 (by rw [List.size_toArray, List.size_toArray, ← r.length, ← r2.length]; exact hz)) ⟨ho, ho2, ?_⟩
  rw [ea]
  exact ⟨.ref _, _, I.lnew (t' := s.toks) (r.append r2) (by rw [List.length_append]; omega), rfl, q _ I.fresh⟩
def addD : D → D → R D
  | .int i, .int j => .ok (.int (i + j))
  | .str a, .str b => if a.length + b.length ≤ sizeLine then .ok (.str (a ++ b)) else .st
  | .list a, .list b => if a.length + b.length ≤ sizeLine then .ok (.list (a ++ b)) else .st
  | .tup a, .tup b => if a.length + b.length ≤ sizeLine then .ok (.tup (a ++ b)) else .st
  | _, _ => .st
def rAddD (K : PySem.W.Frag) : R2 := fun x y H Q => rI0 (fun i j => .int (i + j)) x y H Q ∨ ((∃ i j, x = .str i ∧ y = .str j ∧ i.length + j.length ≤ sizeLine ∧ Q (.str (i ++ j)) H) ∨ (rCatL K x y H Q ∨ rCatA K x y H Q))
theorem op_addD {X : Cx} : OpR X (binaryOp .Add) (rAddD X.K) := op_add.or (op_add_str.or (op_catL.or op_catA))
theorem o_add : OpD K addD (rAddD K) := by
  intro W σ F H d e v u Q s i j q
  cases i with
  | int k =>
    cases j with
    | int l => exact .inl ⟨k, l, rfl, rfl, after.now q s (.int _)⟩
    | _ => exact q.elim
  | str x =>
    cases j with
    | str y =>
      have q' : after K W σ F H (if x.length + y.length ≤ sizeLine then .ok (.str (x ++ y)) else .st) Q := q
      by_cases hc : x.length + y.length ≤ sizeLine
      · rw [if_pos hc] at q'
        exact .inr (.inl ⟨x, y, rfl, rfl, hc, after.now q' s (.str _)⟩)
      · rw [if_neg hc] at q'
        exact q'.elim
    | _ => exact q.elim
  | @list a xs ds h l e =>
    cases j with
    | @list b ys es h' l' e' =>
      have q' : after K W σ F H (if ds.length + es.length ≤ sizeLine then .ok (.list (ds ++ es)) else .st) Q := q
      by_cases hc : ds.length + es.length ≤ sizeLine
      · rw [if_pos hc] at q'
        refine .inr (.inr (.inl ⟨a, b, xs, ys, rfl, rfl, s.seq h, s.seq h', by omega, fun p hp => ?_⟩))
        have x := Ext.laid (o := .lst (xs ++ ys)) s hp
        exact q' _ _ _ x (is_list (.of upd_same) ((IsL.append ⟨l, e⟩ ⟨l', e'⟩).mono x.ff))
      · rw [if_neg hc] at q'
        exact q'.elim
    | _ => exact q.elim
  | @tup a xs ds h l e =>
    cases j with
    | @tup b ys es h' l' e' =>
      have q' : after K W σ F H (if ds.length + es.length ≤ sizeLine then .ok (.tup (ds ++ es)) else .st) Q := q
      by_cases hc : ds.length + es.length ≤ sizeLine
      · rw [if_pos hc] at q'
        have ap := IsL.append (K := K) (H := F) ⟨l, e⟩ ⟨l', e'⟩
        refine .inr (.inr (.inr ⟨a, b, xs, ys, rfl, rfl, sameT s (.inl (.inl h)), sameT s (.inl (.inl h')), by omega, fun hx => ?_, fun hx hy => ?_, fun hx hy p hp => ?_⟩))
        · subst hx
          refine after.now q' s (is_tup h' ?_)
          have hd : ds = [] := by
            cases ds with
            | nil => rfl
            | cons _ _ => simp at l
          subst hd
          exact ⟨l', e'⟩
        · subst hy
          refine after.now q' s (is_tup h ?_)
          have hd : es = [] := by
            cases es with
            | nil => rfl
            | cons _ _ => simp at l'
          subst hd
          rw [List.append_nil]
          exact ⟨l, e⟩
        · have x := Ext.laid (o := .tup (xs ++ ys)) s hp
          exact q' _ _ _ x (is_tup upd_same (ap.mono x.ff))
      · rw [if_neg hc] at q'
        exact q'.elim
    | _ => exact q.elim
  | _ => exact q.elim
mutual
def D.py : D → PyData
  | .non => .none
  | .bl b => .bool b
  | .int i => .int i
  | .str s => .str s
  | .list xs => .list (D.pyAll xs)
  | .tup xs => .tuple (D.pyAll xs)
  | .tpx xs => .tuple (D.pyAll xs)
  | .dict _ _ => .dict []
  | .dictT _ => .dict []
  | .obj _ _ => .dict []
  | .loc _ => .dict []
  | .exc _ _ => .dict []
  | .adr _ => .dict []
def D.pyAll : List D → List PyData
  | [] => []
  | d :: ds => D.py d :: D.pyAll ds
end
mutual
/-- no dicts, no objects in it -/
def D.flat : D → Bool
  | .non => true
  | .bl _ => true
  | .int _ => true
  | .str _ => true
  | .list xs => D.flatAll xs
  | .tup xs => D.flatAll xs
  | .tpx xs => D.flatAll xs
  | .dict _ _ => false
  | .dictT _ => false
  | .obj _ _ => false
  | .loc _ => false
  | .exc _ _ => false
  | .adr _ => false
def D.flatAll : List D → Bool
  | [] => true
  | d :: ds => D.flat d && D.flatAll ds
end
mutual
theorem dp_of {F : Hp} : ∀ (d : D) (v : V), D.flat d = true → Is K F v d → Dp K F v (D.py d)
  | .non, _, _, i => by cases i; exact .non
  | .bl b, _, _, i => by cases i; exact .bl b
  | .int k, _, _, i => by cases i; exact .int k
  | .str s, _, _, i => by cases i; exact .str s
  | .list ds, _, f, i => by
    obtain ⟨a, xs, rfl, h, l⟩ := i.list_inv
    exact .lst h (dp_ofAll ds xs f l)
  | .tup ds, _, f, i => by
    obtain ⟨a, xs, rfl, h, l⟩ := i.tup_inv
    exact .tup h (dp_ofAll ds xs f l)
  | .tpx ds, _, f, i => by
    obtain ⟨a, xs, rfl, h, l⟩ := i.tpx_inv
    exact .tup h.sq (dp_ofAll ds xs f l)
  | .dict _ _, _, f, _ => by cases f
  | .dictT _, _, f, _ => by cases f
  | .obj _ _, _, f, _ => by cases f
  | .loc _, _, f, _ => by cases f
  | .exc _ _, _, f, _ => by cases f
  | .adr _, _, f, _ => by cases f
theorem dp_ofAll {F : Hp} : ∀ (ds : List D) (vs : List V), D.flatAll ds = true → IsL K F vs ds → DpAll K F vs (D.pyAll ds)
  | [], vs, _, l => by rw [l.unnil]; exact .nil
  | d :: ds, vs, f, l => by
    obtain ⟨x, xr, rfl, h, t⟩ := l.uncons
    have f' : (D.flat d && D.flatAll ds) = true := f
    rw [Bool.and_eq_true] at f'
    exact .cons (dp_of d x f'.1 h) (dp_ofAll ds xr f'.2 t)
end
end
end Pd
namespace Pd
open PySem PySem.Spec PyProof.Rows L2
section
variable {K : PySem.W.Frag}
def eqvD (d e : D) : Bool := PyData.eqv d.py e.py
def D.sh (d : D) : Bool := D.flat d && SeqAt.shaped d.py
/-- scalars of which == is told at once -/
def scD : D → D → Bool
  | .non, .non => true | .non, .int _ => true | .int _, .non => true | .non, .bl _ => true | .bl _, .non => true | .non, .str _ => true | .str _, .non => true
  | .int _, .int _ => true | .bl _, .bl _ => true | .str _, .str _ => true
  | .int _, .str _ => true | .str _, .int _ => true | .bl _, .str _ => true | .str _, .bl _ => true
  | _, _ => false
def eqD (d e : D) : R D := if scD d e = true then .ok (.bl (eqvD d e)) else if (D.sh d && D.sh e) = true then .ok (.bl (eqvD d e)) else .st
def neD (d e : D) : R D := if scD d e = true then .ok (.bl (!eqvD d e)) else if (D.sh d && D.sh e) = true then .ok (.bl (!eqvD d e)) else .st
theorem sc_eq {F : Hp} {v u : V} {d e : D} (i : Is K F v d) (j : Is K F u e) (h : scD d e = true) : scal v u = true ∧ decide (v = u) = eqvD d e := by
  cases i <;> cases j <;> first
    | exact ⟨rfl, rfl⟩
    | exact ⟨rfl, dec_int⟩
    | exact ⟨rfl, dec_bl⟩
    | exact ⟨rfl, dec_str⟩
    | exact absurd h (by intro z; cases z)
def rEq2 (K : PySem.W.Frag) : R2 := fun x y H Q => rEq x y H Q ∨ rEqD K x y H Q
def rNe2 (K : PySem.W.Frag) : R2 := fun x y H Q => rNe x y H Q ∨ rNeD K x y H Q
theorem op_eq2 {X : Cx} (hu : X.A.units + 64 < cLine) : OpR X (compareOp .Eq) (rEq2 X.K) := op_eq.or (op_eqD hu)
theorem op_ne2 {X : Cx} (hu : X.A.units + 64 < cLine) : OpR X (compareOp .NotEq) (rNe2 X.K) := op_ne.or (op_neD hu)
theorem dp_mono {F H : Hp} {v : V} {d : D} (s : Same F H) (i : Is K F v d) (h : D.sh d = true) : Dp K H v d.py ∧ SeqAt.shaped d.py = true := by
  have h' : (D.flat d && SeqAt.shaped d.py) = true := h
  rw [Bool.and_eq_true] at h'
  exact ⟨dp_of d v h'.1 (i.mono s), h'.2⟩
theorem o_eq : OpD K eqD (rEq2 K) := by
  intro W σ F H d e v u Q s i j q
  unfold eqD at q
  by_cases h1 : scD d e = true
  · rw [if_pos h1] at q
    obtain ⟨a, b⟩ := sc_eq i j h1
    exact .inl ⟨a, by rw [b]; exact after.now q s (.bl _)⟩
  · rw [if_neg h1] at q
    by_cases h2 : (D.sh d && D.sh e) = true
    · rw [if_pos h2] at q
      rw [Bool.and_eq_true] at h2
      obtain ⟨a1, a2⟩ := dp_mono s i h2.1
      obtain ⟨b1, b2⟩ := dp_mono s j h2.2
      exact .inr ⟨_, _, a1, b1, a2, b2, after.now q s (.bl _)⟩
    · rw [if_neg h2] at q
      exact q.elim
theorem o_ne : OpD K neD (rNe2 K) := by
  intro W σ F H d e v u Q s i j q
  unfold neD at q
  by_cases h1 : scD d e = true
  · rw [if_pos h1] at q
    obtain ⟨a, b⟩ := sc_eq i j h1
    exact .inl ⟨a, by rw [b]; exact after.now q s (.bl _)⟩
  · rw [if_neg h1] at q
    by_cases h2 : (D.sh d && D.sh e) = true
    · rw [if_pos h2] at q
      rw [Bool.and_eq_true] at h2
      obtain ⟨a1, a2⟩ := dp_mono s i h2.1
      obtain ⟨b1, b2⟩ := dp_mono s j h2.2
      exact .inr ⟨_, _, a1, b1, a2, b2, after.now q s (.bl _)⟩
    · rw [if_neg h2] at q
      exact q.elim
def ltS (a b : Str) : Bool := decide (a.cps.toList < b.cps.toList)
def ltD : D → D → R D
  | .int i, .int j => .ok (.bl (decide (i < j)))
  | .str a, .str b => .ok (.bl (ltS a b))
  | _, _ => .st
def gtD : D → D → R D
  | .int i, .int j => .ok (.bl (decide (j < i)))
  | .str a, .str b => .ok (.bl (ltS b a))
  | _, _ => .st
def leD : D → D → R D := iD fun i j => .bl (decide (i ≤ j))
def geD : D → D → R D := iD fun i j => .bl (decide (j ≤ i))
def rLt2 : R2 := fun x y H Q => rI0 (fun i j => .bl (decide (i < j))) x y H Q ∨ ∃ i j, x = .str i ∧ y = .str j ∧ Q (.bl (decide (i.cps.toList < j.cps.toList))) H
theorem op_lt2 {X : Cx} : OpR X (compareOp .Lt) rLt2 := op_lt.or op_lt_str
theorem o_lt : OpD K ltD rLt2 := by
  intro W σ F H d e v u Q s i j q
  cases i <;> cases j <;> first
    | exact .inl ⟨_, _, rfl, rfl, after.now q s (.bl _)⟩
    | exact .inr ⟨_, _, rfl, rfl, after.now q s (.bl _)⟩
    | exact q.elim
def isND : D → D → R D
  | .non, .non => .ok (.bl true)
  | _, .non => .ok (.bl false)
  | _, _ => .st
def notND : D → D → R D
  | .non, .non => .ok (.bl false)
  | _, .non => .ok (.bl true)
  | _, _ => .st
theorem o_notN : OpD K notND (fun x y H Q => y = .non ∧ Q (.bl (!decide (x = .non))) H) := by
  intro W σ F H d e v u Q s i j q
  cases j <;> cases i <;> first
    | exact ⟨rfl, after.now q s (.bl _)⟩
    | exact q.elim
def hasSub (j i : Str) : Bool := !(Builtin.Str.occurrences j i 0 j.length 1).isEmpty
def flD : D → Bool
  | .non => true
  | .bl _ => true
  | .int _ => true
  | .str _ => true
  | _ => false
def inD : D → D → R Bool
  | .str a, .str b => .ok (hasSub b a)
  | d, .list ds => if (flD d && ds.all flD) = true then .ok (ds.any fun z => eqvD z d) else if (D.sh d && D.sh (.list ds)) = true then .ok (ds.any fun z => eqvD z d) else .st
  | d, .tup ds => if (flD d && ds.all flD) = true then .ok (ds.any fun z => eqvD z d) else .st
  | d, .tpx ds => if (flD d && ds.all flD) = true then .ok (ds.any fun z => eqvD z d) else .st
  | _, _ => .st
def inDD (d e : D) : R D := (inD d e).bind fun b => .ok (.bl b)
def notInDD (d e : D) : R D := (inD d e).bind fun b => .ok (.bl (!b))
theorem fl_of {F : Hp} {v : V} {d : D} (i : Is K F v d) (h : flD d = true) : flatV v = true := by
  cases i <;> first | rfl | exact absurd h (by intro z; cases z)
theorem fl_all {F : Hp} {xs : List V} {ds : List D} (i : IsL K F xs ds) (h : ds.all flD = true) : xs.all flatV = true := by
  rw [List.all_eq_true] at h ⊢
  intro x hx
  obtain ⟨k, hk⟩ := List.getElem?_of_mem hx
  obtain ⟨d, e, z⟩ := i.atV hk
  exact fl_of z (h d (List.mem_of_getElem? e))
theorem eqV_of {F : Hp} {v u : V} {d e : D} (i : Is K F v d) (j : Is K F u e) (h : flD d = true) (h' : flD e = true) : eqV v u = eqvD d e := by
  cases i <;> cases j <;> first
    | rfl
    | exact absurd h (by intro z; cases z)
    | exact absurd h' (by intro z; cases z)
theorem inV_of {F : Hp} {v : V} {d : D} (i : Is K F v d) (hd : flD d = true) : ∀ {xs : List V} {ds : List D}, IsL K F xs ds → ds.all flD = true → inV v xs = ds.any fun z => eqvD z d
  | xs, [], l, _ => by rw [l.unnil]; rfl
  | xs, e :: ds, l, f => by
    obtain ⟨x, xr, rfl, h, t⟩ := l.uncons
    rw [List.all_cons, Bool.and_eq_true] at f
    have ih := inV_of i hd t f.2
    show (eqV x v || inV v xr) = (eqvD e d || ds.any fun z => eqvD z d)
    rw [ih, eqV_of h i f.1 hd]
theorem any_py : ∀ (ds : List D) (d : D), ((D.pyAll ds).any fun z => PyData.eqv z d.py) = ds.any fun z => eqvD z d
  | [], _ => rfl
  | e :: ds, d => by
    show (PyData.eqv e.py d.py || _) = (eqvD e d || _)
    rw [any_py ds d]
    rfl
def rNotIn2 (K : PySem.W.Frag) : R2 := fun x y H Q => (∃ i j, x = .str i ∧ y = .str j ∧ Q (.bl (!(!(Builtin.Str.occurrences j i 0 j.length 1).isEmpty))) H) ∨ (rIn K true x y H Q ∨ rNotInD K x y H Q)
theorem op_notIn2 {X : Cx} (hu : X.A.units + 65 < cLine) : OpR X (compareOp .NotIn) (rNotIn2 X.K) := op_notIn_str.or (op_notIn_seq.or (op_notInD hu))
theorem in_cases {F H : Hp} {v u : V} {d e : D} {b : Bool} (s : Same F H) (i : Is K F v d) (j : Is K F u e) (h : inD d e = .ok b) :
    (∃ x y, v = .str x ∧ u = .str y ∧ (!(Builtin.Str.occurrences y x 0 y.length 1).isEmpty) = b) ∨ (∃ p xs, u = .ref p ∧ (SqL K H p xs ∨ SqT K H p xs) ∧ flatV v = true ∧ xs.all flatV = true ∧ inV v xs = b) ∨
      ∃ a c, Dp K H v a ∧ Dp K H u (.list c) ∧ SeqAt.shaped a = true ∧ SeqAt.shaped (.list c) = true ∧ (c.any fun z => PyData.eqv z a) = b := by
  cases e with
  | str y =>
    cases d with
    | str x =>
      cases i
      cases j
      injection h with h
      exact .inl ⟨x, y, rfl, rfl, h⟩
    | _ => cases h
  | list ds =>
    obtain ⟨p, xs, rfl, hp, l⟩ := j.list_inv
    have h' : (if (flD d && ds.all flD) = true then R.ok (ds.any fun z => eqvD z d) else if (D.sh d && D.sh (.list ds)) = true then .ok (ds.any fun z => eqvD z d) else .st) = .ok b := by
      rw [← h]
      cases d <;> rfl
    by_cases h1 : (flD d && ds.all flD) = true
    · rw [if_pos h1] at h'
      rw [Bool.and_eq_true] at h1
      injection h' with h'
      exact .inr (.inl ⟨p, xs, rfl, .inl (s.seq hp), fl_of i h1.1, fl_all l h1.2, (inV_of i h1.1 l h1.2).trans h'⟩)
    · rw [if_neg h1] at h'
      by_cases h2 : (D.sh d && D.sh (.list ds)) = true
      · rw [if_pos h2] at h'
        rw [Bool.and_eq_true] at h2
        injection h' with h'
        obtain ⟨a1, a2⟩ := dp_mono s i h2.1
        obtain ⟨b1, b2⟩ := dp_mono s (is_list hp l) h2.2
        exact .inr (.inr ⟨d.py, D.pyAll ds, a1, b1, a2, b2, (any_py ds d).trans h'⟩)
      · rw [if_neg h2] at h'
        cases h'
  | tup ds =>
    obtain ⟨p, xs, rfl, hp, l⟩ := j.tup_inv
    have h' : (if (flD d && ds.all flD) = true then R.ok (ds.any fun z => eqvD z d) else .st) = .ok b := by
      rw [← h]
      cases d <;> rfl
    by_cases h1 : (flD d && ds.all flD) = true
    · rw [if_pos h1] at h'
      rw [Bool.and_eq_true] at h1
      injection h' with h'
      exact .inr (.inl ⟨p, xs, rfl, .inr (sameT s hp), fl_of i h1.1, fl_all l h1.2, (inV_of i h1.1 l h1.2).trans h'⟩)
    · rw [if_neg h1] at h'
      cases h'
  | tpx ds =>
    obtain ⟨p, xs, rfl, hp, l⟩ := j.tpx_inv
    have h' : (if (flD d && ds.all flD) = true then R.ok (ds.any fun z => eqvD z d) else .st) = .ok b := by
      rw [← h]
      cases d <;> rfl
    by_cases h1 : (flD d && ds.all flD) = true
    · rw [if_pos h1] at h'
      rw [Bool.and_eq_true] at h1
      injection h' with h'
      exact .inr (.inl ⟨p, xs, rfl, .inr (sameT s hp.sq), fl_of i h1.1, fl_all l h1.2, (inV_of i h1.1 l h1.2).trans h'⟩)
    · rw [if_neg h1] at h'
      cases h'
  | _ => cases d <;> cases h
theorem inD_nx (d e : D) : (∃ b, inD d e = .ok b) ∨ inD d e = .st := by
  cases h : inD d e with
  | ok b => exact .inl ⟨b, rfl⟩
  | st => exact .inr rfl
  | ex x =>
    exfalso
    unfold inD at h
    repeat' (first | split at h | cases h)
theorem o_notIn : OpD K notInDD (rNotIn2 K) := by
  intro W σ F H d e v u Q s i j q
  unfold notInDD at q
  rcases inD_nx d e with ⟨b, z⟩ | z
  · rw [z] at q
    have q' := after.now q s (.bl (!b))
    rcases in_cases s i j z with ⟨x, y, rfl, rfl, h⟩ | ⟨p, xs, rfl, h1, h2, h3, h4⟩ | ⟨a, c, h1, h2, h3, h4, h5⟩
    · exact .inl ⟨x, y, rfl, rfl, by rw [h]; exact q'⟩
    · exact .inr (.inl ⟨p, xs, rfl, h1, h2, h3, by rw [h4]; exact q'⟩)
    · exact .inr (.inr ⟨a, c, h1, h2, h3, h4, by rw [h5]; exact q'⟩)
  · rw [z] at q
    exact q.elim
def lenD : List D → R D
  | [.str s] => if s.length ≤ sizeLine then .ok (.int s.length) else .st
  | [.list ds] => .ok (.int ds.length)
  | [.tup ds] => .ok (.int ds.length)
  | [.tpx ds] => .ok (.int ds.length)
  | _ => .st
theorem one_of {F : Hp} {vs : List V} {d : D} (l : IsL K F vs [d]) : ∃ v, vs = [v] ∧ Is K F v d := by
  obtain ⟨v, vr, rfl, h, t⟩ := l.uncons
  rw [t.unnil]
  exact ⟨v, rfl, h⟩
theorem c_len : CallD K lenD (fun xs H Q => ∃ x n, xs = [x] ∧ LenV K x H n ∧ Q (.int n) H) := by
  intro W σ F H ds vs Q s l q
  match ds, l, q with
  | [.str z], l, q =>
    obtain ⟨v, rfl, i⟩ := one_of l
    cases i
    have q' : after K W σ F H (if z.length ≤ sizeLine then .ok (.int z.length) else .st) Q := q
    by_cases h : z.length ≤ sizeLine
    · rw [if_pos h] at q'
      exact ⟨_, _, rfl, ⟨h, rfl⟩, after.now q' s (.int _)⟩
    · rw [if_neg h] at q'
      exact q'.elim
  | [.list es], l, q =>
    obtain ⟨v, rfl, i⟩ := one_of l
    obtain ⟨a, xs, rfl, h, t⟩ := i.list_inv
    exact ⟨_, _, rfl, .inl ⟨xs, s.seq h, t.1.symm⟩, after.now q s (.int _)⟩
  | [.tup es], l, q =>
    obtain ⟨v, rfl, i⟩ := one_of l
    obtain ⟨a, xs, rfl, h, t⟩ := i.tup_inv
    exact ⟨_, _, rfl, .inr ⟨xs, sameT s h, t.1.symm⟩, after.now q s (.int _)⟩
  | [.tpx es], l, q =>
    obtain ⟨v, rfl, i⟩ := one_of l
    obtain ⟨a, xs, rfl, h, t⟩ := i.tpx_inv
    exact ⟨_, _, rfl, .inr ⟨xs, sameT s h.sq, t.1.symm⟩, after.now q s (.int _)⟩
def ordD : List D → R D
  | [.str s] => if s.length = 1 then .ok (.int (s.cps.getD 0 0 : Nat)) else .st
  | _ => .st
def intD : List D → R D
  | [.int i] => .ok (.int i)
  | [.bl b] => .ok (.int (if b then 1 else 0))
  | _ => .st
/-- isinstance(x, T), T a built-in type -/
def tyD : D → String
  | .non => "NoneType"
  | .bl _ => "bool"
  | .int _ => "int"
  | .str _ => "str"
  | .list _ => "list"
  | .tup _ => "tuple"
  | .tpx _ => "tuple"
  | .dict _ _ => "dict"
  | .dictT _ => "dict"
  | .obj _ _ => ""
  | .loc _ => ""
  | .exc _ _ => ""
  | .adr _ => ""
def subTy : String → String → Option Bool
  | "bool", "int" => some true
  | "NoneType", "int" => some false | "int", "int" => some true | "str", "int" => some false | "list", "int" => some false | "tuple", "int" => some false | "dict", "int" => some false
  | "NoneType", "bool" => some false | "bool", "bool" => some true | "int", "bool" => some false | "str", "bool" => some false | "list", "bool" => some false | "tuple", "bool" => some false | "dict", "bool" => some false
  | "NoneType", "str" => some false | "bool", "str" => some false | "int", "str" => some false | "str", "str" => some true | "list", "str" => some false | "tuple", "str" => some false | "dict", "str" => some false
  | "NoneType", "list" => some false | "bool", "list" => some false | "int", "list" => some false | "str", "list" => some false | "list", "list" => some true | "tuple", "list" => some false | "dict", "list" => some false
  | "NoneType", "tuple" => some false | "bool", "tuple" => some false | "int", "tuple" => some false | "str", "tuple" => some false | "list", "tuple" => some false | "tuple", "tuple" => some true | "dict", "tuple" => some false
  | "NoneType", "dict" => some false | "bool", "dict" => some false | "int", "dict" => some false | "str", "dict" => some false | "list", "dict" => some false | "tuple", "dict" => some false | "dict", "dict" => some true
  | _, _ => none
def isiD (n : String) (d : D) : R D := match subTy (tyD d) n with
  | some b => .ok (.bl b)
  | none => .st
end
section
variable {X : Cx} {F0 : Bs} {H0 : Hp} {m : List Bool} {W : WX} {pos : Pos} {a b e : Expr} {es : List Expr} {ga gb g : Rho → R D} {t : Rho → R (List D)}
def ixD : D → D → R D
  | .list ds, .int i => match atI ds i with
    | some d => .ok d
    | none => .st
  | .tup ds, .int i => match atI ds i with
    | some d => .ok d
    | none => .st
  | .tpx ds, .int i => match atI ds i with
    | some d => .ok d
    | none => .st
  | .str s, .int i => if s.length ≤ sizeLine then (match atI s.cps.toList i with
    | some c => .ok (.str ⟨#[c]⟩)
    | none => .st) else .st
  | _, _ => .st
theorem atI_is {K : PySem.W.Frag} {F : Hp} {xs : List V} {ds : List D} (l : IsL K F xs ds) {i : Int} {d : D} (h : atI ds i = some d) : ∃ v, atI xs i = some v ∧ Is K F v d := by
  unfold atI at h ⊢
  rw [l.1]
  cases z : ixN ds.length i with
  | none => rw [z] at h; cases h
  | some j =>
    rw [z] at h
    exact l.at h
theorem o_ix {K : PySem.W.Frag} : OpD K ixD (rIx K) := by
  intro W σ F H d e v u Q s i j q
  cases d with
  | list ds =>
    obtain ⟨p, xs, rfl, hp, l⟩ := i.list_inv
    cases j with
    | int k =>
      have q' : after K W σ F H (match atI ds k with | some d => .ok d | none => .st) Q := q
      cases z : atI ds k with
      | none => rw [z] at q'; exact q'.elim
      | some d =>
        rw [z] at q'
        obtain ⟨w', e1, i1⟩ := atI_is l z
        exact .inl ⟨p, xs, k, w', rfl, rfl, s.seq hp, e1, after.now q' s i1⟩
    | _ => exact q.elim
  | tup ds =>
    obtain ⟨p, xs, rfl, hp, l⟩ := i.tup_inv
    cases j with
    | int k =>
      have q' : after K W σ F H (match atI ds k with | some d => .ok d | none => .st) Q := q
      cases z : atI ds k with
      | none => rw [z] at q'; exact q'.elim
      | some d =>
        rw [z] at q'
        obtain ⟨w', e1, i1⟩ := atI_is l z
        exact .inr (.inl ⟨p, xs, k, w', rfl, rfl, sameT s hp, e1, after.now q' s i1⟩)
    | _ => exact q.elim
  | tpx ds =>
    obtain ⟨p, xs, rfl, hp, l⟩ := i.tpx_inv
    cases j with
    | int k =>
      have q' : after K W σ F H (match atI ds k with | some d => .ok d | none => .st) Q := q
      cases z : atI ds k with
      | none => rw [z] at q'; exact q'.elim
      | some d =>
        rw [z] at q'
        obtain ⟨w', e1, i1⟩ := atI_is l z
        exact .inr (.inl ⟨p, xs, k, w', rfl, rfl, sameT s hp.sq, e1, after.now q' s i1⟩)
    | _ => exact q.elim
  | str x =>
    cases i
    cases j with
    | int k =>
      have q' : after K W σ F H (if x.length ≤ sizeLine then (match atI x.cps.toList k with | some c => .ok (.str ⟨#[c]⟩) | none => .st) else .st) Q := q
      by_cases hx : x.length ≤ sizeLine
      · rw [if_pos hx] at q'
        cases z : atI x.cps.toList k with
        | none => rw [z] at q'; exact q'.elim
        | some c =>
          rw [z] at q'
          exact .inr (.inr ⟨x, k, c, rfl, rfl, hx, z, after.now q' s (.str _)⟩)
      · rw [if_neg hx] at q'
        exact q'.elim
    | _ => exact q.elim
  | _ => exact q.elim
theorem d_ix (ha : DE X F0 H0 m W a ga) (hb : DE X F0 H0 m W b gb) (hs : PlainIx b := by exact fun _ _ => rfl) : DE X F0 H0 m W (.Subscript a b pos) (g2 ixD ga gb) := pe_imp (pe_ix ix_seq ha hb hs) (sem2 o_ix)
def pNone : Rho → R (Option Int) := fun _ => .ok none
def asI : D → R (Option Int)
  | .int i => .ok (some i)
  | _ => .st
def pSome (g : Rho → R D) : Rho → R (Option Int) := fun ρ => (g ρ).bind asI
def cutD {α : Type} (xs : List α) (lo hi : Option Int) : List α := (xs.drop (HT.sIx xs.length 0 lo)).take (HT.sIx xs.length xs.length hi - HT.sIx xs.length 0 lo)
def slD : D → Option Int → Option Int → R D
  | .list ds, lo, hi => .ok (.list (cutD ds lo hi))
  | .tup ds, lo, hi => .ok (.tup (cutD ds lo hi))
  | .str s, lo, hi => if s.length ≤ sizeLine then .ok (.str (cutS s lo hi)) else .st
  | _, _, _ => .st
def gSl (g : Rho → R D) (pl ph : Rho → R (Option Int)) : Rho → R D := fun ρ => (g ρ).bind fun d => (pl ρ).bind fun lo => (ph ρ).bind fun hi => slD d lo hi
def rSl2 (K : PySem.W.Frag) : V → Option Int → Option Int → Hp → VK → Prop := fun x lo hi H Q => rSlL K x lo hi H Q ∨ (rSlA K x lo hi H Q ∨ rSlS x lo hi H Q)
theorem sl2 : SlR X (rSl2 X.K) := sl_list.or (sl_tupA.or sl_str)
end
end Pd
namespace Pd
open PySem PySem.Spec PyProof.Rows L2
def afterN (K : PySem.W.Frag) (W : WX) (σ : L2.St) (F H : Hp) (r : R D) (Q : VK) : Prop := match r with
  | .ok d => ∀ p o F' H', Ext F H F' H' → H' p = some o → IsC K F' o d → F' p = none → H p = none → Q (.ref p) H'
  | .ex x => ∀ cls od F' H', Ext F H F' H' → IsX K F' x cls od → W cls od σ H'
  | .st => False
def tSemN (K : PySem.W.Frag) (F0 : Bs) (H0 : Hp) (m : List Bool) (W : WX) (g : Rho → R D) : TE := fun σ H Q => ∃ ρ F, Rep K F0 H0 m ρ σ F H ∧ afterN K W σ F H (g ρ) Q
abbrev DN (X : Cx) (F0 : Bs) (H0 : Hp) (m : List Bool) (W : WX) (e : Expr) (g : Rho → R D) : Prop := PE X e (tSemN X.K F0 H0 m W g)
/-- shared from now on -/
theorem Ext.share {F H F' H' : Hp} {p : Addr} {o : HO} (x : Ext F H F' H') (h : H' p = some o) (f : F' p = none) (n : H p = none) : Ext F H (upd F' p o) H' :=
  ⟨x.ff.trans (same_upd f), x.hh, fun b u e => by
    by_cases q : b = p
    · subst q; rw [upd_same] at e; rw [h]; exact e
    · rw [upd_ne q] at e; exact x.fh b u e, fun b hb fb => by
    have q : b ≠ p := fun z => hb (z ▸ n)
    rw [upd_ne q]; exact x.nw b hb fb⟩
theorem afterN_of {K : PySem.W.Frag} {W : WX} {σ : L2.St} {F H : Hp} {r : R D} {Q : VK} (h : after K W σ F H r Q) : afterN K W σ F H r Q := by
  cases r with
  | ok d =>
    intro p o F' H' x e c f n
    exact h (.ref p) (upd F' p o) H' (x.share e f n) (is_of_c upd_same (c.mono (same_upd f)))
  | ex x => exact h
  | st => exact h
theorem d_new {X : Cx} {F0 : Bs} {H0 : Hp} {m : List Bool} {W : WX} {e : Expr} {g : Rho → R D} (h : DN X F0 H0 m W e g) : DE X F0 H0 m W e g :=
  pe_imp h fun σ H Q ⟨ρ, F, r, q⟩ => ⟨ρ, F, r, afterN_of q⟩
section
variable {K : PySem.W.Frag} {F0 : Bs} {H0 F H F' H' : Hp} {m : List Bool} {W : WX} {ρ : Rho} {σ : L2.St} {g : Rho → R D} {Q : VK}
theorem afterN.ext {r : R D} (h : afterN K W σ F H r Q) (x : Ext F H F' H') : afterN K W σ F' H' r Q := by
  cases r with
  | ok d =>
    intro p o F2 H2 y e c f n
    refine h p o F2 H2 (x.trans y) e c f ?_
    cases q : H p with
    | none => rfl
    | some u => rw [x.hh p u q] at n; cases n
  | ex e => exact fun cls od F2 H2 y i => h cls od F2 H2 (x.trans y) i
  | st => exact h
theorem afterN.now {d : D} {p : Addr} {o : HO} (h : afterN K W σ F H (.ok d) Q) (s : Same F H) (n : H p = none) (c : IsC K F o d) : Q (.ref p) (upd H p o) :=
  h p o F (upd H p o) (.laid' s n) upd_same c (s.free n) n
theorem semA_bindN {ga : Rho → R (List D)} {k : List D → R D} {Φ : List V → Hp → Prop} (r : Rep K F0 H0 m ρ σ F H) (h : afterN K W σ F H ((ga ρ).bind k) Q)
    (f : ∀ ds vs F' H', Ext F H F' H' → IsL K F' vs ds → Rep K F0 H0 m ρ σ F' H' → afterN K W σ F' H' (k ds) Q → Φ vs H') : tSemA K F0 H0 m W ga σ H Φ := by
  refine ⟨ρ, F, r, ?_⟩
  cases e : ga ρ with
  | ok d =>
    rw [e] at h
    exact fun vs F' H' x i => f d vs F' H' x i (r.ext x) (afterN.ext h x)
  | ex x =>
    rw [e] at h
    exact h
  | st =>
    rw [e] at h
    exact h
end
section
variable {X : Cx} {F0 : Bs} {H0 : Hp} {m : List Bool} {W : WX} {pos : Pos} {a b e : Expr} {es : List Expr} {ga gb g : Rho → R D} {t : Rho → R (List D)}
theorem n_list (ha : DA X F0 H0 m W es t) : DN X F0 H0 m W (.List es pos) (gA lstD t) := by
  refine pe_imp (pe_lst ha) fun σ H Q ⟨ρ, F, r, h⟩ => semA_bindN (k := lstD) r h fun ds vs F1 H1 _ i1 r1 h1 => ?_
  unfold lstD at h1
  split at h1
  · rename_i hl
    exact ⟨by rw [i1.1]; exact hl, fun p hp => afterN.now h1 r1.fh hp (show IsC _ _ (.lst vs) (.list ds) from i1)⟩
  · exact h1.elim
/-- list(x), tuple(x) -/
def listD : List D → R D
  | [.list ds] => .ok (.list ds)
  | [.tup ds] => .ok (.list ds)
  | _ => .st
def tupleD : List D → R D
  | [.list ds] => .ok (.tup ds)
  | [.tup ds] => .ok (.tup ds)
  | _ => .st
/-- is: the slots that it stores -/
def tSemG (K : PySem.W.Frag) (F0 : Bs) (H0 : Hp) (m m' : List Bool) (is : List Nat) (τ : D → Rho → R Rho) : TG := fun v σ H Q => ∃ ρ F d, Rep K F0 H0 m ρ σ F H ∧ Is K F v d ∧ match τ d ρ with
  | .ok ρ' => ∀ σ', Rep K F0 H0 m' ρ' σ' F H → σ'.length = σ.length → (∀ j, j ∉ is → σ'[j]? = σ[j]?) → Q σ' H
  | _ => False
abbrev DG (X : Cx) (F0 : Bs) (H0 : Hp) (m m' : List Bool) (is : List Nat) (tg : Expr) (τ : D → Rho → R Rho) : Prop := PG X tg (tSemG X.K F0 H0 m m' is τ)
theorem pg_imp {tg : Expr} {t t' : TG} (h : PG X tg t) (f : ∀ v σ H Q, t' v σ H Q → t v σ H Q) : PG X tg t' := ⟨fun pins s σ H v u Q I r q => h.run pins s σ H v u Q I r (f v σ H Q q)⟩
def τName (i : Nat) : D → Rho → R Rho := fun d ρ => .ok (ρ.set i (some d))
theorem getElem?_set_cases {α : Type} {l : List α} {i j : Nat} {x y : α} (h : (l.set i x)[j]? = some y) : (j = i ∧ y = x ∧ i < l.length) ∨ (j ≠ i ∧ l[j]? = some y) := by
  by_cases hj : j = i
  · subst hj
    by_cases hl : j < l.length
    · rw [List.getElem?_set_self hl] at h
      exact .inl ⟨rfl, (Option.some.inj h).symm, hl⟩
    · rw [List.getElem?_eq_none (by simpa using hl)] at h
      cases h
  · rw [List.getElem?_set_ne (Ne.symm hj)] at h
    exact .inr ⟨hj, h⟩
theorem mset {m : List Bool} {i j : Nat} (h : (m.set i false)[j]? = some true) : j ≠ i ∧ m[j]? = some true := by
  rcases getElem?_set_cases h with ⟨_, z, _⟩ | z
  · cases z
  · exact z
theorem mset' {m : List Bool} {i j : Nat} (hj : j ≠ i) (b : Bool) : (m.set i b)[j]? = m[j]? := List.getElem?_set_ne (Ne.symm hj)
/-- a slot gets shared data -/
theorem Rep.set {K : PySem.W.Frag} {ρ : Rho} {σ : L2.St} {F H : Hp} {v : V} {d : D} (r : Rep K F0 H0 m ρ σ F H) (i : Nat) (hi : F0.ok i) (h : Is K F v d) : Rep K F0 H0 (m.set i false) (ρ.set i (some d)) (σ.set i (some v)) F H where
  len := by rw [List.length_set, List.length_set, r.len]
  fh := r.fh
  f0 := r.f0
  h0 := r.h0
  new := r.new
  val := fun j e a b => by
    rcases getElem?_set_cases a with ⟨rfl, z, hl⟩ | ⟨hj, z⟩
    · cases z
      exact ⟨v, by rw [List.getElem?_set_self (by rw [r.len]; exact hl)], h⟩
    · rw [List.getElem?_set_ne (Ne.symm hj)]
      exact r.val j e z (by rw [mset' hj] at b; exact b)
  own := fun j e a b => by
    obtain ⟨hj, b⟩ := mset b
    rw [List.getElem?_set_ne (Ne.symm hj)] at a ⊢
    exact r.own j e a b
  apart := fun j k p d1 e1 hjk a b c c' q => by
    obtain ⟨hj, a⟩ := mset a
    obtain ⟨hk, b⟩ := mset b
    rw [List.getElem?_set_ne (Ne.symm hj)] at c q
    rw [List.getElem?_set_ne (Ne.symm hk)] at c' ⊢
    exact r.apart j k p d1 e1 hjk a b c c' q
  bor := fun b hb => by
    obtain ⟨h1, h2, h3, h4⟩ := r.bor b hb
    have ne := hi b hb
    rw [mset' ne, List.getElem?_set_ne (Ne.symm ne), List.getElem?_set_ne (Ne.symm ne)]
    exact ⟨h1, h2, h3, h4⟩
theorem dg_name (i : Nat) {x : Str} (hN : X.N.Nodup) (hi : X.N[i]? = some x := by rfl) (hx : Loc X.env.scope x := by exact Or.inl rfl) (hb : F0.ok i := by exact Bs.ok_of rfl) (hf : X.fn x = true ∨ X.env.scope.names.lookup x = some .local := by first | exact .inl rfl | exact .inr rfl | assumption) :
    DG X F0 H0 m (m.set i false) [i] (.Name x pos) (τName i) := by
  refine pg_imp (pg_name hN hi hx hf) fun v σ H Q ⟨ρ, F, d, r, h, q⟩ => ?_
  exact q _ (r.set i hb h) (List.length_set ..) fun j hj => List.getElem?_set_ne (fun z => hj (by simp [z]))
/-- several -/
def tSemGs (K : PySem.W.Frag) (F0 : Bs) (H0 : Hp) (m m' : List Bool) (is : List Nat) (τ : List D → Rho → R Rho) : TGs := fun vs σ H Q => ∃ ρ F ds, Rep K F0 H0 m ρ σ F H ∧ IsL K F vs ds ∧ match τ ds ρ with
  | .ok ρ' => ∀ σ', Rep K F0 H0 m' ρ' σ' F H → σ'.length = σ.length → (∀ j, j ∉ is → σ'[j]? = σ[j]?) → Q σ' H
  | _ => False
abbrev DGs (X : Cx) (F0 : Bs) (H0 : Hp) (m m' : List Bool) (is : List Nat) (tg : List Expr) (τ : List D → Rho → R Rho) : Prop := PGs X tg (tSemGs X.K F0 H0 m m' is τ)
theorem pgs_imp {tg : List Expr} {t t' : TGs} (h : PGs X tg t) (f : ∀ v σ H Q, t' v σ H Q → t v σ H Q) : PGs X tg t' := ⟨fun pins s σ H v u Q I r q => h.run pins s σ H v u Q I r (f v σ H Q q)⟩
def τNil : List D → Rho → R Rho := fun ds ρ => match ds with
  | [] => .ok ρ
  | _ => .st
def τCons (τ : D → Rho → R Rho) (τs : List D → Rho → R Rho) : List D → Rho → R Rho := fun ds ρ => match ds with
  | d :: r => (τ d ρ).bind fun ρ1 => τs r ρ1
  | [] => .st
theorem dgs_nil : DGs X F0 H0 m m [] [] τNil := by
  refine pgs_imp pgs_nil fun vs σ H Q ⟨ρ, F, ds, r, l, q⟩ => ?_
  cases ds with
  | nil => exact ⟨l.unnil, q σ r rfl fun _ _ => rfl⟩
  | cons d ds => exact q.elim
theorem dgs_cons {m1 m2 : List Bool} {is is2 : List Nat} {τ : D → Rho → R Rho} {τs : List D → Rho → R Rho} (h1 : DG X F0 H0 m m1 is e τ) (h2 : DGs X F0 H0 m1 m2 is2 es τs)
    (hs : (assignEach (e :: es) X.env).map (·.2) = assign e X.env :: (assignEach es X.env).map (·.2) := by rfl) : DGs X F0 H0 m m2 (is ++ is2) (e :: es) (τCons τ τs) := by
  refine pgs_imp (pgs_cons h1 h2 hs) fun vs σ H Q ⟨ρ, F, ds, r, l, q⟩ => ?_
  cases ds with
  | nil => exact q.elim
  | cons d ds =>
    obtain ⟨v, vr, rfl, i, t⟩ := l.uncons
    refine ⟨v, vr, rfl, ρ, F, d, r, i, ?_⟩
    have q' : match (τ d ρ).bind fun ρ1 => τs ds ρ1 with
      | .ok ρ' => ∀ σ', Rep X.K F0 H0 m2 ρ' σ' F H → σ'.length = σ.length → (∀ j, j ∉ is ++ is2 → σ'[j]? = σ[j]?) → Q σ' H
      | _ => False := q
    cases z : τ d ρ with
    | ok ρ1 =>
      rw [z] at q'
      intro σ1 r1 l1 k1
      refine ⟨ρ1, F, ds, r1, t, ?_⟩
      have q2 : match τs ds ρ1 with
        | .ok ρ' => ∀ σ', Rep X.K F0 H0 m2 ρ' σ' F H → σ'.length = σ.length → (∀ j, j ∉ is ++ is2 → σ'[j]? = σ[j]?) → Q σ' H
        | _ => False := q'
      cases z2 : τs ds ρ1 with
      | ok ρ2 =>
        rw [z2] at q2
        intro σ2 r2 l2 k2
        exact q2 σ2 r2 (l2.trans l1) fun j hj => (k2 j fun w => hj (List.mem_append_right _ w)).trans (k1 j fun w => hj (List.mem_append_left _ w))
      | ex x => rw [z2] at q2; exact q2.elim
      | st => rw [z2] at q2; exact q2.elim
    | ex x => rw [z] at q'; exact q'.elim
    | st => rw [z] at q'; exact q'.elim
def τTup (n : Nat) (τs : List D → Rho → R Rho) : D → Rho → R Rho := fun d ρ => match d with
  | .tup ds => if ds.length = n then τs ds ρ else .st
  | _ => .st
theorem dg_tup {m' : List Bool} {is : List Nat} {τs : List D → Rho → R Rho} {k : Nat} {n : Nat} (hc : X.calm = true) (h : DGs X F0 H0 m m' is es τs)
    (hn : (assignEach es X.env).length = n := by rfl) (hst : (assignEach es X.env).findIdx? (·.1) = none := by rfl) : DG X F0 H0 m m' is (.Tuple es k pos) (τTup n τs) := by
  refine pg_imp (pg_tup hc h hn hst) fun v σ H Q ⟨ρ, F, d, r, i, q⟩ => ?_
  cases d with
  | tup ds =>
    obtain ⟨a, xs, rfl, hp, l⟩ := i.tup_inv
    have q' : match (if ds.length = n then τs ds ρ else .st) with
      | .ok ρ' => ∀ σ', Rep X.K F0 H0 m' ρ' σ' F H → σ'.length = σ.length → (∀ j, j ∉ is → σ'[j]? = σ[j]?) → Q σ' H
      | _ => False := q
    by_cases hd : ds.length = n
    · rw [if_pos hd] at q'
      exact ⟨a, xs, rfl, sameT r.fh hp, l.1.trans hd, ρ, F, ds, r, l, q'⟩
    · rw [if_neg hd] at q'
      exact q'.elim
  | _ => exact q.elim
/-- the iterator J yields these -/
def Yl (K : PySem.W.Frag) (J : It) (items : List D) (F : Hp) : Prop := ∀ (i : Nat) (F1 H1 : Hp), Same F F1 → Same F1 H1 →
  (i < items.length → J.go i H1 ∧ ∀ x H2, J.yld i H1 x H2 → ∃ F2 d, items[i]? = some d ∧ Ext F1 H1 F2 H2 ∧ Is K F2 x d) ∧ (items.length ≤ i → J.stop i H1)
def tSemI (K : PySem.W.Frag) (F0 : Bs) (H0 : Hp) (m : List Bool) (W : WX) (g : Rho → R (List D)) : TI := fun σ H Q => ∃ ρ F, Rep K F0 H0 m ρ σ F H ∧ match g ρ with
  | .ok items => ∀ J F' H', Ext F H F' H' → Yl K J items F' → Q J H'
  | .ex x => ∀ cls od F' H', Ext F H F' H' → IsX K F' x cls od → W cls od σ H'
  | .st => False
abbrev DI (X : Cx) (F0 : Bs) (H0 : Hp) (m : List Bool) (W : WX) (tg e : Expr) (g : Rho → R (List D)) : Prop := PI X tg e (tSemI X.K F0 H0 m W g)
theorem pi_imp {tg e : Expr} {t t' : TI} (h : PI X tg e t) (f : ∀ σ H Q, t' σ H Q → t σ H Q) : PI X tg e t' := ⟨fun pins s σ H Q I q => h.run pins s σ H Q I (f σ H Q q)⟩
def signs (s : Str) : List D := s.cps.toList.map fun c => .str ⟨#[c]⟩
def itemsD : D → R (List D)
  | .list ds => .ok ds
  | .tup ds => .ok ds
  | .str s => .ok (signs s)
  | _ => .st
def iSeq (g : Rho → R D) : Rho → R (List D) := fun ρ => (g ρ).bind itemsD
def rngL (lo : Int) (n : Nat) : List D := (List.range n).map fun (k : Nat) => .int (lo + k)
theorem yl_range {K : PySem.W.Frag} {lo : Int} {n : Nat} {F : Hp} : Yl K (Itr lo n) (rngL lo n) F := by
  intro i F1 H1 s1 s2
  have hl : (rngL lo n).length = n := by unfold rngL; simp
  refine ⟨fun hi => ?_, fun hi => by rw [hl] at hi; exact hi⟩
  rw [hl] at hi
  refine ⟨hi, fun y H2 ⟨e, k⟩ => ?_⟩
  subst e k
  refine ⟨F1, .int (lo + i), ?_, .refl s2, .int _⟩
  unfold rngL
  rw [List.getElem?_map, List.getElem?_range hi]
  rfl
def small62 (i : Int) : Bool := decide (-(2 ^ 62) ≤ i) && decide (i < 2 ^ 62)
def afterI (K : PySem.W.Frag) (W : WX) (σ : L2.St) (F H : Hp) (r : R (List D)) (Q : It → Hp → Prop) : Prop := match r with
  | .ok items => ∀ J F' H', Ext F H F' H' → Yl K J items F' → Q J H'
  | .ex x => ∀ cls od F' H', Ext F H F' H' → IsX K F' x cls od → W cls od σ H'
  | .st => False
theorem afterI.ext {K : PySem.W.Frag} {σ : L2.St} {F H F' H' : Hp} {Q : It → Hp → Prop} {r : R (List D)} (h : afterI K W σ F H r Q) (x : Ext F H F' H') : afterI K W σ F' H' r Q := by
  cases r with
  | ok d => exact fun J F2 H2 y i => h J F2 H2 (x.trans y) i
  | ex e => exact fun cls od F2 H2 y i => h cls od F2 H2 (x.trans y) i
  | st => exact h
/-- arguments, then what is walked -/
theorem semA_I {K : PySem.W.Frag} {σ : L2.St} {F H : Hp} {ρ : Rho} {f : List D → R (List D)} {Q : It → Hp → Prop} {Φ : List V → Hp → Prop} (r : Rep K F0 H0 m ρ σ F H) (h : afterI K W σ F H ((t ρ).bind f) Q)
    (k : ∀ ds vs F' H', Ext F H F' H' → IsL K F' vs ds → Rep K F0 H0 m ρ σ F' H' → afterI K W σ F' H' (f ds) Q → Φ vs H') : tSemA K F0 H0 m W t σ H Φ := by
  refine ⟨ρ, F, r, ?_⟩
  cases e : t ρ with
  | ok d =>
    rw [e] at h
    exact fun vs F' H' x i => k d vs F' H' x i (r.ext x) (afterI.ext h x)
  | ex x =>
    rw [e] at h
    exact h
  | st =>
    rw [e] at h
    exact h
def iA (f : List D → R (List D)) (t : Rho → R (List D)) : Rho → R (List D) := fun ρ => (t ρ).bind f
def rangeD1 : List D → R (List D)
  | [.int j] => if small62 j = true then .ok (rngL 0 j.toNat) else .st
  | _ => .st
theorem di_range1 {tg : Expr} {p : Pos} (hm : X.mg "range" = none) (ha : DA X F0 H0 m W [a] t) (hg : Gl X "range" := by rfl) (hs : starEach [a] X.env = [(false, eval a X.env)] := by rfl) : DI X F0 H0 m W tg (.Call (.Name "range" p) [a] [] pos) (iA rangeD1 t) := by
  refine pi_imp (pi_range1 hg hm ha hs) fun σ H Q ⟨ρ, F, r, q⟩ => semA_I (f := rangeD1) r q fun ds vs F1 H1 _ l r1 q1 => ?_
  match ds, l, q1 with
  | [.int j], l, q1 =>
    obtain ⟨v, rfl, i⟩ := one_of l
    cases i
    have q' : afterI X.K W σ F1 H1 (if small62 j = true then .ok (rngL 0 j.toNat) else .st) Q := q1
    by_cases hj : small62 j = true
    · rw [if_pos hj] at q'
      simp only [small62, Bool.and_eq_true, decide_eq_true_eq] at hj
      exact ⟨j, rfl, hj.1, hj.2, q' _ F1 H1 (.refl r1.fh) yl_range⟩
    · rw [if_neg hj] at q'
      exact q'.elim
/-- zip of two lists -/
def zipL : List D → List D → List D
  | a :: as, b :: bs => .tup [a, b] :: zipL as bs
  | _, _ => []
def zipD : List D → R (List D)
  | [.list as, .list bs] => .ok (zipL as bs)
  | _ => .st
/-- enumerate of a list -/
def enumL : Nat → List D → List D
  | _, [] => []
  | k, d :: ds => .tup [.int k, d] :: enumL (k + 1) ds
theorem enumL_at : ∀ (ds : List D) (k i : Nat), (enumL k ds)[i]? = (ds[i]?).map fun d => .tup [.int ((k + i : Nat) : Int), d]
  | [], k, i => by simp [enumL]
  | d :: ds, k, 0 => rfl
  | d :: ds, k, i + 1 => by
    show (enumL (k + 1) ds)[i]? = _
    rw [enumL_at ds (k + 1) i, show k + 1 + i = k + (i + 1) by omega]
    rfl
theorem enumL_len : ∀ (ds : List D) (k : Nat), (enumL k ds).length = ds.length
  | [], k => rfl
  | d :: ds, k => by
    show (enumL (k + 1) ds).length + 1 = _
    rw [enumL_len ds (k + 1)]
    rfl
def enumD : List D → R (List D)
  | [.list ds] => .ok (enumL 0 ds)
  | _ => .st
theorem yl_enum {K : PySem.W.Frag} {a : Addr} {xs : List V} {ds : List D} {F : Hp} (h : SqL K F a xs) (l : IsL K F xs ds) : Yl K (Ite K a) (enumL 0 ds) F := by
  intro i F1 H1 s1 s2
  have h1 : SqL K H1 a xs := (s1.trans s2).seq h
  rw [enumL_len]
  refine ⟨fun hi => ?_, fun hi => ⟨xs, h1, by have := l.1; omega⟩⟩
  obtain ⟨x, hx, ix⟩ := l.at (i := i) (d := ds[i]'(by omega)) (List.getElem?_eq_getElem _)
  refine ⟨⟨xs, x, h1, hx⟩, fun v H2 y => ?_⟩
  obtain ⟨T, x', e, hT, e2, k1⟩ := y
  subst e e2
  have e3 := k1 xs h1
  rw [hx] at e3
  cases e3
  have xe := Ext.laid (o := .tup [.int (i : Nat), x]) s2 hT
  refine ⟨_, .tup [.int (i : Nat), ds[i]'(by omega)], ?_, xe, is_tup upd_same (IsL.cons (.int _) (IsL.cons ((ix.mono s1).mono xe.ff) .nil))⟩
  rw [enumL_at, List.getElem?_eq_getElem (by omega)]
  simp
theorem di_enum {p tpos : Pos} {elts : List Expr} {kk : Nat} (hm : X.mg "enumerate" = none) (ha : DA X F0 H0 m W [a] t) (hg : Gl X "enumerate" := by rfl)
    (hs : starEach [a] X.env = [(false, eval a X.env)] := by rfl) : DI X F0 H0 m W (.Tuple elts kk tpos) (.Call (.Name "enumerate" p) [a] [] pos) (iA enumD t) := by
  refine pi_imp (pi_enum hg hm ha hs) fun σ H Q ⟨ρ, F, r, q⟩ => semA_I (f := enumD) r q fun ds vs F1 H1 _ l r1 q1 => ?_
  match ds, l, q1 with
  | [.list as], l, q1 =>
    obtain ⟨v, rfl, z1⟩ := one_of l
    obtain ⟨a1, xs, rfl, h1, l1⟩ := z1.list_inv
    exact ⟨a1, xs, rfl, r1.fh.seq h1, q1 _ F1 H1 (.refl r1.fh) (yl_enum h1 l1)⟩
end
end Pd
namespace Pd
open PySem PySem.Spec PyProof.Rows L2
def noX {α : Type} : R α → R α
  | .ok a => .ok a
  | _ => .st
def wipeR (ρ : Rho) : List Nat → Rho
  | [] => ρ
  | v :: vs => (wipeR ρ vs).set v none
/-- one after another: target, test, element -/
def lcR (τ : D → Rho → R Rho) (p : Rho → R Bool) (ge : Rho → R D) (ρ : Rho) : List D → R (List D)
  | [] => .ok []
  | d :: ds => (τ d ρ).bind fun ρ1 => (p ρ1).bind fun k => if k = true then (ge ρ1).bind fun y => (lcR τ p ge ρ ds).bind fun ys => .ok (y :: ys) else lcR τ p ge ρ ds
def gLc (gi : Rho → R (List D)) (vs : List Nat) (τ : D → Rho → R Rho) (p : Rho → R Bool) (ge : Rho → R D) : Rho → R D := fun ρ => (gi ρ).bind fun items =>
  if items.length ≤ sizeLine then (noX (lcR τ p ge (wipeR ρ vs) items)).bind fun ys => .ok (.list ys) else .st
def W0 : WX := fun _ _ _ _ => False
def bYes : Rho → R Bool := fun _ => .ok true
theorem Rep.wipe1 {K : PySem.W.Frag} {F0 : Bs} {H0 F H : Hp} {m : List Bool} {ρ : Rho} {σ : L2.St} (r : Rep K F0 H0 m ρ σ F H) (i : Nat) (hi : F0.ok i) : Rep K F0 H0 m (ρ.set i none) (σ.set i none) F H where
  len := by rw [List.length_set, List.length_set, r.len]
  fh := r.fh
  f0 := r.f0
  h0 := r.h0
  new := r.new
  val := fun j e a b => by
    rcases getElem?_set_cases a with ⟨_, z, _⟩ | ⟨hj, z⟩
    · cases z
    · rw [List.getElem?_set_ne (Ne.symm hj)]
      exact r.val j e z b
  own := fun j e a b => by
    rcases getElem?_set_cases a with ⟨_, z, _⟩ | ⟨hj, z⟩
    · cases z
    · rw [List.getElem?_set_ne (Ne.symm hj)]
      exact r.own j e z b
  apart := fun j k p d1 e1 hjk a b c c' q => by
    rcases getElem?_set_cases c with ⟨_, z, _⟩ | ⟨hj, z⟩
    · cases z
    · rcases getElem?_set_cases c' with ⟨_, z', _⟩ | ⟨hk, z'⟩
      · cases z'
      · rw [List.getElem?_set_ne (Ne.symm hj)] at q
        rw [List.getElem?_set_ne (Ne.symm hk)]
        exact r.apart j k p d1 e1 hjk a b z z' q
  bor := fun b hb => by
    obtain ⟨h1, h2, h3, h4⟩ := r.bor b hb
    have ne := hi b hb
    rw [List.getElem?_set_ne (Ne.symm ne), List.getElem?_set_ne (Ne.symm ne)]
    exact ⟨h1, h2, h3, h4⟩
theorem ok_all {B : Bs} {vs : List Nat} (h : (vs.all fun i => B.bor.all fun b => !(b.1 == i)) = true) : ∀ v ∈ vs, B.ok v := fun v hv => Bs.ok_of (List.all_eq_true.mp h v hv)
theorem Rep.wipe {K : PySem.W.Frag} {F0 : Bs} {H0 F H : Hp} {m : List Bool} {ρ : Rho} {σ : L2.St} (r : Rep K F0 H0 m ρ σ F H) : ∀ vs : List Nat, (∀ v ∈ vs, F0.ok v) → Rep K F0 H0 m (wipeR ρ vs) (L2.wipe σ vs) F H
  | [], _ => r
  | v :: vs, h => (r.wipe vs fun u hu => h u (by simp [hu])).wipe1 v (h v (by simp))
theorem wipe_same {σ σ2 : L2.St} (l : σ2.length = σ.length) : ∀ {vs : List Nat}, (∀ j, j ∉ vs → σ2[j]? = (L2.wipe σ vs)[j]?) → L2.wipe σ2 vs = L2.wipe σ vs := by
  intro vs h
  apply List.ext_getElem?
  intro j
  have key : ∀ (us : List Nat) (s : L2.St), j ∈ us → (L2.wipe s us)[j]? = if j < s.length then some none else none := by
    intro us s
    induction us with
    | nil => intro hj; cases hj
    | cons u us ih =>
      intro hj
      unfold L2.wipe
      by_cases e : j = u
      · subst e
        by_cases hl : j < s.length
        · rw [if_pos hl, List.getElem?_set_self (by rw [wipe_length]; exact hl)]
        · rw [if_neg hl, List.getElem?_eq_none (by rw [List.length_set, wipe_length]; omega)]
      · rw [List.getElem?_set_ne (Ne.symm e)]
        exact ih ((List.mem_cons.mp hj).resolve_left e)
  have key2 : ∀ (us : List Nat) (s : L2.St), j ∉ us → (L2.wipe s us)[j]? = s[j]? := by
    intro us s
    induction us with
    | nil => intro _; rfl
    | cons u us ih =>
      intro hj
      unfold L2.wipe
      rw [List.getElem?_set_ne (fun e => hj (by simp [e]))]
      exact ih fun z => hj (List.mem_cons_of_mem _ z)
  by_cases hj : j ∈ vs
  · rw [key vs σ2 hj, key vs σ hj, l]
  · rw [key2 vs σ2 hj, h j hj]
section
variable {X : Cx} {F0 : Bs} {H0 : Hp} {m m' : List Bool} {W : WX} {pos : Pos} {elt tg iter : Expr} {ifs : List Expr} {gi : Rho → R (List D)} {τ : D → Rho → R Rho} {p : Rho → R Bool} {ge : Rho → R D}
abbrev DTs (X : Cx) (F0 : Bs) (H0 : Hp) (m : List Bool) (W : WX) (es : List Expr) (g : Rho → R Bool) : Prop := PTs X es (tSemT X.K F0 H0 m W g)
theorem pts_imp {es : List Expr} {t t' : TT} (h : PTs X es t) (f : ∀ σ H Q, t' σ H Q → t σ H Q) : PTs X es t' := ⟨fun pins s σ H Q I q => h.run pins s σ H Q I (f σ H Q q)⟩
theorem dts_nil : DTs X F0 H0 m W [] bYes := pts_imp pts_nil fun σ H Q ⟨ρ, F, r, h⟩ => h F H (.refl r.fh)
theorem lc_sem {K : PySem.W.Frag} {is vs : List Nat} (hw : ∀ v ∈ vs, F0.ok v) (hv : ∀ i ∈ is, i ∈ vs) (σ : L2.St) (H : Hp) (Q : VK) (h : tSemN K F0 H0 m W (gLc gi vs τ p ge) σ H Q) :
    tLc (tSemI K F0 H0 m W gi) (tSemG K F0 H0 m m' is τ) (tSemT K F0 H0 m' W0 p) (tSem K F0 H0 m' W0 ge) vs σ H Q := by
  obtain ⟨ρ, F, r, h⟩ := h
  unfold gLc at h
  refine ⟨ρ, F, r, ?_⟩
  cases z : gi ρ with
  | ex x =>
    rw [z] at h
    exact h
  | st =>
    rw [z] at h
    exact h.elim
  | ok items =>
    rw [z] at h
    intro J F1 H1 x1 y1 Dn hD
    have h1 : afterN K W σ F H (if items.length ≤ sizeLine then (noX (lcR τ p ge (wipeR ρ vs) items)).bind fun ys => .ok (.list ys) else .st) Q := h
    by_cases hz : items.length ≤ sizeLine
    · rw [if_pos hz] at h1
      cases e : lcR τ p ge (wipeR ρ vs) items with
      | ex x => rw [e] at h1; exact h1.elim
      | st => rw [e] at h1; exact h1.elim
      | ok ys =>
        rw [e] at h1
        have r1 := r.ext x1
        -- the invariant
        refine ⟨fun i mm Hc => ∃ Fc acc done rest, Ext F1 H1 Fc Hc ∧ Fc Dn = none ∧ Hc Dn = some (.lst acc) ∧ IsL K Fc acc done ∧ done.length ≤ i ∧ lcR τ p ge (wipeR ρ vs) (items.drop i) = .ok rest ∧ done ++ rest = ys ∧ i ≤ items.length ∧ mm = items.length - i,
          ⟨items.length, F1, [], [], ys, .laid' x1.fh hD, x1.fh.free hD, upd_same, .nil, Nat.le_refl _, e, rfl, Nat.zero_le _, rfl⟩, ?_⟩
        rintro i mm Hc ⟨Fc, acc, done, rest, xc, fD, hDc, ic, dl, ec, ey, hi, rfl⟩
        have x2 := x1.trans xc
        have yc := y1 i Fc Hc xc.ff xc.fh
        by_cases hlt : i < items.length
        · obtain ⟨go, yld⟩ := yc.1 hlt
          refine .inr ⟨go, fun Hn => ∃ Fc acc done rest, Ext F1 H1 Fc Hn ∧ Fc Dn = none ∧ Hn Dn = some (.lst acc) ∧ IsL K Fc acc done ∧ done.length ≤ i + 1 ∧ lcR τ p ge (wipeR ρ vs) (items.drop (i + 1)) = .ok rest ∧ done ++ rest = ys, fun Hn ⟨Fc, acc, done, rest, q1, q2, q3, q4, q5, q6, q7⟩ =>
            ⟨items.length - (i + 1), by omega, Fc, acc, done, rest, q1, q2, q3, q4, q5, q6, q7, hlt, rfl⟩, fun x Hy y => ?_⟩
          obtain ⟨F2, d, hd, xe, ix⟩ := yld x Hy y
          have ed : items.drop i = d :: items.drop (i + 1) := by
            rw [List.drop_eq_getElem_cons hlt]
            rw [List.getElem?_eq_getElem hlt] at hd
            rw [Option.some.inj hd]
          rw [ed] at ec
          have fD2 : F2 Dn = none := xe.nw Dn (by rw [hDc]; simp) fD
          have hD2 : Hy Dn = some (.lst acc) := xe.hh _ _ hDc
          have r2 := ((r1.ext xc).ext xe).wipe vs hw
          refine ⟨wipeR ρ vs, F2, d, r2, ix, ?_⟩
          have ec' : ((τ d (wipeR ρ vs)).bind fun ρ1 => (p ρ1).bind fun k => if k = true then (ge ρ1).bind fun y => (lcR τ p ge (wipeR ρ vs) (items.drop (i + 1))).bind fun ys => .ok (y :: ys) else lcR τ p ge (wipeR ρ vs) (items.drop (i + 1))) = .ok rest := ec
          cases e1 : τ d (wipeR ρ vs) with
          | ex x => rw [e1] at ec'; cases ec'
          | st => rw [e1] at ec'; cases ec'
          | ok ρ1 =>
            rw [e1] at ec'
            intro σ1 r3 l3 k3
            refine ⟨wipe_same (by rw [l3, wipe_length]) fun j hj => k3 j fun z => hj (hv j z), ρ1, F2, r3, ?_⟩
            have ec2 : ((p ρ1).bind fun k => if k = true then (ge ρ1).bind fun y => (lcR τ p ge (wipeR ρ vs) (items.drop (i + 1))).bind fun ys => .ok (y :: ys) else lcR τ p ge (wipeR ρ vs) (items.drop (i + 1))) = .ok rest := ec'
            cases e2 : p ρ1 with
            | ex x => rw [e2] at ec2; cases ec2
            | st => rw [e2] at ec2; cases ec2
            | ok k =>
              rw [e2] at ec2
              intro F3 H3 x3
              have x4 := (xc.trans xe).trans x3
              have fD3 : F3 Dn = none := x3.nw Dn (by rw [hD2]; simp) fD2
              have hD3 : H3 Dn = some (.lst acc) := x3.hh _ _ hD2
              cases k with
              | false =>
                refine iteF ⟨F3, acc, done, rest, x4, fD3, hD3, (ic.mono xe.ff).mono x3.ff, by omega, ec2, ey⟩
              | true =>
                refine iteT ⟨ρ1, F3, r3.ext x3, ?_⟩
                have ec3 : ((ge ρ1).bind fun y => (lcR τ p ge (wipeR ρ vs) (items.drop (i + 1))).bind fun ys => .ok (y :: ys)) = .ok rest := ec2
                cases e3 : ge ρ1 with
                | ex x => rw [e3] at ec3; cases ec3
                | st => rw [e3] at ec3; cases ec3
                | ok y =>
                  rw [e3] at ec3
                  intro v F4 H4 x5 iv
                  have fD4 : F4 Dn = none := x5.nw Dn (by rw [hD3]; simp) fD3
                  have hD4 : H4 Dn = some (.lst acc) := x5.hh _ _ hD3
                  have i4 := ((ic.mono xe.ff).mono x3.ff).mono x5.ff
                  have ec4 : ((lcR τ p ge (wipeR ρ vs) (items.drop (i + 1))).bind fun ys => R.ok (y :: ys)) = .ok rest := ec3
                  cases e4 : lcR τ p ge (wipeR ρ vs) (items.drop (i + 1)) with
                  | ex x => rw [e4] at ec4; cases ec4
                  | st => rw [e4] at ec4; cases ec4
                  | ok ys2 =>
                    rw [e4] at ec4
                    injection ec4 with ec4
                    refine ⟨acc, hD4, by have := ic.1; omega, F4, acc ++ [v], done ++ [y], ys2, ?_, fD4, upd_same, i4.snoc iv, by simp; omega, rfl, ?_⟩
                    · have x6 := x4.trans x5
                      refine ⟨x6.ff, fun b u eb => ?_, fun b u eb => ?_, x6.nw⟩
                      · rw [upd_ne (ne_of_none eb hD)]
                        exact x6.hh b u eb
                      · rw [upd_ne (ne_of_none eb fD4)]
                        exact x6.fh b u eb
                    · rw [List.append_assoc, List.singleton_append, ec4]
                      exact ey
        · have ei : i = items.length := by omega
          subst ei
          rw [List.drop_length] at ec
          have er : rest = [] := by
            have : (R.ok [] : R (List D)) = .ok rest := ec
            injection this with this
            exact this.symm
          subst er
          rw [List.append_nil] at ey
          subst ey
          refine .inl ⟨yc.2 (Nat.le_refl _), h1 Dn (.lst acc) Fc Hc x2 hDc ic fD ?_⟩
          exact x1.hh.free hD
    · rw [if_neg hz] at h1
      exact h1.elim
end
section
variable {X : Cx} {F0 : Bs} {H0 : Hp} {m : List Bool} {W : WX} {pos : Pos} {o e : Expr} {es : List Expr} {go g : Rho → R D} {t : Rho → R (List D)}
def spD (K : PySem.W.Frag) (G : List D → R D) : Sp := fun vs H Q E => ∃ ds F, IsL K F vs ds ∧ Same F H ∧ match G ds with
  | .ok d => ∀ v F' H', Ext F H F' H' → Is K F' v d → Q v H'
  | .ex x => ∀ cls od F' H', Ext F H F' H' → IsX K F' x cls od → E cls od H'
  | .st => False
/-- .. that hands back a new object of its own -/
def spN (K : PySem.W.Frag) (G : List D → R D) : Sp := fun vs H Q E => ∃ ds F, IsL K F vs ds ∧ Same F H ∧ match G ds with
  | .ok d => ∀ p o F' H', Ext F H F' H' → H' p = some o → IsC K F' o d → F' p = none → H p = none → Q (.ref p) H'
  | .ex x => ∀ cls od F' H', Ext F H F' H' → IsX K F' x cls od → E cls od H'
  | .st => False
theorem spN_of {K : PySem.W.Frag} {G : List D → R D} {vs : List V} {H : Hp} {Q : VK} {E : XK} (h : spD K G vs H Q E) : spN K G vs H Q E := by
  obtain ⟨ds, F, l, s, h⟩ := h
  refine ⟨ds, F, l, s, ?_⟩
  cases z : G ds with
  | ok d =>
    rw [z] at h
    exact fun p o F' H' x e c f n => h (.ref p) (upd F' p o) H' (x.share e f n) (is_of_c upd_same (c.mono (same_upd f)))
  | ex x =>
    rw [z] at h
    exact h
  | st =>
    rw [z] at h
    exact h
variable {f : Addr} {fd : FuncData} {ps : List Str} {k : Nat} {x : Str} {p : Pos} {G : List D → R D}
theorem d_call (C : FnOk X.prog X.w X.K X.mg X.base (L2.CX X.prog X.w) k f fd ps (spD X.K G)) (hr : Room k X.A) (hm : X.mg x = some (.ref f)) (hk : PySem.W.keepIn X.K (.ref f) = true) (hb : Binds X.K fd ps []) (tk : Takes X W) (ha : DA X F0 H0 m W (e :: es) t) (hg : Gl X x := by rfl)
    (hdb : (x == ("__debug__" : Str)) = false := by decide) (he : starEach (e :: es) X.env = (false, eval e X.env) :: starEach es X.env := by rfl) (hpl : (backTo pos (starEach es X.env)).any (·.1) = false := by rfl) : DE X F0 H0 m W (.Call (.Name x p) (e :: es) [] pos) (gA G t) := by
  refine pe_imp (pe_callS C hr hg hm hk hb (fun σ => passAt tk σ) ha hdb he hpl) fun σ H Q ⟨ρ, F, r, h⟩ => ?_
  refine semA_bind (k := G) r h fun ds vs F1 H1 _ i1 r1 h1 => ⟨ds, F1, i1, r1.fh, ?_⟩
  cases z : G ds with
  | ok d => rw [z] at h1; exact h1
  | ex x => rw [z] at h1; exact h1
  | st => rw [z] at h1; exact h1
end
end Pd
namespace Pd
open PySem PySem.Spec PyProof.Rows L2
/-- what a statement comes to; rn: a new object of the frame's own is handed back -/
inductive S where
  | nx (ρ : Rho) | rt (d : D) | rn (d : D) | rm (d : D) (ρ : Rho) | bk (ρ : Rho) | ct (ρ : Rho) | ex (x : Ex) (ρ : Rho) | st
/-- the slots that are lent -/
def bmask (B : Bs) (n : Nat) : List Bool := match B.bor with
  | [] => []
  | _ => (List.range n).map fun i => B.bor.any fun b => b.1 == i
theorem bm_of {B : Bs} {n i : Nat} (h : (bmask B n)[i]? = some true) : ∃ b ∈ B.bor, b.1 = i := by
  unfold bmask at h
  split at h
  · simp at h
  · rw [List.getElem?_map] at h
    cases e : (List.range n)[i]? with
    | none => rw [e] at h; cases h
    | some k =>
      rw [e] at h
      obtain ⟨hk, e2⟩ := List.getElem?_eq_some_iff.mp e
      have ek : i = k := by simpa using e2
      subst ek
      have h2 : (B.bor.any fun b => b.1 == i) = true := Option.some.inj h
      obtain ⟨b, hb, e3⟩ := List.any_eq_true.mp h2
      exact ⟨b, hb, by simpa using e3⟩
theorem bm_to {B : Bs} {n : Nat} {b : Nat × Addr × Option (D × HO)} (hb : b ∈ B.bor) (hn : b.1 < n) : (bmask B n)[b.1]? = some true := by
  unfold bmask
  split
  · rename_i e
    rw [e] at hb
    cases hb
  · rw [List.getElem?_map, List.getElem?_range hn]
    show some (B.bor.any fun c => c.1 == b.1) = some true
    rw [List.any_eq_true.mpr ⟨b, hb, by simp⟩]
/-- all that the frame owns, but what is lent, is shared from now on -/
theorem Rep.freeze {K : PySem.W.Frag} {F0 : Bs} {H0 F H : Hp} {m : List Bool} {ρ : Rho} {σ : L2.St} (r : Rep K F0 H0 m ρ σ F H) : ∃ F', Rep K F0 H0 (bmask F0 ρ.length) ρ σ F' H ∧ Same F F' := by
  classical
  let O : Addr → Prop := fun p => ∃ (i : Nat) (d : D), ρ[i]? = some (some d) ∧ m[i]? = some true ∧ σ[i]? = some (some (.ref p)) ∧ (bmask F0 ρ.length)[i]? ≠ some true
  let F' : Hp := fun p => if O p then H p else F p
  have sF : Same F F' := fun b u e => by
    show (if O b then H b else F b) = some u
    by_cases h : O b
    · rw [if_pos h]; exact r.fh b u e
    · rw [if_neg h]; exact e
  have bm : ∀ i, (bmask F0 ρ.length)[i]? = some true → m[i]? = some true := fun i h => by
    obtain ⟨b, hb, e⟩ := bm_of h
    rw [← e]
    exact (r.bor b hb).2.1
  refine ⟨F', ⟨r.len, fun b u e => ?_, r.f0.trans sF, r.h0, fun p h f => ?_, fun i d a nb => ?_, fun i d a b => ?_, fun i j p d e hij a b c c' => r.apart i j p d e hij (bm i a) (bm j b) c c', fun b hb => ?_⟩, sF⟩
  · have e' : (if O b then H b else F b) = some u := e
    by_cases h : O b
    · rw [if_pos h] at e'; exact e'
    · rw [if_neg h] at e'; exact r.fh b u e'
  · show (if O p then H p else F p) = none
    by_cases ho : O p
    · obtain ⟨i, d, a, b, c, _⟩ := ho
      obtain ⟨q, o, e1, e2, e3, e4, e5⟩ := r.own i d a b
      rw [c] at e1
      cases e1
      exact absurd e5 h
    · rw [if_neg ho]; exact r.new p h f
  · by_cases b : m[i]? = some true
    · obtain ⟨p, o, e1, e2, e3, e4, e5⟩ := r.own i d a b
      refine ⟨.ref p, e1, is_of_c (o := o) ?_ (e3.mono sF)⟩
      show (if O p then H p else F p) = some o
      rw [if_pos ⟨i, d, a, b, e1, nb⟩]; exact e2
    · obtain ⟨v, e1, e2⟩ := r.val i d a b
      exact ⟨v, e1, e2.mono sF⟩
  · obtain ⟨p, o, e1, e2, e3, e4, e5⟩ := r.own i d a (bm i b)
    refine ⟨p, o, e1, e2, e3.mono sF, ?_, e5⟩
    show (if O p then H p else F p) = none
    have nO : ¬ O p := fun ⟨j, d', a', b', c', nb'⟩ => by
      by_cases hij : i = j
      · subst hij; exact nb' b
      · exact r.apart i j p d d' hij (bm i b) b' a a' e1 c'
    rw [if_neg nO]
    exact e4
  · obtain ⟨h1, h2, ⟨d, h3⟩, h4⟩ := r.bor b hb
    exact ⟨h1, bm_to hb (List.getElem?_eq_some_iff.mp h3).1, ⟨d, h3⟩, h4⟩
/-- all is shared, as if a def of its own began here -/
theorem Rep.all {K : PySem.W.Frag} {F0 : Bs} {H0 F H : Hp} {m : List Bool} {ρ : Rho} {σ : L2.St} (r : Rep K F0 H0 m ρ σ F H) : ∃ F', Rep K ⟨F', []⟩ H [] ρ σ F' H ∧ Same F F' := by
  classical
  let O : Addr → Prop := fun p => ∃ (i : Nat) (d : D), ρ[i]? = some (some d) ∧ m[i]? = some true ∧ σ[i]? = some (some (.ref p))
  let F' : Hp := fun p => if O p then H p else F p
  have sF : Same F F' := fun b u e => by
    show (if O b then H b else F b) = some u
    by_cases h : O b
    · rw [if_pos h]; exact r.fh b u e
    · rw [if_neg h]; exact e
  refine ⟨F', ⟨r.len, fun b u e => ?_, .refl _, .refl _, fun p h f => f, fun i d a _ => ?_, fun i d _ b => by simp at b, fun i j p d e _ a => by simp at a, fun b hb => nomatch hb⟩, sF⟩
  · have e' : (if O b then H b else F b) = some u := e
    by_cases h : O b
    · rw [if_pos h] at e'; exact e'
    · rw [if_neg h] at e'; exact r.fh b u e'
  · by_cases b : m[i]? = some true
    · obtain ⟨p, o, e1, e2, e3, e4, e5⟩ := r.own i d a b
      refine ⟨.ref p, e1, is_of_c (o := o) ?_ (e3.mono sF)⟩
      show (if O p then H p else F p) = some o
      rw [if_pos ⟨i, d, a, b, e1⟩]; exact e2
    · obtain ⟨v, e1, e2⟩ := r.val i d a b
      exact ⟨v, e1, e2.mono sF⟩
theorem Is.monoX {K : PySem.W.Frag} {F F' : Hp} {x : Ex} {cls : Value} {od : Option Addr} (h : IsX K F x cls od) (s : Same F F') : IsX K F' x cls od :=
  ⟨h.1, fun n => let ⟨d, vs, e, a, b⟩ := h.2.1 n; ⟨d, vs, e, s _ _ a, b.mono s⟩, h.2.2⟩
/-- what is lent for reading stands as it stood -/
def BorC (B : Bs) (F H : Hp) : Prop := ∀ b ∈ B.bor, ∀ d o, b.2.2 = some (d, o) → H b.2.1 = some o ∧ F b.2.1 = none
theorem Rep.borC {K : PySem.W.Frag} {F0 : Bs} {H0 F H : Hp} {m : List Bool} {ρ : Rho} {σ : L2.St} (r : Rep K F0 H0 m ρ σ F H) : BorC F0 F H := fun b hb d o e => by
  obtain ⟨h1, h2, h3, h4⟩ := r.bor b hb
  obtain ⟨e1, e2⟩ := h4 d o e
  obtain ⟨p, o', z1, z2, z3, z4, z5⟩ := r.own b.1 d e1 h2
  rw [h1] at z1
  cases z1
  exact ⟨e2, z4⟩
def afterS (K : PySem.W.Frag) (F0 : Bs) (H0 : Hp) (m' mL : List Bool) (W : WX) (Fb : Hp) (r : S) (E : Ends) : Prop := match r with
  | .nx ρ => ∀ σ F H, Rep K F0 H0 m' ρ σ F H → Same Fb F → E.nx σ H
  | .rt d => ∀ v F H, Ext F0.F H0 F H → BorC F0 F H → Is K F v d → E.rt v H
  | .rn d => ∀ p o F H, Ext F0.F H0 F H → BorC F0 F H → H p = some o → IsC K F o d → F p = none → H0 p = none → (∀ b ∈ F0.bor, b.2.1 ≠ p) → E.rt (.ref p) H
  | .rm d ρ => ∀ v σ F H, Rep K F0 H0 (bmask F0 ρ.length) ρ σ F H → Is K F v d → E.rt v H
  | .bk ρ => ∀ σ F H, Rep K F0 H0 mL ρ σ F H → Same Fb F → E.bk σ H
  | .ct ρ => ∀ σ F H, Rep K F0 H0 mL ρ σ F H → Same Fb F → E.ct σ H
  | .ex x ρ => ∀ cls od σ F H, Rep K F0 H0 (bmask F0 ρ.length) ρ σ F H → Same Fb F → IsX K F x cls od → W cls od σ H
  | .st => False
def tSemS (K : PySem.W.Frag) (F0 : Bs) (H0 : Hp) (m m' mL : List Bool) (W : WX) (s : Rho → S) : TS := fun E σ H => ∃ ρ F, Rep K F0 H0 m ρ σ F H ∧ afterS K F0 H0 m' mL W F (s ρ) E
theorem afterS.mono {K : PySem.W.Frag} {F0 : Bs} {H0 F F2 : Hp} {m' mL : List Bool} {W : WX} {r : S} {E : Ends} (h : afterS K F0 H0 m' mL W F r E) (s : Same F F2) : afterS K F0 H0 m' mL W F2 r E := by
  cases r with
  | nx ρ => exact fun σ F' H' r x => h σ F' H' r (s.trans x)
  | bk ρ => exact fun σ F' H' r x => h σ F' H' r (s.trans x)
  | ct ρ => exact fun σ F' H' r x => h σ F' H' r (s.trans x)
  | ex x ρ => exact fun cls od σ F' H' r x => h cls od σ F' H' r (s.trans x)
  | _ => exact h
abbrev DS (X : Cx) (F0 : Bs) (H0 : Hp) (m m' mL : List Bool) (W : WX) (st : Stmt) (s : Rho → S) : Prop := PS X st (tSemS X.K F0 H0 m m' mL W s)
abbrev DSs (X : Cx) (F0 : Bs) (H0 : Hp) (m m' mL : List Bool) (W : WX) (st : List Stmt) (s : Rho → S) : Prop := PSs X st (tSemS X.K F0 H0 m m' mL W s)
theorem Rep.ext0 {K : PySem.W.Frag} {F0 : Bs} {H0 F H : Hp} {m : List Bool} {ρ : Rho} {σ : L2.St} (r : Rep K F0 H0 m ρ σ F H) : Ext F0.F H0 F H := ⟨r.f0, r.h0, r.fh, r.new⟩
section
variable {X : Cx} {F0 : Bs} {H0 : Hp} {m m' m2 mL : List Bool} {W : WX} {pos : Pos} {e : Expr} {st : Stmt} {sts : List Stmt} {g : Rho → R D} {s u : Rho → S}
def sNil : Rho → S := fun ρ => .nx ρ
def sSeq (s u : Rho → S) : Rho → S := fun ρ => match s ρ with
  | .nx ρ1 => u ρ1
  | r => r
theorem ss_nil : DSs X F0 H0 m m mL W [] sNil := pss_imp pss_nil fun E σ H ⟨ρ, F, r, h⟩ => h σ F H r (.refl F)
theorem ss_one (h : DS X F0 H0 m m' mL W st s) : DSs X F0 H0 m m' mL W [st] s := pss_one h
theorem ss_cons (h1 : DS X F0 H0 m m2 mL W st s) (h2 : DSs X F0 H0 m2 m' mL W sts u) : DSs X F0 H0 m m' mL W (st :: sts) (sSeq s u) := by
  refine pss_imp (pss_cons h1 h2) fun E σ H ⟨ρ, F, r, h⟩ => ⟨ρ, F, r, ?_⟩
  unfold sSeq at h
  cases z : s ρ with
  | nx ρ1 =>
    rw [z] at h
    exact fun σ1 F1 H1 r1 x1 => ⟨ρ1, F1, r1, h.mono x1⟩
  | _ => rw [z] at h; exact h
/-- an expression is read, then the rest -/
theorem semS {K : PySem.W.Frag} {σ : L2.St} {F H : Hp} {ρ : Rho} {k : D → S} {E : Ends} {Φ : VK} (r : Rep K F0 H0 m ρ σ F H)
    (h : afterS K F0 H0 m' mL W F (match g ρ with | .ok d => k d | .ex x => .ex x ρ | .st => .st) E)
    (f : ∀ d v F' H', Is K F' v d → Rep K F0 H0 m ρ σ F' H' → Same F F' → afterS K F0 H0 m' mL W F' (k d) E → Φ v H') : tSem K F0 H0 m W g σ H Φ := by
  refine ⟨ρ, F, r, ?_⟩
  cases z : g ρ with
  | ok d =>
    rw [z] at h
    exact fun v F' H' x i => f d v F' H' i (r.ext x) x.ff (h.mono x.ff)
  | ex x =>
    rw [z] at h
    intro cls od F' H' xe i
    obtain ⟨F2, r2, s2⟩ := (r.ext xe).freeze
    exact h cls od σ F2 H' r2 (xe.ff.trans s2) (Is.monoX i s2)
  | st =>
    rw [z] at h
    exact h.elim
theorem semST {K : PySem.W.Frag} {σ : L2.St} {F H : Hp} {ρ : Rho} {p : Rho → R Bool} {k : Bool → S} {E : Ends} {Φ : Bool → Hp → Prop} (r : Rep K F0 H0 m ρ σ F H)
    (h : afterS K F0 H0 m' mL W F (match p ρ with | .ok d => k d | .ex x => .ex x ρ | .st => .st) E)
    (f : ∀ d F' H', Rep K F0 H0 m ρ σ F' H' → Same F F' → afterS K F0 H0 m' mL W F' (k d) E → Φ d H') : tSemT K F0 H0 m W p σ H Φ := by
  refine ⟨ρ, F, r, ?_⟩
  cases z : p ρ with
  | ok d =>
    rw [z] at h
    exact fun F' H' x => f d F' H' (r.ext x) x.ff (h.mono x.ff)
  | ex x =>
    rw [z] at h
    intro cls od F' H' xe i
    obtain ⟨F2, r2, s2⟩ := (r.ext xe).freeze
    exact h cls od σ F2 H' r2 (xe.ff.trans s2) (Is.monoX i s2)
  | st =>
    rw [z] at h
    exact h.elim
def sE (g : Rho → R D) (k : Rho → D → S) : Rho → S := fun ρ => match g ρ with
  | .ok d => k ρ d
  | .ex x => .ex x ρ
  | .st => .st
def sDrop (g : Rho → R D) : Rho → S := sE g fun ρ _ => .nx ρ
def sRet (g : Rho → R D) : Rho → S := sE g fun _ d => .rt d
theorem s_ret (he : DE X F0 H0 m W e g) : DS X F0 H0 m m' mL W (.Return (some e) pos) (sRet g) :=
  ps_imp (ps_ret he) fun E σ H ⟨ρ, F, r, h⟩ => semS (k := fun d => .rt d) r h fun d v F1 H1 i1 r1 _ h1 => h1 v F1 H1 r1.ext0 r1.borC i1
def sRetN (g : Rho → R D) : Rho → S := sE g fun _ d => .rn d
/-- x = e -/
def sSet (i : Nat) (g : Rho → R D) : Rho → S := sE g fun ρ d => .nx (ρ.set i (some d))
theorem s_set (i : Nat) {x : Str} {p2 : Pos} (hN : X.N.Nodup) (he : DE X F0 H0 m W e g) (hi : X.N[i]? = some x := by rfl) (hx : Loc X.env.scope x := by exact Or.inl rfl) (hb : F0.ok i := by exact Bs.ok_of rfl) (hs : swapsWith e (some (.Name x p2)) pos.line X.env = pure false := by rfl) (hf : X.fn x = true ∨ X.env.scope.names.lookup x = some .local := by first | exact .inl rfl | exact .inr rfl | assumption) :
    DS X F0 H0 m (m.set i false) mL W (.Assign [.Name x p2] e pos) (sSet i g) :=
  ps_imp (ps_set hN hi hx he hs hf) fun E σ H ⟨ρ, F, r, h⟩ => semS (k := fun d => .nx (ρ.set i (some d))) r h fun d v F1 H1 i1 r1 _ h1 => h1 _ F1 H1 (r1.set i hb i1) (.refl F1)
/-- one slot's object is shared from now on -/
theorem Rep.share {K : PySem.W.Frag} {ρ : Rho} {σ : L2.St} {F H : Hp} (r : Rep K F0 H0 m ρ σ F H) (i : Nat) (hi : F0.ok i) : ∃ F', Rep K F0 H0 (m.set i false) ρ σ F' H ∧ Same F F' := by
  have hbor : ∀ b ∈ F0.bor, σ[b.1]? = some (some (.ref b.2.1)) ∧ (m.set i false)[b.1]? = some true ∧ (∃ d, ρ[b.1]? = some (some d)) ∧ ∀ d o, b.2.2 = some (d, o) → ρ[b.1]? = some (some d) ∧ H b.2.1 = some o := fun b hb => by
    obtain ⟨h1, h2, h3, h4⟩ := r.bor b hb
    rw [mset' (hi b hb)]
    exact ⟨h1, h2, h3, h4⟩
  by_cases hm : m[i]? = some true
  · by_cases hd : ∃ d, ρ[i]? = some (some d)
    · obtain ⟨d, hd⟩ := hd
      obtain ⟨p, o, e1, e2, e3, e4, e5⟩ := r.own i d hd hm
      have sF : Same F (upd F p o) := same_upd e4
      refine ⟨upd F p o, ⟨r.len, fun b u e => ?_, r.f0.trans sF, r.h0, fun b h f => ?_, fun j d' a b => ?_, fun j d' a b => ?_, fun j k q d1 e1' hjk a b c c' q' => ?_, hbor⟩, sF⟩
      · by_cases q : b = p
        · subst q; rw [upd_same] at e; rw [e2]; exact e
        · rw [upd_ne q] at e; exact r.fh b u e
      · have q : b ≠ p := fun z => h (z ▸ e5)
        rw [upd_ne q]; exact r.new b h f
      · by_cases hj : j = i
        · subst hj
          rw [hd] at a
          cases a
          exact ⟨.ref p, e1, is_of_c upd_same (e3.mono sF)⟩
        · obtain ⟨v, z1, z2⟩ := r.val j d' a (by rw [mset' hj] at b; exact b)
          exact ⟨v, z1, z2.mono sF⟩
      · obtain ⟨hj, b⟩ := mset b
        obtain ⟨p', o', z1, z2, z3, z4, z5⟩ := r.own j d' a b
        have q : p' ≠ p := fun w => r.apart j i p d' d hj b hm a hd (w ▸ z1) e1
        exact ⟨p', o', z1, z2, z3.mono sF, by rw [upd_ne q]; exact z4, z5⟩
      · obtain ⟨hj, a⟩ := mset a
        obtain ⟨hk, b⟩ := mset b
        exact r.apart j k q d1 e1' hjk a b c c' q'
    · refine ⟨F, ⟨r.len, r.fh, r.f0, r.h0, r.new, fun j d' a b => ?_, fun j d' a b => ?_, fun j k q d1 e1' hjk a b c c' q' => ?_, hbor⟩, .refl F⟩
      · have hj : j ≠ i := fun z => hd ⟨d', z ▸ a⟩
        exact r.val j d' a (by rw [mset' hj] at b; exact b)
      · obtain ⟨hj, b⟩ := mset b
        exact r.own j d' a b
      · obtain ⟨hj, a⟩ := mset a
        obtain ⟨hk, b⟩ := mset b
        exact r.apart j k q d1 e1' hjk a b c c' q'
  · refine ⟨F, ⟨r.len, r.fh, r.f0, r.h0, r.new, fun j d' a b => ?_, fun j d' a b => ?_, fun j k q d1 e1' hjk a b c c' q' => ?_, hbor⟩, .refl F⟩
    · refine r.val j d' a fun z => ?_
      by_cases hj : j = i
      · subst hj; exact hm z
      · rw [mset' hj] at b; exact b z
    · obtain ⟨hj, b⟩ := mset b
      exact r.own j d' a b
    · obtain ⟨hj, a⟩ := mset a
      obtain ⟨hk, b⟩ := mset b
      exact r.apart j k q d1 e1' hjk a b c c' q'
def sIf (p : Rho → R Bool) (s u : Rho → S) : Rho → S := fun ρ => match p ρ with
  | .ok b => if b = true then s ρ else u ρ
  | .ex x => .ex x ρ
  | .st => .st
theorem s_if {c : Expr} {a b : List Stmt} {p : Rho → R Bool} (hc : DT X F0 H0 m W c p) (ha : DSs X F0 H0 m m' mL W a s) (hb : DSs X F0 H0 m m' mL W b u) : DS X F0 H0 m m' mL W (.If c a b pos) (sIf p s u) := by
  refine ps_imp (ps_if hc ha hb) fun E σ H ⟨ρ, F, r, h⟩ => semST (k := fun b => if b = true then s ρ else u ρ) r h fun b F1 H1 r1 _ h1 => ?_
  cases b with
  | true => exact iteT ⟨ρ, F1, r1, h1⟩
  | false => exact iteF ⟨ρ, F1, r1, h1⟩
def forL (τ : D → Rho → R Rho) (b : Rho → S) : List D → Rho → S
  | [], ρ => .nx ρ
  | d :: ds, ρ => match τ d ρ with
    | .ok ρ1 => match b ρ1 with
      | .nx ρ2 => forL τ b ds ρ2
      | .ct ρ2 => forL τ b ds ρ2
      | .bk ρ2 => .nx ρ2
      | r => r
    | _ => .st
def sFor (gi : Rho → R (List D)) (τ : D → Rho → R Rho) (b : Rho → S) : Rho → S := fun ρ => match gi ρ with
  | .ok items => forL τ b items ρ
  | .ex x => .ex x ρ
  | .st => .st
theorem s_for {tg iter : Expr} {body : List Stmt} {gi : Rho → R (List D)} {τ : D → Rho → R Rho} {b : Rho → S} {m1 : List Bool} {is : List Nat} (hp : PassesOwn (model X.prog X.w) X.A X.env X.xe) (hc : X.calm = true) (hi : DI X F0 H0 m W tg iter gi) (hg : DG X F0 H0 m m1 is tg τ) (hb : DSs X F0 H0 m1 m m W body b)
    (hs : ∀ x, foldedSetIterable iter X.env x = pure x := by intro _; rfl) : DS X F0 H0 m m mL W (.For tg iter body [] pos) (sFor gi τ b) := by
  refine ps_imp (ps_for hp hc hi hg hb hs) fun E σ H ⟨ρ, F, r, h⟩ => ⟨ρ, F, r, ?_⟩
  unfold sFor at h
  cases z : gi ρ with
  | ex x =>
    rw [z] at h
    intro cls od F' H' xe i
    obtain ⟨F2, r2, s2⟩ := (r.ext xe).freeze
    exact h cls od σ F2 H' r2 (xe.ff.trans s2) (Is.monoX i s2)
  | st => rw [z] at h; exact h.elim
  | ok items =>
    rw [z] at h
    intro J F1 H1 x1 y1
    refine ⟨fun i mm σ H => ∃ ρ F, Rep X.K F0 H0 m ρ σ F H ∧ Same F1 F ∧ i ≤ items.length ∧ mm = items.length - i ∧ afterS X.K F0 H0 m mL W F (forL τ b (items.drop i) ρ) E, ⟨items.length, ρ, F1, r.ext x1, .refl _, Nat.zero_le _, rfl, h.mono x1.ff⟩, ?_⟩
    rintro i mm σ2 H2 ⟨ρ2, F2, r2, x2, hi, rfl, h2⟩
    have yc := y1 i F2 H2 x2 r2.fh
    by_cases hlt : i < items.length
    · obtain ⟨go, yld⟩ := yc.1 hlt
      refine .inr ⟨go, fun σ3 H3 => ∃ ρ3 F3, Rep X.K F0 H0 m ρ3 σ3 F3 H3 ∧ Same F1 F3 ∧ afterS X.K F0 H0 m mL W F3 (forL τ b (items.drop (i + 1)) ρ3) E, fun σ3 H3 ⟨ρ3, F3, q1, q2, q3⟩ => ⟨items.length - (i + 1), by omega, ρ3, F3, q1, q2, hlt, rfl, q3⟩, fun x Hy y => ?_⟩
      obtain ⟨F3, d, hd, xe, ix⟩ := yld x Hy y
      have ed : items.drop i = d :: items.drop (i + 1) := by
        rw [List.drop_eq_getElem_cons hlt]
        rw [List.getElem?_eq_getElem hlt] at hd
        rw [Option.some.inj hd]
      rw [ed] at h2
      refine ⟨ρ2, F3, d, r2.ext xe, ix, ?_⟩
      have h3 : afterS X.K F0 H0 m mL W F3 (match τ d ρ2 with
        | .ok ρ1 => match b ρ1 with
          | .nx ρ2 => forL τ b (items.drop (i + 1)) ρ2
          | .ct ρ2 => forL τ b (items.drop (i + 1)) ρ2
          | .bk ρ2 => .nx ρ2
          | r => r
        | _ => .st) E := h2.mono xe.ff
      cases z1 : τ d ρ2 with
      | ex x => rw [z1] at h3; exact h3.elim
      | st => rw [z1] at h3; exact h3.elim
      | ok ρ4 =>
        rw [z1] at h3
        intro σ4 r4 _ _
        refine ⟨ρ4, F3, r4, ?_⟩
        have h4 : afterS X.K F0 H0 m mL W F3 (match b ρ4 with
          | .nx ρ2 => forL τ b (items.drop (i + 1)) ρ2
          | .ct ρ2 => forL τ b (items.drop (i + 1)) ρ2
          | .bk ρ2 => .nx ρ2
          | r => r) E := h3
        cases z2 : b ρ4 with
        | nx ρ5 =>
          rw [z2] at h4
          exact fun σ5 F5 H5 r5 x5 => ⟨ρ5, F5, r5, (x2.trans xe.ff).trans x5, h4.mono x5⟩
        | ct ρ5 =>
          rw [z2] at h4
          exact fun σ5 F5 H5 r5 x5 => ⟨ρ5, F5, r5, (x2.trans xe.ff).trans x5, h4.mono x5⟩
        | bk ρ5 =>
          rw [z2] at h4
          exact h4
        | rt d => rw [z2] at h4; exact h4
        | rn d => rw [z2] at h4; exact h4
        | rm d ρ5 => rw [z2] at h4; exact h4
        | ex x ρ5 => rw [z2] at h4; exact h4
        | st => rw [z2] at h4; exact h4
    · have ei : i = items.length := by omega
      subst ei
      rw [List.drop_length] at h2
      exact .inl ⟨yc.2 (Nat.le_refl _), h2 σ2 F2 H2 r2 (.refl F2)⟩
def sAsg (g : Rho → R D) (τ : D → Rho → R Rho) : Rho → S := sE g fun ρ d => match τ d ρ with
  | .ok ρ' => .nx ρ'
  | _ => .st
end
def startR (n : Nat) (ds : List D) : Rho := ds.map some ++ List.replicate (n - ds.length) none
def endS : S → R D
  | .rt d => .ok d
  | .rn d => .ok d
  | .nx _ => .ok .non
  | .ex x _ => .ex x
  | _ => .st
def endN : S → R D
  | .rn d => .ok d
  | .ex x _ => .ex x
  | _ => .st
/-- the def with n names, np of them parameters -/
def runS (n np : Nat) (s : Rho → S) (ds : List D) : R D := if ds.length = np then endS (s (startR n ds)) else .st
theorem rep_start {K : PySem.W.Frag} {F H : Hp} {N : List Str} {ds : List D} {vs : List V} {m : List Bool} (l : IsL K F vs ds) (s : Same F H) (hm : m.all (!·) = true) : Rep K ⟨F, []⟩ H m (startR N.length ds) (L2.start N vs) F H := by
  have nm : ∀ i : Nat, m[i]? ≠ some true := fun i z => by
    have := List.all_eq_true.mp hm true (List.mem_of_getElem? z)
    cases this
  refine ⟨?_, s, .refl _, .refl _, fun p h f => f, fun i d a _ => ?_, fun i d _ b => absurd b (nm i), fun i j p d e _ a => absurd a (nm i), fun b hb => nomatch hb⟩
  · unfold startR L2.start
    rw [List.length_append, List.length_append, List.length_map, List.length_map, List.length_replicate, List.length_replicate, l.1]
  · unfold startR at a
    by_cases hi : i < ds.length
    · rw [List.getElem?_append_left (by simpa using hi), List.getElem?_map] at a
      cases e : ds[i]? with
      | none => rw [e] at a; cases a
      | some d' =>
        rw [e] at a
        cases a
        obtain ⟨v, e2, i2⟩ := l.at e
        refine ⟨v, ?_, i2⟩
        unfold L2.start
        rw [List.getElem?_append_left (by rw [List.length_map, l.1]; exact hi), List.getElem?_map, e2]
        rfl
    · rw [List.getElem?_append_right (by simpa using hi), List.getElem?_replicate] at a
      split at a <;> cases a
section
variable {P : Program} {w : World} {K : PySem.W.Frag} {mg : Str → Option Value} {base : Heap} {x qual : Str} {params : Arguments} {body : List Stmt} {scope : Scope} {dvs : List V} {kws : List (Str × V)} {f : Addr} {fd : FuncData}
theorem fn_d {N ps : List Str} {k : Nat} {m m' : List Bool} {s : Rho → S} (n : Nat) (Fn : FunD K x qual params body scope dvs kws f fd) (Sc : FnScope N ps scope) (hn : N.length = n) (hm : m.all (!·) = true)
    (hb : ∀ (cdv : Value) (A : Around) (outer : List Env) (st : Shared) (H : Hp) (E : XK) (Fb : Hp), Room k (A.deeper (envOfC qual scope st.heap.objs.size f cdv)) →
      DSs (cxOf (L2.CX P w) P w K mg base N qual scope f cdv A outer st H E) ⟨Fb, []⟩ H m m' [] (fun cls d _ H => E cls d H) body s) : FnOk P w K mg base (L2.CX P w) (k + 1) f fd ps (spD K (runS n ps.length s)) := by
  subst hn
  refine Fn.ok Sc (fun vs H Q E h => ?_) fun cdv A outer st H vs Q E hr h => ?_
  · obtain ⟨ds, F, l, _, h⟩ := h
    unfold runS at h
    by_cases hd : ds.length = ps.length
    · rw [l.1]; exact hd
    · rw [if_neg hd] at h
      exact h.elim
  · obtain ⟨ds, F, l, sm, h⟩ := h
    refine ⟨_, hb cdv A outer st H E F hr, startR N.length ds, F, rep_start l sm hm, ?_⟩
    unfold runS at h
    by_cases hd : ds.length = ps.length
    · rw [if_pos hd] at h
      cases z : s (startR N.length ds) with
      | nx ρ => rw [z] at h; exact fun σ' F' H' r' _ => h .non F' H' r'.ext0 .non
      | rt d => rw [z] at h; exact fun v F' H' x _ i => h v F' H' x i
      | rm d ρ => rw [z] at h; exact h.elim
      | rn d => rw [z] at h; exact fun p o F' H' x _ e c fn n _ => h (.ref p) (upd F' p o) H' (x.share e fn n) (is_of_c upd_same (c.mono (same_upd fn)))
      | bk ρ => rw [z] at h; exact h.elim
      | ct ρ => rw [z] at h; exact h.elim
      | ex x ρ => rw [z] at h; exact fun cls od σ' F' H' r' _ i => h cls od F' H' r'.ext0 i
      | st => rw [z] at h; exact h.elim
    · rw [if_neg hd] at h
      exact h.elim
/-- a def that hands back its own may be taken as one that hands back what is shared -/
theorem FnOk.ofN {k : Nat} {ps : List Str} {G : List D → R D} (h : FnOk P w K mg base (L2.CX P w) k f fd ps (spN K G)) : FnOk P w K mg base (L2.CX P w) k f fd ps (spD K G) := h.imp fun vs H Q E => spN_of
end
/-- the law's own promise -/
theorem law_sp {K : PySem.W.Frag} {G : List D → R D} {H : Hp} {a : Addr} {ns : List Int} (h : SqL K H a (ns.map V.int)) (hG : G [.list (ns.map D.int)] = .ok (.bl true)) : spD K G [.ref a] H (fun v _ => v = .bl true) fun _ _ _ => False := by
  refine ⟨[.list (ns.map D.int)], H, .cons (is_list h ⟨by rw [List.length_map, List.length_map], fun i x d a b => ?_⟩) .nil, .refl H, ?_⟩
  · rw [List.getElem?_map] at a b
    cases e : ns[i]? with
    | none => rw [e] at a; cases a
    | some z =>
      rw [e] at a b
      cases a
      cases b
      exact .int z
  · rw [hG]
    intro v F' H' x i
    cases i
    rfl
end Pd
namespace Pd
open PySem PySem.Spec PyProof.Rows L2
/-- the module's def x does G (shared results); CalN: hands back an object of its own -/
structure CalF (P : Program) (w : World) (K : PySem.W.Frag) (mg : Str → Option Value) (base : Heap) (k : Nat) (x : Str) (ps : List Str) (G : List D → R D) : Prop where
  ex : ∃ f fd, FnOk P w K mg base (L2.CX P w) k f fd ps (spD K G) ∧ mg x = some (.ref f) ∧ PySem.W.keepIn K (.ref f) = true ∧ Binds K fd ps []
section
variable {X : Cx} {F0 : Bs} {H0 : Hp} {m m' mL : List Bool} {W : WX} {pos : Pos} {e : Expr} {es : List Expr} {g : Rho → R D} {t : Rho → R (List D)} {k j : Nat} {x : Str} {ps : List Str} {G : List D → R D} {p : Pos}
theorem d_c (C : CalF X.prog X.w X.K X.mg X.base k x ps G) (hr : Room j X.A) (hj : k ≤ j) (tk : Takes X W) (ha : DA X F0 H0 m W (e :: es) t) (hg : Gl X x := by rfl)
    (hdb : (x == ("__debug__" : Str)) = false := by decide) (he : starEach (e :: es) X.env = (false, eval e X.env) :: starEach es X.env := by rfl) (hpl : (backTo pos (starEach es X.env)).any (·.1) = false := by rfl) : DE X F0 H0 m W (.Call (.Name x p) (e :: es) [] pos) (gA G t) := by
  obtain ⟨f, fd, a, b, c, d⟩ := C.ex
  exact d_call a (hr.mono hj) b c d tk ha hg hdb he hpl
/-- f() -/
def gC0 (G : List D → R D) : Rho → R D := fun _ => noX (G [])
theorem d_c0 (C : CalF X.prog X.w X.K X.mg X.base k x ps G) (hr : Room j X.A) (hj : k ≤ j) (hg : Gl X x := by rfl) (hdb : (x == ("__debug__" : Str)) = false := by decide) : DE X F0 H0 m W (.Call (.Name x p) [] [] pos) (gC0 G) := by
  obtain ⟨f, fd, a, b, c, d⟩ := C.ex
  refine pe_imp (pe_call0 a (hr.mono hj) hg b c d .nil passL hdb) fun σ H Q ⟨ρ, F, r, h⟩ => ⟨[], F, .nil, r.fh, ?_⟩
  unfold gC0 at h
  cases z : G [] with
  | ok d => rw [z] at h; exact h
  | ex x => rw [z] at h; exact h.elim
  | st => rw [z] at h; exact h.elim
theorem tN_of {K : PySem.W.Frag} {σ : L2.St} {H : Hp} {Q : VK} (h : tSem K F0 H0 m W g σ H Q) : tSemN K F0 H0 m W g σ H Q := by
  obtain ⟨ρ, F, r, h⟩ := h
  exact ⟨ρ, F, r, afterN_of h⟩
section
variable {elt tg iter : Expr} {ifs : List Expr} {gi : Rho → R (List D)} {τ : D → Rho → R Rho} {q : Rho → R Bool} {ge : Rho → R D} {m2 : List Bool}
theorem s_setLc (i : Nat) {y : Str} {py : Pos} {scope : Scope} {own : List (Str × Nat)} {is : List Nat} {spos : Pos} (hc : X.calm = true) (hN : X.N.Nodup) (hi : DI X F0 H0 m W tg iter gi) (ok : blkC X.N X.env.scope scope own = true)
    (hg : ∀ (s : Shared) (H : Hp) (C : Addr) (cl : List (Str × Addr)) (fp : List Addr), DG (X.blk s H scope (compEnvC scope cl C X.env) fp) F0 H0 m m2 is tg τ)
    (ht : ∀ (s : Shared) (H : Hp) (C : Addr) (cl : List (Str × Addr)) (fp : List Addr), DTs (X.blk s H scope (compEnvC scope cl C X.env) fp) F0 H0 m2 W0 ifs q)
    (he : ∀ (s : Shared) (H : Hp) (C : Addr) (cl : List (Str × Addr)) (fp : List Addr), DE (X.blk s H scope (compEnvC scope cl C X.env) fp) F0 H0 m2 W0 elt ge) (hv : ∀ i ∈ is, i ∈ own.map (·.2)) (hb : F0.ok i := by exact Bs.ok_of rfl) (hw : ((own.map (·.2)).all fun i => F0.bor.all fun b => !(b.1 == i)) = true := by rfl) (hy : X.N[i]? = some y := by rfl) (hyl : X.env.scope.names.lookup y = some .local := by rfl)
    (hsw : swapsWith (.ListComp elt [⟨tg, iter, ifs, 0⟩] scope pos) (some (.Name y py)) spos.line X.env = pure true := by exact sw_true rfl rfl rfl (by decide +kernel)) (hs : ∀ x, foldedSetIterable iter X.env x = pure x := by intro _; rfl) :
    DS X F0 H0 m (m.set i false) mL W (.Assign [.Name y py] (.ListComp elt [⟨tg, iter, ifs, 0⟩] scope pos) spos) (sSet i (gLc gi (own.map (·.2)) τ q ge)) :=
  ps_imp (ps_setLc hc hN hy hyl hsw hi (blkOk_by ok) hg ht he hs) fun E σ H ⟨ρ, F, r, h⟩ => lc_sem (ok_all hw) hv σ H _ (tN_of (semS (k := fun d => .nx (ρ.set i (some d))) r h fun d v F1 H1 i1 r1 _ h1 => h1 _ F1 H1 (r1.set i hb i1) (.refl F1)))
end
end
def iaddD : D → D → R D
  | .int i, .int j => .ok (.int (i + j))
  | .str a, .str b => if a.length + b.length ≤ sizeLine then .ok (.str (a ++ b)) else .st
  | _, _ => .st
theorem hu65 {A : Around} {k : Nat} (hr : Room k A) : A.units + 65 < cLine := by
  have := hr.un
  omega
theorem _root_.L2.Room.u65 {A : Around} {k : Nat} (hr : Room k A) : A.units + 65 < cLine := hu65 hr
theorem walk_d {l : PySem.W.OpenLaw} {n k : Nat} {q : Program} {loose : List Str} {XP : (Str → Option Value) → Heap → Prop} {YP : World → Heap → Prop} {d : DefRec} {x : Str} {G : List D → R D}
    (hn : l.most = some n) (hz : n ≤ sizeLine) (hdf : d.params.defaults = []) (hr : Room k callerA) (hG : ∀ ns : List Int, ns.length ≤ n → G [.list (ns.map D.int)] = .ok (.bl true))
    (hF : ∀ (w : World) (mg : Str → Option Value) (fa : Addr) (h : Heap), YP w h → h.Ns mainGlobals mg → mg d.name = some (.ref fa) →
      ∃ (K : PySem.W.Frag) (fd : FuncData), K.In h ∧ (∀ (s : Shared) (u : Value), BindsTo s fd ⟨[u], []⟩ [(x, u)]) ∧ ∀ base : Heap, K.In base → base.Ns mainGlobals mg → FnOk l.prog w K mg base (L2.CX l.prog w) k fa fd [x] (spD K G)) :
    PySem.W.WalkO q loose XP YP l.row.toRowW d [] (fun f vs => PySem.call f vs) := by
  refine Att.attach_call hn hdf ?_
  intro w s₀ s₁ mg mb fa o pm cd doc a vs ns Gr Y h1 h2 h3 hm ho hi hl hg
  obtain ⟨K, fd, KX, hb, ok⟩ := hF w mg fa _ Y Gr.T.g hm
  refine law_call (CX := L2.CX l.prog w) KX Gr.T.g Gr.T.b Gr.T.builtins Gr.T.nolimit hg ho hi (Nat.le_trans hl hz) hr ok hb (fun H _ hS => law_sp hS (hG ns hl)) fun H e s' z => ?_
  obtain ⟨_, _, _, _, _, _, _, _, _, _, _, _, z⟩ := z
  exact z.elim
end Pd
namespace Pd
open PySem PySem.Spec PyProof.Rows L2
section
variable {X : Cx} {F0 : Bs} {H0 : Hp} {m m' mL : List Bool} {W : WX} {pos : Pos} {e o : Expr} {es : List Expr} {g go : Rho → R D} {t : Rho → R (List D)} {k j : Nat} {x : Str} {ps : List Str} {G : List D → R D} {p : Pos}
theorem isK_lookup {K : PySem.W.Frag} {F : Hp} {f : Str} : ∀ {xs : List (Str × V)} {ds : List (Str × D)}, IsK K F xs ds → (∀ d, ds.lookup f = some d → ∃ v, xs.lookup f = some v ∧ Is K F v d) ∧ (ds.lookup f = none → xs.lookup f = none)
  | [], [], _ => ⟨fun d h => by simp at h, fun _ => rfl⟩
  | [], _ :: _, h => by have := h.1; simp at this
  | _ :: _, [], h => by have := h.1; simp at this
  | (a, v) :: xs, (b, d) :: ds, h => by
    obtain ⟨l, e1, e2⟩ := h
    have hk : a = b := e1 0 (a, v) (b, d) rfl rfl
    have hv : Is K F v d := e2 0 (a, v) (b, d) rfl rfl
    have tl : IsK K F xs ds := ⟨by simpa using l, fun i y z q w => e1 (i + 1) y z (by simpa using q) (by simpa using w), fun i y z q w => e2 (i + 1) y z (by simpa using q) (by simpa using w)⟩
    subst hk
    obtain ⟨i1, i2⟩ := isK_lookup (f := f) tl
    by_cases hf : f = a
    · subst hf
      refine ⟨fun z hz => ?_, fun hz => ?_⟩
      · rw [List.lookup_cons_self] at hz ⊢
        cases hz
        exact ⟨v, rfl, hv⟩
      · rw [List.lookup_cons_self] at hz
        cases hz
    · have hb : (f == a) = false := beq_eq_false_iff_ne.mpr hf
      refine ⟨fun z hz => ?_, fun hz => ?_⟩
      · simp only [List.lookup, hb] at hz ⊢
        exact i1 z hz
      · simp only [List.lookup, hb] at hz ⊢
        exact i2 hz
theorem lookup_mem {α : Type} {c : Str} {G : α} : ∀ {l : List (Str × α)}, l.lookup c = some G → (c, G) ∈ l
  | (a, b) :: r, h => by
    by_cases hc : c = a
    · subst hc
      rw [List.lookup_cons_self] at h
      cases h
      simp
    · have hb : (c == a) = false := beq_eq_false_iff_ne.mpr hc
      simp only [List.lookup, hb] at h
      exact List.mem_cons_of_mem _ (lookup_mem h)
theorem fm {α : Type} {p : α → Prop} {a : α} {l : List α} (h : p a) (t : ∀ x ∈ l, p x) : ∀ x ∈ a :: l, p x := List.forall_mem_cons.mpr ⟨h, t⟩
theorem fn0 {α : Type} {p : α → Prop} : ∀ x ∈ ([] : List α), p x := fun _ h => (nomatch h)
/-- what a class of exceptions without an __init__ of its own must have -/
structure ExcK (K : PySem.W.Frag) (mg : Str → Option Value) (x : Str) : Prop where
  q : PySem.W.excIn K (He.ga K x) He.veBase "ValueError.__new__" = true
  kC : PySem.W.keepIn K (.ref (He.ga K x)) = true
  sb : PySem.W.subIn K (.ref (He.ga K x)) (.type "BaseException") = some true
  ty : PySem.W.typeIn K (.ref (He.ga K x)) = some (.type "type")
  gC : mg x = some (.ref (He.ga K x))
abbrev ExcF (X : Cx) (x : Str) : Prop := ExcK X.K X.mg x
end
end Pd
namespace Pd
open PySem PySem.Spec PyProof.Rows L2
section
variable {X : Cx} {K : PySem.W.Frag} {F0 : Bs} {H0 : Hp} {m m' mL : List Bool} {W : WX} {pos : Pos} {a b c e o : Expr} {es : List Expr} {g gi : Rho → R D} {t : Rho → R (List D)}
theorem IsL.set {F : Hp} {xs : List V} {ds : List D} {v : V} {d : D} (l : IsL K F xs ds) (h : Is K F v d) (j : Nat) : IsL K F (xs.set j v) (ds.set j d) := by
  refine ⟨by rw [List.length_set, List.length_set]; exact l.1, fun i x e a b => ?_⟩
  rcases getElem?_set_cases a with ⟨rfl, z, hl⟩ | ⟨hj, z⟩
  · rw [List.getElem?_set_self (by rw [← l.1]; exact hl)] at b
    cases b
    subst z
    exact h
  · rw [List.getElem?_set_ne (Ne.symm hj)] at b
    exact l.2 i x e z b
def catD : D → D → R D
  | .list a, .list b => if a.length + b.length ≤ sizeLine then .ok (.list (a ++ b)) else .st
  | _, _ => .st
end
end Pd
namespace Pd
open PySem PySem.Spec PyProof.Rows L2
noncomputable def pick (f : Addr → S) : S := open Classical in if ∀ a, f a = f 0 then f 0 else .st
section
variable {X : Cx} {F0 : Bs} {H0 : Hp} {m m' mL : List Bool} {W : WX} {pos : Pos} {x : Str}
/-- a class as the text names it: an own one, or a built-in type -/
inductive CN where
  | own (c : Str) | ty (n : String)
def CN.u (K : PySem.W.Frag) : CN → Value
  | .own c => .ref (He.ga K c)
  | .ty n => .type n
def CN.v (K : PySem.W.Frag) : CN → V
  | .own c => .ref (He.ga K c)
  | .ty n => .ty n
theorem CN.rel {K : PySem.W.Frag} (c : CN) {u : Value} (r : RelV (c.v K) u) : u = c.u K := by
  cases c with
  | own c => exact r
  | ty n => exact r
end
theorem excB_ok {K : PySem.W.Frag} {D : Addr} (h : excB K D = true) : ExcC K D := by
  obtain ⟨a, h⟩ := He.ba h
  obtain ⟨b, h⟩ := He.ba h
  obtain ⟨c, h⟩ := He.ba h
  obtain ⟨d, h⟩ := He.ba h
  obtain ⟨e, h⟩ := He.ba h
  obtain ⟨f, h⟩ := He.ba h
  obtain ⟨g, i⟩ := He.ba h
  exact ⟨He.eqO_ok a, He.eqO_ok b, of_decide_eq_true c, d, He.eqO_ok e, He.eqO_ok f, of_decide_eq_true g, of_decide_eq_true i⟩
end Pd
namespace PySem.SeqAt
open PySem PySem.F
end PySem.SeqAt
namespace Pd
open PySem PySem.Spec PyProof.Rows L2
section
variable {X : Cx} {K : PySem.W.Frag}
def isDS : D → D → Bool
  | .dict _ _, .str _ => true
  | .str _, .dict _ _ => true
  | _, _ => false
def isDS' : D → D → Bool
  | .dict _ _, .str _ => true
  | _, _ => false
def isT0 : D → D → Option Bool
  | .tup ds, .tup [] => some ds.isEmpty
  | _, _ => none
def eqXD (d e : D) : R D := match isT0 d e with
  | some b => .ok (.bl b)
  | none => if isDS d e = true then .ok (.bl false) else eqD d e
def neXD (d e : D) : R D := match isT0 d e with
  | some b => .ok (.bl (!b))
  | none => if isDS' d e = true then .ok (.bl true) else neD d e
end
end Pd
namespace Pd
open PySem PySem.Spec PyProof.Rows L2
mutual
def D.sub (A : List Addr) : D → D
  | .non => .non
  | .bl b => .bl b
  | .int i => .int i
  | .str s => .str s
  | .list xs => .list (D.subAll A xs)
  | .tup xs => .tup (D.subAll A xs)
  | .dict lk kvs => .dict lk (D.subK A kvs)
  | .dictT kvs => .dictT (D.subT A kvs)
  | .obj c fs => .obj c (D.subF A fs)
  | .loc k => match A[k]? with
    | some a => .adr a
    | none => .loc k
  | .tpx xs => .tpx (D.subAll A xs)
  | .exc c fs => .exc c fs
  | .adr a => .adr a
def D.subAll (A : List Addr) : List D → List D
  | [] => []
  | d :: ds => D.sub A d :: D.subAll A ds
def D.subK (A : List Addr) : List (Key × D) → List (Key × D)
  | [] => []
  | (k, d) :: ds => (k, D.sub A d) :: D.subK A ds
def D.subT (A : List Addr) : List (List Key × D) → List (List Key × D)
  | [] => []
  | (k, d) :: ds => (k, D.sub A d) :: D.subT A ds
def D.subF (A : List Addr) : List (Str × D) → List (Str × D)
  | [] => []
  | (k, d) :: ds => (k, D.sub A d) :: D.subF A ds
end
section
variable {K : PySem.W.Frag} {F F' : Hp} {κ : Type}
theorem IsK.nil : IsK (κ := κ) K F [] [] := ⟨rfl, fun i x d a _ => by simp at a, fun i x d a _ => by simp at a⟩
theorem IsK.cons {k : κ} {x : V} {d : D} {xs : List (κ × V)} {ds : List (κ × D)} (h : Is K F x d) (t : IsK K F xs ds) : IsK K F ((k, x) :: xs) ((k, d) :: ds) := by
  refine ⟨by simp [t.1], fun i y e a b => ?_, fun i y e a b => ?_⟩
  · cases i with
    | zero => simp at a b; subst a; subst b; rfl
    | succ i => exact t.2.1 i y e (by simpa using a) (by simpa using b)
  · cases i with
    | zero => simp at a b; subst a; subst b; exact h
    | succ i => exact t.2.2 i y e (by simpa using a) (by simpa using b)
theorem IsK.uncons {k : κ} {d : D} {xs : List (κ × V)} {ds : List (κ × D)} (h : IsK K F xs ((k, d) :: ds)) : ∃ x xr, xs = (k, x) :: xr ∧ Is K F x d ∧ IsK K F xr ds := by
  obtain ⟨l, e1, e2⟩ := h
  cases xs with
  | nil => simp at l
  | cons y xr =>
    obtain ⟨k', x⟩ := y
    obtain rfl : k' = k := e1 0 (k', x) (k, d) rfl rfl
    exact ⟨x, xr, rfl, e2 0 _ (k', d) rfl rfl, by simpa using l, fun i y z a b => e1 (i + 1) y z (by simpa using a) (by simpa using b), fun i y z a b => e2 (i + 1) y z (by simpa using a) (by simpa using b)⟩
theorem IsK.unnil {xs : List (κ × V)} (h : IsK (κ := κ) K F xs []) : xs = [] := by
  have l := h.1
  cases xs with
  | nil => rfl
  | cons _ _ => simp at l
end
mutual
theorem is_sub {K : PySem.W.Frag} {F : Hp} {A t : List Addr} : ∀ (d : D) (v : V), Is K F v (d.sub A) → Is K F v (d.sub (A ++ t))
  | .non, _, h => h
  | .bl _, _, h => h
  | .int _, _, h => h
  | .str _, _, h => h
  | .tpx xs, v, h => by
    obtain ⟨a, ys, rfl, hs, l⟩ := (show Is K F v (.tpx (D.subAll A xs)) from h).tpx_inv
    have l2 := isL_sub (t := t) xs ys l
    exact .tpx hs l2.1 l2.2
  | .exc _ _, _, h => h
  | .adr _, _, h => h
  | .list xs, v, h => by
    obtain ⟨a, ys, rfl, hs, l⟩ := (show Is K F v (.list (D.subAll A xs)) from h).list_inv
    exact is_list hs (isL_sub xs ys l)
  | .tup xs, v, h => by
    obtain ⟨a, ys, rfl, hs, l⟩ := (show Is K F v (.tup (D.subAll A xs)) from h).tup_inv0
    exact is_tup hs (isL_sub xs ys l)
  | .dict lk xs, v, h => by
    obtain ⟨a, ys, rfl, hs, l⟩ := (show Is K F v (.dict lk (D.subK A xs)) from h).dict_inv
    have l2 := isK_sub (t := t) xs ys l
    exact .dict hs l2.1 l2.2.1 l2.2.2
  | .dictT xs, v, h => by
    cases (show Is K F v (.dictT (D.subT A xs)) from h) with
    | dictT hs l1 l2 l3 =>
      have l2 := isT_sub (t := t) xs _ ⟨l1, l2, l3⟩
      exact .dictT hs l2.1 l2.2.1 l2.2.2
  | .obj c xs, v, h => by
    obtain ⟨a, dx, ys, rfl, hs, l⟩ := (show Is K F v (.obj c (D.subF A xs)) from h).obj_inv
    have l2 := isF_sub (t := t) xs ys l
    exact .obj hs l2.1 l2.2.1 l2.2.2
  | .loc k, v, h => by
    have h' : Is K F v (match A[k]? with | some a => .adr a | none => .loc k) := h
    show Is K F v (match (A ++ t)[k]? with | some a => .adr a | none => .loc k)
    cases e : A[k]? with
    | none => rw [e] at h'; cases h'
    | some a =>
      rw [e] at h'
      rw [List.getElem?_append_left (List.getElem?_eq_some_iff.mp e).1, e]
      exact h'
theorem isL_sub {K : PySem.W.Frag} {F : Hp} {A t : List Addr} : ∀ (ds : List D) (vs : List V), IsL K F vs (D.subAll A ds) → IsL K F vs (D.subAll (A ++ t) ds)
  | [], vs, h => h
  | d :: ds, vs, h => by
    obtain ⟨x, xr, rfl, i, l⟩ := (show IsL K F vs (D.sub A d :: D.subAll A ds) from h).uncons
    exact .cons (is_sub d x i) (isL_sub ds xr l)
theorem isK_sub {K : PySem.W.Frag} {F : Hp} {A t : List Addr} : ∀ (ds : List (Key × D)) (vs : List (Key × V)), IsK K F vs (D.subK A ds) → IsK K F vs (D.subK (A ++ t) ds)
  | [], vs, h => h
  | (k, d) :: ds, vs, h => by
    obtain ⟨x, xr, rfl, i, l⟩ := (show IsK K F vs ((k, D.sub A d) :: D.subK A ds) from h).uncons
    exact .cons (is_sub d x i) (isK_sub ds xr l)
theorem isT_sub {K : PySem.W.Frag} {F : Hp} {A t : List Addr} : ∀ (ds : List (List Key × D)) (vs : List (List Key × V)), IsK K F vs (D.subT A ds) → IsK K F vs (D.subT (A ++ t) ds)
  | [], vs, h => h
  | (k, d) :: ds, vs, h => by
    obtain ⟨x, xr, rfl, i, l⟩ := (show IsK K F vs ((k, D.sub A d) :: D.subT A ds) from h).uncons
    exact .cons (is_sub d x i) (isT_sub ds xr l)
theorem isF_sub {K : PySem.W.Frag} {F : Hp} {A t : List Addr} : ∀ (ds : List (Str × D)) (vs : List (Str × V)), IsK K F vs (D.subF A ds) → IsK K F vs (D.subF (A ++ t) ds)
  | [], vs, h => h
  | (k, d) :: ds, vs, h => by
    obtain ⟨x, xr, rfl, i, l⟩ := (show IsK K F vs ((k, D.sub A d) :: D.subF A ds) from h).uncons
    exact .cons (is_sub d x i) (isF_sub ds xr l)
end
/-- true: there may be numbers in it -/
abbrev P := Bool × D
def P.at (A : List Addr) (p : P) : D := match p.1 with
  | true => p.2.sub A
  | false => p.2
abbrev RhoQ := List (Option P)
abbrev Mem := List P
theorem P.mono {K : PySem.W.Frag} {F F' : Hp} {A t : List Addr} {v : V} {p : P} (h : Is K F v (p.at A)) (s : Same F F') : Is K F' v (p.at (A ++ t)) := by
  obtain ⟨b, d⟩ := p
  cases b with
  | false => exact Is.mono (show Is K F v d from h) s
  | true => exact (is_sub d v h).mono s
/-- what stands at the numbers -/
structure Cells (K : PySem.W.Frag) (F H : Hp) (A : List Addr) (M : Mem) : Prop where
  fh : Same F H
  len : A.length = M.length
  nd : A.Nodup
  dj : ∀ a ∈ A, F a = none
  at_ : ∀ (k : Nat) p, M[k]? = some p → ∃ a o, A[k]? = some a ∧ H a = some o ∧ IsC K F o (p.at A)
/-- from an earlier state to a later one -/
structure ExtQ (F H : Hp) (A : List Addr) (F' H' : Hp) (A' : List Addr) : Prop where
  ff : Same F F'
  pre : ∃ t, A' = A ++ t
  hh : ∀ a o, H a = some o → a ∉ A → H' a = some o
  fz : ∀ a ∈ A, ∀ ob u, H a = some (.frz ob u) → H' a = some (.frz ob u)
  nw : ∀ p, H p ≠ none → F p = none → p ∉ A → F' p = none ∧ p ∉ A'
section
variable {K : PySem.W.Frag} {F H F1 H1 F2 H2 : Hp} {A A1 A2 : List Addr} {M M1 : Mem}
theorem ExtQ.refl : ExtQ F H A F H A := ⟨.refl _, ⟨[], by simp⟩, fun _ _ h _ => h, fun _ _ _ _ h => h, fun p _ f n => ⟨f, n⟩⟩
theorem ExtQ.trans (a : ExtQ F H A F1 H1 A1) (c : Cells K F1 H1 A1 M1) (b : ExtQ F1 H1 A1 F2 H2 A2) : ExtQ F H A F2 H2 A2 := by
  obtain ⟨t, e⟩ := a.pre
  obtain ⟨u, e2⟩ := b.pre
  have out : ∀ p o, H p = some o → p ∉ A → p ∉ A1 := fun p o h n => by
    cases z : F p with
    | none => exact (a.nw p (by rw [h]; simp) z n).2
    | some o' =>
      intro m
      have := c.dj p m
      rw [a.ff p o' z] at this
      cases this
  refine ⟨a.ff.trans b.ff, ⟨t ++ u, by rw [e2, e, List.append_assoc]⟩, fun p o h n => b.hh p o (a.hh p o h n) (out p o h n), fun p m ob u h => b.fz p (by rw [e]; exact List.mem_append_left _ m) ob u (a.fz p m ob u h), fun p h f n => ?_⟩
  obtain ⟨f1, n1⟩ := a.nw p h f n
  refine b.nw p (fun z => ?_) f1 n1
  cases q : H p with
  | none => exact h q
  | some o => rw [a.hh p o q n] at z; cases z
/-- an object changes -/
theorem Cells.put {k : Nat} {a : Addr} {o : HO} {q : P} (c : Cells K F H A M) (ha : A[k]? = some a) (i : IsC K F o (q.at A)) : Cells K F (upd H a o) A (M.set k q) := by
  have mA : a ∈ A := List.mem_iff_getElem?.mpr ⟨k, ha⟩
  refine ⟨fun b u e => ?_, by simp [c.len], c.nd, c.dj, fun j z hz => ?_⟩
  · have nz : b ≠ a := fun z => by
      rw [z, c.dj a mA] at e
      cases e
    rw [upd_ne nz]
    exact c.fh b u e
  · rcases getElem?_set_cases hz with ⟨rfl, e, hl⟩ | ⟨hj, e⟩
    · cases e
      exact ⟨a, o, ha, upd_same, i⟩
    · obtain ⟨b, u, e1, e2, e3⟩ := c.at_ j z e
      refine ⟨b, u, e1, ?_, e3⟩
      have nz : b ≠ a := fun w => hj (by
        subst w
        have l1 := (List.getElem?_eq_some_iff.mp e1)
        have l2 := (List.getElem?_eq_some_iff.mp ha)
        exact (List.getElem_inj c.nd).mp (l1.2.trans l2.2.symm))
      rw [upd_ne nz]
      exact e2
theorem ExtQ.put {k : Nat} {a : Addr} {o o0 : HO} {q : P} (c : Cells K F H A M) (ha : A[k]? = some a) (i : IsC K F o (q.at A)) (h0 : H a = some o0) (n0 : ∀ ob u, o0 ≠ .frz ob u := by intro _ _ z; cases z) : ExtQ F H A F (upd H a o) A ∧ Cells K F (upd H a o) A (M.set k q) := by
  have mA : a ∈ A := List.mem_iff_getElem?.mpr ⟨k, ha⟩
  have nzA : ∀ b : Addr, b ∉ A → b ≠ a := fun b nb z => nb (by rw [z]; exact mA)
  refine ⟨⟨.refl _, ⟨[], by simp⟩, fun b u e nb => by rw [upd_ne (nzA b nb)]; exact e, fun b _ ob u e => by
    rw [upd_ne (fun z => by rw [z, h0] at e; exact n0 ob u (Option.some.inj e))]
    exact e, fun p _ f n => ⟨f, n⟩⟩, c.put ha i⟩
end
structure QB where
  F : Hp
  H : Hp
  A : List Addr
structure RepQ (K : PySem.W.Frag) (B : QB) (ρ : RhoQ) (M : Mem) (σ : L2.St) (F H : Hp) (A : List Addr) : Prop where
  len : σ.length = ρ.length
  cl : Cells K F H A M
  ext : ExtQ B.F B.H B.A F H A
  val : ∀ (i : Nat) p, ρ[i]? = some (some p) → ∃ v, σ[i]? = some (some v) ∧ Is K F v (p.at A)
inductive RQ (α : Type) where
  | ok (a : α) (M : Mem) | ex (x : Ex) (M : Mem) | st
def RQ.bind {α β : Type} (r : RQ α) (f : α → Mem → RQ β) : RQ β := match r with
  | .ok a M => f a M
  | .ex x M => .ex x M
  | .st => .st
def R.up {α β : Type} (r : R α) (M : Mem) (f : α → β) : RQ β := match r with
  | .ok a => .ok (f a) M
  | .ex x => .ex x M
  | .st => .st
abbrev GQ := RhoQ → Mem → RQ P
abbrev GQA := RhoQ → Mem → RQ (List P)
def IsLP (K : PySem.W.Frag) (F : Hp) (A : List Addr) (vs : List V) (ps : List P) : Prop := IsL K F vs (ps.map (P.at A))
def ExK (K : PySem.W.Frag) (W : WX) (σ : L2.St) (F H : Hp) (A : List Addr) (x : Ex) (M : Mem) : Prop := ∀ cls od F' H' A', ExtQ F H A F' H' A' → Cells K F' H' A' M → IsX K F' x cls od → W cls od σ H'
def afterQ (K : PySem.W.Frag) (W : WX) (σ : L2.St) (F H : Hp) (A : List Addr) (r : RQ P) (Q : VK) : Prop := match r with
  | .ok p M => ∀ v F' H' A', ExtQ F H A F' H' A' → Cells K F' H' A' M → Is K F' v (p.at A') → Q v H'
  | .ex x M => ExK K W σ F H A x M
  | .st => False
section
variable {K : PySem.W.Frag} {B : QB} {W : WX} {F H F1 H1 : Hp} {A A1 : List Addr} {M M1 : Mem} {ρ : RhoQ} {σ : L2.St} {Q : VK}
theorem ExK.ext {x : Ex} {M2 : Mem} (h : ExK K W σ F H A x M2) (e : ExtQ F H A F1 H1 A1) (c : Cells K F1 H1 A1 M1) : ExK K W σ F1 H1 A1 x M2 := fun cls od F' H' A' y cy i => h cls od F' H' A' (e.trans c y) cy i
theorem afterQ.ext {r : RQ P} (h : afterQ K W σ F H A r Q) (e : ExtQ F H A F1 H1 A1) (c : Cells K F1 H1 A1 M1) : afterQ K W σ F1 H1 A1 r Q := by
  cases r with
  | ok p M2 => exact fun v F' H' A' y cy i => h v F' H' A' (e.trans c y) cy i
  | ex x M2 => exact ExK.ext (M1 := M1) h e c
  | st => exact h
end
end Pd
namespace Pd
open PySem PySem.Spec PyProof.Rows L2
inductive SQ where
  | nx (ρ : RhoQ) (M : Mem) | rt (p : P) (M : Mem) | bk (ρ : RhoQ) (M : Mem) | ct (ρ : RhoQ) (M : Mem) | ex (x : Ex) (ρ : RhoQ) (M : Mem) | st
abbrev SQF := RhoQ → Mem → SQ
/-- more is there -/
def Grow (F : Hp) (A : List Addr) (F' : Hp) (A' : List Addr) : Prop := Same F F' ∧ ∃ t, A' = A ++ t
theorem Grow.refl {F : Hp} {A : List Addr} : Grow F A F A := ⟨.refl _, [], by simp⟩
theorem Grow.trans {F F1 F2 : Hp} {A A1 A2 : List Addr} (a : Grow F A F1 A1) (b : Grow F1 A1 F2 A2) : Grow F A F2 A2 := by
  obtain ⟨s, t, e⟩ := a
  obtain ⟨s2, t2, e2⟩ := b
  exact ⟨s.trans s2, t ++ t2, by rw [e2, e, List.append_assoc]⟩
def afterQS (K : PySem.W.Frag) (B : QB) (W : WX) (Fb : Hp) (Ab : List Addr) (r : SQ) (E : Ends) : Prop := match r with
  | .nx ρ M => ∀ σ F H A, RepQ K B ρ M σ F H A → Grow Fb Ab F A → E.nx σ H
  | .rt p M => ∀ v F H A, ExtQ B.F B.H B.A F H A → Cells K F H A M → Is K F v (p.at A) → E.rt v H
  | .bk ρ M => ∀ σ F H A, RepQ K B ρ M σ F H A → Grow Fb Ab F A → E.bk σ H
  | .ct ρ M => ∀ σ F H A, RepQ K B ρ M σ F H A → Grow Fb Ab F A → E.ct σ H
  | .ex x ρ M => ∀ cls od σ F H A, RepQ K B ρ M σ F H A → Grow Fb Ab F A → IsX K F x cls od → W cls od σ H
  | .st => False
theorem afterQS.mono {K : PySem.W.Frag} {B : QB} {W : WX} {F F2 : Hp} {A A2 : List Addr} {r : SQ} {E : Ends} (h : afterQS K B W F A r E) (s : Grow F A F2 A2) : afterQS K B W F2 A2 r E := by
  cases r with
  | nx ρ M => exact fun σ F' H' A' r x => h σ F' H' A' r (s.trans x)
  | bk ρ M => exact fun σ F' H' A' r x => h σ F' H' A' r (s.trans x)
  | ct ρ M => exact fun σ F' H' A' r x => h σ F' H' A' r (s.trans x)
  | ex x ρ M => exact fun cls od σ F' H' A' r x => h cls od σ F' H' A' r (s.trans x)
  | _ => exact h
section
variable {X : Cx} {B : QB} {W : WX} {pos : Pos} {e : Expr} {st : Stmt} {sts : List Stmt} {g : GQ} {s u : SQF}
theorem RepQ.set {K : PySem.W.Frag} {ρ : RhoQ} {M : Mem} {σ : L2.St} {F H : Hp} {A : List Addr} {v : V} {p : P} (r : RepQ K B ρ M σ F H A) (i : Nat) (h : Is K F v (p.at A)) : RepQ K B (ρ.set i (some p)) M (σ.set i (some v)) F H A := by
  refine ⟨by rw [List.length_set, List.length_set, r.len], r.cl, r.ext, fun j q a => ?_⟩
  rcases getElem?_set_cases a with ⟨rfl, z, hl⟩ | ⟨hj, z⟩
  · cases z
    exact ⟨v, by rw [List.getElem?_set_self (by rw [r.len]; exact hl)], h⟩
  · rw [List.getElem?_set_ne (Ne.symm hj)]
    exact r.val j q z
end
end Pd
namespace Pd
open PySem PySem.Spec PyProof.Rows L2
mutual
def D.put (f : Nat → Option D) : D → Option D
  | .non => some .non
  | .bl b => some (.bl b)
  | .int i => some (.int i)
  | .str s => some (.str s)
  | .list xs => (D.putAll f xs).map .list
  | .tup xs => (D.putAll f xs).map .tup
  | .dict lk xs => (D.putK f xs).map (.dict lk)
  | .dictT xs => (D.putT f xs).map .dictT
  | .obj c xs => (D.putFl f xs).map (.obj c)
  | .loc k => f k
  | .tpx xs => (D.putAll f xs).map .tpx
  | .exc c fs => some (.exc c fs)
  | .adr _ => none
def D.putAll (f : Nat → Option D) : List D → Option (List D)
  | [] => some []
  | d :: ds => (D.put f d).bind fun e => (D.putAll f ds).map (e :: ·)
def D.putK (f : Nat → Option D) : List (Key × D) → Option (List (Key × D))
  | [] => some []
  | (k, d) :: ds => (D.put f d).bind fun e => (D.putK f ds).map ((k, e) :: ·)
def D.putT (f : Nat → Option D) : List (List Key × D) → Option (List (List Key × D))
  | [] => some []
  | (k, d) :: ds => (D.put f d).bind fun e => (D.putT f ds).map ((k, e) :: ·)
def D.putFl (f : Nat → Option D) : List (Str × D) → Option (List (Str × D))
  | [] => some []
  | (k, d) :: ds => (D.put f d).bind fun e => (D.putFl f ds).map ((k, e) :: ·)
end
/-- what the numbers hold, n deep -/
def memD (M : Mem) : Nat → Nat → Option D
  | 0, _ => none
  | n + 1, k => match M[k]? with
    | some (false, d) => some d
    | some (true, d) => d.put (memD M n)
    | none => none
def P.full (M : Mem) (p : P) : Option D := match p with
  | (false, d) => some d
  | (true, d) => d.put (memD M M.length)
abbrev GF := List P → Mem → RQ P
def spQ (K : PySem.W.Frag) (G : GF) : Sp := fun vs H Q E => ∃ ps M F A, IsLP K F A vs ps ∧ Cells K F H A M ∧ match G ps M with
  | .ok p M' => ∀ v F' H' A', ExtQ F H A F' H' A' → Cells K F' H' A' M' → Is K F' v (p.at A') → Q v H'
  | .ex x M' => ∀ cls od F' H' A', ExtQ F H A F' H' A' → Cells K F' H' A' M' → IsX K F' x cls od → E cls od H'
  | .st => False
end Pd
namespace Pd
open PySem PySem.Spec PyProof.Rows L2
section
variable {K : PySem.W.Frag} {F H : Hp} {A : List Addr} {M : Mem} {c : Str}
theorem Cells.fresh (cl : Cells K F H A M) {a : Addr} (n : H a = none) : a ∉ A := fun m => by
  obtain ⟨k, hk⟩ := List.mem_iff_getElem?.mp m
  obtain ⟨p, hp⟩ : ∃ p, M[k]? = some p := by
    have : k < M.length := by rw [← cl.len]; exact (List.getElem?_eq_some_iff.mp hk).1
    exact ⟨M[k], by simp [this]⟩
  obtain ⟨a', o, e1, e2, _⟩ := cl.at_ k p hp
  rw [hk] at e1
  cases e1
  rw [n] at e2
  cases e2
end
end Pd
namespace Pd
open PySem PySem.Spec PyProof.Rows L2
structure UnF (P' : Program) (w : World) (K : PySem.W.Frag) (mg : Str → Option Value) (base : Heap) (k : Nat) (f : Addr) (ps : List Str) (G : List D → R D) : Prop where
  ex : ∃ fd, FnOk P' w K mg base (L2.CX P' w) k f fd ps (spD K G) ∧ Binds K fd ps [] ∧ PySem.W.keepIn K (.ref f) = true
structure UnN (P' : Program) (w : World) (K : PySem.W.Frag) (mg : Str → Option Value) (base : Heap) (k : Nat) (f : Addr) (ps : List Str) (G : List D → R D) : Prop where
  ex : ∃ fd, FnOk P' w K mg base (L2.CX P' w) k f fd ps (spN K G) ∧ Binds K fd ps [] ∧ PySem.W.keepIn K (.ref f) = true
structure UnQ (P' : Program) (w : World) (K : PySem.W.Frag) (mg : Str → Option Value) (base : Heap) (k : Nat) (f : Addr) (ps : List Str) (G : GF) : Prop where
  ex : ∃ fd, FnOk P' w K mg base (L2.CX P' w) k f fd ps (spQ K G) ∧ Binds K fd ps [] ∧ PySem.W.keepIn K (.ref f) = true
/-- a def as the top left it -/
structure DefU (K : PySem.W.Frag) (x qual : Str) (st : Stmt) (f : Addr) (ps : List Str) : Prop where
  ex : ∃ fd, FunD K x qual (defArgs st) (defBody st) (defScope st) [] [] f fd ∧ Binds K fd ps []
section
variable {P' : Program} {w : World} {K : PySem.W.Frag} {mg : Str → Option Value} {base : Heap} {k j : Nat} {x qual c m : Str} {ps : List Str} {G : List D → R D} {GQ' : GF} {st : Stmt} {f : Addr}
theorem UnN.un (h : UnN P' w K mg base k f ps G) : UnF P' w K mg base k f ps G := by
  obtain ⟨fd, a, b⟩ := h.ex
  exact ⟨fd, FnOk.ofN a, b⟩
theorem un_d {N : List Str} {mm m' : List Bool} {s : Rho → S} (n : Nat) (Df : DefU K x qual st f ps) (Sc : FnScope N ps (defScope st)) (hn : N.length = n) (hm : mm.all (!·) = true)
    (hb : ∀ (cdv : Value) (A : Around) (outer : List Env) (sh : Shared) (H : Hp) (E : XK) (Fb : Hp), Room k (A.deeper (envOfC qual (defScope st) sh.heap.objs.size f cdv)) →
      DSs (cxOf (L2.CX P' w) P' w K mg base N qual (defScope st) f cdv A outer sh H E) ⟨Fb, []⟩ H mm m' [] (fun cls d _ H => E cls d H) (defBody st) s) : UnF P' w K mg base (k + 1) f ps (runS n ps.length s) := by
  obtain ⟨fd, F, b⟩ := Df.ex
  exact ⟨fd, fn_d n F Sc hn hm hb, b, F.kp⟩
/-- as callers name it -/
theorem calF_of (U : UnF P' w K mg base k f ps G) (hm : mg x = some (.ref f)) : CalF P' w K mg base k x ps G := by
  obtain ⟨fd, a, b, c⟩ := U.ex
  exact ⟨f, fd, a, hm, c, b⟩
end
theorem ex_at {bs : List Bool} (h : bs.all id = true) (i : Nat) {b : Bool} (e : bs[i]? = some b := by rfl) : b = true := List.all_eq_true.mp h b (List.mem_of_getElem? e)
end Pd
namespace Pd
open PySem PySem.Spec PyProof.Rows L2
/-- what has no numbers -/
def P.cln : P → Option D
  | (false, d) => some d
  | (true, .non) => some .non
  | (true, .bl b) => some (.bl b)
  | (true, .int i) => some (.int i)
  | (true, .str s) => some (.str s)
  | (true, _) => none
section
variable {X : Cx} {B : QB} {W : WX} {pos : Pos} {e o ix a b value : Expr} {es : List Expr} {g go gi ga gb : GQ} {t : GQA}
def op2P (f : D → D → R D) (M : Mem) (p q : P) : RQ P := match p.cln, q.cln with
  | some d, some e => (f d e).up M fun d => (false, d)
  | _, _ => .st
def q2 (f : D → D → R D) (ga gb : GQ) : GQ := fun ρ M => (ga ρ M).bind fun p M1 => (gb ρ M1).bind fun q M2 => op2P f M2 p q
end
end Pd
namespace Pd
open PySem PySem.Spec PyProof.Rows L2
section
variable {X : Cx} {F0 : Bs} {H0 : Hp} {m m' mL : List Bool} {W : WX} {pos : Pos} {a b e : Expr} {es : List Expr} {ga gb gc g gi : Rho → R D} {t : Rho → R (List D)}
def IsP (K : PySem.W.Frag) (F : Hp) : List (V × V) → List (D × D) → Prop
  | [], [] => True
  | (x, y) :: xs, (k, d) :: ds => Is K F x k ∧ Is K F y d ∧ IsP K F xs ds
  | _, _ => False
theorem IsP.mono {K : PySem.W.Frag} {F F' : Hp} (s : Same F F') : ∀ {xs : List (V × V)} {ds : List (D × D)}, IsP K F xs ds → IsP K F' xs ds
  | [], [], _ => trivial
  | (x, y) :: xs, (k, d) :: ds, h => ⟨h.1.mono s, h.2.1.mono s, IsP.mono s h.2.2⟩
  | [], _ :: _, h => h.elim
  | _ :: _, [], h => h.elim
end
end Pd
namespace PySem.W
open Lean Elab Tactic Meta PySem PySem.Calls PyProof.Rows PyProof.V PySem.Spec
end PySem.W
namespace Pd
open PySem PySem.Spec PyProof.Rows L2
structure DefU1 (K : PySem.W.Frag) (x qual : Str) (st : Stmt) (f : Addr) (ps : List Str) : Prop where
  ex : ∃ fd, FunD K x qual (defArgs st) (defBody st) (defScope st) [.non] [] f fd ∧ Binds K fd ps [] ∧ ∃ ds, Vals [.non] ds ∧ Binds K fd ps ds
structure UnQ1 (P' : Program) (w : World) (K : PySem.W.Frag) (mg : Str → Option Value) (base : Heap) (k : Nat) (f : Addr) (ps : List Str) (G : GF) : Prop where
  ex : ∃ fd, FnOk P' w K mg base (L2.CX P' w) k f fd ps (spQ K G) ∧ Binds K fd ps [] ∧ PySem.W.keepIn K (.ref f) = true ∧ ∃ ds, Vals [.non] ds ∧ Binds K fd ps ds
/-- the call without the last argument -/
def GF.dfl (G : GF) : GF := fun as M => G (as ++ [(false, .non)]) M
section
variable {P' : Program} {w : World} {K : PySem.W.Frag} {mg : Str → Option Value} {base : Heap} {k j : Nat} {x qual c m : Str} {ps : List Str} {GQ' : GF} {st : Stmt} {f : Addr}
theorem UnQ1.full (h : UnQ1 P' w K mg base k f ps GQ') : UnQ P' w K mg base k f ps GQ' := by
  obtain ⟨fd, a, b, c, _⟩ := h.ex
  exact ⟨fd, a, b, c⟩
end
end Pd
namespace Pd
open PySem PySem.Spec PyProof.Rows L2
def wipeQ (ρ : RhoQ) : List Nat → RhoQ
  | [] => ρ
  | v :: vs => (wipeQ ρ vs).set v none
theorem RepQ.wipe {K : PySem.W.Frag} {B : QB} {ρ : RhoQ} {M : Mem} {σ : L2.St} {F H : Hp} {A : List Addr} (r : RepQ K B ρ M σ F H A) : ∀ vs : List Nat, RepQ K B (wipeQ ρ vs) M (L2.wipe σ vs) F H A
  | [] => r
  | v :: vs => by
    have ih := RepQ.wipe r vs
    refine ⟨?_, ih.cl, ih.ext, fun i p h => ?_⟩
    · show ((L2.wipe σ vs).set v none).length = ((wipeQ ρ vs).set v none).length
      rw [List.length_set, List.length_set]
      exact ih.len
    · rcases getElem?_set_cases (show ((wipeQ ρ vs).set v none)[i]? = some (some p) from h) with ⟨_, z, _⟩ | ⟨hj, z⟩
      · cases z
      · obtain ⟨w, e, h2⟩ := ih.val i p z
        exact ⟨w, by show ((L2.wipe σ vs).set v none)[i]? = _; rw [List.getElem?_set_ne (Ne.symm hj)]; exact e, h2⟩
end Pd
namespace Pd
open PySem PySem.Spec PyProof.Rows L2
theorem oexB_ok {K : PySem.W.Frag} {x : Str} (h : oexB K x = true) : OexC K (He.ga K x) := by
  obtain ⟨q, h⟩ := He.ba h
  obtain ⟨h1, h⟩ := He.ba h
  obtain ⟨h2, h⟩ := He.ba h
  obtain ⟨h3, h4⟩ := He.ba h
  refine ⟨?_, of_decide_eq_true h1, of_decide_eq_true h2, of_decide_eq_true h3, h4⟩
  unfold oexcB at q
  split at q
  · rename_i dd cd sl ho
    split at q
    · rename_i C' bm k0 k1 k2 k3 n k5 hm hs
      obtain ⟨qa, q⟩ := He.ba q
      obtain ⟨qb, q⟩ := He.ba q
      obtain ⟨qc, q⟩ := He.ba q
      obtain ⟨qd, qe⟩ := He.ba q
      obtain ⟨nm, bs, mro, ns, qn, hd, sn, sub, ab, col, del⟩ := cd
      dsimp only at hm qc qd
      have e1 := eq_of_beq qa
      have e2 := eq_of_beq qb
      rw [Bool.not_eq_true'] at qc
      subst e1 e2 hm qc qd
      have hsl : sl = #[k0, k1, k2, k3, some (.builtin "ValueError.__new__"), k5] := by
        obtain ⟨l⟩ := sl
        simp only at hs
        rw [hs]
      subst hsl
      exact ⟨nm, qn, ns, bs, bm, sn, sub, ab, col, dd, k0, k1, k2, k3, k5, ho, qe⟩
    · cases q
  · cases q
/-- its __init__ is a def at that address, no field is a name of the class -/
structure RaiK (K : PySem.W.Frag) (mg : Str → Option Value) (x : Str) (f : Addr) (fs : List Str) : Prop where
  ox : OexC K (He.ga K x)
  ini : PySem.W.findIn K (.ref (He.ga K x)) "__init__" = some (some (.ref f))
  ty : PySem.W.typeIn K (.ref f) = some (.type "function")
  no : ∀ n ∈ fs, PySem.W.findIn K (.ref (He.ga K x)) n = some none
  gC : mg x = some (.ref (He.ga K x))
theorem raiB_ok {K : PySem.W.Frag} {mg : Str → Option Value} {x y : Str} {fs : List Str} (h : raiB K x y fs = true) (g : mg x = some (.ref (He.ga K x))) : RaiK K mg x (He.fAd K (y, some "__init__")) fs := by
  obtain ⟨h0, h⟩ := He.ba h
  obtain ⟨h1, h⟩ := He.ba h
  obtain ⟨h2, h3⟩ := He.ba h
  exact ⟨oexB_ok h0, of_decide_eq_true h1, of_decide_eq_true h2, fun n hn => of_decide_eq_true (List.all_eq_true.mp h3 n hn), g⟩
structure VeIn (K : PySem.W.Frag) (mg : Str → Option Value) (x : Str) : Prop where
  gC : mg x = some (.ref (He.ga K x))
  sp : PySem.W.specialIn K (.ref (He.ga K x)) "__getattribute__" = some (some (.builtin "type.__getattribute__"))
  rd : PySem.W.readsIn K (He.ga K x) (.type "type") = true
  at_ : PySem.W.findCls K (.ref (He.ga K x)) (.type "type") "__init__" = some (.val (.builtin "ValueError.__init__"))
theorem veinB_ok {K : PySem.W.Frag} {mg : Str → Option Value} {x : Str} (h : veinB K x = true) (g : mg x = some (.ref (He.ga K x))) : VeIn K mg x := by
  obtain ⟨h1, h⟩ := He.ba h
  obtain ⟨h2, h3⟩ := He.ba h
  refine ⟨g, of_decide_eq_true h1, h2, ?_⟩
  split at h3
  · rename_i n e
    rw [e, eq_of_beq h3]
  · cases h3
section
variable {X : Cx} {e : Expr} {es : List Expr} {ta : TA} {x : Str} {p1 p2 pos : Pos}
theorem pe_ownvi {pl : Sem Bool} (r : VeIn X.K X.mg x) (hg : Gl X x) (ha : PA X (e :: es) ta) (hdb : (x == ("__debug__" : Str)) = false)
    (hc : eval (.Call (.Attribute (.Name x p1) "__init__" p2) (e :: es) [] pos) X.env = (do
      let ov ← eval (.Name x p1) X.env
      standAt p2.atName
      let (f, first) ← holding [ov] (getMethod ov "__init__" pl)
      callWith pos f first (backTo pos (starEach (e :: es) X.env)) (backToKw pos (keywordEach [] X.env))))
    (he : starEach (e :: es) X.env = (false, eval e X.env) :: starEach es X.env) (hpl : (backTo pos (starEach es X.env)).any (·.1) = false) :
    PE X (.Call (.Attribute (.Name x p1) "__init__" p2) (e :: es) [] pos) (tVeI X.K ta) := by
  refine ⟨fun pins s σ H Q I h => ?_⟩
  refine PySem.W.methodCall_KW (ld_glob I hg r.gC ?_ hdb) hc
  refine PySem.W.method_cls I.kIn r.sp (PySem.W.cls_value I.kIn r.rd r.at_ (by decide +kernel) ?_)
  show wpAny _ _ (callWith pos (Value.builtin "ValueError.__init__") [] (backTo pos (starEach (e :: es) X.env)) []) _ _ _
  refine PyProof.Rows.callWith_method1 (thn (ha.run pos pins _ σ H _ (I.tok _) h) fun us s1 ⟨vs, H1, I1, r1, a, C, ws, ev, hl, T, ea, q⟩ => ?_) he hpl
  subst ev
  cases r1 with
  | @cons _ u0 _ ur ra rw' =>
    obtain rfl : u0 = Value.ref a := ra
    have hlen : ur.length ≤ sizeLine := by
      rw [← Paired.length rw', sizeLine_eq]
      omega
    exact oinit_ok T I1 ea hlen fun s' J => ⟨.non, H1, J, rfl, q⟩
end
/-- self, an exception that is being made, gets these fields -/
def spXI (K : PySem.W.Frag) (fs : List Str) : Sp := fun vs H Q _ => ∃ (a C : Addr) (ws : List V), vs = .ref a :: ws ∧ ws.length = fs.length ∧ OexC K C ∧ (∀ n ∈ fs, PySem.W.findIn K (.ref C) n = some none) ∧ H a = some (exo a C none) ∧
  ∀ dx H', H dx = none → dx ≠ a → H' a = some (exo a C (some dx)) → H' dx = some (exd dx (fs.zip ws).reverse) → (∀ b, b ≠ a → b ≠ dx → H' b = H b) → Q .non H'
/-- the state between two fields: done of the fields are set -/
def XSt (a C : Addr) (H : Hp) (done : List (Str × V)) (H' : Hp) : Prop := match done with
  | [] => H' = H
  | _ :: _ => ∃ dx, H dx = none ∧ dx ≠ a ∧ H' a = some (exo a C (some dx)) ∧ H' dx = some (exd dx done) ∧ ∀ b, b ≠ a → b ≠ dx → H' b = H b
theorem xst_put {K : PySem.W.Frag} {a C : Addr} {H H' : Hp} {done : List (Str × V)} {f : Str} {y : V} {D : Ends} {σ : L2.St} (T : OexC K C) (hno : PySem.W.findIn K (.ref C) f = some none) (h0 : H a = some (exo a C none)) (h : XSt a C H done H') (hl : done.length ≤ 900)
    {i j : Nat} (hi : σ[i]? = some (some (.ref a))) (hj : σ[j]? = some (some y)) (k : ∀ H2, XSt a C H ((f, y) :: done) H2 → D.nx σ H2) : tOst K f (tVar i) (tVar j) D σ H' := by
  refine ⟨y, hj, .ref a, hi, a, C, rfl, T, hno, ?_⟩
  cases done with
  | nil =>
    have e : H' = H := h
    subst e
    refine .inl ⟨h0, fun dx hd ne => k _ ⟨dx, hd, ne, upd_same, ?_, fun b h1 h2 => ?_⟩⟩
    · rw [upd_ne ne, upd_same]
    · rw [upd_ne h1, upd_ne h2]
  | cons q r =>
    obtain ⟨dx, hd, ne, h1, h2, h3⟩ := h
    refine .inr ⟨dx, q :: r, h1, h2, hl, k _ ⟨dx, hd, ne, ?_, upd_same, fun b n1 n2 => ?_⟩⟩
    · rw [upd_ne (Ne.symm ne)]
      exact h1
    · rw [upd_ne n2]
      exact h3 b n1 n2
/-- the fields, one after another, each from a slot -/
def tFlds (K : PySem.W.Frag) : List (Str × Nat) → TS
  | [] => tNext
  | q :: r => tSeq (tOst K q.1 (tVar 0) (tVar q.2)) (tFlds K r)
theorem xst_all {K : PySem.W.Frag} {a C : Addr} {H : Hp} {D : Ends} {σ : L2.St} (T : OexC K C) (h0 : H a = some (exo a C none)) (hs : σ[0]? = some (some (.ref a))) : ∀ (zs : List (Str × Nat × V)) (done : List (Str × V)) (H' : Hp), XSt a C H done H' → done.length + zs.length ≤ 900 →
    (∀ q ∈ zs, PySem.W.findIn K (.ref C) q.1 = some none ∧ σ[q.2.1]? = some (some q.2.2)) → (∀ H2, XSt a C H ((zs.map fun q => (q.1, q.2.2)).reverse ++ done) H2 → D.nx σ H2) → tFlds K (zs.map fun q => (q.1, q.2.1)) D σ H'
  | [], done, H', h, _, _, k => k H' h
  | q :: zs, done, H', h, hl, hq, k => by
    rw [List.length_cons] at hl
    obtain ⟨q1, q2⟩ := hq q List.mem_cons_self
    show tOst K q.1 (tVar 0) (tVar q.2.1) { D with nx := tFlds K (zs.map fun q => (q.1, q.2.1)) D } σ H'
    refine xst_put T q1 h0 h (by omega) hs q2 fun H2 h2 => ?_
    refine xst_all T h0 hs zs ((q.1, q.2.2) :: done) H2 h2 (by rw [List.length_cons]; omega) (fun r hr => hq r (List.mem_cons_of_mem _ hr)) fun H3 h3 => k H3 ?_
    rw [List.map_cons, List.reverse_cons, List.append_assoc]
    exact h3
section
variable {X : Cx} {e : Expr} {es : List Expr} {x f y z : Str} {p1 p2 p3 p4 pos pos2 : Pos} {rest : List Stmt} {r : List (Str × Nat)}
theorem pss_fld (i : Nat) (h : PSs X rest (tFlds X.K r)) (hN : X.N[0]? = some y) (hv : Vis X.env.scope y) (hd : (y == ("__debug__" : Str)) = false) (hcd : (y == ("__classdict__" : Str)) = false) (hN2 : X.N[i]? = some z) (hv2 : Vis X.env.scope z) (hd2 : (z == ("__debug__" : Str)) = false) (hcd2 : (z == ("__classdict__" : Str)) = false)
    (hs : swapsWith (.Name z p2) (some (.Attribute (.Name y p1) f p3)) pos.line X.env = pure false) : PSs X (.Assign [.Attribute (.Name y p1) f p3] (.Name z p2) pos :: rest) (tFlds X.K ((f, i) :: r)) :=
  pss_cons (ps_ost (pe_var hN hv hd hcd) (pe_var hN2 hv2 hd2 hcd2) hs) h
theorem pss_fld1 (i : Nat) (hN : X.N[0]? = some y) (hv : Vis X.env.scope y) (hd : (y == ("__debug__" : Str)) = false) (hcd : (y == ("__classdict__" : Str)) = false) (hN2 : X.N[i]? = some z) (hv2 : Vis X.env.scope z) (hd2 : (z == ("__debug__" : Str)) = false) (hcd2 : (z == ("__classdict__" : Str)) = false)
    (hs : swapsWith (.Name z p2) (some (.Attribute (.Name y p1) f p3)) pos.line X.env = pure false) : PSs X [.Assign [.Attribute (.Name y p1) f p3] (.Name z p2) pos] (tFlds X.K [(f, i)]) :=
  pss_fld i pss_nil hN hv hd hcd hN2 hv2 hd2 hcd2 hs
/-- the body: the base's __init__, then the fields -/
def tXIni (K : PySem.W.Frag) (msg : Str) (r : List (Str × Nat)) : TS := tSeq (tDrop (tVeI K (tCons (tVar 0) (tCons (tC (.str msg)) tNil)))) (tFlds K r)
theorem pss_xini {pl : Sem Bool} {msg : Str} {j : Nat} {p5 : Pos} (V : VeIn X.K X.mg x) (hg : Gl X x) (hdb : (x == ("__debug__" : Str)) = false) (h : PSs X rest (tFlds X.K r)) (hN : X.N[0]? = some y) (hv : Vis X.env.scope y) (hd : (y == ("__debug__" : Str)) = false) (hcd : (y == ("__classdict__" : Str)) = false)
    (hc : eval (.Call (.Attribute (.Name x p1) "__init__" p2) [.Name y p3, .Constant (.str msg) j p4] [] p5) X.env = (do
      let ov ← eval (.Name x p1) X.env
      standAt p2.atName
      let (f, first) ← holding [ov] (getMethod ov "__init__" pl)
      callWith p5 f first (backTo p5 (starEach [.Name y p3, .Constant (.str msg) j p4] X.env)) (backToKw p5 (keywordEach [] X.env))))
    (he : starEach [.Name y p3, .Constant (.str msg) j p4] X.env = (false, eval (.Name y p3) X.env) :: starEach [.Constant (.str msg) j p4] X.env) (he2 : starEach [.Constant (.str msg) j p4] X.env = (false, eval (.Constant (.str msg) j p4) X.env) :: starEach [] X.env)
    (hpl : (backTo p5 (starEach [.Constant (.str msg) j p4] X.env)).any (·.1) = false) (hs : swapsWith (.Call (.Attribute (.Name x p1) "__init__" p2) [.Name y p3, .Constant (.str msg) j p4] [] p5) none pos.line X.env = pure false) :
    PSs X (.Expr (.Call (.Attribute (.Name x p1) "__init__" p2) [.Name y p3, .Constant (.str msg) j p4] [] p5) pos :: rest) (tXIni X.K msg r) :=
  pss_cons (ps_expr (pe_ownvi V hg (pa_cons (pe_var hN hv hd hcd) (pa_cons pe_str pa_nil he2) he) hdb hc he hpl) hs) h
end
theorem start_var {N : List Str} {vs : List V} {i : Nat} {v : V} (h : vs[i]? = some v) : (L2.start N vs)[i]? = some (some v) := by
  unfold L2.start
  rw [List.getElem?_append_left (by rw [List.length_map]; exact (List.getElem?_eq_some_iff.mp h).1), List.getElem?_map, h]
  rfl
section
variable {P' : Program} {w : World} {K : PySem.W.Frag} {mg : Str → Option Value} {base : Heap} {x qual : Str} {params : Arguments} {body : List Stmt} {scope : Scope} {dvs : List V} {kws : List (Str × V)} {f : Addr} {fd : FuncData}
theorem fn_xi {N ps : List Str} {k : Nat} {msg : Str} (fs : List Str) (Fn : FunD K x qual params body scope dvs kws f fd) (Sc : FnScope N ps scope) (hn : ps.length = fs.length + 1) (hn2 : fs ≠ []) (hl : fs.length ≤ 100)
    (hb : ∀ (cdv : Value) (A : Around) (outer : List Env) (st : Shared) (H : Hp) (E : XK), Room k (A.deeper (envOfC qual scope st.heap.objs.size f cdv)) →
      PSs (cxOf (L2.CX P' w) P' w K mg base N qual scope f cdv A outer st H E) body (tXIni K msg (fs.zip (List.range' 1 fs.length)))) : FnOk P' w K mg base (L2.CX P' w) (k + 1) f fd ps (spXI K fs) := by
  refine Fn.ok Sc (fun vs H Q E h => ?_) fun cdv A outer st H vs Q E hr h => ⟨_, hb cdv A outer st H E hr, ?_⟩
  · obtain ⟨a, C, ws, e, l, _⟩ := h
    rw [e, List.length_cons, l, hn]
  · obtain ⟨a, C, ws, rfl, l, T, hno, h0, k2⟩ := h
    have hs : (L2.start N (V.ref a :: ws))[0]? = some (some (.ref a)) := start_var rfl
    refine ⟨.ref a, hs, a, C, [.str msg], rfl, by show 1 ≤ 1000; decide, T, h0, ?_⟩
    have hz : (fs.zip (List.range' 1 fs.length)) = ((fs.zip ((List.range' 1 fs.length).zip ws)).map fun q => (q.1, q.2.1)) := by
      refine List.ext_getElem? fun i => ?_
      rw [List.getElem?_map]
      by_cases hi : i < fs.length
      · rw [List.getElem?_eq_getElem (by rw [List.length_zip, List.length_range']; omega), List.getElem?_eq_getElem (by rw [List.length_zip, List.length_zip, List.length_range', l]; omega)]
        simp
      · rw [List.getElem?_eq_none (by rw [List.length_zip, List.length_range']; omega), List.getElem?_eq_none (by rw [List.length_zip, List.length_zip, List.length_range', l]; omega)]
        rfl
    have hz2 : ((fs.zip ((List.range' 1 fs.length).zip ws)).map fun q => (q.1, q.2.2)) = fs.zip ws := by
      refine List.ext_getElem? fun i => ?_
      rw [List.getElem?_map]
      by_cases hi : i < fs.length
      · rw [List.getElem?_eq_getElem (by rw [List.length_zip, List.length_zip, List.length_range', l]; omega), List.getElem?_eq_getElem (by rw [List.length_zip]; omega)]
        simp
      · rw [List.getElem?_eq_none (by rw [List.length_zip, List.length_zip, List.length_range', l]; omega), List.getElem?_eq_none (by rw [List.length_zip]; omega)]
        rfl
    show tFlds K (fs.zip (List.range' 1 fs.length)) _ _ _
    rw [hz]
    refine xst_all (H := H) T h0 hs _ [] H rfl (by rw [List.length_zip, List.length_nil]; omega) (fun q hq => ?_) fun H2 h2 => ?_
    · obtain ⟨i, hi⟩ := List.getElem?_of_mem hq
      have hlt := (List.getElem?_eq_some_iff.mp hi).1
      rw [List.length_zip, List.length_zip, List.length_range', l] at hlt
      have hlt2 : i < fs.length := by omega
      rw [List.getElem?_eq_getElem (by rw [List.length_zip, List.length_zip, List.length_range', l]; omega)] at hi
      have e1 := Option.some.inj hi
      simp only [List.getElem_zip, List.getElem_range', Nat.one_mul] at e1
      rw [← e1]
      refine ⟨hno _ (List.getElem_mem hlt2), start_var ?_⟩
      show (V.ref a :: ws)[1 + i]? = _
      rw [Nat.add_comm, List.getElem?_cons_succ, List.getElem?_eq_getElem (by omega)]
    · rw [hz2, List.append_nil] at h2
      cases hd : (fs.zip ws).reverse with
      | nil =>
        exfalso
        have h1 := congrArg List.length hd
        rw [List.length_reverse, List.length_zip, List.length_nil, l, Nat.min_self] at h1
        exact hn2 (List.length_eq_zero_iff.mp h1)
      | cons q r =>
        rw [hd] at h2
        obtain ⟨dx, a1, a2, a3, a4, a5⟩ := h2
        exact k2 dx H2 a1 a2 a3 (by rw [hd]; exact a4) a5
end
/-- such a def at its address; with the values of the arguments that may be left out -/
structure UnX (P' : Program) (w : World) (K : PySem.W.Frag) (mg : Str → Option Value) (base : Heap) (k : Nat) (f : Addr) (ps : List Str) (fs : List Str) (ed : List D) : Prop where
  ex : ∃ fd ds dvs, FnOk P' w K mg base (L2.CX P' w) k f fd ps (spXI K fs) ∧ Binds K fd ps ds ∧ Vals dvs ds ∧ ∀ H, IsL K H dvs ed
theorem isK_zip {K : PySem.W.Frag} {H : Hp} {fs : List Str} {ws : List V} {ds : List D} (h : IsL K H ws ds) : IsK K H (fs.zip ws).reverse (fs.zip ds).reverse := by
  have hl : (fs.zip ws).length = (fs.zip ds).length := by rw [List.length_zip, List.length_zip, h.1]
  have key : ∀ (i : Nat) (x : Str × V) (d : Str × D), (fs.zip ws).reverse[i]? = some x → (fs.zip ds).reverse[i]? = some d → x.1 = d.1 ∧ Is K H x.2 d.2 := fun i x d hx hd => by
    have hi := (List.getElem?_eq_some_iff.mp hx).1
    rw [List.length_reverse] at hi
    rw [List.getElem?_reverse hi] at hx
    rw [List.getElem?_reverse (by omega), ← hl] at hd
    rw [List.getElem?_zip_eq_some] at hx hd
    obtain ⟨h1, h2⟩ := hx
    obtain ⟨h3, h4⟩ := hd
    rw [h1] at h3
    exact ⟨Option.some.inj h3, h.2 _ _ _ h2 h4⟩
  exact ⟨by rw [List.length_reverse, List.length_reverse, hl], fun i x d hx hd => (key i x d hx hd).1, fun i x d hx hd => (key i x d hx hd).2⟩
end Pd
set_option maxHeartbeats 1000000
namespace PySem.W
open PySem PySem.Spec PySem.Calls PyProof.Rows
section
variable {prog : Program} {w : World} {A : Around} {E : Value → Shared → Prop} {s : Shared} {K : Frag} {x D : Addr} {ox : Obj}
/-- a descriptor that takes what is stored is ahead of the object's own dict -/
theorem pd_bind {C : Addr} {od : Option Obj} {n : Str} {v g : Value} (hc : (clsIn K C).isSome = true) (hv : findIn K (.ref C) n = some (some v)) (hg : specialIn K v "__get__" = some (some g)) (ht : takesIn K v = some true) : findObj K C od n = some (.bind g v) := by
  obtain ⟨cd, e⟩ := Option.isSome_iff_exists.mp hc
  unfold findObj
  rw [e, Option.bind_some, hv, Option.bind_some]
  simp only [hg, ht, Option.bind_some]
/-- e.__class__, e an exception, with fields or without -/
theorem pd_class {od : Option Obj} {Q : Option Value → Shared → Prop} (T : L2.ExcC K D) (X : K.In s.heap) (I : InstAt s.heap x ox D od) (h : Q (some (.ref D)) { s with toks := s.toks + 1 }) : wpAny (model prog w) A (getAttr? (.ref x) "__class__") Q E s := by
  have hf : findObj K D od "__class__" = some (.bind (.builtin "getset_descriptor.__get__") (.builtin "object.__class__")) :=
    pd_bind (by obtain ⟨cd, hc, _⟩ := any_some T.hd; rw [hc]; rfl) T.ha T.hn T.ht
  obtain ⟨hp, g, d, t, os⟩ := s
  have ty := I.type (M := model prog w)
  have sub : Looks (model prog w) hp (isInstance (.ref x) (.type "BaseException")) true := ty.andThen (looks_subIn X T.hs)
  have ne : (Value.builtin "BaseException.__getattribute__" == Value.builtin "object.__getattribute__") = false := by decide +kernel
  unfold getAttr? getAttrBy? getAttrBy
  refine wpAny_bind (wpAny_mkText (wpAny_bind (wpAny_attempt (wpAny_holding (wpAny_bind (ty.at (wpAny_bind ((looks_findIn (M := model prog w) X T.hg).at ?_))))))))
  show wpAny _ _ (if (onTheHeap (Value.ref D) && Value.builtin "BaseException.__getattribute__" == Value.builtin "object.__getattribute__") = true then _ else _) _ _ _
  rw [if_neg (by rw [ne]; exact Bool.false_ne_true)]
  unfold getAttrByItsOwn hookBefore
  refine wpAny_bind ?_
  rw [if_pos (show onTheHeap (Value.ref D) = true from rfl)]
  refine (looks_findIn (M := model prog w) X T.hk).at ?_
  refine wpAny_bind (wpAny_attempt (wpAny_holding ?_))
  unfold callGetattribute
  rw [show (false && onTheHeap (Value.builtin "BaseException.__getattribute__")) = false from rfl, if_neg Bool.false_ne_true]
  unfold boundAndCalled
  rw [PySem.F.excAttr_ValueError.ga.bind (.ref x)]
  refine wpAny_bind (wpAny_pure ?_)
  show wpAny _ _ (call (.builtin "BaseException.__getattribute__") [.ref x, .str "__class__" t]) _ _ _
  refine wpAny_call (codeAny_call_builtin PySem.F.excAttr_ValueError.ga.plain PySem.F.entry_bexc_ga ?_)
  refine @check_slot (model prog w) _ _ ⟨hp, g, d, t + 1, os⟩ "BaseException.__getattribute__" "BaseException" "__getattribute__" (.ref x) [.str "__class__" t] [] _ (by decide +kernel) (by decide +kernel) sub (PySem.F.args_bexc_ga (.ref x) (.str "__class__" t)) ?_
  unfold Builtin.«object.__getattribute__»
  refine wpAny_bind (wpAny_of_eq (a := ((Value.ref x : Value), [Value.str "__class__" t])) (by first | rfl | (simp only [slotArgs]; rfl)) ?_)
  refine wpAny_bind (wpAny_pure (wpAny_bind (ty.at (wpAny_bind ((looks_find (M := model prog w) X I hf).at ?_)))))
  show wpAny _ _ (holding [Value.builtin "object.__class__"] (call (.builtin "getset_descriptor.__get__") [.builtin "object.__class__", .ref x, .ref D]) >>= ret) _ _ _
  refine wpAny_bind (wpAny_holding (wpAny_call (class_get (s := ⟨hp, g, d, t + 1, os⟩) X I T.hm ?_)))
  refine wpAny_pure ?_
  show wpAny _ _ (handedOut (.ref D)) _ _ _
  rw [handedOut_of (v := .ref D) rfl]
  first
    | exact wpAny_pure (wpAny_pure h)
    | exact wpAny_pure h
    | exact wpAny_pure (wpAny_bind (wpAny_pure (wpAny_pure h)))
theorem pd_kitx (T : L2.ExcC K D) : KitX K (.ref x) (.ref D) (fun h => ∃ od, InstAt h x ox D od) := by
  have hcls : ∃ c dd cd sl, K.lookup D = some ⟨c, dd, .cls cd, sl⟩ := by
    obtain ⟨cdD, hcD, _⟩ := any_some T.hd
    unfold clsIn at hcD
    split at hcD
    · rename_i c' d' cd' sl' ho
      exact ⟨c', d', cd', sl', ho⟩
    · cases hcD
  refine ⟨fun _ _ _ ⟨od, I⟩ => I.type, fun _ _ X _ => ?_, fun h tp dd its n sl X htp => ?_, fun X ⟨od, I⟩ k => pd_class T X I k⟩
  · obtain ⟨c, dd, cd, sl, h⟩ := hcls
    intro A' Q' E' s' k q
    unfold isType loadHead
    exact wpAny_bind (wpAny_loadPart (k _ _ (X _ _ h)) (wpAny_pure q))
  · refine Bool.eq_false_iff.mpr fun q => ?_
    have e : D = tp := Value.ref.inj (beq_iff_eq.mp q)
    subst e
    obtain ⟨c, dd', cd, sl', h'⟩ := hcls
    have z := (X _ _ h').symm.trans htp
    cases z
end
end PySem.W
namespace Pd
open PySem PySem.Spec PyProof.Rows L2
section
variable {K : PySem.W.Frag} {F0 : Bs} {H0 F H Fb Hb Fc : Hp} {m m' mL : List Bool} {ρ : Rho} {σ : L2.St} {W : WX}
theorem Rep.up (hm : m.all (!·) = true) (r : Rep K F0 H0 m ρ σ F H) : Rep K ⟨F, []⟩ H m ρ σ F H where
  len := r.len
  fh := r.fh
  f0 := .refl _
  h0 := .refl _
  new := fun p _ b => b
  val := r.val
  own := fun i d _ b => by
    have := List.all_eq_true.mp hm true (List.mem_of_getElem? b)
    cases this
  apart := fun i j p d e _ a => by
    have := List.all_eq_true.mp hm true (List.mem_of_getElem? a)
    cases this
  bor := fun b hb => nomatch hb
end
end Pd
set_option maxHeartbeats 1000000
namespace Pd
open PySem PySem.Spec PyProof.Rows L2
section
variable {K : PySem.W.Frag} {B : QB} {F1 H1 F H : Hp} {A1 A : List Addr} {ρ ρ1 : RhoQ} {M M1 : Mem} {σ σ1 : L2.St} {W : WX}
theorem RepQ.up (r : RepQ K B ρ M σ F H A) : RepQ K ⟨F, H, A⟩ ρ M σ F H A := ⟨r.len, r.cl, .refl, r.val⟩
theorem RepQ.wipe1 (r : RepQ K B ρ M σ F H A) (i : Nat) : RepQ K B (ρ.set i none) M (σ.set i none) F H A := by
  refine ⟨by rw [List.length_set, List.length_set, r.len], r.cl, r.ext, fun j q a => ?_⟩
  rcases getElem?_set_cases a with ⟨_, z, _⟩ | ⟨hj, z⟩
  · cases z
  · rw [List.getElem?_set_ne (Ne.symm hj)]
    exact r.val j q z
end
end Pd
set_option maxHeartbeats 1000000
set_option maxHeartbeats 1000000
set_option maxHeartbeats 1000000
namespace Pd
open PySem PySem.Spec PyProof.Rows L2
structure UnX1 (P' : Program) (w : World) (K : PySem.W.Frag) (mg : Str → Option Value) (base : Heap) (k : Nat) (f : Addr) (ps : List Str) (fs : List Str) : Prop where
  ex : ∃ fd, FnOk P' w K mg base (L2.CX P' w) k f fd ps (spXI K fs) ∧ Binds K fd ps [] ∧ ∃ ds, Vals [.non] ds ∧ Binds K fd ps ds
structure UnX0 (P' : Program) (w : World) (K : PySem.W.Frag) (mg : Str → Option Value) (base : Heap) (k : Nat) (f : Addr) (ps : List Str) (fs : List Str) : Prop where
  ex : ∃ fd, FnOk P' w K mg base (L2.CX P' w) k f fd ps (spXI K fs) ∧ Binds K fd ps []
structure UnF1 (P' : Program) (w : World) (K : PySem.W.Frag) (mg : Str → Option Value) (base : Heap) (k : Nat) (f : Addr) (ps : List Str) (G : List D → R D) : Prop where
  ex : ∃ fd, FnOk P' w K mg base (L2.CX P' w) k f fd ps (spD K G) ∧ Binds K fd ps [] ∧ PySem.W.keepIn K (.ref f) = true ∧ ∃ ds, Vals [.non] ds ∧ Binds K fd ps ds
section
variable {P' : Program} {w : World} {K : PySem.W.Frag} {mg : Str → Option Value} {base : Heap} {k j : Nat} {x qual c m : Str} {ps fs : List Str} {G : List D → R D} {GQ' : GF} {st : Stmt} {f : Addr}
theorem UnX0.full (h : UnX0 P' w K mg base k f ps fs) : UnX P' w K mg base k f ps fs [] := by
  obtain ⟨fd, a, b⟩ := h.ex
  exact ⟨fd, [], [], a, b, .nil, fun _ => .nil⟩
theorem UnX1.full (h : UnX1 P' w K mg base k f ps fs) : UnX P' w K mg base k f ps fs [] := by
  obtain ⟨fd, a, b, _⟩ := h.ex
  exact ⟨fd, [], [], a, b, .nil, fun _ => .nil⟩
theorem UnX1.dfl (h : UnX1 P' w K mg base k f ps fs) : UnX P' w K mg base k f ps fs [.non] := by
  obtain ⟨fd, a, _, ds, hv, b⟩ := h.ex
  exact ⟨fd, ds, [.non], a, b, hv, fun _ => IsL.cons .non .nil⟩
theorem un_x0 {N : List Str} {msg : Str} (fs : List Str) (Df : DefU K x qual st f ps) (Sc : FnScope N ps (defScope st)) (hn : ps.length = fs.length + 1) (hn2 : fs ≠ []) (hl : fs.length ≤ 100)
    (hb : ∀ (cdv : Value) (A : Around) (outer : List Env) (sh : Shared) (H : Hp) (E : XK), Room k (A.deeper (envOfC qual (defScope st) sh.heap.objs.size f cdv)) →
      PSs (cxOf (L2.CX P' w) P' w K mg base N qual (defScope st) f cdv A outer sh H E) (defBody st) (tXIni K msg (fs.zip (List.range' 1 fs.length)))) : UnX0 P' w K mg base (k + 1) f ps fs := by
  obtain ⟨fd, F, b⟩ := Df.ex
  exact ⟨fd, fn_xi fs F Sc hn hn2 hl hb, b⟩
theorem un_x1 {N : List Str} {msg : Str} (fs : List Str) (Df : DefU1 K x qual st f ps) (Sc : FnScope N ps (defScope st)) (hn : ps.length = fs.length + 1) (hn2 : fs ≠ []) (hl : fs.length ≤ 100)
    (hb : ∀ (cdv : Value) (A : Around) (outer : List Env) (sh : Shared) (H : Hp) (E : XK), Room k (A.deeper (envOfC qual (defScope st) sh.heap.objs.size f cdv)) →
      PSs (cxOf (L2.CX P' w) P' w K mg base N qual (defScope st) f cdv A outer sh H E) (defBody st) (tXIni K msg (fs.zip (List.range' 1 fs.length)))) : UnX1 P' w K mg base (k + 1) f ps fs := by
  obtain ⟨fd, F, b, b1⟩ := Df.ex
  exact ⟨fd, fn_xi fs F Sc hn hn2 hl hb, b, b1⟩
theorem UnF1.full (h : UnF1 P' w K mg base k f ps G) : UnF P' w K mg base k f ps G := by
  obtain ⟨fd, a, b, c, _⟩ := h.ex
  exact ⟨fd, a, b, c⟩
theorem xf_ok {K : PySem.W.Frag} {x y : Str} (h : xfB K (He.ga K x) = true) (h2 : decide (PySem.W.findIn K (.ref (He.ga K x)) y = some none) = true) : XfC K (He.ga K x) ∧ PySem.W.findIn K (.ref (He.ga K x)) y = some none := ⟨xfB_ok h, of_decide_eq_true h2⟩
theorem pass_f {X : Cx} {W : WX} (tk : Takes X W) : Passes (L2.CX X.prog X.w) X (fun _ _ _ => False) := passes_call tk fun _ _ _ _ h => h.elim
end
end Pd
set_option maxHeartbeats 1000000
set_option maxHeartbeats 1000000
namespace Pd
open PySem PySem.Spec PyProof.Rows L2
def afterQT (K : PySem.W.Frag) (W : WX) (σ : L2.St) (F H : Hp) (A : List Addr) (r : RQ Bool) (Q : Bool → Hp → Prop) : Prop := match r with
  | .ok b M => ∀ F' H' A', ExtQ F H A F' H' A' → Cells K F' H' A' M → Q b H'
  | .ex x M => ExK K W σ F H A x M
  | .st => False
section
variable {K : PySem.W.Frag} {B : QB} {W : WX} {F H F1 H1 : Hp} {A A1 : List Addr} {M M1 : Mem} {ρ : RhoQ} {σ : L2.St}
theorem afterQT.ext {r : RQ Bool} {Q : Bool → Hp → Prop} (h : afterQT K W σ F H A r Q) (e : ExtQ F H A F1 H1 A1) (c : Cells K F1 H1 A1 M1) : afterQT K W σ F1 H1 A1 r Q := by
  cases r with
  | ok p M2 => exact fun F' H' A' y cy => h F' H' A' (e.trans c y) cy
  | ex x M2 => exact ExK.ext (M1 := M1) h e c
  | st => exact h
end
end Pd
set_option maxHeartbeats 1000000
set_option maxHeartbeats 1000000
set_option maxHeartbeats 1000000
namespace L2
open PySem PySem.Spec PyProof.Rows
end L2
set_option maxHeartbeats 1000000
set_option maxHeartbeats 1000000
namespace Pd
open PySem PySem.Spec PyProof.Rows L2 PySem.Froz
section
variable {P : Program} {w : World} {A : Around} {E : Value → Shared → Prop} {s : Shared}
/-- the texts met so far -/
def MetS (ks : List Str) (i : Nat) (l : List Str) : Prop := (∀ x, x ∈ l ↔ x ∈ ks.take i) ∧ l.length ≤ i
theorem take_one {ks : List Str} {i : Nat} {k : Str} (h : ks[i]? = some k) : ks.take (i + 1) = ks.take i ++ [k] := by
  rw [List.take_succ, h]
  rfl
theorem MetS.new {ks l : List Str} {i : Nat} {k : Str} (m : MetS ks i l) (h : ks[i]? = some k) : MetS ks (i + 1) (k :: l) := by
  refine ⟨fun x => ?_, Nat.succ_le_succ m.2⟩
  rw [take_one h, List.mem_append, List.mem_singleton, List.mem_cons, m.1 x]
  exact Or.comm
end
end Pd
set_option maxHeartbeats 3200000
set_option maxHeartbeats 1600000
set_option maxHeartbeats 1600000
set_option maxHeartbeats 1000000
set_option maxHeartbeats 1000000
set_option maxHeartbeats 1000000
set_option maxHeartbeats 4000000
set_option maxHeartbeats 4000000
namespace Pd
open PySem PySem.Spec PyProof.Rows L2
/-- C(e, ..), C's own __init__ keeping sp: the exception stays -/
def tMkE (C : Addr) (sp : Sp) (dvs : List V) (ta : TA) : TE := fun σ H Q => ta σ H fun vs H1 => vs.length ≤ 1000 ∧ ∀ a, H1 a = none → sp (.ref a :: (vs ++ dvs)) (upd H1 a (exo a C none))
  (fun v H2 => v = .non ∧ Q (.ref a) H2) (fun _ _ _ => False)
section
variable {X : Cx} {o e : Expr} {es : List Expr} {to te : TE} {ta : TA} {f : Str} {p p' p1 p2 pos : Pos}
theorem pe_oexE {CX : CXT} {x : Str} {C fI : Addr} {k : Nat} {fd : FuncData} {ps : List Str} {sp : Sp} {ds : List Value} {dvs : List V} (T : OexC X.K C) (iC : PySem.W.findIn X.K (.ref C) "__init__" = some (some (.ref fI))) (tI : PySem.W.typeIn X.K (.ref fI) = some (.type "function"))
    (F1 : FnOk X.prog X.w X.K X.mg X.base CX k fI fd ps sp) (hr : Room (k + 1) X.A) (hb : Binds X.K fd ps ds) (hd : Vals dvs ds) (hx : Passes CX X (fun _ _ _ => False)) (hg : Gl X x) (hm : X.mg x = some (.ref C)) (ha : PA X (e :: es) ta)
    (hdb : (x == ("__debug__" : Str)) = false := by decide) (he : starEach (e :: es) X.env = (false, eval e X.env) :: starEach es X.env := by rfl) (hpl : (backTo pos (starEach es X.env)).any (·.1) = false := by rfl) :
    PE X (.Call (.Name x p) (e :: es) [] pos) (tMkE C sp dvs ta) := by
  refine ⟨fun pins s σ H Q I h => ?_⟩
  obtain ⟨nm, q, N, bs, bm, sn, sub, ab, col, dd, k0, k1, k2, k3, k5, hC, hbm⟩ := T.cls
  refine wpAny_Call_Name_kw (ld_glob I hg hm ?_ hdb)
  refine PySem.W.callWith_K (h₀ := X.base) I.ok.mod.kin T.kC (thn (ha.run pos pins s σ H _ I h) fun us s1 ⟨vs, H1, I1, r1, hz, q1⟩ => ⟨I1.kIn, ?_⟩) he hpl
  show wpAny _ _ (call (.ref C) us) _ _ _
  obtain ⟨hp, g, dr, tk, os⟩ := s1
  have hsz : hp.objs.size ≤ hp.objs.size + 1 := Nat.le_succ _
  have hn : H1 (hp.objs.size + 1) = none := I1.hok.fresh hsz
  have hq := q1 (hp.objs.size + 1) hn
  have kk : ∀ b o, hp.get? b = some o → ((hp.push (PySem.W.kdv_tup us)).push (PySem.HandSPX.excO C hp.objs.size)).get? b = some o := fun b o e => Heap.get?_push_of_some _ (Heap.get?_push_of_some _ e)
  have hget : ((hp.push (PySem.W.kdv_tup us)).push (PySem.HandSPX.excO C hp.objs.size)).get? (hp.objs.size + 1) = some (PySem.HandSPX.excO C hp.objs.size) := by heap_get
  have I2 : Inv X pins σ (upd H1 (hp.objs.size + 1) (exo (hp.objs.size + 1) C none)) ⟨(hp.push (PySem.W.kdv_tup us)).push (PySem.HandSPX.excO C hp.objs.size), g, dr, tk, os⟩ :=
    I1.laid (t' := tk) (a := hp.objs.size + 1) (o := exo (hp.objs.size + 1) C none) (h' := (hp.push (PySem.W.kdv_tup us)).push (PySem.HandSPX.excO C hp.objs.size)) kk hsz (exo_ok hget)
  have r2 : Vals (V.ref (hp.objs.size + 1) :: (vs ++ dvs)) (Value.ref (hp.objs.size + 1) :: (us ++ ds)) := .cons rfl (r1.append hd)
  have hl : (Value.ref (hp.objs.size + 1) :: us ++ ds).length = ps.length := by
    have e := r2.length
    rw [F1.len _ _ _ _ hq] at e
    exact e.symm
  have hus : us.length ≤ sizeLine := by
    rw [← Paired.length r1, sizeLine_eq]
    omega
  refine wpAny_call (PySem.HandSPX.call_own F.excBase_ValueError (fun Y => PySem.HandSPX.refsVE_contains Y bm hbm) (I1.kIn _ _ hC) (PySem.W.looks_findIn I1.kIn iC) (fun self => PySem.W.bind_fn I1.kIn self tI) hus
    (codeAny_mono (F1.run _ X.stack _ _ ⟨Value.ref (hp.objs.size + 1) :: us, []⟩ (Value.ref (hp.objs.size + 1) :: (us ++ ds)) _ _ (fun _ _ _ => False) (hr.make C us []) (I2.env0.make C us []) (hb _ (Value.ref (hp.objs.size + 1) :: us) I2.kIn hl) r2 hq) fun r s' hq' => ?_))
  cases r with
  | error er => exact hx pins σ _ _ er s' I2 hq'
  | ok fl =>
    cases fl with
    | ret u =>
      obtain ⟨v, H2, os2, bare2, un2, hok2, rv, ev, q2⟩ := hq'
      subst ev
      obtain ⟨h2, g2, d2, t2, os'⟩ := s'
      exact ⟨rv, .ref (hp.objs.size + 1), H2, I2.call' (ch := []) os2 un2 hok2 bare2 (fun b z => absurd z (by simp)), rfl, q2⟩
    | next => exact False.elim hq'
    | brk => exact False.elim hq'
    | cont => exact False.elim hq'
/-- e.f, e an exception in the heap -/
def tXfH (K : PySem.W.Frag) (f : Str) (te : TE) : TE := fun σ H Q => te σ H fun x H1 => ∃ (a C dd : Addr) (fs : List (Str × V)) (v : V), x = .ref a ∧ XfC K C ∧ PySem.W.findIn K (.ref C) f = some none ∧ H1 a = some (exo a C (some dd)) ∧ H1 dd = some (exd dd fs) ∧ fs.lookup f = some v ∧ Q v H1
theorem pe_xfH {n : Str} (he : PE X e te) (hb : attributeBase e n X.env (eval e X.env) = eval e X.env := by rfl) : PE X (.Attribute e n pos) (tXfH X.K n te) := by
  refine ⟨fun pins s σ H Q I h => ?_⟩
  refine attr_of hb (thn (he.run pins s σ H _ I h) fun u s1 hh => ?_)
  obtain ⟨x, H1, I1, rx, a, C, dd, fs, v, ex, T, hno, ea, ed, l, q⟩ := hh
  subst ex
  obtain rfl : u = Value.ref a := rx
  obtain ⟨t1, ha⟩ := exo_at I1.hok ea
  obtain ⟨mA, hns, hr⟩ := exd_at I1.hok ed
  obtain ⟨od, ho, hl⟩ := lookIn_ns hns
  obtain ⟨u, hu, ru⟩ := RelO.some_of (v := v) (o := mA n) (by rw [← l]; exact hr n)
  have J : PySem.W.InstAt s1.heap a _ C (some od) := ⟨ha, rfl, rfl, ho⟩
  exact HandSPX.exc_get I1.kIn J T.ga T.gg T.exC (PySem.W.findObj_own T.hdC hno rfl (by rw [hl, hu])) (handed_of ru) ⟨v, H1, I1.tok _, ru, q⟩
end
end Pd
set_option maxHeartbeats 4000000
namespace Pd
open PySem PySem.Spec PyProof.Rows L2
section
variable {X : Cx}
def rIsH (K : PySem.W.Frag) : List V → Hp → VK → Prop := fun xs H Q => ∃ (a D : Addr) (d : Option Addr) (c : V) (cv : Value) (b : Bool), xs = [.ref a, c] ∧ H a = some (exo a D d) ∧ ExcC K D ∧ (∀ dd, d = some dd → ∃ fs, H dd = some (exd dd fs)) ∧ (∀ u, RelV c u → u = cv) ∧ PySem.W.kitOne K (.ref D) cv = some b ∧ Q (.bl b) H
theorem call_isH : CallR X (.builtin "isinstance") (rIsH X.K) := by
  intro pins s σ H xs us Q I r h
  obtain ⟨a, D, d, c, cv, b, rfl, ea, C, hx, hcv, e, q⟩ := h
  obtain ⟨u1, u2, rfl, r1, r2⟩ := vals2 r
  cases (show u1 = Value.ref a from r1)
  have ec := hcv _ r2
  subst ec
  obtain ⟨t1, hget⟩ := exo_at I.hok ea
  have J : ∃ od, PySem.W.InstAt s.heap a ({ cls := .ref D, dict := d, data := .fields #[.ref t1, .none, .none, .none, .bool false, .none] } : Obj) D od := by
    cases d with
    | none => exact ⟨none, hget, rfl, rfl, True.intro⟩
    | some dd =>
      obtain ⟨ys, hy⟩ := hx dd rfl
      obtain ⟨mA, hns, _⟩ := exd_at I.hok hy
      obtain ⟨od, ho, _⟩ := lookIn_ns hns
      exact ⟨some od, hget, rfl, rfl, ho⟩
  exact PySem.W.kia_one (PySem.W.pd_kitx C) I.kIn J e (fun z => nomatch z) fun tk => ⟨.bl b, H, I.kept (t' := tk) fun _ _ z => z, rfl, q⟩
/-- X(e, ..), X an own exception class without own __init__: the exception stays -/
theorem pe_ownE {C : Addr} {bmB : List Value} {B newId initId : String} {x : Str} {p pos : Pos} {e : Expr} {es : List Expr} {t : TA} (F : ExcBaseFacts B newId initId bmB) (q : PySem.W.excIn X.K C bmB newId = true) (gC : X.mg x = some (.ref C))
    (kC : PySem.W.keepIn X.K (.ref C) = true) (hg : Gl X x) (ha : PA X (e :: es) t) (hdb : (x == ("__debug__" : Str)) = false := by decide)
    (he : starEach (e :: es) X.env = (false, eval e X.env) :: starEach es X.env := by rfl) (hpl : (backTo pos (starEach es X.env)).any (·.1) = false := by rfl) :
    PE X (.Call (.Name x p) (e :: es) [] pos) (fun σ H Q => t σ H fun vs H1 => vs.length ≤ sizeLine ∧ ∀ a, H1 a = none → Q (.ref a) (upd H1 a (exo a C none))) := by
  refine ⟨fun pins s σ H Q I h => ?_⟩
  refine wpAny_Call_Name_kw (ld_glob I hg gC ?_ hdb)
  refine PySem.W.callWith_K (h₀ := X.base) I.ok.mod.kin kC (thn (ha.run pos pins s σ H _ I h) fun us s1 ⟨vs, H1, I1, r1, hz, q1⟩ => ⟨I1.kIn, ?_⟩) he hpl
  show wpAny _ _ (call (.ref C) us) _ _ _
  obtain ⟨bm, N, nm, qn, bs, hdct, sn, sub, ab, col, dd, k0, k1, k2, k3, k5, mN, hC, hN, hni, T⟩ := exc_obj I1.kIn q
  refine wpAny_call_exc_subT F T hC hN hni (fun h' e hm => ?_) (by rw [← r1.length]; exact hz)
  obtain ⟨t, he, _, _⟩ := hm.there
  exact ⟨.ref e, upd H1 e (exo e C none), I1.laidN (t' := s1.toks) hm.keeps hm.new (I1.hok.gone hm.new) (exo_ok he), rfl, q1 e (I1.hok.gone hm.new)⟩
theorem pe_ownE0 {C : Addr} {bmB : List Value} {B newId initId : String} {x : Str} {p pos : Pos} (F : ExcBaseFacts B newId initId bmB) (q : PySem.W.excIn X.K C bmB newId = true) (gC : X.mg x = some (.ref C))
    (kC : PySem.W.keepIn X.K (.ref C) = true) (hg : Gl X x) (hdb : (x == ("__debug__" : Str)) = false := by decide) :
    PE X (.Call (.Name x p) [] [] pos) (fun _ H Q => ∀ a, H a = none → Q (.ref a) (upd H a (exo a C none))) := by
  refine ⟨fun pins s σ H Q I h => ?_⟩
  refine wpAny_Call_Name_kw (ld_glob I hg gC ?_ hdb)
  refine PySem.W.callWith_K0 I.kIn kC ?_
  show wpAny _ _ (call (.ref C) []) _ _ _
  obtain ⟨bm, N, nm, qn, bs, hdct, sn, sub, ab, col, dd, k0, k1, k2, k3, k5, mN, hC, hN, hni, T⟩ := exc_obj I.kIn q
  refine wpAny_call_exc_subT F T hC hN hni (fun h' e hm => ?_) (Nat.zero_le _)
  obtain ⟨t, he, _, _⟩ := hm.there
  exact ⟨.ref e, upd H e (exo e C none), I.laidN (t' := s.toks) hm.keeps hm.new (I.hok.gone hm.new) (exo_ok he), rfl, h e (I.hok.gone hm.new)⟩
end
end Pd
set_option maxHeartbeats 4000000
set_option maxHeartbeats 4000000
namespace Pd
open PySem PySem.Spec PyProof.Rows L2
def gMkX (x : Str) (fs : List Str) (ed : List D) (t : Rho → R (List D)) : Rho → R D := fun ρ => (t ρ).bind fun ds => if (ds ++ ed).length = fs.length ∧ fs ≠ [] ∧ fs.length ≤ 100 then .ok (.exc x (fs.zip (ds ++ ed)).reverse) else .st
def gOwnX (x : Str) (t : Rho → R (List D)) : Rho → R D := fun ρ => (t ρ).bind fun ds => if ds.length ≤ sizeLine then .ok (.exc x []) else .st
def xfD (cs : List Str) (f : Str) : D → R D
  | .exc c fs => if cs.contains c = true then (match fs.lookup f with
    | some d => .ok d
    | none => .st) else .st
  | _ => .st
def isiXD (tb : List (Str × Bool)) : D → R D
  | .exc c _ => match tb.lookup c with
    | some b => .ok (.bl b)
    | none => .st
  | _ => .st
section
variable {X : Cx} {F0 : Bs} {H0 : Hp} {m : List Bool} {W : WX} {pos : Pos} {x : Str} {f : Addr} {fs ps : List Str} {ed : List D} {t : Rho → R (List D)} {g : Rho → R D} {e c : Expr} {es : List Expr} {p p2 pos' : Pos} {j k : Nat}
theorem d_mkX (Fx : RaiK X.K X.mg x f fs) (U : UnX X.prog X.w X.K X.mg X.base k f ps fs ed) (hr : Room j X.A) (hj : k + 1 ≤ j) (hx : Passes (L2.CX X.prog X.w) X (fun _ _ _ => False)) (ha : DA X F0 H0 m W (e :: es) t) (hg : Gl X x := by rfl) (hdb : (x == ("__debug__" : Str)) = false := by decide)
    (he : starEach (e :: es) X.env = (false, eval e X.env) :: starEach es X.env := by rfl) (hpl : (backTo pos' (starEach es X.env)).any (·.1) = false := by rfl) :
    DE X F0 H0 m W (.Call (.Name x p) (e :: es) [] pos') (gMkX x fs ed t) := by
  obtain ⟨fd, ds0, dvs, F, hb, hd, hed⟩ := U.ex
  refine pe_imp (pe_oexE Fx.ox Fx.ini Fx.ty F (hr.mono hj) hb hd hx hg Fx.gC ha hdb he hpl) fun σ H Q ⟨ρ, F, r, h⟩ => ?_
  refine semA_bind (k := fun ds => if (ds ++ ed).length = fs.length ∧ fs ≠ [] ∧ fs.length ≤ 100 then .ok (.exc x (fs.zip (ds ++ ed)).reverse) else .st) r h fun ds vs F1 H1 _ i1 r1 h1 => ?_
  by_cases hl : (ds ++ ed).length = fs.length ∧ fs ≠ [] ∧ fs.length ≤ 100
  case neg => rw [if_neg hl] at h1; exact h1.elim
  rw [if_pos hl] at h1
  have iv : IsL X.K F1 (vs ++ dvs) (ds ++ ed) := IsL.append i1 (hed F1)
  refine ⟨by have := i1.1; have := hl.1; have := hl.2.2; rw [List.length_append] at *; omega, fun a na => ?_⟩
  refine ⟨a, He.ga X.K x, vs ++ dvs, rfl, by rw [iv.1]; exact hl.1, Fx.ox, Fx.no, upd_same, fun dx H' hdx ne h2 h3 h4 => ⟨rfl, ?_⟩⟩
  rw [upd_ne ne] at hdx
  have eH : H' = upd (upd H1 a (exo a (He.ga X.K x) (some dx))) dx (exd dx (fs.zip (vs ++ dvs)).reverse) := by
    funext b
    by_cases hb1 : b = dx
    · rw [hb1, upd_same]; exact h3
    · rw [upd_ne hb1]
      by_cases hb2 : b = a
      · rw [hb2, upd_same]; exact h2
      · rw [upd_ne hb2, h4 b hb2 hb1, upd_ne hb2]
  rw [eH]
  have xa := Ext.laid (o := exo a (He.ga X.K x) (some dx)) r1.fh na
  have hdx' : upd H1 a (exo a (He.ga X.K x) (some dx)) dx = none := by rw [upd_ne ne]; exact hdx
  have xb := Ext.laid (o := exd dx (fs.zip (vs ++ dvs)).reverse) xa.fh hdx'
  have kz := isK_zip (fs := fs) (iv.mono (xa.trans xb).ff)
  exact h1 (.ref a) _ _ (xa.trans xb) (.exc (by rw [upd_ne (Ne.symm ne)]; exact upd_same) upd_same kz.1 kz.2.1 kz.2.2)
theorem d_ownX (Fx : ExcF X x) (ha : DA X F0 H0 m W (e :: es) t) (hg : Gl X x := by rfl) (hdb : (x == ("__debug__" : Str)) = false := by decide)
    (he : starEach (e :: es) X.env = (false, eval e X.env) :: starEach es X.env := by rfl) (hpl : (backTo pos' (starEach es X.env)).any (·.1) = false := by rfl) :
    DE X F0 H0 m W (.Call (.Name x p) (e :: es) [] pos') (gOwnX x t) := by
  refine pe_imp (pe_ownE F.excBase_ValueError Fx.q Fx.gC Fx.kC hg ha hdb he hpl) fun σ H Q ⟨ρ, F, r, h⟩ => ?_
  refine semA_bind (k := fun ds => if ds.length ≤ sizeLine then .ok (.exc x []) else .st) r h fun ds vs F1 H1 _ i1 r1 h1 => ?_
  by_cases hl : ds.length ≤ sizeLine
  case neg => rw [if_neg hl] at h1; exact h1.elim
  rw [if_pos hl] at h1
  refine ⟨by rw [i1.1]; exact hl, fun a na => ?_⟩
  exact h1 (.ref a) _ _ (Ext.laid (o := exo a (He.ga X.K x) none) r1.fh na) (.exc0 upd_same)
theorem d_ownX0 (Fx : ExcF X x) (hg : Gl X x := by rfl) (hdb : (x == ("__debug__" : Str)) = false := by decide) :
    DE X F0 H0 m W (.Call (.Name x p) [] [] pos') (gC (.exc x [])) := by
  refine pe_imp (pe_ownE0 F.excBase_ValueError Fx.q Fx.gC Fx.kC hg hdb) fun σ H Q ⟨ρ, F, r, h⟩ => fun a na => ?_
  have h1 : after X.K W σ F H (.ok (.exc x [])) Q := h
  exact h1 (.ref a) _ _ (Ext.laid (o := exo a (He.ga X.K x) none) r.fh na) (.exc0 upd_same)
theorem d_xf {n : Str} (cs : List Str) (C : ∀ c ∈ cs, XfC X.K (He.ga X.K c) ∧ PySem.W.findIn X.K (.ref (He.ga X.K c)) n = some none) (he : DE X F0 H0 m W e g) (hb : attributeBase e n X.env (eval e X.env) = eval e X.env := by rfl) :
    DE X F0 H0 m W (.Attribute e n pos) (g1 (xfD cs n) g) := by
  refine pe_imp (pe_xfH he hb) fun σ H Q ⟨ρ, F, r, h⟩ => ?_
  refine sem_bind (k := xfD cs n) r h fun d v F1 H1 _ i1 r1 h1 => ?_
  cases d with
  | exc c xs =>
    have h2 : after X.K W σ F1 H1 (if cs.contains c = true then (match xs.lookup n with | some d => .ok d | none => .st) else .st) Q := h1
    by_cases hc : cs.contains c = true
    · rw [if_pos hc] at h2
      cases hl : xs.lookup n with
      | none => rw [hl] at h2; exact h2.elim
      | some d =>
        rw [hl] at h2
        have h3 : after X.K W σ F1 H1 (.ok d) Q := h2
        obtain ⟨C1, C2⟩ := C c (by simpa using hc)
        cases i1 with
        | exc0 _ => cases hl
        | exc g1 g2 l e1 e2 =>
          obtain ⟨u, l1, l2⟩ := (isK_lookup ⟨l, e1, e2⟩).1 _ hl
          exact ⟨_, _, _, _, u, rfl, C1, C2, r1.fh _ _ g1, r1.fh _ _ g2, l1, after.now h3 r1.fh l2⟩
    · rw [if_neg hc] at h2
      exact h2.elim
  | _ => exact h1.elim
theorem d_isXD (cn : CN) {tb : List (Str × Bool)} (C : ∀ q ∈ tb, ExcC X.K (He.ga X.K q.1) ∧ PySem.W.kitOne X.K (.ref (He.ga X.K q.1)) (cn.u X.K) = some q.2) (hm : X.mg "isinstance" = none) (ha : DE X F0 H0 m W e g) (hc : PE X c (tC (cn.v X.K))) (hg : Gl X "isinstance" := by rfl)
    (hs : starEach [e, c] X.env = (false, eval e X.env) :: starEach [c] X.env := by rfl) (hs2 : starEach [c] X.env = (false, eval c X.env) :: starEach [] X.env := by rfl)
    (hpl : (backTo pos (starEach [c] X.env)).any (·.1) = false := by rfl) :
    DE X F0 H0 m W (.Call (.Name "isinstance" p) [e, c] [] pos) (g1 (isiXD tb) g) := by
  refine pe_imp (pe_callB call_isH hg hm (by decide +kernel) (pa_cons ha (pa_cons hc pa_nil hs2) hs) (by decide) (by decide) hs hpl) fun σ H Q ⟨ρ, F, r, h⟩ => ?_
  refine sem_bind (k := isiXD tb) r h fun d v F1 H1 _ i1 r1 h1 => ?_
  cases d with
  | exc c xs =>
    have h2 : after X.K W σ F1 H1 (match tb.lookup c with | some b => .ok (.bl b) | none => .st) Q := h1
    cases hl : tb.lookup c with
    | none => rw [hl] at h2; exact h2.elim
    | some b =>
      rw [hl] at h2
      have h3 : after X.K W σ F1 H1 (.ok (.bl b)) Q := h2
      obtain ⟨C1, C2⟩ := C _ (lookup_mem hl)
      cases i1 with
      | exc0 g1 => exact ⟨_, _, _, _, cn.u X.K, b, rfl, r1.fh _ _ g1, C1, (fun dd z => nomatch z), fun u ru => cn.rel ru, C2, after.now h3 r1.fh (.bl b)⟩
      | exc g1 g2 l e1 e2 => exact ⟨_, _, _, _, cn.u X.K, b, rfl, r1.fh _ _ g1, C1, (fun dd z => by cases z; exact ⟨_, r1.fh _ _ g2⟩), fun u ru => cn.rel ru, C2, after.now h3 r1.fh (.bl b)⟩
  | _ => exact h1.elim
end
end Pd
namespace Pd
open PySem PySem.Spec PyProof.Rows L2
noncomputable section
def tbi_BadPanel : List (Str × Bool) := [("LeafError", false), ("BadPanel", true), ("NoChoice", false), ("BadCond", false), ("BadEdit", false), ("BadPage", false), ("Unlike", false), ("NoEdit", false), ("NotLive", false), ("IsLive", false), ("StandsOn", false), ("NoRow", false), ("NoEditor", false), ("EditError", false), ("NoPart", false), ("Doubled", false), ("Lost", false), ("Ring", false), ("NoHolder", false), ("WrongKind", false), ("Far", false), ("TooLong", false)]
def tbi_NoChoice : List (Str × Bool) := [("LeafError", false), ("BadPanel", false), ("NoChoice", true), ("BadCond", false), ("BadEdit", false), ("BadPage", false), ("Unlike", false), ("NoEdit", false), ("NotLive", false), ("IsLive", false), ("StandsOn", false), ("NoRow", false), ("NoEditor", false), ("EditError", false), ("NoPart", false), ("Doubled", false), ("Lost", false), ("Ring", false), ("NoHolder", false), ("WrongKind", false), ("Far", false), ("TooLong", false)]
def tbi_BadCond : List (Str × Bool) := [("LeafError", false), ("BadPanel", false), ("NoChoice", false), ("BadCond", true), ("BadEdit", false), ("BadPage", false), ("Unlike", false), ("NoEdit", false), ("NotLive", false), ("IsLive", false), ("StandsOn", false), ("NoRow", false), ("NoEditor", false), ("EditError", false), ("NoPart", false), ("Doubled", false), ("Lost", false), ("Ring", false), ("NoHolder", false), ("WrongKind", false), ("Far", false), ("TooLong", false)]
def tbi_BadEdit : List (Str × Bool) := [("LeafError", false), ("BadPanel", false), ("NoChoice", false), ("BadCond", false), ("BadEdit", true), ("BadPage", false), ("Unlike", false), ("NoEdit", false), ("NotLive", false), ("IsLive", false), ("StandsOn", false), ("NoRow", false), ("NoEditor", false), ("EditError", false), ("NoPart", false), ("Doubled", false), ("Lost", false), ("Ring", false), ("NoHolder", false), ("WrongKind", false), ("Far", false), ("TooLong", false)]
def tbi_NoRow : List (Str × Bool) := [("LeafError", false), ("BadPanel", false), ("NoChoice", false), ("BadCond", false), ("BadEdit", false), ("BadPage", false), ("Unlike", false), ("NoEdit", false), ("NotLive", false), ("IsLive", false), ("StandsOn", false), ("NoRow", true), ("NoEditor", false), ("EditError", false), ("NoPart", false), ("Doubled", false), ("Lost", false), ("Ring", false), ("NoHolder", false), ("WrongKind", false), ("Far", false), ("TooLong", false)]
def tbi_BadPage : List (Str × Bool) := [("LeafError", false), ("BadPanel", false), ("NoChoice", false), ("BadCond", false), ("BadEdit", false), ("BadPage", true), ("Unlike", false), ("NoEdit", false), ("NotLive", false), ("IsLive", false), ("StandsOn", false), ("NoRow", false), ("NoEditor", false), ("EditError", false), ("NoPart", false), ("Doubled", false), ("Lost", false), ("Ring", false), ("NoHolder", false), ("WrongKind", false), ("Far", false), ("TooLong", false)]
def tbi_Unlike : List (Str × Bool) := [("LeafError", false), ("BadPanel", false), ("NoChoice", false), ("BadCond", false), ("BadEdit", false), ("BadPage", false), ("Unlike", true), ("NoEdit", false), ("NotLive", false), ("IsLive", false), ("StandsOn", false), ("NoRow", false), ("NoEditor", false), ("EditError", false), ("NoPart", false), ("Doubled", false), ("Lost", false), ("Ring", false), ("NoHolder", false), ("WrongKind", false), ("Far", false), ("TooLong", false)]
def tbi_NoEdit : List (Str × Bool) := [("LeafError", false), ("BadPanel", false), ("NoChoice", false), ("BadCond", false), ("BadEdit", false), ("BadPage", false), ("Unlike", false), ("NoEdit", true), ("NotLive", false), ("IsLive", false), ("StandsOn", false), ("NoRow", false), ("NoEditor", false), ("EditError", false), ("NoPart", false), ("Doubled", false), ("Lost", false), ("Ring", false), ("NoHolder", false), ("WrongKind", false), ("Far", false), ("TooLong", false)]
def tbi_NotLive : List (Str × Bool) := [("LeafError", false), ("BadPanel", false), ("NoChoice", false), ("BadCond", false), ("BadEdit", false), ("BadPage", false), ("Unlike", false), ("NoEdit", false), ("NotLive", true), ("IsLive", false), ("StandsOn", false), ("NoRow", false), ("NoEditor", false), ("EditError", false), ("NoPart", false), ("Doubled", false), ("Lost", false), ("Ring", false), ("NoHolder", false), ("WrongKind", false), ("Far", false), ("TooLong", false)]
def tbi_IsLive : List (Str × Bool) := [("LeafError", false), ("BadPanel", false), ("NoChoice", false), ("BadCond", false), ("BadEdit", false), ("BadPage", false), ("Unlike", false), ("NoEdit", false), ("NotLive", false), ("IsLive", true), ("StandsOn", false), ("NoRow", false), ("NoEditor", false), ("EditError", false), ("NoPart", false), ("Doubled", false), ("Lost", false), ("Ring", false), ("NoHolder", false), ("WrongKind", false), ("Far", false), ("TooLong", false)]
def tbi_StandsOn : List (Str × Bool) := [("LeafError", false), ("BadPanel", false), ("NoChoice", false), ("BadCond", false), ("BadEdit", false), ("BadPage", false), ("Unlike", false), ("NoEdit", false), ("NotLive", false), ("IsLive", false), ("StandsOn", true), ("NoRow", false), ("NoEditor", false), ("EditError", false), ("NoPart", false), ("Doubled", false), ("Lost", false), ("Ring", false), ("NoHolder", false), ("WrongKind", false), ("Far", false), ("TooLong", false)]
def tbi_NoEditor : List (Str × Bool) := [("LeafError", false), ("BadPanel", false), ("NoChoice", false), ("BadCond", false), ("BadEdit", false), ("BadPage", false), ("Unlike", false), ("NoEdit", false), ("NotLive", false), ("IsLive", false), ("StandsOn", false), ("NoRow", false), ("NoEditor", true), ("EditError", false), ("NoPart", false), ("Doubled", false), ("Lost", false), ("Ring", false), ("NoHolder", false), ("WrongKind", false), ("Far", false), ("TooLong", false)]
def tbi_NoPart : List (Str × Bool) := [("LeafError", false), ("BadPanel", false), ("NoChoice", false), ("BadCond", false), ("BadEdit", false), ("BadPage", false), ("Unlike", false), ("NoEdit", false), ("NotLive", false), ("IsLive", false), ("StandsOn", false), ("NoRow", false), ("NoEditor", false), ("EditError", false), ("NoPart", true), ("Doubled", false), ("Lost", false), ("Ring", false), ("NoHolder", false), ("WrongKind", false), ("Far", false), ("TooLong", false)]
def tbi_Doubled : List (Str × Bool) := [("LeafError", false), ("BadPanel", false), ("NoChoice", false), ("BadCond", false), ("BadEdit", false), ("BadPage", false), ("Unlike", false), ("NoEdit", false), ("NotLive", false), ("IsLive", false), ("StandsOn", false), ("NoRow", false), ("NoEditor", false), ("EditError", false), ("NoPart", false), ("Doubled", true), ("Lost", false), ("Ring", false), ("NoHolder", false), ("WrongKind", false), ("Far", false), ("TooLong", false)]
def tbi_Lost : List (Str × Bool) := [("LeafError", false), ("BadPanel", false), ("NoChoice", false), ("BadCond", false), ("BadEdit", false), ("BadPage", false), ("Unlike", false), ("NoEdit", false), ("NotLive", false), ("IsLive", false), ("StandsOn", false), ("NoRow", false), ("NoEditor", false), ("EditError", false), ("NoPart", false), ("Doubled", false), ("Lost", true), ("Ring", false), ("NoHolder", false), ("WrongKind", false), ("Far", false), ("TooLong", false)]
def tbi_Ring : List (Str × Bool) := [("LeafError", false), ("BadPanel", false), ("NoChoice", false), ("BadCond", false), ("BadEdit", false), ("BadPage", false), ("Unlike", false), ("NoEdit", false), ("NotLive", false), ("IsLive", false), ("StandsOn", false), ("NoRow", false), ("NoEditor", false), ("EditError", false), ("NoPart", false), ("Doubled", false), ("Lost", false), ("Ring", true), ("NoHolder", false), ("WrongKind", false), ("Far", false), ("TooLong", false)]
def tbi_NoHolder : List (Str × Bool) := [("LeafError", false), ("BadPanel", false), ("NoChoice", false), ("BadCond", false), ("BadEdit", false), ("BadPage", false), ("Unlike", false), ("NoEdit", false), ("NotLive", false), ("IsLive", false), ("StandsOn", false), ("NoRow", false), ("NoEditor", false), ("EditError", false), ("NoPart", false), ("Doubled", false), ("Lost", false), ("Ring", false), ("NoHolder", true), ("WrongKind", false), ("Far", false), ("TooLong", false)]
def tbi_WrongKind : List (Str × Bool) := [("LeafError", false), ("BadPanel", false), ("NoChoice", false), ("BadCond", false), ("BadEdit", false), ("BadPage", false), ("Unlike", false), ("NoEdit", false), ("NotLive", false), ("IsLive", false), ("StandsOn", false), ("NoRow", false), ("NoEditor", false), ("EditError", false), ("NoPart", false), ("Doubled", false), ("Lost", false), ("Ring", false), ("NoHolder", false), ("WrongKind", true), ("Far", false), ("TooLong", false)]
def tbi_Far : List (Str × Bool) := [("LeafError", false), ("BadPanel", false), ("NoChoice", false), ("BadCond", false), ("BadEdit", false), ("BadPage", false), ("Unlike", false), ("NoEdit", false), ("NotLive", false), ("IsLive", false), ("StandsOn", false), ("NoRow", false), ("NoEditor", false), ("EditError", false), ("NoPart", false), ("Doubled", false), ("Lost", false), ("Ring", false), ("NoHolder", false), ("WrongKind", false), ("Far", true), ("TooLong", false)]
def tbi_TooLong : List (Str × Bool) := [("LeafError", false), ("BadPanel", false), ("NoChoice", false), ("BadCond", false), ("BadEdit", false), ("BadPage", false), ("Unlike", false), ("NoEdit", false), ("NotLive", false), ("IsLive", false), ("StandsOn", false), ("NoRow", false), ("NoEditor", false), ("EditError", false), ("NoPart", false), ("Doubled", false), ("Lost", false), ("Ring", false), ("NoHolder", false), ("WrongKind", false), ("Far", false), ("TooLong", true)]
def tbi_EditError : List (Str × Bool) := [("LeafError", false), ("BadPanel", false), ("NoChoice", false), ("BadCond", false), ("BadEdit", false), ("BadPage", false), ("Unlike", false), ("NoEdit", false), ("NotLive", false), ("IsLive", false), ("StandsOn", false), ("NoRow", false), ("NoEditor", false), ("EditError", true), ("NoPart", true), ("Doubled", true), ("Lost", true), ("Ring", true), ("NoHolder", true), ("WrongKind", true), ("Far", true), ("TooLong", true)]
def tbi_LeafError : List (Str × Bool) := [("LeafError", true), ("BadPanel", true), ("NoChoice", true), ("BadCond", true), ("BadEdit", true), ("BadPage", true), ("Unlike", true), ("NoEdit", true), ("NotLive", true), ("IsLive", true), ("StandsOn", true), ("NoRow", true), ("NoEditor", true), ("EditError", true), ("NoPart", true), ("Doubled", true), ("Lost", true), ("Ring", true), ("NoHolder", true), ("WrongKind", true), ("Far", true), ("TooLong", true)]
def tbi_ValueError : List (Str × Bool) := [("LeafError", true), ("BadPanel", true), ("NoChoice", true), ("BadCond", true), ("BadEdit", true), ("BadPage", true), ("Unlike", true), ("NoEdit", true), ("NotLive", true), ("IsLive", true), ("StandsOn", true), ("NoRow", true), ("NoEditor", true), ("EditError", true), ("NoPart", true), ("Doubled", true), ("Lost", true), ("Ring", true), ("NoHolder", true), ("WrongKind", true), ("Far", true), ("TooLong", true)]
def xfl_choice : List Str := ["BadPage", "StandsOn", "EditError", "NoPart", "Doubled", "Lost", "Ring", "NoHolder", "WrongKind", "Far", "TooLong"]
def xfl_editor : List Str := ["NoEditor"]
def xfl_line : List Str := ["BadPage"]
def xfl_number : List Str := ["NoEdit", "NotLive", "IsLive", "StandsOn"]
def xfl_one : List Str := ["Unlike"]
def xfl_other : List Str := ["Unlike"]
def xfl_part : List Str := ["Unlike", "EditError", "NoPart", "Doubled", "Lost", "Ring", "NoHolder", "WrongKind", "Far", "TooLong"]
def S__law_first : Rho → S :=
  (sSeq (sSet 1 (gA lstD (aCons (g1 (isiXD tbi_BadPanel) (gVar 0)) (aCons (g1 (isiXD tbi_NoChoice) (gVar 0)) (aCons (g1 (isiXD tbi_BadCond) (gVar 0)) (aCons (g1 (isiXD tbi_BadEdit) (gVar 0)) aNil))))))
  (sSeq (sSet 1 (g2 addD (gVar 1) (gA lstD (aCons (g1 (isiXD tbi_NoRow) (gVar 0)) (aCons (g1 (isiXD tbi_BadPage) (gVar 0)) (aCons (g1 (isiXD tbi_Unlike) (gVar 0)) (aCons (g1 (isiXD tbi_NoEdit) (gVar 0)) aNil)))))))
  (sSeq (sSet 1 (g2 addD (gVar 1) (gA lstD (aCons (g1 (isiXD tbi_NotLive) (gVar 0)) (aCons (g1 (isiXD tbi_IsLive) (gVar 0)) (aCons (g1 (isiXD tbi_StandsOn) (gVar 0)) (aCons (g1 (isiXD tbi_NoEditor) (gVar 0)) aNil)))))))
  (sRet (gVar 1)))))
def F__law_first : List D → R D := runS 2 1 S__law_first
def S__law_edits : Rho → S :=
  (sSeq (sSet 1 (gA lstD (aCons (g1 (isiXD tbi_NoPart) (gVar 0)) (aCons (g1 (isiXD tbi_Doubled) (gVar 0)) (aCons (g1 (isiXD tbi_Lost) (gVar 0)) (aCons (g1 (isiXD tbi_Ring) (gVar 0)) aNil))))))
  (sSeq (sSet 1 (g2 addD (gVar 1) (gA lstD (aCons (g1 (isiXD tbi_NoHolder) (gVar 0)) (aCons (g1 (isiXD tbi_WrongKind) (gVar 0)) (aCons (g1 (isiXD tbi_Far) (gVar 0)) (aCons (g1 (isiXD tbi_TooLong) (gVar 0)) aNil)))))))
  (sRet (gVar 1))))
def F__law_edits : List D → R D := runS 2 1 S__law_edits
def S__law_good : Rho → S :=
  (sSeq (sSet 3 (gLc (iA rangeD1 (aCons (gC (.int 12)) aNil)) [4] (τName 4) bYes (gAnd (g2 eqD (gVar 4) (gVar 1)) (gNot (gVar 2)))))
  (sSeq (sSet 5 (gLc (iA rangeD1 (aCons (gC (.int 8)) aNil)) [4] (τName 4) bYes (gAnd (g2 eqD (gVar 4) (gVar 1)) (gVar 2))))
  (sSeq (sIf (bOr (gB (g2 neD (gA F__law_first (aCons (gVar 0) aNil)) (gVar 3))) (bOr (gB (g2 neD (gA F__law_edits (aCons (gVar 0) aNil)) (gVar 5))) (gB (g2 neD (g1 (isiXD tbi_EditError) (gVar 0)) (gVar 2)))))
  (sRet (gC (.bl false)))
  sNil)
  (sRet (gAnd (g1 (isiXD tbi_LeafError) (gVar 0)) (g1 (isiXD tbi_ValueError) (gVar 0)))))))
def F__law_good : List D → R D := runS 6 3 S__law_good
def B__law_plain_ones_0 : Rho → S :=
  (sIf (bOr (bNot (gB (gA F__law_good (aCons (g2 ixD (gVar 0) (gVar 2)) (aCons (gVar 2) (aCons (gC (.bl false)) aNil)))))) (bNot (gB (gA F__law_good (aCons (g2 ixD (gVar 1) (gVar 2)) (aCons (gVar 2) (aCons (gC (.bl false)) aNil)))))))
  (sRet (gC (.bl false)))
  sNil)
def S__law_plain_ones : Rho → S :=
  (sSeq (sSet 0 (gA lstD (aCons (gC (.exc "BadPanel" [])) (aCons (gC (.exc "NoChoice" [])) (aCons (gC (.exc "BadCond" [])) (aCons (gC (.exc "BadEdit" [])) (aCons (gC (.exc "NoRow" [])) aNil)))))))
  (sSeq (sSet 1 (gA lstD (aCons (gOwnX "BadPanel" (aCons (gC (.str "a")) aNil)) (aCons (gOwnX "NoChoice" (aCons (gC (.str "a")) aNil)) (aCons (gOwnX "BadCond" (aCons (gC (.str "a")) aNil)) (aCons (gOwnX "BadEdit" (aCons (gC (.str "a")) aNil)) (aCons (gOwnX "NoRow" (aCons (gC (.str "a")) aNil)) aNil)))))))
  (sSeq (sFor (iA rangeD1 (aCons (gC (.int 5)) aNil)) (τName 2) B__law_plain_ones_0)
  (sRet (g1 (isiXD tbi_ValueError) (gOwnX "LeafError" (aCons (gC (.str "a")) aNil)))))))
def F__law_plain_ones : List D → R D := runS 3 0 S__law_plain_ones
def S__law_cell_at : Rho → S :=
  (sSeq (sIf (gB (g2 ltD (gVar 1) (gA lenD (aCons (gVar 0) aNil))))
  (sRet (g2 ixD (gVar 0) (gVar 1)))
  sNil)
  (sRet (gC (.int 0))))
def F__law_cell_at : List D → R D := runS 2 2 S__law_cell_at
def B__law_with_fields_0 : Rho → S :=
  (sIf (bOr (gB (g2 neD (g1 (xfD xfl_number "number") (gVar 8)) (gVar 1))) (bNot (gB (gA F__law_good (aCons (gVar 8) (aCons (g2 addD (gC (.int 7)) (gVar 7)) (aCons (gC (.bl false)) aNil)))))))
  (sRet (gC (.bl false)))
  sNil)
def S__law_with_fields : Rho → S :=
  (sSeq (sSet 3 (gMkX "BadPage" ["line", "choice"] [] (aCons (gVar 1) (aCons (gVar 2) aNil))))
  (sSeq (sSet 4 (gMkX "Unlike" ["part", "one", "other"] [] (aCons (gVar 0) (aCons (gVar 1) (aCons (gVar 2) aNil)))))
  (sSeq (sSet 5 (gMkX "StandsOn" ["number", "choice"] [] (aCons (gVar 1) (aCons (gVar 2) aNil))))
  (sSeq (sSet 6 (gMkX "NoEditor" ["editor"] [] (aCons (gVar 0) aNil)))
  (sSeq (sIf (gB (g2 neD (gA lstD (aCons (g1 (xfD xfl_line "line") (gVar 3)) (aCons (g1 (xfD xfl_choice "choice") (gVar 3)) (aCons (g1 (xfD xfl_number "number") (gVar 5)) (aCons (g1 (xfD xfl_choice "choice") (gVar 5)) (aCons (g1 (xfD xfl_editor "editor") (gVar 6)) aNil)))))) (gA lstD (aCons (gVar 1) (aCons (gVar 2) (aCons (gVar 1) (aCons (gVar 2) (aCons (gVar 0) aNil))))))))
  (sRet (gC (.bl false)))
  sNil)
  (sSeq (sIf (gB (g2 neD (gA lstD (aCons (g1 (xfD xfl_part "part") (gVar 4)) (aCons (g1 (xfD xfl_one "one") (gVar 4)) (aCons (g1 (xfD xfl_other "other") (gVar 4)) aNil)))) (gA lstD (aCons (gVar 0) (aCons (gVar 1) (aCons (gVar 2) aNil))))))
  (sRet (gC (.bl false)))
  sNil)
  (sSeq (sIf (bOr (bNot (gB (gA F__law_good (aCons (gVar 3) (aCons (gC (.int 5)) (aCons (gC (.bl false)) aNil)))))) (bOr (bNot (gB (gA F__law_good (aCons (gVar 4) (aCons (gC (.int 6)) (aCons (gC (.bl false)) aNil)))))) (bNot (gB (gA F__law_good (aCons (gVar 5) (aCons (gC (.int 10)) (aCons (gC (.bl false)) aNil))))))))
  (sRet (gC (.bl false)))
  sNil)
  (sSeq (sFor (iA enumD (aCons (gA lstD (aCons (gMkX "NoEdit" ["number"] [] (aCons (gVar 1) aNil)) (aCons (gMkX "NotLive" ["number"] [] (aCons (gVar 1) aNil)) (aCons (gMkX "IsLive" ["number"] [] (aCons (gVar 1) aNil)) aNil)))) aNil)) (τTup 2 (τCons (τName 7) (τCons (τName 8) τNil))) B__law_with_fields_0)
  (sRet (gA F__law_good (aCons (gVar 6) (aCons (gC (.int 11)) (aCons (gC (.bl false)) aNil)))))))))))))
def F__law_with_fields : List D → R D := runS 9 3 S__law_with_fields
def B__law_of_edits_0 : Rho → S :=
  (sSeq (sIf (gB (g2 neD (gA lstD (aCons (g1 (xfD xfl_part "part") (g2 ixD (gVar 2) (gVar 4))) (aCons (g1 (xfD xfl_choice "choice") (g2 ixD (gVar 2) (gVar 4))) (aCons (g1 (xfD xfl_part "part") (g2 ixD (gVar 3) (gVar 4))) (aCons (g1 (xfD xfl_choice "choice") (g2 ixD (gVar 3) (gVar 4))) aNil))))) (gA lstD (aCons (gVar 0) (aCons (gVar 1) (aCons (gVar 0) (aCons (gC .non) aNil)))))))
  (sRet (gC (.bl false)))
  sNil)
  (sIf (bOr (bNot (gB (gA F__law_good (aCons (g2 ixD (gVar 2) (gVar 4)) (aCons (gVar 4) (aCons (gC (.bl true)) aNil)))))) (bNot (gB (gA F__law_good (aCons (g2 ixD (gVar 3) (gVar 4)) (aCons (gVar 4) (aCons (gC (.bl true)) aNil)))))))
  (sRet (gC (.bl false)))
  sNil))
def S__law_of_edits : Rho → S :=
  (sSeq (sSet 2 (gA lstD (aCons (gMkX "NoPart" ["part", "choice"] [] (aCons (gVar 0) (aCons (gVar 1) aNil))) (aCons (gMkX "Doubled" ["part", "choice"] [] (aCons (gVar 0) (aCons (gVar 1) aNil))) (aCons (gMkX "Lost" ["part", "choice"] [] (aCons (gVar 0) (aCons (gVar 1) aNil))) (aCons (gMkX "Ring" ["part", "choice"] [] (aCons (gVar 0) (aCons (gVar 1) aNil))) aNil))))))
  (sSeq (sSet 2 (g2 addD (gVar 2) (gA lstD (aCons (gMkX "NoHolder" ["part", "choice"] [] (aCons (gVar 0) (aCons (gVar 1) aNil))) (aCons (gMkX "WrongKind" ["part", "choice"] [] (aCons (gVar 0) (aCons (gVar 1) aNil))) (aCons (gMkX "Far" ["part", "choice"] [] (aCons (gVar 0) (aCons (gVar 1) aNil))) (aCons (gMkX "TooLong" ["part", "choice"] [] (aCons (gVar 0) (aCons (gVar 1) aNil))) aNil)))))))
  (sSeq (sSet 3 (gA lstD (aCons (gMkX "NoPart" ["part", "choice"] [.non] (aCons (gVar 0) aNil)) (aCons (gMkX "Doubled" ["part", "choice"] [.non] (aCons (gVar 0) aNil)) (aCons (gMkX "Lost" ["part", "choice"] [.non] (aCons (gVar 0) aNil)) (aCons (gMkX "Ring" ["part", "choice"] [.non] (aCons (gVar 0) aNil)) aNil))))))
  (sSeq (sSet 3 (g2 addD (gVar 3) (gA lstD (aCons (gMkX "NoHolder" ["part", "choice"] [.non] (aCons (gVar 0) aNil)) (aCons (gMkX "WrongKind" ["part", "choice"] [.non] (aCons (gVar 0) aNil)) (aCons (gMkX "Far" ["part", "choice"] [.non] (aCons (gVar 0) aNil)) (aCons (gMkX "TooLong" ["part", "choice"] [.non] (aCons (gVar 0) aNil)) aNil)))))))
  (sSeq (sFor (iA rangeD1 (aCons (gC (.int 8)) aNil)) (τName 4) B__law_of_edits_0)
  (sSeq (sSet 5 (gMkX "EditError" ["part", "choice"] [] (aCons (gVar 0) (aCons (gVar 1) aNil))))
  (sSeq (sIf (bOr (gB (g2 neD (g1 (xfD xfl_part "part") (gVar 5)) (gVar 0))) (bOr (gB (g2 neD (g1 (xfD xfl_choice "choice") (gVar 5)) (gVar 1))) (gB (g2 notND (g1 (xfD xfl_choice "choice") (gMkX "EditError" ["part", "choice"] [.non] (aCons (gVar 0) aNil))) (gC .non)))))
  (sRet (gC (.bl false)))
  sNil)
  (sRet (gAnd (g1 (isiXD tbi_LeafError) (gVar 5)) (g2 notInDD (gC (.bl true)) (g2 addD (gA F__law_first (aCons (gVar 5) aNil)) (gA F__law_edits (aCons (gVar 5) aNil)))))))))))))
def F__law_of_edits : List D → R D := runS 6 2 S__law_of_edits
def S__law_mix : Rho → S :=
  (sSeq (sSet 2 (g2 shrD (gVar 0) (g2 addD (g2 mulD (gC (.int 27)) (gVar 1)) (gC (.int 1)))))
  (sSeq (sIf (bAnd (gB (g2 eqD (g2 modD (gVar 0) (gC (.int 2))) (gC (.int 0)))) (gB (g2 notInDD (gVar 2) (gA tupD (aCons (gC (.int 0)) (aCons (g1 negD (gC (.int 1))) aNil))))))
  (sRet (g2 andD (gVar 2) (gC (.int 134217727))))
  sNil)
  (sSeq (sSet 3 (g2 modD (g2 mulD (g2 addD (g2 modD (gVar 0) (gC (.int 1000000007))) (g2 mulD (gC (.int 7919)) (gVar 1))) (gC (.int 48271))) (gC (.int 2147483647))))
  (sSeq (sSet 3 (g2 modD (g2 mulD (gVar 3) (gVar 3)) (gC (.int 2147483629))))
  (sRet (g2 modD (g2 mulD (gVar 3) (g2 addD (gVar 3) (gC (.int 3)))) (gC (.int 2147483587))))))))
def F__law_mix : List D → R D := runS 4 2 S__law_mix
def B_law_0 : Rho → S :=
  (sSeq (sSet 2 (gA F__law_cell_at (aCons (gVar 0) (aCons (gVar 1) aNil))))
  (sSeq (sSet 3 (g2 ixD (gA lstD (aCons (gC (.str "")) (aCons (gC (.str "a")) (aCons (gC (.str "b.2")) (aCons (gC (.str "abcdefghijkl")) aNil))))) (g2 modD (gVar 2) (gC (.int 4)))))
  (sSeq (sSet 4 (g2 modD (g2 fdivD (gVar 2) (gC (.int 4))) (gC (.int 300))))
  (sSeq (sSet 5 (g2 ixD (gA lstD (aCons (gC .non) (aCons (g2 modD (gA F__law_mix (aCons (gVar 2) (aCons (gC (.int 1)) aNil))) (gC (.int 256))) aNil))) (g2 modD (g2 fdivD (gVar 2) (gC (.int 1200))) (gC (.int 2)))))
  (sIf (bOr (bNot (gB (gA F__law_with_fields (aCons (gVar 3) (aCons (gVar 4) (aCons (gVar 5) aNil)))))) (bNot (gB (gA F__law_of_edits (aCons (gVar 3) (aCons (gVar 4) aNil))))))
  (sRet (gC (.bl false)))
  sNil)))))
def S_law : Rho → S :=
  (sSeq (sFor (iA rangeD1 (aCons (gC (.int 4)) aNil)) (τName 1) B_law_0)
  (sRet (gC0 F__law_plain_ones)))
def F_law : List D → R D := runS 6 1 S_law
end
end Pd
set_option maxHeartbeats 0
namespace Pd
open PySem PySem.Spec PyProof.Rows L2
structure Tx (K : PySem.W.Frag) (mg : Str → Option Value) : Prop where
  g__law_first : mg "_law_first" = some (.ref (He.ga K "_law_first"))
  g__law_edits : mg "_law_edits" = some (.ref (He.ga K "_law_edits"))
  g__law_good : mg "_law_good" = some (.ref (He.ga K "_law_good"))
  g__law_plain_ones : mg "_law_plain_ones" = some (.ref (He.ga K "_law_plain_ones"))
  g__law_cell_at : mg "_law_cell_at" = some (.ref (He.ga K "_law_cell_at"))
  g__law_with_fields : mg "_law_with_fields" = some (.ref (He.ga K "_law_with_fields"))
  g__law_of_edits : mg "_law_of_edits" = some (.ref (He.ga K "_law_of_edits"))
  g__law_mix : mg "_law_mix" = some (.ref (He.ga K "_law_mix"))
  g_law : mg "law" = some (.ref (He.ga K "law"))
  f_ValueError : mg "ValueError" = none
  f_enumerate : mg "enumerate" = none
  f_isinstance : mg "isinstance" = none
  f_len : mg "len" = none
  f_range : mg "range" = none
  rai_BadPage : RaiK K mg "BadPage" (He.fAd K ("BadPage", some "__init__")) ["line", "choice"]
  rai_Doubled : RaiK K mg "Doubled" (He.fAd K ("EditError", some "__init__")) ["part", "choice"]
  rai_EditError : RaiK K mg "EditError" (He.fAd K ("EditError", some "__init__")) ["part", "choice"]
  rai_Far : RaiK K mg "Far" (He.fAd K ("EditError", some "__init__")) ["part", "choice"]
  rai_IsLive : RaiK K mg "IsLive" (He.fAd K ("IsLive", some "__init__")) ["number"]
  rai_Lost : RaiK K mg "Lost" (He.fAd K ("EditError", some "__init__")) ["part", "choice"]
  rai_NoEdit : RaiK K mg "NoEdit" (He.fAd K ("NoEdit", some "__init__")) ["number"]
  rai_NoEditor : RaiK K mg "NoEditor" (He.fAd K ("NoEditor", some "__init__")) ["editor"]
  rai_NoHolder : RaiK K mg "NoHolder" (He.fAd K ("EditError", some "__init__")) ["part", "choice"]
  rai_NoPart : RaiK K mg "NoPart" (He.fAd K ("EditError", some "__init__")) ["part", "choice"]
  rai_NotLive : RaiK K mg "NotLive" (He.fAd K ("NotLive", some "__init__")) ["number"]
  rai_Ring : RaiK K mg "Ring" (He.fAd K ("EditError", some "__init__")) ["part", "choice"]
  rai_StandsOn : RaiK K mg "StandsOn" (He.fAd K ("StandsOn", some "__init__")) ["number", "choice"]
  rai_TooLong : RaiK K mg "TooLong" (He.fAd K ("EditError", some "__init__")) ["part", "choice"]
  rai_Unlike : RaiK K mg "Unlike" (He.fAd K ("Unlike", some "__init__")) ["part", "one", "other"]
  rai_WrongKind : RaiK K mg "WrongKind" (He.fAd K ("EditError", some "__init__")) ["part", "choice"]
  vein_LeafError : VeIn K mg "LeafError"
  xfv_choice : ∀ c ∈ xfl_choice, XfC K (He.ga K c) ∧ PySem.W.findIn K (.ref (He.ga K c)) "choice" = some none
  xfv_editor : ∀ c ∈ xfl_editor, XfC K (He.ga K c) ∧ PySem.W.findIn K (.ref (He.ga K c)) "editor" = some none
  xfv_line : ∀ c ∈ xfl_line, XfC K (He.ga K c) ∧ PySem.W.findIn K (.ref (He.ga K c)) "line" = some none
  xfv_number : ∀ c ∈ xfl_number, XfC K (He.ga K c) ∧ PySem.W.findIn K (.ref (He.ga K c)) "number" = some none
  xfv_one : ∀ c ∈ xfl_one, XfC K (He.ga K c) ∧ PySem.W.findIn K (.ref (He.ga K c)) "one" = some none
  xfv_other : ∀ c ∈ xfl_other, XfC K (He.ga K c) ∧ PySem.W.findIn K (.ref (He.ga K c)) "other" = some none
  xfv_part : ∀ c ∈ xfl_part, XfC K (He.ga K c) ∧ PySem.W.findIn K (.ref (He.ga K c)) "part" = some none
  exc_BadCond : ExcK K mg "BadCond"
  exc_BadEdit : ExcK K mg "BadEdit"
  exc_BadPanel : ExcK K mg "BadPanel"
  exc_LeafError : ExcK K mg "LeafError"
  exc_NoChoice : ExcK K mg "NoChoice"
  exc_NoRow : ExcK K mg "NoRow"
  gc_BadCond : mg "BadCond" = some (.ref (He.ga K "BadCond"))
  gc_BadEdit : mg "BadEdit" = some (.ref (He.ga K "BadEdit"))
  gc_BadPage : mg "BadPage" = some (.ref (He.ga K "BadPage"))
  gc_BadPanel : mg "BadPanel" = some (.ref (He.ga K "BadPanel"))
  gc_Doubled : mg "Doubled" = some (.ref (He.ga K "Doubled"))
  gc_EditError : mg "EditError" = some (.ref (He.ga K "EditError"))
  gc_Far : mg "Far" = some (.ref (He.ga K "Far"))
  gc_IsLive : mg "IsLive" = some (.ref (He.ga K "IsLive"))
  gc_LeafError : mg "LeafError" = some (.ref (He.ga K "LeafError"))
  gc_Lost : mg "Lost" = some (.ref (He.ga K "Lost"))
  gc_NoChoice : mg "NoChoice" = some (.ref (He.ga K "NoChoice"))
  gc_NoEdit : mg "NoEdit" = some (.ref (He.ga K "NoEdit"))
  gc_NoEditor : mg "NoEditor" = some (.ref (He.ga K "NoEditor"))
  gc_NoHolder : mg "NoHolder" = some (.ref (He.ga K "NoHolder"))
  gc_NoPart : mg "NoPart" = some (.ref (He.ga K "NoPart"))
  gc_NoRow : mg "NoRow" = some (.ref (He.ga K "NoRow"))
  gc_NotLive : mg "NotLive" = some (.ref (He.ga K "NotLive"))
  gc_Ring : mg "Ring" = some (.ref (He.ga K "Ring"))
  gc_StandsOn : mg "StandsOn" = some (.ref (He.ga K "StandsOn"))
  gc_TooLong : mg "TooLong" = some (.ref (He.ga K "TooLong"))
  gc_Unlike : mg "Unlike" = some (.ref (He.ga K "Unlike"))
  gc_WrongKind : mg "WrongKind" = some (.ref (He.ga K "WrongKind"))
  ise_BadPanel : ∀ q ∈ tbi_BadPanel, ExcC K (He.ga K q.1) ∧ PySem.W.kitOne K (.ref (He.ga K q.1)) ((CN.own "BadPanel").u K) = some q.2
  ise_NoChoice : ∀ q ∈ tbi_NoChoice, ExcC K (He.ga K q.1) ∧ PySem.W.kitOne K (.ref (He.ga K q.1)) ((CN.own "NoChoice").u K) = some q.2
  ise_BadCond : ∀ q ∈ tbi_BadCond, ExcC K (He.ga K q.1) ∧ PySem.W.kitOne K (.ref (He.ga K q.1)) ((CN.own "BadCond").u K) = some q.2
  ise_BadEdit : ∀ q ∈ tbi_BadEdit, ExcC K (He.ga K q.1) ∧ PySem.W.kitOne K (.ref (He.ga K q.1)) ((CN.own "BadEdit").u K) = some q.2
  ise_NoRow : ∀ q ∈ tbi_NoRow, ExcC K (He.ga K q.1) ∧ PySem.W.kitOne K (.ref (He.ga K q.1)) ((CN.own "NoRow").u K) = some q.2
  ise_BadPage : ∀ q ∈ tbi_BadPage, ExcC K (He.ga K q.1) ∧ PySem.W.kitOne K (.ref (He.ga K q.1)) ((CN.own "BadPage").u K) = some q.2
  ise_Unlike : ∀ q ∈ tbi_Unlike, ExcC K (He.ga K q.1) ∧ PySem.W.kitOne K (.ref (He.ga K q.1)) ((CN.own "Unlike").u K) = some q.2
  ise_NoEdit : ∀ q ∈ tbi_NoEdit, ExcC K (He.ga K q.1) ∧ PySem.W.kitOne K (.ref (He.ga K q.1)) ((CN.own "NoEdit").u K) = some q.2
  ise_NotLive : ∀ q ∈ tbi_NotLive, ExcC K (He.ga K q.1) ∧ PySem.W.kitOne K (.ref (He.ga K q.1)) ((CN.own "NotLive").u K) = some q.2
  ise_IsLive : ∀ q ∈ tbi_IsLive, ExcC K (He.ga K q.1) ∧ PySem.W.kitOne K (.ref (He.ga K q.1)) ((CN.own "IsLive").u K) = some q.2
  ise_StandsOn : ∀ q ∈ tbi_StandsOn, ExcC K (He.ga K q.1) ∧ PySem.W.kitOne K (.ref (He.ga K q.1)) ((CN.own "StandsOn").u K) = some q.2
  ise_NoEditor : ∀ q ∈ tbi_NoEditor, ExcC K (He.ga K q.1) ∧ PySem.W.kitOne K (.ref (He.ga K q.1)) ((CN.own "NoEditor").u K) = some q.2
  ise_NoPart : ∀ q ∈ tbi_NoPart, ExcC K (He.ga K q.1) ∧ PySem.W.kitOne K (.ref (He.ga K q.1)) ((CN.own "NoPart").u K) = some q.2
  ise_Doubled : ∀ q ∈ tbi_Doubled, ExcC K (He.ga K q.1) ∧ PySem.W.kitOne K (.ref (He.ga K q.1)) ((CN.own "Doubled").u K) = some q.2
  ise_Lost : ∀ q ∈ tbi_Lost, ExcC K (He.ga K q.1) ∧ PySem.W.kitOne K (.ref (He.ga K q.1)) ((CN.own "Lost").u K) = some q.2
  ise_Ring : ∀ q ∈ tbi_Ring, ExcC K (He.ga K q.1) ∧ PySem.W.kitOne K (.ref (He.ga K q.1)) ((CN.own "Ring").u K) = some q.2
  ise_NoHolder : ∀ q ∈ tbi_NoHolder, ExcC K (He.ga K q.1) ∧ PySem.W.kitOne K (.ref (He.ga K q.1)) ((CN.own "NoHolder").u K) = some q.2
  ise_WrongKind : ∀ q ∈ tbi_WrongKind, ExcC K (He.ga K q.1) ∧ PySem.W.kitOne K (.ref (He.ga K q.1)) ((CN.own "WrongKind").u K) = some q.2
  ise_Far : ∀ q ∈ tbi_Far, ExcC K (He.ga K q.1) ∧ PySem.W.kitOne K (.ref (He.ga K q.1)) ((CN.own "Far").u K) = some q.2
  ise_TooLong : ∀ q ∈ tbi_TooLong, ExcC K (He.ga K q.1) ∧ PySem.W.kitOne K (.ref (He.ga K q.1)) ((CN.own "TooLong").u K) = some q.2
  ise_EditError : ∀ q ∈ tbi_EditError, ExcC K (He.ga K q.1) ∧ PySem.W.kitOne K (.ref (He.ga K q.1)) ((CN.own "EditError").u K) = some q.2
  ise_LeafError : ∀ q ∈ tbi_LeafError, ExcC K (He.ga K q.1) ∧ PySem.W.kitOne K (.ref (He.ga K q.1)) ((CN.own "LeafError").u K) = some q.2
  ise_ValueError : ∀ q ∈ tbi_ValueError, ExcC K (He.ga K q.1) ∧ PySem.W.kitOne K (.ref (He.ga K q.1)) ((CN.ty "ValueError").u K) = some q.2
section
variable {P' : Program} {w : World} {K : PySem.W.Frag} {mg : Str → Option Value} {base : Heap}
theorem sc__law_first : FnScope ["_law_e", "_law_kinds"] ["_law_e"] (defScope s__law_first) := ⟨rfl, rfl, rfl, by decide +kernel, rfl, by decide +kernel, by decide +kernel⟩
theorem c__law_first (T : Tx K mg) (Df : DefU K "_law_first" "_law_first" s__law_first (He.ga K "_law_first") ["_law_e"]) : UnF P' w K mg base 1 (He.ga K "_law_first") ["_law_e"] F__law_first :=
  un_d (mm := []) (m' := []) (s := S__law_first) 2 Df sc__law_first rfl (by decide) fun cdv A outer sh H E F0 hr =>
    (ss_cons (m2 := []) (s_set 1 sc__law_first.nd (d_new (n_list (da_cons (d_isXD (.own "BadPanel") T.ise_BadPanel T.f_isinstance (d_var 0) (pe_glob (v := .ref (He.ga _ "BadPanel")) (by rfl) T.gc_BadPanel rfl)) (da_cons (d_isXD (.own "NoChoice") T.ise_NoChoice T.f_isinstance (d_var 0) (pe_glob (v := .ref (He.ga _ "NoChoice")) (by rfl) T.gc_NoChoice rfl)) (da_cons (d_isXD (.own "BadCond") T.ise_BadCond T.f_isinstance (d_var 0) (pe_glob (v := .ref (He.ga _ "BadCond")) (by rfl) T.gc_BadCond rfl)) (da_cons (d_isXD (.own "BadEdit") T.ise_BadEdit T.f_isinstance (d_var 0) (pe_glob (v := .ref (He.ga _ "BadEdit")) (by rfl) T.gc_BadEdit rfl)) da_nil)))))))
    (ss_cons (m2 := []) (s_set 1 sc__law_first.nd (d_op op_addD o_add (d_var 1) (d_new (n_list (da_cons (d_isXD (.own "NoRow") T.ise_NoRow T.f_isinstance (d_var 0) (pe_glob (v := .ref (He.ga _ "NoRow")) (by rfl) T.gc_NoRow rfl)) (da_cons (d_isXD (.own "BadPage") T.ise_BadPage T.f_isinstance (d_var 0) (pe_glob (v := .ref (He.ga _ "BadPage")) (by rfl) T.gc_BadPage rfl)) (da_cons (d_isXD (.own "Unlike") T.ise_Unlike T.f_isinstance (d_var 0) (pe_glob (v := .ref (He.ga _ "Unlike")) (by rfl) T.gc_Unlike rfl)) (da_cons (d_isXD (.own "NoEdit") T.ise_NoEdit T.f_isinstance (d_var 0) (pe_glob (v := .ref (He.ga _ "NoEdit")) (by rfl) T.gc_NoEdit rfl)) da_nil))))))))
    (ss_cons (m2 := []) (s_set 1 sc__law_first.nd (d_op op_addD o_add (d_var 1) (d_new (n_list (da_cons (d_isXD (.own "NotLive") T.ise_NotLive T.f_isinstance (d_var 0) (pe_glob (v := .ref (He.ga _ "NotLive")) (by rfl) T.gc_NotLive rfl)) (da_cons (d_isXD (.own "IsLive") T.ise_IsLive T.f_isinstance (d_var 0) (pe_glob (v := .ref (He.ga _ "IsLive")) (by rfl) T.gc_IsLive rfl)) (da_cons (d_isXD (.own "StandsOn") T.ise_StandsOn T.f_isinstance (d_var 0) (pe_glob (v := .ref (He.ga _ "StandsOn")) (by rfl) T.gc_StandsOn rfl)) (da_cons (d_isXD (.own "NoEditor") T.ise_NoEditor T.f_isinstance (d_var 0) (pe_glob (v := .ref (He.ga _ "NoEditor")) (by rfl) T.gc_NoEditor rfl)) da_nil))))))))
    (ss_one (s_ret (d_var 1))))))
theorem sc__law_edits : FnScope ["_law_e", "_law_kinds"] ["_law_e"] (defScope s__law_edits) := ⟨rfl, rfl, rfl, by decide +kernel, rfl, by decide +kernel, by decide +kernel⟩
theorem c__law_edits (T : Tx K mg) (Df : DefU K "_law_edits" "_law_edits" s__law_edits (He.ga K "_law_edits") ["_law_e"]) : UnF P' w K mg base 1 (He.ga K "_law_edits") ["_law_e"] F__law_edits :=
  un_d (mm := []) (m' := []) (s := S__law_edits) 2 Df sc__law_edits rfl (by decide) fun cdv A outer sh H E F0 hr =>
    (ss_cons (m2 := []) (s_set 1 sc__law_edits.nd (d_new (n_list (da_cons (d_isXD (.own "NoPart") T.ise_NoPart T.f_isinstance (d_var 0) (pe_glob (v := .ref (He.ga _ "NoPart")) (by rfl) T.gc_NoPart rfl)) (da_cons (d_isXD (.own "Doubled") T.ise_Doubled T.f_isinstance (d_var 0) (pe_glob (v := .ref (He.ga _ "Doubled")) (by rfl) T.gc_Doubled rfl)) (da_cons (d_isXD (.own "Lost") T.ise_Lost T.f_isinstance (d_var 0) (pe_glob (v := .ref (He.ga _ "Lost")) (by rfl) T.gc_Lost rfl)) (da_cons (d_isXD (.own "Ring") T.ise_Ring T.f_isinstance (d_var 0) (pe_glob (v := .ref (He.ga _ "Ring")) (by rfl) T.gc_Ring rfl)) da_nil)))))))
    (ss_cons (m2 := []) (s_set 1 sc__law_edits.nd (d_op op_addD o_add (d_var 1) (d_new (n_list (da_cons (d_isXD (.own "NoHolder") T.ise_NoHolder T.f_isinstance (d_var 0) (pe_glob (v := .ref (He.ga _ "NoHolder")) (by rfl) T.gc_NoHolder rfl)) (da_cons (d_isXD (.own "WrongKind") T.ise_WrongKind T.f_isinstance (d_var 0) (pe_glob (v := .ref (He.ga _ "WrongKind")) (by rfl) T.gc_WrongKind rfl)) (da_cons (d_isXD (.own "Far") T.ise_Far T.f_isinstance (d_var 0) (pe_glob (v := .ref (He.ga _ "Far")) (by rfl) T.gc_Far rfl)) (da_cons (d_isXD (.own "TooLong") T.ise_TooLong T.f_isinstance (d_var 0) (pe_glob (v := .ref (He.ga _ "TooLong")) (by rfl) T.gc_TooLong rfl)) da_nil))))))))
    (ss_one (s_ret (d_var 1)))))
theorem sc__law_good : FnScope ["_law_e", "_law_at", "_law_edit", "_law_first_here", "_law_k", "_law_edits_here"] ["_law_e", "_law_at", "_law_edit"] (defScope s__law_good) := ⟨rfl, rfl, rfl, by decide +kernel, rfl, by decide +kernel, by decide +kernel⟩
theorem c__law_good (T : Tx K mg) (h__law_first : UnF P' w K mg base 1 (He.ga K "_law_first") ["_law_e"] F__law_first) (h__law_edits : UnF P' w K mg base 1 (He.ga K "_law_edits") ["_law_e"] F__law_edits) (Df : DefU K "_law_good" "_law_good" s__law_good (He.ga K "_law_good") ["_law_e", "_law_at", "_law_edit"]) : UnF P' w K mg base 2 (He.ga K "_law_good") ["_law_e", "_law_at", "_law_edit"] F__law_good :=
  un_d (mm := []) (m' := []) (s := S__law_good) 6 Df sc__law_good rfl (by decide) fun cdv A outer sh H E F0 hr =>
    (ss_cons (m2 := []) (s_setLc 3 (own := [("_law_k", 4)]) rfl sc__law_good.nd (di_range1 T.f_range (da_cons d_int da_nil)) (by show blkC ["_law_e", "_law_at", "_law_edit", "_law_first_here", "_law_k", "_law_edits_here"] (defScope s__law_good) _ _ = true; decide +kernel) (fun _ _ _ _ _ => (dg_name 4 sc__law_good.nd)) (fun _ _ _ _ _ => dts_nil) (fun _ _ _ _ _ => (d_and (d_cmp (op_eq2 hr.units) o_eq (d_var 4) (d_var 1) (nomark _)) (d_one (d_not (d_var 2))))) (by decide))
    (ss_cons (m2 := []) (s_setLc 5 (own := [("_law_k", 4)]) rfl sc__law_good.nd (di_range1 T.f_range (da_cons d_int da_nil)) (by show blkC ["_law_e", "_law_at", "_law_edit", "_law_first_here", "_law_k", "_law_edits_here"] (defScope s__law_good) _ _ = true; decide +kernel) (fun _ _ _ _ _ => (dg_name 4 sc__law_good.nd)) (fun _ _ _ _ _ => dts_nil) (fun _ _ _ _ _ => (d_and (d_cmp (op_eq2 hr.units) o_eq (d_var 4) (d_var 1) (nomark _)) (d_one (d_var 2)))) (by decide))
    (ss_cons (m2 := []) (s_if (t_w (w_or (t_cmp (op_ne2 hr.units) o_ne (d_c (calF_of h__law_first T.g__law_first) hr (by decide) (takes_of rfl rfl rfl rfl) (da_cons (d_var 0) da_nil)) (d_var 3) (nomark _)) (w_or (t_cmp (op_ne2 hr.units) o_ne (d_c (calF_of h__law_edits T.g__law_edits) hr (by decide) (takes_of rfl rfl rfl rfl) (da_cons (d_var 0) da_nil)) (d_var 5) (nomark _)) (w_or1 (t_cmp (op_ne2 hr.units) o_ne (d_isXD (.own "EditError") T.ise_EditError T.f_isinstance (d_var 0) (pe_glob (v := .ref (He.ga _ "EditError")) (by rfl) T.gc_EditError rfl)) (d_var 2) (nomark _))))))
    (ss_one (s_ret d_bl))
    ss_nil)
    (ss_one (s_ret (d_and (d_isXD (.own "LeafError") T.ise_LeafError T.f_isinstance (d_var 0) (pe_glob (v := .ref (He.ga _ "LeafError")) (by rfl) T.gc_LeafError rfl)) (d_one (d_isXD (.ty "ValueError") T.ise_ValueError T.f_isinstance (d_var 0) (pe_bltn (v := .ty "ValueError") (by rfl) T.f_ValueError (by decide +kernel) rfl (by decide) (by decide))))))))))
theorem sc__law_plain_ones : FnScope ["_law_made", "_law_more", "_law_k"] [] (defScope s__law_plain_ones) := ⟨rfl, rfl, rfl, by decide +kernel, rfl, by decide +kernel, by decide +kernel⟩
theorem c__law_plain_ones (T : Tx K mg) (h__law_good : UnF P' w K mg base 2 (He.ga K "_law_good") ["_law_e", "_law_at", "_law_edit"] F__law_good) (Df : DefU K "_law_plain_ones" "_law_plain_ones" s__law_plain_ones (He.ga K "_law_plain_ones") []) : UnF P' w K mg base 3 (He.ga K "_law_plain_ones") [] F__law_plain_ones :=
  un_d (mm := []) (m' := []) (s := S__law_plain_ones) 3 Df sc__law_plain_ones rfl (by decide) fun cdv A outer sh H E F0 hr =>
    (ss_cons (m2 := []) (s_set 0 sc__law_plain_ones.nd (d_new (n_list (da_cons (d_ownX0 T.exc_BadPanel) (da_cons (d_ownX0 T.exc_NoChoice) (da_cons (d_ownX0 T.exc_BadCond) (da_cons (d_ownX0 T.exc_BadEdit) (da_cons (d_ownX0 T.exc_NoRow) da_nil))))))))
    (ss_cons (m2 := []) (s_set 1 sc__law_plain_ones.nd (d_new (n_list (da_cons (d_ownX T.exc_BadPanel (da_cons d_str da_nil)) (da_cons (d_ownX T.exc_NoChoice (da_cons d_str da_nil)) (da_cons (d_ownX T.exc_BadCond (da_cons d_str da_nil)) (da_cons (d_ownX T.exc_BadEdit (da_cons d_str da_nil)) (da_cons (d_ownX T.exc_NoRow (da_cons d_str da_nil)) da_nil))))))))
    (ss_cons (m2 := []) (s_for (passes_of rfl) rfl (di_range1 T.f_range (da_cons d_int da_nil)) (dg_name 2 sc__law_plain_ones.nd)
    (ss_one (s_if (t_w (w_or (t_not (t_val (d_c (calF_of h__law_good T.g__law_good) hr (by decide) (takes_of rfl rfl rfl rfl) (da_cons (d_ix (d_var 0) (d_var 2)) (da_cons (d_var 2) (da_cons d_bl da_nil)))))) (w_or1 (t_not (t_val (d_c (calF_of h__law_good T.g__law_good) hr (by decide) (takes_of rfl rfl rfl rfl) (da_cons (d_ix (d_var 1) (d_var 2)) (da_cons (d_var 2) (da_cons d_bl da_nil)))))))))
    (ss_one (s_ret d_bl))
    ss_nil)))
    (ss_one (s_ret (d_isXD (.ty "ValueError") T.ise_ValueError T.f_isinstance (d_ownX T.exc_LeafError (da_cons d_str da_nil)) (pe_bltn (v := .ty "ValueError") (by rfl) T.f_ValueError (by decide +kernel) rfl (by decide) (by decide))))))))
theorem sc__law_cell_at : FnScope ["_law_script", "_law_k"] ["_law_script", "_law_k"] (defScope s__law_cell_at) := ⟨rfl, rfl, rfl, by decide +kernel, rfl, by decide +kernel, by decide +kernel⟩
theorem c__law_cell_at (T : Tx K mg) (Df : DefU K "_law_cell_at" "_law_cell_at" s__law_cell_at (He.ga K "_law_cell_at") ["_law_script", "_law_k"]) : UnF P' w K mg base 1 (He.ga K "_law_cell_at") ["_law_script", "_law_k"] F__law_cell_at :=
  un_d (mm := []) (m' := []) (s := S__law_cell_at) 2 Df sc__law_cell_at rfl (by decide) fun cdv A outer sh H E F0 hr =>
    (ss_cons (m2 := []) (s_if (t_cmp op_lt2 o_lt (d_var 1) (d_callB call_len c_len T.f_len (da_cons (d_var 0) da_nil)) (nomark _))
    (ss_one (s_ret (d_ix (d_var 0) (d_var 1))))
    ss_nil)
    (ss_one (s_ret d_int)))
theorem sc_BadPage_init : FnScope ["self", "line", "choice"] ["self", "line", "choice"] (defScope s_BadPage_init) := ⟨rfl, rfl, rfl, by decide +kernel, rfl, by decide +kernel, by decide +kernel⟩
theorem c_BadPage_init (T : Tx K mg) (Df : DefU K "__init__" "BadPage.__init__" s_BadPage_init (He.fAd K ("BadPage", some "__init__")) ["self", "line", "choice"]) : UnX0 P' w K mg base 1 (He.fAd K ("BadPage", some "__init__")) ["self", "line", "choice"] ["line", "choice"] :=
  un_x0 (msg := "a line can't be read") ["line", "choice"] Df sc_BadPage_init rfl (by decide) (by decide) fun cdv A outer sh H E hr =>
    pss_xini T.vein_LeafError rfl (by decide) (pss_fld 1 (pss_fld1 2 rfl (Or.inl rfl) (by decide) (by decide) rfl (Or.inl rfl) (by decide) (by decide) rfl) rfl (Or.inl rfl) (by decide) (by decide) rfl (Or.inl rfl) (by decide) (by decide) rfl) rfl (Or.inl rfl) (by decide) (by decide) rfl rfl rfl rfl rfl
theorem sc_Unlike_init : FnScope ["self", "part", "one", "other"] ["self", "part", "one", "other"] (defScope s_Unlike_init) := ⟨rfl, rfl, rfl, by decide +kernel, rfl, by decide +kernel, by decide +kernel⟩
theorem c_Unlike_init (T : Tx K mg) (Df : DefU K "__init__" "Unlike.__init__" s_Unlike_init (He.fAd K ("Unlike", some "__init__")) ["self", "part", "one", "other"]) : UnX0 P' w K mg base 1 (He.fAd K ("Unlike", some "__init__")) ["self", "part", "one", "other"] ["part", "one", "other"] :=
  un_x0 (msg := "a part is unlike at two choices") ["part", "one", "other"] Df sc_Unlike_init rfl (by decide) (by decide) fun cdv A outer sh H E hr =>
    pss_xini T.vein_LeafError rfl (by decide) (pss_fld 1 (pss_fld 2 (pss_fld1 3 rfl (Or.inl rfl) (by decide) (by decide) rfl (Or.inl rfl) (by decide) (by decide) rfl) rfl (Or.inl rfl) (by decide) (by decide) rfl (Or.inl rfl) (by decide) (by decide) rfl) rfl (Or.inl rfl) (by decide) (by decide) rfl (Or.inl rfl) (by decide) (by decide) rfl) rfl (Or.inl rfl) (by decide) (by decide) rfl rfl rfl rfl rfl
theorem sc_StandsOn_init : FnScope ["self", "number", "choice"] ["self", "number", "choice"] (defScope s_StandsOn_init) := ⟨rfl, rfl, rfl, by decide +kernel, rfl, by decide +kernel, by decide +kernel⟩
theorem c_StandsOn_init (T : Tx K mg) (Df : DefU K "__init__" "StandsOn.__init__" s_StandsOn_init (He.fAd K ("StandsOn", some "__init__")) ["self", "number", "choice"]) : UnX0 P' w K mg base 1 (He.fAd K ("StandsOn", some "__init__")) ["self", "number", "choice"] ["number", "choice"] :=
  un_x0 (msg := "an edit could no longer do what it did") ["number", "choice"] Df sc_StandsOn_init rfl (by decide) (by decide) fun cdv A outer sh H E hr =>
    pss_xini T.vein_LeafError rfl (by decide) (pss_fld 1 (pss_fld1 2 rfl (Or.inl rfl) (by decide) (by decide) rfl (Or.inl rfl) (by decide) (by decide) rfl) rfl (Or.inl rfl) (by decide) (by decide) rfl (Or.inl rfl) (by decide) (by decide) rfl) rfl (Or.inl rfl) (by decide) (by decide) rfl rfl rfl rfl rfl
theorem sc_NoEditor_init : FnScope ["self", "editor"] ["self", "editor"] (defScope s_NoEditor_init) := ⟨rfl, rfl, rfl, by decide +kernel, rfl, by decide +kernel, by decide +kernel⟩
theorem c_NoEditor_init (T : Tx K mg) (Df : DefU K "__init__" "NoEditor.__init__" s_NoEditor_init (He.fAd K ("NoEditor", some "__init__")) ["self", "editor"]) : UnX0 P' w K mg base 1 (He.fAd K ("NoEditor", some "__init__")) ["self", "editor"] ["editor"] :=
  un_x0 (msg := "no such editor") ["editor"] Df sc_NoEditor_init rfl (by decide) (by decide) fun cdv A outer sh H E hr =>
    pss_xini T.vein_LeafError rfl (by decide) (pss_fld1 1 rfl (Or.inl rfl) (by decide) (by decide) rfl (Or.inl rfl) (by decide) (by decide) rfl) rfl (Or.inl rfl) (by decide) (by decide) rfl rfl rfl rfl rfl
theorem sc_NoEdit_init : FnScope ["self", "number"] ["self", "number"] (defScope s_NoEdit_init) := ⟨rfl, rfl, rfl, by decide +kernel, rfl, by decide +kernel, by decide +kernel⟩
theorem c_NoEdit_init (T : Tx K mg) (Df : DefU K "__init__" "NoEdit.__init__" s_NoEdit_init (He.fAd K ("NoEdit", some "__init__")) ["self", "number"]) : UnX0 P' w K mg base 1 (He.fAd K ("NoEdit", some "__init__")) ["self", "number"] ["number"] :=
  un_x0 (msg := "no edit has that number") ["number"] Df sc_NoEdit_init rfl (by decide) (by decide) fun cdv A outer sh H E hr =>
    pss_xini T.vein_LeafError rfl (by decide) (pss_fld1 1 rfl (Or.inl rfl) (by decide) (by decide) rfl (Or.inl rfl) (by decide) (by decide) rfl) rfl (Or.inl rfl) (by decide) (by decide) rfl rfl rfl rfl rfl
theorem sc_NotLive_init : FnScope ["self", "number"] ["self", "number"] (defScope s_NotLive_init) := ⟨rfl, rfl, rfl, by decide +kernel, rfl, by decide +kernel, by decide +kernel⟩
theorem c_NotLive_init (T : Tx K mg) (Df : DefU K "__init__" "NotLive.__init__" s_NotLive_init (He.fAd K ("NotLive", some "__init__")) ["self", "number"]) : UnX0 P' w K mg base 1 (He.fAd K ("NotLive", some "__init__")) ["self", "number"] ["number"] :=
  un_x0 (msg := "the edit is taken back already") ["number"] Df sc_NotLive_init rfl (by decide) (by decide) fun cdv A outer sh H E hr =>
    pss_xini T.vein_LeafError rfl (by decide) (pss_fld1 1 rfl (Or.inl rfl) (by decide) (by decide) rfl (Or.inl rfl) (by decide) (by decide) rfl) rfl (Or.inl rfl) (by decide) (by decide) rfl rfl rfl rfl rfl
theorem sc_IsLive_init : FnScope ["self", "number"] ["self", "number"] (defScope s_IsLive_init) := ⟨rfl, rfl, rfl, by decide +kernel, rfl, by decide +kernel, by decide +kernel⟩
theorem c_IsLive_init (T : Tx K mg) (Df : DefU K "__init__" "IsLive.__init__" s_IsLive_init (He.fAd K ("IsLive", some "__init__")) ["self", "number"]) : UnX0 P' w K mg base 1 (He.fAd K ("IsLive", some "__init__")) ["self", "number"] ["number"] :=
  un_x0 (msg := "the edit is not taken back") ["number"] Df sc_IsLive_init rfl (by decide) (by decide) fun cdv A outer sh H E hr =>
    pss_xini T.vein_LeafError rfl (by decide) (pss_fld1 1 rfl (Or.inl rfl) (by decide) (by decide) rfl (Or.inl rfl) (by decide) (by decide) rfl) rfl (Or.inl rfl) (by decide) (by decide) rfl rfl rfl rfl rfl
theorem sc__law_with_fields : FnScope ["_law_name", "_law_one", "_law_other", "_law_page", "_law_unlike", "_law_stands", "_law_editor", "_law_k", "_law_e"] ["_law_name", "_law_one", "_law_other"] (defScope s__law_with_fields) := ⟨rfl, rfl, rfl, by decide +kernel, rfl, by decide +kernel, by decide +kernel⟩
theorem c__law_with_fields (T : Tx K mg) (h_BadPage_init : UnX0 P' w K mg base 1 (He.fAd K ("BadPage", some "__init__")) ["self", "line", "choice"] ["line", "choice"]) (h_Unlike_init : UnX0 P' w K mg base 1 (He.fAd K ("Unlike", some "__init__")) ["self", "part", "one", "other"] ["part", "one", "other"]) (h_StandsOn_init : UnX0 P' w K mg base 1 (He.fAd K ("StandsOn", some "__init__")) ["self", "number", "choice"] ["number", "choice"]) (h_NoEditor_init : UnX0 P' w K mg base 1 (He.fAd K ("NoEditor", some "__init__")) ["self", "editor"] ["editor"]) (h__law_good : UnF P' w K mg base 2 (He.ga K "_law_good") ["_law_e", "_law_at", "_law_edit"] F__law_good) (h_NoEdit_init : UnX0 P' w K mg base 1 (He.fAd K ("NoEdit", some "__init__")) ["self", "number"] ["number"]) (h_NotLive_init : UnX0 P' w K mg base 1 (He.fAd K ("NotLive", some "__init__")) ["self", "number"] ["number"]) (h_IsLive_init : UnX0 P' w K mg base 1 (He.fAd K ("IsLive", some "__init__")) ["self", "number"] ["number"]) (Df : DefU K "_law_with_fields" "_law_with_fields" s__law_with_fields (He.ga K "_law_with_fields") ["_law_name", "_law_one", "_law_other"]) : UnF P' w K mg base 3 (He.ga K "_law_with_fields") ["_law_name", "_law_one", "_law_other"] F__law_with_fields :=
  un_d (mm := []) (m' := []) (s := S__law_with_fields) 9 Df sc__law_with_fields rfl (by decide) fun cdv A outer sh H E F0 hr =>
    (ss_cons (m2 := []) (s_set 3 sc__law_with_fields.nd (d_mkX T.rai_BadPage h_BadPage_init.full hr (by decide) (pass_f (takes_of rfl rfl rfl rfl)) (da_cons (d_var 1) (da_cons (d_var 2) da_nil))))
    (ss_cons (m2 := []) (s_set 4 sc__law_with_fields.nd (d_mkX T.rai_Unlike h_Unlike_init.full hr (by decide) (pass_f (takes_of rfl rfl rfl rfl)) (da_cons (d_var 0) (da_cons (d_var 1) (da_cons (d_var 2) da_nil)))))
    (ss_cons (m2 := []) (s_set 5 sc__law_with_fields.nd (d_mkX T.rai_StandsOn h_StandsOn_init.full hr (by decide) (pass_f (takes_of rfl rfl rfl rfl)) (da_cons (d_var 1) (da_cons (d_var 2) da_nil))))
    (ss_cons (m2 := []) (s_set 6 sc__law_with_fields.nd (d_mkX T.rai_NoEditor h_NoEditor_init.full hr (by decide) (pass_f (takes_of rfl rfl rfl rfl)) (da_cons (d_var 0) da_nil)))
    (ss_cons (m2 := []) (s_if (t_cmp (op_ne2 hr.units) o_ne (d_new (n_list (da_cons (d_xf xfl_line T.xfv_line (d_var 3)) (da_cons (d_xf xfl_choice T.xfv_choice (d_var 3)) (da_cons (d_xf xfl_number T.xfv_number (d_var 5)) (da_cons (d_xf xfl_choice T.xfv_choice (d_var 5)) (da_cons (d_xf xfl_editor T.xfv_editor (d_var 6)) da_nil))))))) (d_new (n_list (da_cons (d_var 1) (da_cons (d_var 2) (da_cons (d_var 1) (da_cons (d_var 2) (da_cons (d_var 0) da_nil))))))) (nomark _))
    (ss_one (s_ret d_bl))
    ss_nil)
    (ss_cons (m2 := []) (s_if (t_cmp (op_ne2 hr.units) o_ne (d_new (n_list (da_cons (d_xf xfl_part T.xfv_part (d_var 4)) (da_cons (d_xf xfl_one T.xfv_one (d_var 4)) (da_cons (d_xf xfl_other T.xfv_other (d_var 4)) da_nil))))) (d_new (n_list (da_cons (d_var 0) (da_cons (d_var 1) (da_cons (d_var 2) da_nil))))) (nomark _))
    (ss_one (s_ret d_bl))
    ss_nil)
    (ss_cons (m2 := []) (s_if (t_w (w_or (t_not (t_val (d_c (calF_of h__law_good T.g__law_good) hr (by decide) (takes_of rfl rfl rfl rfl) (da_cons (d_var 3) (da_cons d_int (da_cons d_bl da_nil)))))) (w_or (t_not (t_val (d_c (calF_of h__law_good T.g__law_good) hr (by decide) (takes_of rfl rfl rfl rfl) (da_cons (d_var 4) (da_cons d_int (da_cons d_bl da_nil)))))) (w_or1 (t_not (t_val (d_c (calF_of h__law_good T.g__law_good) hr (by decide) (takes_of rfl rfl rfl rfl) (da_cons (d_var 5) (da_cons d_int (da_cons d_bl da_nil))))))))))
    (ss_one (s_ret d_bl))
    ss_nil)
    (ss_cons (m2 := []) (s_for (passes_of rfl) rfl (di_enum T.f_enumerate (da_cons (d_new (n_list (da_cons (d_mkX T.rai_NoEdit h_NoEdit_init.full hr (by decide) (pass_f (takes_of rfl rfl rfl rfl)) (da_cons (d_var 1) da_nil)) (da_cons (d_mkX T.rai_NotLive h_NotLive_init.full hr (by decide) (pass_f (takes_of rfl rfl rfl rfl)) (da_cons (d_var 1) da_nil)) (da_cons (d_mkX T.rai_IsLive h_IsLive_init.full hr (by decide) (pass_f (takes_of rfl rfl rfl rfl)) (da_cons (d_var 1) da_nil)) da_nil))))) da_nil)) (dg_tup rfl (dgs_cons (dg_name 7 sc__law_with_fields.nd) (dgs_cons (dg_name 8 sc__law_with_fields.nd) dgs_nil)))
    (ss_one (s_if (t_w (w_or (t_cmp (op_ne2 hr.units) o_ne (d_xf xfl_number T.xfv_number (d_var 8)) (d_var 1) (nomark _)) (w_or1 (t_not (t_val (d_c (calF_of h__law_good T.g__law_good) hr (by decide) (takes_of rfl rfl rfl rfl) (da_cons (d_var 8) (da_cons (d_op op_addD o_add d_int (d_var 7)) (da_cons d_bl da_nil)))))))))
    (ss_one (s_ret d_bl))
    ss_nil)))
    (ss_one (s_ret (d_c (calF_of h__law_good T.g__law_good) hr (by decide) (takes_of rfl rfl rfl rfl) (da_cons (d_var 6) (da_cons d_int (da_cons d_bl da_nil))))))))))))))
theorem sc_EditError_init : FnScope ["self", "part", "choice"] ["self", "part", "choice"] (defScope s_EditError_init) := ⟨rfl, rfl, rfl, by decide +kernel, rfl, by decide +kernel, by decide +kernel⟩
theorem c_EditError_init (T : Tx K mg) (Df : DefU1 K "__init__" "EditError.__init__" s_EditError_init (He.fAd K ("EditError", some "__init__")) ["self", "part", "choice"]) : UnX1 P' w K mg base 1 (He.fAd K ("EditError", some "__init__")) ["self", "part", "choice"] ["part", "choice"] :=
  un_x1 (msg := "the edit can't be made") ["part", "choice"] Df sc_EditError_init rfl (by decide) (by decide) fun cdv A outer sh H E hr =>
    pss_xini T.vein_LeafError rfl (by decide) (pss_fld 1 (pss_fld1 2 rfl (Or.inl rfl) (by decide) (by decide) rfl (Or.inl rfl) (by decide) (by decide) rfl) rfl (Or.inl rfl) (by decide) (by decide) rfl (Or.inl rfl) (by decide) (by decide) rfl) rfl (Or.inl rfl) (by decide) (by decide) rfl rfl rfl rfl rfl
theorem sc__law_of_edits : FnScope ["_law_name", "_law_number", "_law_made", "_law_more", "_law_k", "_law_base"] ["_law_name", "_law_number"] (defScope s__law_of_edits) := ⟨rfl, rfl, rfl, by decide +kernel, rfl, by decide +kernel, by decide +kernel⟩
theorem c__law_of_edits (T : Tx K mg) (h_EditError_init : UnX1 P' w K mg base 1 (He.fAd K ("EditError", some "__init__")) ["self", "part", "choice"] ["part", "choice"]) (h__law_good : UnF P' w K mg base 2 (He.ga K "_law_good") ["_law_e", "_law_at", "_law_edit"] F__law_good) (h__law_first : UnF P' w K mg base 1 (He.ga K "_law_first") ["_law_e"] F__law_first) (h__law_edits : UnF P' w K mg base 1 (He.ga K "_law_edits") ["_law_e"] F__law_edits) (Df : DefU K "_law_of_edits" "_law_of_edits" s__law_of_edits (He.ga K "_law_of_edits") ["_law_name", "_law_number"]) : UnF P' w K mg base 3 (He.ga K "_law_of_edits") ["_law_name", "_law_number"] F__law_of_edits :=
  un_d (mm := []) (m' := []) (s := S__law_of_edits) 6 Df sc__law_of_edits rfl (by decide) fun cdv A outer sh H E F0 hr =>
    (ss_cons (m2 := []) (s_set 2 sc__law_of_edits.nd (d_new (n_list (da_cons (d_mkX T.rai_NoPart h_EditError_init.full hr (by decide) (pass_f (takes_of rfl rfl rfl rfl)) (da_cons (d_var 0) (da_cons (d_var 1) da_nil))) (da_cons (d_mkX T.rai_Doubled h_EditError_init.full hr (by decide) (pass_f (takes_of rfl rfl rfl rfl)) (da_cons (d_var 0) (da_cons (d_var 1) da_nil))) (da_cons (d_mkX T.rai_Lost h_EditError_init.full hr (by decide) (pass_f (takes_of rfl rfl rfl rfl)) (da_cons (d_var 0) (da_cons (d_var 1) da_nil))) (da_cons (d_mkX T.rai_Ring h_EditError_init.full hr (by decide) (pass_f (takes_of rfl rfl rfl rfl)) (da_cons (d_var 0) (da_cons (d_var 1) da_nil))) da_nil)))))))
    (ss_cons (m2 := []) (s_set 2 sc__law_of_edits.nd (d_op op_addD o_add (d_var 2) (d_new (n_list (da_cons (d_mkX T.rai_NoHolder h_EditError_init.full hr (by decide) (pass_f (takes_of rfl rfl rfl rfl)) (da_cons (d_var 0) (da_cons (d_var 1) da_nil))) (da_cons (d_mkX T.rai_WrongKind h_EditError_init.full hr (by decide) (pass_f (takes_of rfl rfl rfl rfl)) (da_cons (d_var 0) (da_cons (d_var 1) da_nil))) (da_cons (d_mkX T.rai_Far h_EditError_init.full hr (by decide) (pass_f (takes_of rfl rfl rfl rfl)) (da_cons (d_var 0) (da_cons (d_var 1) da_nil))) (da_cons (d_mkX T.rai_TooLong h_EditError_init.full hr (by decide) (pass_f (takes_of rfl rfl rfl rfl)) (da_cons (d_var 0) (da_cons (d_var 1) da_nil))) da_nil))))))))
    (ss_cons (m2 := []) (s_set 3 sc__law_of_edits.nd (d_new (n_list (da_cons (d_mkX T.rai_NoPart h_EditError_init.dfl hr (by decide) (pass_f (takes_of rfl rfl rfl rfl)) (da_cons (d_var 0) da_nil)) (da_cons (d_mkX T.rai_Doubled h_EditError_init.dfl hr (by decide) (pass_f (takes_of rfl rfl rfl rfl)) (da_cons (d_var 0) da_nil)) (da_cons (d_mkX T.rai_Lost h_EditError_init.dfl hr (by decide) (pass_f (takes_of rfl rfl rfl rfl)) (da_cons (d_var 0) da_nil)) (da_cons (d_mkX T.rai_Ring h_EditError_init.dfl hr (by decide) (pass_f (takes_of rfl rfl rfl rfl)) (da_cons (d_var 0) da_nil)) da_nil)))))))
    (ss_cons (m2 := []) (s_set 3 sc__law_of_edits.nd (d_op op_addD o_add (d_var 3) (d_new (n_list (da_cons (d_mkX T.rai_NoHolder h_EditError_init.dfl hr (by decide) (pass_f (takes_of rfl rfl rfl rfl)) (da_cons (d_var 0) da_nil)) (da_cons (d_mkX T.rai_WrongKind h_EditError_init.dfl hr (by decide) (pass_f (takes_of rfl rfl rfl rfl)) (da_cons (d_var 0) da_nil)) (da_cons (d_mkX T.rai_Far h_EditError_init.dfl hr (by decide) (pass_f (takes_of rfl rfl rfl rfl)) (da_cons (d_var 0) da_nil)) (da_cons (d_mkX T.rai_TooLong h_EditError_init.dfl hr (by decide) (pass_f (takes_of rfl rfl rfl rfl)) (da_cons (d_var 0) da_nil)) da_nil))))))))
    (ss_cons (m2 := []) (s_for (passes_of rfl) rfl (di_range1 T.f_range (da_cons d_int da_nil)) (dg_name 4 sc__law_of_edits.nd)
    (ss_cons (m2 := []) (s_if (t_cmp (op_ne2 hr.units) o_ne (d_new (n_list (da_cons (d_xf xfl_part T.xfv_part (d_ix (d_var 2) (d_var 4))) (da_cons (d_xf xfl_choice T.xfv_choice (d_ix (d_var 2) (d_var 4))) (da_cons (d_xf xfl_part T.xfv_part (d_ix (d_var 3) (d_var 4))) (da_cons (d_xf xfl_choice T.xfv_choice (d_ix (d_var 3) (d_var 4))) da_nil)))))) (d_new (n_list (da_cons (d_var 0) (da_cons (d_var 1) (da_cons (d_var 0) (da_cons d_non da_nil)))))) (nomark _))
    (ss_one (s_ret d_bl))
    ss_nil)
    (ss_one (s_if (t_w (w_or (t_not (t_val (d_c (calF_of h__law_good T.g__law_good) hr (by decide) (takes_of rfl rfl rfl rfl) (da_cons (d_ix (d_var 2) (d_var 4)) (da_cons (d_var 4) (da_cons d_bl da_nil)))))) (w_or1 (t_not (t_val (d_c (calF_of h__law_good T.g__law_good) hr (by decide) (takes_of rfl rfl rfl rfl) (da_cons (d_ix (d_var 3) (d_var 4)) (da_cons (d_var 4) (da_cons d_bl da_nil)))))))))
    (ss_one (s_ret d_bl))
    ss_nil))))
    (ss_cons (m2 := []) (s_set 5 sc__law_of_edits.nd (d_mkX T.rai_EditError h_EditError_init.full hr (by decide) (pass_f (takes_of rfl rfl rfl rfl)) (da_cons (d_var 0) (da_cons (d_var 1) da_nil))))
    (ss_cons (m2 := []) (s_if (t_w (w_or (t_cmp (op_ne2 hr.units) o_ne (d_xf xfl_part T.xfv_part (d_var 5)) (d_var 0) (nomark _)) (w_or (t_cmp (op_ne2 hr.units) o_ne (d_xf xfl_choice T.xfv_choice (d_var 5)) (d_var 1) (nomark _)) (w_or1 (t_cmp op_notN o_notN (d_xf xfl_choice T.xfv_choice (d_mkX T.rai_EditError h_EditError_init.dfl hr (by decide) (pass_f (takes_of rfl rfl rfl rfl)) (da_cons (d_var 0) da_nil))) d_non (nomark _))))))
    (ss_one (s_ret d_bl))
    ss_nil)
    (ss_one (s_ret (d_and (d_isXD (.own "LeafError") T.ise_LeafError T.f_isinstance (d_var 5) (pe_glob (v := .ref (He.ga _ "LeafError")) (by rfl) T.gc_LeafError rfl)) (d_one (d_cmp (op_notIn2 hr.u65) o_notIn d_bl (d_op op_addD o_add (d_c (calF_of h__law_first T.g__law_first) hr (by decide) (takes_of rfl rfl rfl rfl) (da_cons (d_var 5) da_nil)) (d_c (calF_of h__law_edits T.g__law_edits) hr (by decide) (takes_of rfl rfl rfl rfl) (da_cons (d_var 5) da_nil))) (by rfl)))))))))))))
theorem sc__law_mix : FnScope ["_law_cell", "_law_k", "_law_left", "_law_number"] ["_law_cell", "_law_k"] (defScope s__law_mix) := ⟨rfl, rfl, rfl, by decide +kernel, rfl, by decide +kernel, by decide +kernel⟩
theorem c__law_mix (T : Tx K mg) (Df : DefU K "_law_mix" "_law_mix" s__law_mix (He.ga K "_law_mix") ["_law_cell", "_law_k"]) : UnF P' w K mg base 1 (He.ga K "_law_mix") ["_law_cell", "_law_k"] F__law_mix :=
  un_d (mm := []) (m' := []) (s := S__law_mix) 4 Df sc__law_mix rfl (by decide) fun cdv A outer sh H E F0 hr =>
    (ss_cons (m2 := []) (s_set 2 sc__law_mix.nd (d_op op_shr o_shr (d_var 0) (d_op op_addD o_add (d_op op_mul o_mul d_int (d_var 1)) d_int)))
    (ss_cons (m2 := []) (s_if (t_w (w_and (t_cmp (op_eq2 hr.units) o_eq (d_op op_mod o_mod (d_var 0) d_int) d_int (nomark _)) (w_and1 (t_cmp (op_notIn2 hr.u65) o_notIn (d_var 2) (d_tup (da_cons d_int (da_cons (d_un un_neg o_neg d_int) da_nil))) (by rfl)))))
    (ss_one (s_ret (d_op op_and o_and (d_var 2) d_int)))
    ss_nil)
    (ss_cons (m2 := []) (s_set 3 sc__law_mix.nd (d_op op_mod o_mod (d_op op_mul o_mul (d_op op_addD o_add (d_op op_mod o_mod (d_var 0) d_int) (d_op op_mul o_mul d_int (d_var 1))) d_int) d_int))
    (ss_cons (m2 := []) (s_set 3 sc__law_mix.nd (d_op op_mod o_mod (d_op op_mul o_mul (d_var 3) (d_var 3)) d_int))
    (ss_one (s_ret (d_op op_mod o_mod (d_op op_mul o_mul (d_var 3) (d_op op_addD o_add (d_var 3) d_int)) d_int)))))))
theorem sc_law : FnScope ["_law_script", "_law_k", "_law_cell", "_law_name", "_law_one", "_law_other"] ["_law_script"] (defScope s_law) := ⟨rfl, rfl, rfl, by decide +kernel, rfl, by decide +kernel, by decide +kernel⟩
theorem law_ok {fa : Addr} {fd : FuncData} (T : Tx K mg) (h__law_cell_at : UnF P' w K mg base 1 (He.ga K "_law_cell_at") ["_law_script", "_law_k"] F__law_cell_at) (h__law_mix : UnF P' w K mg base 1 (He.ga K "_law_mix") ["_law_cell", "_law_k"] F__law_mix) (h__law_with_fields : UnF P' w K mg base 3 (He.ga K "_law_with_fields") ["_law_name", "_law_one", "_law_other"] F__law_with_fields) (h__law_of_edits : UnF P' w K mg base 3 (He.ga K "_law_of_edits") ["_law_name", "_law_number"] F__law_of_edits) (h__law_plain_ones : UnF P' w K mg base 3 (He.ga K "_law_plain_ones") [] F__law_plain_ones) (Fn : FunD K "law" "law" (defArgs s_law) (defBody s_law) (defScope s_law) [] [] fa fd) : FnOk P' w K mg base (L2.CX P' w) 4 fa fd ["_law_script"] (spD K F_law) :=
  fn_d (m := []) (m' := []) (s := S_law) 6 Fn sc_law rfl (by decide) fun cdv A outer sh H E F0 hr =>
    (ss_cons (m2 := []) (s_for (passes_of rfl) rfl (di_range1 T.f_range (da_cons d_int da_nil)) (dg_name 1 sc_law.nd)
    (ss_cons (m2 := []) (s_set 2 sc_law.nd (d_c (calF_of h__law_cell_at T.g__law_cell_at) hr (by decide) (takes_of rfl rfl rfl rfl) (da_cons (d_var 0) (da_cons (d_var 1) da_nil))))
    (ss_cons (m2 := []) (s_set 3 sc_law.nd (d_ix (d_new (n_list (da_cons d_str (da_cons d_str (da_cons d_str (da_cons d_str da_nil)))))) (d_op op_mod o_mod (d_var 2) d_int)))
    (ss_cons (m2 := []) (s_set 4 sc_law.nd (d_op op_mod o_mod (d_op op_fdiv o_fdiv (d_var 2) d_int) d_int))
    (ss_cons (m2 := []) (s_set 5 sc_law.nd (d_ix (d_new (n_list (da_cons d_non (da_cons (d_op op_mod o_mod (d_c (calF_of h__law_mix T.g__law_mix) hr (by decide) (takes_of rfl rfl rfl rfl) (da_cons (d_var 2) (da_cons d_int da_nil))) d_int) da_nil)))) (d_op op_mod o_mod (d_op op_fdiv o_fdiv (d_var 2) d_int) d_int)))
    (ss_one (s_if (t_w (w_or (t_not (t_val (d_c (calF_of h__law_with_fields T.g__law_with_fields) hr (by decide) (takes_of rfl rfl rfl rfl) (da_cons (d_var 3) (da_cons (d_var 4) (da_cons (d_var 5) da_nil)))))) (w_or1 (t_not (t_val (d_c (calF_of h__law_of_edits T.g__law_of_edits) hr (by decide) (takes_of rfl rfl rfl rfl) (da_cons (d_var 3) (da_cons (d_var 4) da_nil))))))))
    (ss_one (s_ret d_bl))
    ss_nil)))))))
    (ss_one (s_ret (d_c0 (calF_of h__law_plain_ones T.g__law_plain_ones) hr (by decide)))))
end
theorem facts {P' : Program} {w : World} {K : PySem.W.Frag} {h : Heap} {mg : Str → Option Value} {f : Addr} (X : K.In h) (G : h.Ns mainGlobals mg) (hfa : mg ("law" : Str) = some (.ref f)) (c : SaysM fa fn exb K) :
    ∃ fd : FuncData, (∀ (s : Shared) (v : Value), BindsTo s fd ⟨[v], []⟩ [("_law_script", v)]) ∧ ∀ base : Heap, K.In base → base.Ns mainGlobals mg → FnOk P' w K mg base (L2.CX P' w) 4 f fd ["_law_script"] (spD K F_law) := by
  obtain ⟨fd__law_first, D__law_first⟩ := c.d.def_ 0 (d := d__law_first) rfl
  obtain ⟨fd__law_edits, D__law_edits⟩ := c.d.def_ 1 (d := d__law_edits) rfl
  obtain ⟨fd__law_good, D__law_good⟩ := c.d.def_ 2 (d := d__law_good) rfl
  obtain ⟨fd__law_plain_ones, D__law_plain_ones⟩ := c.d.def_ 3 (d := d__law_plain_ones) rfl
  obtain ⟨fd__law_cell_at, D__law_cell_at⟩ := c.d.def_ 4 (d := d__law_cell_at) rfl
  obtain ⟨fd_BadPage_init, D_BadPage_init⟩ := c.d.def_ 5 (d := d_BadPage_init) rfl
  obtain ⟨fd_Unlike_init, D_Unlike_init⟩ := c.d.def_ 6 (d := d_Unlike_init) rfl
  obtain ⟨fd_StandsOn_init, D_StandsOn_init⟩ := c.d.def_ 7 (d := d_StandsOn_init) rfl
  obtain ⟨fd_NoEditor_init, D_NoEditor_init⟩ := c.d.def_ 8 (d := d_NoEditor_init) rfl
  obtain ⟨fd_NoEdit_init, D_NoEdit_init⟩ := c.d.def_ 9 (d := d_NoEdit_init) rfl
  obtain ⟨fd_NotLive_init, D_NotLive_init⟩ := c.d.def_ 10 (d := d_NotLive_init) rfl
  obtain ⟨fd_IsLive_init, D_IsLive_init⟩ := c.d.def_ 11 (d := d_IsLive_init) rfl
  obtain ⟨fd__law_with_fields, D__law_with_fields⟩ := c.d.def_ 12 (d := d__law_with_fields) rfl
  obtain ⟨fd_EditError_init, D_EditError_init⟩ := c.d.def_ 13 (d := d_EditError_init) rfl
  obtain ⟨fd__law_of_edits, D__law_of_edits⟩ := c.d.def_ 14 (d := d__law_of_edits) rfl
  obtain ⟨fd__law_mix, D__law_mix⟩ := c.d.def_ 15 (d := d__law_mix) rfl
  obtain ⟨fd_law, D_law⟩ := c.d.def_ 16 (d := d_law) rfl
  have cm : (exq0 K).all id = true ∧ (exq1 K).all id = true ∧ (exq2 K).all id = true ∧ (exq3 K).all id = true ∧ (exq4 K).all id = true ∧ (exq5 K).all id = true ∧ (exq6 K).all id = true ∧ (exq7 K).all id = true ∧ (exq8 K).all id = true ∧ (exq9 K).all id = true ∧ (exq10 K).all id = true ∧ (exq11 K).all id = true ∧ (exq12 K).all id = true ∧ (exq13 K).all id = true ∧ (exq14 K).all id = true ∧ (exq15 K).all id = true ∧ (exq16 K).all id = true ∧ (exq17 K).all id = true ∧ (exq18 K).all id = true ∧ (exq19 K).all id = true ∧ (exq20 K).all id = true ∧ (exq21 K).all id = true ∧ (exq22 K).all id = true ∧ (exq23 K).all id = true := by
    have h : exb K = true := c.more
    simp only [exb, exl, List.append_nil, List.all_append, List.all_nil, Bool.and_true, Bool.and_eq_true] at h
    exact h
  obtain ⟨cm0, cm1, cm2, cm3, cm4, cm5, cm6, cm7, cm8, cm9, cm10, cm11, cm12, cm13, cm14, cm15, cm16, cm17, cm18, cm19, cm20, cm21, cm22, cm23⟩ := cm
  have t_g__law_first : mg "_law_first" = some (.ref (He.ga K "_law_first")) := (He.glo_ok X G (c.d.fact 0 (f := .glo "_law_first") rfl))
  have t_g__law_edits : mg "_law_edits" = some (.ref (He.ga K "_law_edits")) := (He.glo_ok X G (c.d.fact 1 (f := .glo "_law_edits") rfl))
  have t_g__law_good : mg "_law_good" = some (.ref (He.ga K "_law_good")) := (He.glo_ok X G (c.d.fact 2 (f := .glo "_law_good") rfl))
  have t_g__law_plain_ones : mg "_law_plain_ones" = some (.ref (He.ga K "_law_plain_ones")) := (He.glo_ok X G (c.d.fact 3 (f := .glo "_law_plain_ones") rfl))
  have t_g__law_cell_at : mg "_law_cell_at" = some (.ref (He.ga K "_law_cell_at")) := (He.glo_ok X G (c.d.fact 4 (f := .glo "_law_cell_at") rfl))
  have t_g__law_with_fields : mg "_law_with_fields" = some (.ref (He.ga K "_law_with_fields")) := (He.glo_ok X G (c.d.fact 5 (f := .glo "_law_with_fields") rfl))
  have t_g__law_of_edits : mg "_law_of_edits" = some (.ref (He.ga K "_law_of_edits")) := (He.glo_ok X G (c.d.fact 6 (f := .glo "_law_of_edits") rfl))
  have t_g__law_mix : mg "_law_mix" = some (.ref (He.ga K "_law_mix")) := (He.glo_ok X G (c.d.fact 7 (f := .glo "_law_mix") rfl))
  have t_g_law : mg "law" = some (.ref (He.ga K "law")) := (He.glo_ok X G (c.d.fact 8 (f := .glo "law") rfl))
  have t_f_ValueError : mg "ValueError" = none := He.free_ok X G (c.d.fact 9 (f := .free "ValueError") rfl)
  have t_f_enumerate : mg "enumerate" = none := He.free_ok X G (c.d.fact 10 (f := .free "enumerate") rfl)
  have t_f_isinstance : mg "isinstance" = none := He.free_ok X G (c.d.fact 11 (f := .free "isinstance") rfl)
  have t_f_len : mg "len" = none := He.free_ok X G (c.d.fact 12 (f := .free "len") rfl)
  have t_f_range : mg "range" = none := He.free_ok X G (c.d.fact 13 (f := .free "range") rfl)
  have t_rai_BadPage : RaiK K mg "BadPage" (He.fAd K ("BadPage", some "__init__")) ["line", "choice"] := raiB_ok (ex_at cm0 0) (He.glo_ok X G (c.d.fact 14 (f := .glo "BadPage") rfl))
  have t_rai_Doubled : RaiK K mg "Doubled" (He.fAd K ("EditError", some "__init__")) ["part", "choice"] := raiB_ok (ex_at cm0 1) (He.glo_ok X G (c.d.fact 15 (f := .glo "Doubled") rfl))
  have t_rai_EditError : RaiK K mg "EditError" (He.fAd K ("EditError", some "__init__")) ["part", "choice"] := raiB_ok (ex_at cm0 2) (He.glo_ok X G (c.d.fact 16 (f := .glo "EditError") rfl))
  have t_rai_Far : RaiK K mg "Far" (He.fAd K ("EditError", some "__init__")) ["part", "choice"] := raiB_ok (ex_at cm0 3) (He.glo_ok X G (c.d.fact 17 (f := .glo "Far") rfl))
  have t_rai_IsLive : RaiK K mg "IsLive" (He.fAd K ("IsLive", some "__init__")) ["number"] := raiB_ok (ex_at cm0 4) (He.glo_ok X G (c.d.fact 18 (f := .glo "IsLive") rfl))
  have t_rai_Lost : RaiK K mg "Lost" (He.fAd K ("EditError", some "__init__")) ["part", "choice"] := raiB_ok (ex_at cm0 5) (He.glo_ok X G (c.d.fact 19 (f := .glo "Lost") rfl))
  have t_rai_NoEdit : RaiK K mg "NoEdit" (He.fAd K ("NoEdit", some "__init__")) ["number"] := raiB_ok (ex_at cm0 6) (He.glo_ok X G (c.d.fact 20 (f := .glo "NoEdit") rfl))
  have t_rai_NoEditor : RaiK K mg "NoEditor" (He.fAd K ("NoEditor", some "__init__")) ["editor"] := raiB_ok (ex_at cm0 7) (He.glo_ok X G (c.d.fact 21 (f := .glo "NoEditor") rfl))
  have t_rai_NoHolder : RaiK K mg "NoHolder" (He.fAd K ("EditError", some "__init__")) ["part", "choice"] := raiB_ok (ex_at cm0 8) (He.glo_ok X G (c.d.fact 22 (f := .glo "NoHolder") rfl))
  have t_rai_NoPart : RaiK K mg "NoPart" (He.fAd K ("EditError", some "__init__")) ["part", "choice"] := raiB_ok (ex_at cm0 9) (He.glo_ok X G (c.d.fact 23 (f := .glo "NoPart") rfl))
  have t_rai_NotLive : RaiK K mg "NotLive" (He.fAd K ("NotLive", some "__init__")) ["number"] := raiB_ok (ex_at cm0 10) (He.glo_ok X G (c.d.fact 24 (f := .glo "NotLive") rfl))
  have t_rai_Ring : RaiK K mg "Ring" (He.fAd K ("EditError", some "__init__")) ["part", "choice"] := raiB_ok (ex_at cm0 11) (He.glo_ok X G (c.d.fact 25 (f := .glo "Ring") rfl))
  have t_rai_StandsOn : RaiK K mg "StandsOn" (He.fAd K ("StandsOn", some "__init__")) ["number", "choice"] := raiB_ok (ex_at cm0 12) (He.glo_ok X G (c.d.fact 26 (f := .glo "StandsOn") rfl))
  have t_rai_TooLong : RaiK K mg "TooLong" (He.fAd K ("EditError", some "__init__")) ["part", "choice"] := raiB_ok (ex_at cm0 13) (He.glo_ok X G (c.d.fact 27 (f := .glo "TooLong") rfl))
  have t_rai_Unlike : RaiK K mg "Unlike" (He.fAd K ("Unlike", some "__init__")) ["part", "one", "other"] := raiB_ok (ex_at cm0 14) (He.glo_ok X G (c.d.fact 28 (f := .glo "Unlike") rfl))
  have t_rai_WrongKind : RaiK K mg "WrongKind" (He.fAd K ("EditError", some "__init__")) ["part", "choice"] := raiB_ok (ex_at cm0 15) (He.glo_ok X G (c.d.fact 29 (f := .glo "WrongKind") rfl))
  have t_vein_LeafError : VeIn K mg "LeafError" := veinB_ok (ex_at cm0 16) (He.glo_ok X G (c.d.fact 30 (f := .glo "LeafError") rfl))
  have t_xfv_choice : ∀ c ∈ xfl_choice, XfC K (He.ga K c) ∧ PySem.W.findIn K (.ref (He.ga K c)) "choice" = some none := (fm (xf_ok (ex_at cm1 12) (ex_at cm1 13)) (fm (xf_ok (ex_at cm1 10) (ex_at cm1 11)) (fm (xf_ok (ex_at cm1 8) (ex_at cm1 9)) (fm (xf_ok (ex_at cm1 6) (ex_at cm1 7)) (fm (xf_ok (ex_at cm1 4) (ex_at cm1 5)) (fm (xf_ok (ex_at cm1 2) (ex_at cm1 3)) (fm (xf_ok (ex_at cm1 0) (ex_at cm1 1)) (fm (xf_ok (ex_at cm0 23) (ex_at cm0 24)) (fm (xf_ok (ex_at cm0 21) (ex_at cm0 22)) (fm (xf_ok (ex_at cm0 19) (ex_at cm0 20)) (fm (xf_ok (ex_at cm0 17) (ex_at cm0 18)) fn0)))))))))))
  have t_xfv_editor : ∀ c ∈ xfl_editor, XfC K (He.ga K c) ∧ PySem.W.findIn K (.ref (He.ga K c)) "editor" = some none := (fm (xf_ok (ex_at cm1 14) (ex_at cm1 15)) fn0)
  have t_xfv_line : ∀ c ∈ xfl_line, XfC K (He.ga K c) ∧ PySem.W.findIn K (.ref (He.ga K c)) "line" = some none := (fm (xf_ok (ex_at cm1 12) (ex_at cm1 16)) fn0)
  have t_xfv_number : ∀ c ∈ xfl_number, XfC K (He.ga K c) ∧ PySem.W.findIn K (.ref (He.ga K c)) "number" = some none := (fm (xf_ok (ex_at cm1 22) (ex_at cm1 23)) (fm (xf_ok (ex_at cm1 20) (ex_at cm1 21)) (fm (xf_ok (ex_at cm1 18) (ex_at cm1 19)) (fm (xf_ok (ex_at cm1 10) (ex_at cm1 17)) fn0))))
  have t_xfv_one : ∀ c ∈ xfl_one, XfC K (He.ga K c) ∧ PySem.W.findIn K (.ref (He.ga K c)) "one" = some none := (fm (xf_ok (ex_at cm1 24) (ex_at cm2 0)) fn0)
  have t_xfv_other : ∀ c ∈ xfl_other, XfC K (He.ga K c) ∧ PySem.W.findIn K (.ref (He.ga K c)) "other" = some none := (fm (xf_ok (ex_at cm1 24) (ex_at cm2 1)) fn0)
  have t_xfv_part : ∀ c ∈ xfl_part, XfC K (He.ga K c) ∧ PySem.W.findIn K (.ref (He.ga K c)) "part" = some none := (fm (xf_ok (ex_at cm1 24) (ex_at cm2 11)) (fm (xf_ok (ex_at cm1 8) (ex_at cm2 10)) (fm (xf_ok (ex_at cm1 6) (ex_at cm2 9)) (fm (xf_ok (ex_at cm1 4) (ex_at cm2 8)) (fm (xf_ok (ex_at cm1 2) (ex_at cm2 7)) (fm (xf_ok (ex_at cm1 0) (ex_at cm2 6)) (fm (xf_ok (ex_at cm0 23) (ex_at cm2 5)) (fm (xf_ok (ex_at cm0 21) (ex_at cm2 4)) (fm (xf_ok (ex_at cm0 19) (ex_at cm2 3)) (fm (xf_ok (ex_at cm0 17) (ex_at cm2 2)) fn0))))))))))
  have t_exc_BadCond : ExcK K mg "BadCond" := (let z := He.exc_ok (c.d.fact 31 (f := .exc "BadCond") rfl); ⟨z.1, z.2.1, z.2.2.1, z.2.2.2, (He.glo_ok X G (c.d.fact 32 (f := .glo "BadCond") rfl))⟩)
  have t_exc_BadEdit : ExcK K mg "BadEdit" := (let z := He.exc_ok (c.d.fact 33 (f := .exc "BadEdit") rfl); ⟨z.1, z.2.1, z.2.2.1, z.2.2.2, (He.glo_ok X G (c.d.fact 34 (f := .glo "BadEdit") rfl))⟩)
  have t_exc_BadPanel : ExcK K mg "BadPanel" := (let z := He.exc_ok (c.d.fact 35 (f := .exc "BadPanel") rfl); ⟨z.1, z.2.1, z.2.2.1, z.2.2.2, (He.glo_ok X G (c.d.fact 36 (f := .glo "BadPanel") rfl))⟩)
  have t_exc_LeafError : ExcK K mg "LeafError" := (let z := He.exc_ok (c.d.fact 37 (f := .exc "LeafError") rfl); ⟨z.1, z.2.1, z.2.2.1, z.2.2.2, (He.glo_ok X G (c.d.fact 30 (f := .glo "LeafError") rfl))⟩)
  have t_exc_NoChoice : ExcK K mg "NoChoice" := (let z := He.exc_ok (c.d.fact 38 (f := .exc "NoChoice") rfl); ⟨z.1, z.2.1, z.2.2.1, z.2.2.2, (He.glo_ok X G (c.d.fact 39 (f := .glo "NoChoice") rfl))⟩)
  have t_exc_NoRow : ExcK K mg "NoRow" := (let z := He.exc_ok (c.d.fact 40 (f := .exc "NoRow") rfl); ⟨z.1, z.2.1, z.2.2.1, z.2.2.2, (He.glo_ok X G (c.d.fact 41 (f := .glo "NoRow") rfl))⟩)
  have t_gc_BadCond : mg "BadCond" = some (.ref (He.ga K "BadCond")) := (He.glo_ok X G (c.d.fact 32 (f := .glo "BadCond") rfl))
  have t_gc_BadEdit : mg "BadEdit" = some (.ref (He.ga K "BadEdit")) := (He.glo_ok X G (c.d.fact 34 (f := .glo "BadEdit") rfl))
  have t_gc_BadPage : mg "BadPage" = some (.ref (He.ga K "BadPage")) := (He.glo_ok X G (c.d.fact 14 (f := .glo "BadPage") rfl))
  have t_gc_BadPanel : mg "BadPanel" = some (.ref (He.ga K "BadPanel")) := (He.glo_ok X G (c.d.fact 36 (f := .glo "BadPanel") rfl))
  have t_gc_Doubled : mg "Doubled" = some (.ref (He.ga K "Doubled")) := (He.glo_ok X G (c.d.fact 15 (f := .glo "Doubled") rfl))
  have t_gc_EditError : mg "EditError" = some (.ref (He.ga K "EditError")) := (He.glo_ok X G (c.d.fact 16 (f := .glo "EditError") rfl))
  have t_gc_Far : mg "Far" = some (.ref (He.ga K "Far")) := (He.glo_ok X G (c.d.fact 17 (f := .glo "Far") rfl))
  have t_gc_IsLive : mg "IsLive" = some (.ref (He.ga K "IsLive")) := (He.glo_ok X G (c.d.fact 18 (f := .glo "IsLive") rfl))
  have t_gc_LeafError : mg "LeafError" = some (.ref (He.ga K "LeafError")) := (He.glo_ok X G (c.d.fact 30 (f := .glo "LeafError") rfl))
  have t_gc_Lost : mg "Lost" = some (.ref (He.ga K "Lost")) := (He.glo_ok X G (c.d.fact 19 (f := .glo "Lost") rfl))
  have t_gc_NoChoice : mg "NoChoice" = some (.ref (He.ga K "NoChoice")) := (He.glo_ok X G (c.d.fact 39 (f := .glo "NoChoice") rfl))
  have t_gc_NoEdit : mg "NoEdit" = some (.ref (He.ga K "NoEdit")) := (He.glo_ok X G (c.d.fact 20 (f := .glo "NoEdit") rfl))
  have t_gc_NoEditor : mg "NoEditor" = some (.ref (He.ga K "NoEditor")) := (He.glo_ok X G (c.d.fact 21 (f := .glo "NoEditor") rfl))
  have t_gc_NoHolder : mg "NoHolder" = some (.ref (He.ga K "NoHolder")) := (He.glo_ok X G (c.d.fact 22 (f := .glo "NoHolder") rfl))
  have t_gc_NoPart : mg "NoPart" = some (.ref (He.ga K "NoPart")) := (He.glo_ok X G (c.d.fact 23 (f := .glo "NoPart") rfl))
  have t_gc_NoRow : mg "NoRow" = some (.ref (He.ga K "NoRow")) := (He.glo_ok X G (c.d.fact 41 (f := .glo "NoRow") rfl))
  have t_gc_NotLive : mg "NotLive" = some (.ref (He.ga K "NotLive")) := (He.glo_ok X G (c.d.fact 24 (f := .glo "NotLive") rfl))
  have t_gc_Ring : mg "Ring" = some (.ref (He.ga K "Ring")) := (He.glo_ok X G (c.d.fact 25 (f := .glo "Ring") rfl))
  have t_gc_StandsOn : mg "StandsOn" = some (.ref (He.ga K "StandsOn")) := (He.glo_ok X G (c.d.fact 26 (f := .glo "StandsOn") rfl))
  have t_gc_TooLong : mg "TooLong" = some (.ref (He.ga K "TooLong")) := (He.glo_ok X G (c.d.fact 27 (f := .glo "TooLong") rfl))
  have t_gc_Unlike : mg "Unlike" = some (.ref (He.ga K "Unlike")) := (He.glo_ok X G (c.d.fact 28 (f := .glo "Unlike") rfl))
  have t_gc_WrongKind : mg "WrongKind" = some (.ref (He.ga K "WrongKind")) := (He.glo_ok X G (c.d.fact 29 (f := .glo "WrongKind") rfl))
  have t_ise_BadPanel : ∀ q ∈ tbi_BadPanel, ExcC K (He.ga K q.1) ∧ PySem.W.kitOne K (.ref (He.ga K q.1)) ((CN.own "BadPanel").u K) = some q.2 := (fm ⟨excB_ok (ex_at cm4 4), of_decide_eq_true (ex_at cm4 5)⟩ (fm ⟨excB_ok (ex_at cm4 2), of_decide_eq_true (ex_at cm4 3)⟩ (fm ⟨excB_ok (ex_at cm4 0), of_decide_eq_true (ex_at cm4 1)⟩ (fm ⟨excB_ok (ex_at cm3 23), of_decide_eq_true (ex_at cm3 24)⟩ (fm ⟨excB_ok (ex_at cm3 21), of_decide_eq_true (ex_at cm3 22)⟩ (fm ⟨excB_ok (ex_at cm3 19), of_decide_eq_true (ex_at cm3 20)⟩ (fm ⟨excB_ok (ex_at cm3 17), of_decide_eq_true (ex_at cm3 18)⟩ (fm ⟨excB_ok (ex_at cm3 15), of_decide_eq_true (ex_at cm3 16)⟩ (fm ⟨excB_ok (ex_at cm3 13), of_decide_eq_true (ex_at cm3 14)⟩ (fm ⟨excB_ok (ex_at cm3 11), of_decide_eq_true (ex_at cm3 12)⟩ (fm ⟨excB_ok (ex_at cm3 9), of_decide_eq_true (ex_at cm3 10)⟩ (fm ⟨excB_ok (ex_at cm3 7), of_decide_eq_true (ex_at cm3 8)⟩ (fm ⟨excB_ok (ex_at cm3 5), of_decide_eq_true (ex_at cm3 6)⟩ (fm ⟨excB_ok (ex_at cm3 3), of_decide_eq_true (ex_at cm3 4)⟩ (fm ⟨excB_ok (ex_at cm3 1), of_decide_eq_true (ex_at cm3 2)⟩ (fm ⟨excB_ok (ex_at cm2 24), of_decide_eq_true (ex_at cm3 0)⟩ (fm ⟨excB_ok (ex_at cm2 22), of_decide_eq_true (ex_at cm2 23)⟩ (fm ⟨excB_ok (ex_at cm2 20), of_decide_eq_true (ex_at cm2 21)⟩ (fm ⟨excB_ok (ex_at cm2 18), of_decide_eq_true (ex_at cm2 19)⟩ (fm ⟨excB_ok (ex_at cm2 16), of_decide_eq_true (ex_at cm2 17)⟩ (fm ⟨excB_ok (ex_at cm2 14), of_decide_eq_true (ex_at cm2 15)⟩ (fm ⟨excB_ok (ex_at cm2 12), of_decide_eq_true (ex_at cm2 13)⟩ fn0))))))))))))))))))))))
  have t_ise_NoChoice : ∀ q ∈ tbi_NoChoice, ExcC K (He.ga K q.1) ∧ PySem.W.kitOne K (.ref (He.ga K q.1)) ((CN.own "NoChoice").u K) = some q.2 := (fm ⟨excB_ok (ex_at cm4 4), of_decide_eq_true (ex_at cm5 2)⟩ (fm ⟨excB_ok (ex_at cm4 2), of_decide_eq_true (ex_at cm5 1)⟩ (fm ⟨excB_ok (ex_at cm4 0), of_decide_eq_true (ex_at cm5 0)⟩ (fm ⟨excB_ok (ex_at cm3 23), of_decide_eq_true (ex_at cm4 24)⟩ (fm ⟨excB_ok (ex_at cm3 21), of_decide_eq_true (ex_at cm4 23)⟩ (fm ⟨excB_ok (ex_at cm3 19), of_decide_eq_true (ex_at cm4 22)⟩ (fm ⟨excB_ok (ex_at cm3 17), of_decide_eq_true (ex_at cm4 21)⟩ (fm ⟨excB_ok (ex_at cm3 15), of_decide_eq_true (ex_at cm4 20)⟩ (fm ⟨excB_ok (ex_at cm3 13), of_decide_eq_true (ex_at cm4 19)⟩ (fm ⟨excB_ok (ex_at cm3 11), of_decide_eq_true (ex_at cm4 18)⟩ (fm ⟨excB_ok (ex_at cm3 9), of_decide_eq_true (ex_at cm4 17)⟩ (fm ⟨excB_ok (ex_at cm3 7), of_decide_eq_true (ex_at cm4 16)⟩ (fm ⟨excB_ok (ex_at cm3 5), of_decide_eq_true (ex_at cm4 15)⟩ (fm ⟨excB_ok (ex_at cm3 3), of_decide_eq_true (ex_at cm4 14)⟩ (fm ⟨excB_ok (ex_at cm3 1), of_decide_eq_true (ex_at cm4 13)⟩ (fm ⟨excB_ok (ex_at cm2 24), of_decide_eq_true (ex_at cm4 12)⟩ (fm ⟨excB_ok (ex_at cm2 22), of_decide_eq_true (ex_at cm4 11)⟩ (fm ⟨excB_ok (ex_at cm2 20), of_decide_eq_true (ex_at cm4 10)⟩ (fm ⟨excB_ok (ex_at cm2 18), of_decide_eq_true (ex_at cm4 9)⟩ (fm ⟨excB_ok (ex_at cm2 16), of_decide_eq_true (ex_at cm4 8)⟩ (fm ⟨excB_ok (ex_at cm2 14), of_decide_eq_true (ex_at cm4 7)⟩ (fm ⟨excB_ok (ex_at cm2 12), of_decide_eq_true (ex_at cm4 6)⟩ fn0))))))))))))))))))))))
  have t_ise_BadCond : ∀ q ∈ tbi_BadCond, ExcC K (He.ga K q.1) ∧ PySem.W.kitOne K (.ref (He.ga K q.1)) ((CN.own "BadCond").u K) = some q.2 := (fm ⟨excB_ok (ex_at cm4 4), of_decide_eq_true (ex_at cm5 24)⟩ (fm ⟨excB_ok (ex_at cm4 2), of_decide_eq_true (ex_at cm5 23)⟩ (fm ⟨excB_ok (ex_at cm4 0), of_decide_eq_true (ex_at cm5 22)⟩ (fm ⟨excB_ok (ex_at cm3 23), of_decide_eq_true (ex_at cm5 21)⟩ (fm ⟨excB_ok (ex_at cm3 21), of_decide_eq_true (ex_at cm5 20)⟩ (fm ⟨excB_ok (ex_at cm3 19), of_decide_eq_true (ex_at cm5 19)⟩ (fm ⟨excB_ok (ex_at cm3 17), of_decide_eq_true (ex_at cm5 18)⟩ (fm ⟨excB_ok (ex_at cm3 15), of_decide_eq_true (ex_at cm5 17)⟩ (fm ⟨excB_ok (ex_at cm3 13), of_decide_eq_true (ex_at cm5 16)⟩ (fm ⟨excB_ok (ex_at cm3 11), of_decide_eq_true (ex_at cm5 15)⟩ (fm ⟨excB_ok (ex_at cm3 9), of_decide_eq_true (ex_at cm5 14)⟩ (fm ⟨excB_ok (ex_at cm3 7), of_decide_eq_true (ex_at cm5 13)⟩ (fm ⟨excB_ok (ex_at cm3 5), of_decide_eq_true (ex_at cm5 12)⟩ (fm ⟨excB_ok (ex_at cm3 3), of_decide_eq_true (ex_at cm5 11)⟩ (fm ⟨excB_ok (ex_at cm3 1), of_decide_eq_true (ex_at cm5 10)⟩ (fm ⟨excB_ok (ex_at cm2 24), of_decide_eq_true (ex_at cm5 9)⟩ (fm ⟨excB_ok (ex_at cm2 22), of_decide_eq_true (ex_at cm5 8)⟩ (fm ⟨excB_ok (ex_at cm2 20), of_decide_eq_true (ex_at cm5 7)⟩ (fm ⟨excB_ok (ex_at cm2 18), of_decide_eq_true (ex_at cm5 6)⟩ (fm ⟨excB_ok (ex_at cm2 16), of_decide_eq_true (ex_at cm5 5)⟩ (fm ⟨excB_ok (ex_at cm2 14), of_decide_eq_true (ex_at cm5 4)⟩ (fm ⟨excB_ok (ex_at cm2 12), of_decide_eq_true (ex_at cm5 3)⟩ fn0))))))))))))))))))))))
  have t_ise_BadEdit : ∀ q ∈ tbi_BadEdit, ExcC K (He.ga K q.1) ∧ PySem.W.kitOne K (.ref (He.ga K q.1)) ((CN.own "BadEdit").u K) = some q.2 := (fm ⟨excB_ok (ex_at cm4 4), of_decide_eq_true (ex_at cm6 21)⟩ (fm ⟨excB_ok (ex_at cm4 2), of_decide_eq_true (ex_at cm6 20)⟩ (fm ⟨excB_ok (ex_at cm4 0), of_decide_eq_true (ex_at cm6 19)⟩ (fm ⟨excB_ok (ex_at cm3 23), of_decide_eq_true (ex_at cm6 18)⟩ (fm ⟨excB_ok (ex_at cm3 21), of_decide_eq_true (ex_at cm6 17)⟩ (fm ⟨excB_ok (ex_at cm3 19), of_decide_eq_true (ex_at cm6 16)⟩ (fm ⟨excB_ok (ex_at cm3 17), of_decide_eq_true (ex_at cm6 15)⟩ (fm ⟨excB_ok (ex_at cm3 15), of_decide_eq_true (ex_at cm6 14)⟩ (fm ⟨excB_ok (ex_at cm3 13), of_decide_eq_true (ex_at cm6 13)⟩ (fm ⟨excB_ok (ex_at cm3 11), of_decide_eq_true (ex_at cm6 12)⟩ (fm ⟨excB_ok (ex_at cm3 9), of_decide_eq_true (ex_at cm6 11)⟩ (fm ⟨excB_ok (ex_at cm3 7), of_decide_eq_true (ex_at cm6 10)⟩ (fm ⟨excB_ok (ex_at cm3 5), of_decide_eq_true (ex_at cm6 9)⟩ (fm ⟨excB_ok (ex_at cm3 3), of_decide_eq_true (ex_at cm6 8)⟩ (fm ⟨excB_ok (ex_at cm3 1), of_decide_eq_true (ex_at cm6 7)⟩ (fm ⟨excB_ok (ex_at cm2 24), of_decide_eq_true (ex_at cm6 6)⟩ (fm ⟨excB_ok (ex_at cm2 22), of_decide_eq_true (ex_at cm6 5)⟩ (fm ⟨excB_ok (ex_at cm2 20), of_decide_eq_true (ex_at cm6 4)⟩ (fm ⟨excB_ok (ex_at cm2 18), of_decide_eq_true (ex_at cm6 3)⟩ (fm ⟨excB_ok (ex_at cm2 16), of_decide_eq_true (ex_at cm6 2)⟩ (fm ⟨excB_ok (ex_at cm2 14), of_decide_eq_true (ex_at cm6 1)⟩ (fm ⟨excB_ok (ex_at cm2 12), of_decide_eq_true (ex_at cm6 0)⟩ fn0))))))))))))))))))))))
  have t_ise_NoRow : ∀ q ∈ tbi_NoRow, ExcC K (He.ga K q.1) ∧ PySem.W.kitOne K (.ref (He.ga K q.1)) ((CN.own "NoRow").u K) = some q.2 := (fm ⟨excB_ok (ex_at cm4 4), of_decide_eq_true (ex_at cm7 18)⟩ (fm ⟨excB_ok (ex_at cm4 2), of_decide_eq_true (ex_at cm7 17)⟩ (fm ⟨excB_ok (ex_at cm4 0), of_decide_eq_true (ex_at cm7 16)⟩ (fm ⟨excB_ok (ex_at cm3 23), of_decide_eq_true (ex_at cm7 15)⟩ (fm ⟨excB_ok (ex_at cm3 21), of_decide_eq_true (ex_at cm7 14)⟩ (fm ⟨excB_ok (ex_at cm3 19), of_decide_eq_true (ex_at cm7 13)⟩ (fm ⟨excB_ok (ex_at cm3 17), of_decide_eq_true (ex_at cm7 12)⟩ (fm ⟨excB_ok (ex_at cm3 15), of_decide_eq_true (ex_at cm7 11)⟩ (fm ⟨excB_ok (ex_at cm3 13), of_decide_eq_true (ex_at cm7 10)⟩ (fm ⟨excB_ok (ex_at cm3 11), of_decide_eq_true (ex_at cm7 9)⟩ (fm ⟨excB_ok (ex_at cm3 9), of_decide_eq_true (ex_at cm7 8)⟩ (fm ⟨excB_ok (ex_at cm3 7), of_decide_eq_true (ex_at cm7 7)⟩ (fm ⟨excB_ok (ex_at cm3 5), of_decide_eq_true (ex_at cm7 6)⟩ (fm ⟨excB_ok (ex_at cm3 3), of_decide_eq_true (ex_at cm7 5)⟩ (fm ⟨excB_ok (ex_at cm3 1), of_decide_eq_true (ex_at cm7 4)⟩ (fm ⟨excB_ok (ex_at cm2 24), of_decide_eq_true (ex_at cm7 3)⟩ (fm ⟨excB_ok (ex_at cm2 22), of_decide_eq_true (ex_at cm7 2)⟩ (fm ⟨excB_ok (ex_at cm2 20), of_decide_eq_true (ex_at cm7 1)⟩ (fm ⟨excB_ok (ex_at cm2 18), of_decide_eq_true (ex_at cm7 0)⟩ (fm ⟨excB_ok (ex_at cm2 16), of_decide_eq_true (ex_at cm6 24)⟩ (fm ⟨excB_ok (ex_at cm2 14), of_decide_eq_true (ex_at cm6 23)⟩ (fm ⟨excB_ok (ex_at cm2 12), of_decide_eq_true (ex_at cm6 22)⟩ fn0))))))))))))))))))))))
  have t_ise_BadPage : ∀ q ∈ tbi_BadPage, ExcC K (He.ga K q.1) ∧ PySem.W.kitOne K (.ref (He.ga K q.1)) ((CN.own "BadPage").u K) = some q.2 := (fm ⟨excB_ok (ex_at cm4 4), of_decide_eq_true (ex_at cm8 15)⟩ (fm ⟨excB_ok (ex_at cm4 2), of_decide_eq_true (ex_at cm8 14)⟩ (fm ⟨excB_ok (ex_at cm4 0), of_decide_eq_true (ex_at cm8 13)⟩ (fm ⟨excB_ok (ex_at cm3 23), of_decide_eq_true (ex_at cm8 12)⟩ (fm ⟨excB_ok (ex_at cm3 21), of_decide_eq_true (ex_at cm8 11)⟩ (fm ⟨excB_ok (ex_at cm3 19), of_decide_eq_true (ex_at cm8 10)⟩ (fm ⟨excB_ok (ex_at cm3 17), of_decide_eq_true (ex_at cm8 9)⟩ (fm ⟨excB_ok (ex_at cm3 15), of_decide_eq_true (ex_at cm8 8)⟩ (fm ⟨excB_ok (ex_at cm3 13), of_decide_eq_true (ex_at cm8 7)⟩ (fm ⟨excB_ok (ex_at cm3 11), of_decide_eq_true (ex_at cm8 6)⟩ (fm ⟨excB_ok (ex_at cm3 9), of_decide_eq_true (ex_at cm8 5)⟩ (fm ⟨excB_ok (ex_at cm3 7), of_decide_eq_true (ex_at cm8 4)⟩ (fm ⟨excB_ok (ex_at cm3 5), of_decide_eq_true (ex_at cm8 3)⟩ (fm ⟨excB_ok (ex_at cm3 3), of_decide_eq_true (ex_at cm8 2)⟩ (fm ⟨excB_ok (ex_at cm3 1), of_decide_eq_true (ex_at cm8 1)⟩ (fm ⟨excB_ok (ex_at cm2 24), of_decide_eq_true (ex_at cm8 0)⟩ (fm ⟨excB_ok (ex_at cm2 22), of_decide_eq_true (ex_at cm7 24)⟩ (fm ⟨excB_ok (ex_at cm2 20), of_decide_eq_true (ex_at cm7 23)⟩ (fm ⟨excB_ok (ex_at cm2 18), of_decide_eq_true (ex_at cm7 22)⟩ (fm ⟨excB_ok (ex_at cm2 16), of_decide_eq_true (ex_at cm7 21)⟩ (fm ⟨excB_ok (ex_at cm2 14), of_decide_eq_true (ex_at cm7 20)⟩ (fm ⟨excB_ok (ex_at cm2 12), of_decide_eq_true (ex_at cm7 19)⟩ fn0))))))))))))))))))))))
  have t_ise_Unlike : ∀ q ∈ tbi_Unlike, ExcC K (He.ga K q.1) ∧ PySem.W.kitOne K (.ref (He.ga K q.1)) ((CN.own "Unlike").u K) = some q.2 := (fm ⟨excB_ok (ex_at cm4 4), of_decide_eq_true (ex_at cm9 12)⟩ (fm ⟨excB_ok (ex_at cm4 2), of_decide_eq_true (ex_at cm9 11)⟩ (fm ⟨excB_ok (ex_at cm4 0), of_decide_eq_true (ex_at cm9 10)⟩ (fm ⟨excB_ok (ex_at cm3 23), of_decide_eq_true (ex_at cm9 9)⟩ (fm ⟨excB_ok (ex_at cm3 21), of_decide_eq_true (ex_at cm9 8)⟩ (fm ⟨excB_ok (ex_at cm3 19), of_decide_eq_true (ex_at cm9 7)⟩ (fm ⟨excB_ok (ex_at cm3 17), of_decide_eq_true (ex_at cm9 6)⟩ (fm ⟨excB_ok (ex_at cm3 15), of_decide_eq_true (ex_at cm9 5)⟩ (fm ⟨excB_ok (ex_at cm3 13), of_decide_eq_true (ex_at cm9 4)⟩ (fm ⟨excB_ok (ex_at cm3 11), of_decide_eq_true (ex_at cm9 3)⟩ (fm ⟨excB_ok (ex_at cm3 9), of_decide_eq_true (ex_at cm9 2)⟩ (fm ⟨excB_ok (ex_at cm3 7), of_decide_eq_true (ex_at cm9 1)⟩ (fm ⟨excB_ok (ex_at cm3 5), of_decide_eq_true (ex_at cm9 0)⟩ (fm ⟨excB_ok (ex_at cm3 3), of_decide_eq_true (ex_at cm8 24)⟩ (fm ⟨excB_ok (ex_at cm3 1), of_decide_eq_true (ex_at cm8 23)⟩ (fm ⟨excB_ok (ex_at cm2 24), of_decide_eq_true (ex_at cm8 22)⟩ (fm ⟨excB_ok (ex_at cm2 22), of_decide_eq_true (ex_at cm8 21)⟩ (fm ⟨excB_ok (ex_at cm2 20), of_decide_eq_true (ex_at cm8 20)⟩ (fm ⟨excB_ok (ex_at cm2 18), of_decide_eq_true (ex_at cm8 19)⟩ (fm ⟨excB_ok (ex_at cm2 16), of_decide_eq_true (ex_at cm8 18)⟩ (fm ⟨excB_ok (ex_at cm2 14), of_decide_eq_true (ex_at cm8 17)⟩ (fm ⟨excB_ok (ex_at cm2 12), of_decide_eq_true (ex_at cm8 16)⟩ fn0))))))))))))))))))))))
  have t_ise_NoEdit : ∀ q ∈ tbi_NoEdit, ExcC K (He.ga K q.1) ∧ PySem.W.kitOne K (.ref (He.ga K q.1)) ((CN.own "NoEdit").u K) = some q.2 := (fm ⟨excB_ok (ex_at cm4 4), of_decide_eq_true (ex_at cm10 9)⟩ (fm ⟨excB_ok (ex_at cm4 2), of_decide_eq_true (ex_at cm10 8)⟩ (fm ⟨excB_ok (ex_at cm4 0), of_decide_eq_true (ex_at cm10 7)⟩ (fm ⟨excB_ok (ex_at cm3 23), of_decide_eq_true (ex_at cm10 6)⟩ (fm ⟨excB_ok (ex_at cm3 21), of_decide_eq_true (ex_at cm10 5)⟩ (fm ⟨excB_ok (ex_at cm3 19), of_decide_eq_true (ex_at cm10 4)⟩ (fm ⟨excB_ok (ex_at cm3 17), of_decide_eq_true (ex_at cm10 3)⟩ (fm ⟨excB_ok (ex_at cm3 15), of_decide_eq_true (ex_at cm10 2)⟩ (fm ⟨excB_ok (ex_at cm3 13), of_decide_eq_true (ex_at cm10 1)⟩ (fm ⟨excB_ok (ex_at cm3 11), of_decide_eq_true (ex_at cm10 0)⟩ (fm ⟨excB_ok (ex_at cm3 9), of_decide_eq_true (ex_at cm9 24)⟩ (fm ⟨excB_ok (ex_at cm3 7), of_decide_eq_true (ex_at cm9 23)⟩ (fm ⟨excB_ok (ex_at cm3 5), of_decide_eq_true (ex_at cm9 22)⟩ (fm ⟨excB_ok (ex_at cm3 3), of_decide_eq_true (ex_at cm9 21)⟩ (fm ⟨excB_ok (ex_at cm3 1), of_decide_eq_true (ex_at cm9 20)⟩ (fm ⟨excB_ok (ex_at cm2 24), of_decide_eq_true (ex_at cm9 19)⟩ (fm ⟨excB_ok (ex_at cm2 22), of_decide_eq_true (ex_at cm9 18)⟩ (fm ⟨excB_ok (ex_at cm2 20), of_decide_eq_true (ex_at cm9 17)⟩ (fm ⟨excB_ok (ex_at cm2 18), of_decide_eq_true (ex_at cm9 16)⟩ (fm ⟨excB_ok (ex_at cm2 16), of_decide_eq_true (ex_at cm9 15)⟩ (fm ⟨excB_ok (ex_at cm2 14), of_decide_eq_true (ex_at cm9 14)⟩ (fm ⟨excB_ok (ex_at cm2 12), of_decide_eq_true (ex_at cm9 13)⟩ fn0))))))))))))))))))))))
  have t_ise_NotLive : ∀ q ∈ tbi_NotLive, ExcC K (He.ga K q.1) ∧ PySem.W.kitOne K (.ref (He.ga K q.1)) ((CN.own "NotLive").u K) = some q.2 := (fm ⟨excB_ok (ex_at cm4 4), of_decide_eq_true (ex_at cm11 6)⟩ (fm ⟨excB_ok (ex_at cm4 2), of_decide_eq_true (ex_at cm11 5)⟩ (fm ⟨excB_ok (ex_at cm4 0), of_decide_eq_true (ex_at cm11 4)⟩ (fm ⟨excB_ok (ex_at cm3 23), of_decide_eq_true (ex_at cm11 3)⟩ (fm ⟨excB_ok (ex_at cm3 21), of_decide_eq_true (ex_at cm11 2)⟩ (fm ⟨excB_ok (ex_at cm3 19), of_decide_eq_true (ex_at cm11 1)⟩ (fm ⟨excB_ok (ex_at cm3 17), of_decide_eq_true (ex_at cm11 0)⟩ (fm ⟨excB_ok (ex_at cm3 15), of_decide_eq_true (ex_at cm10 24)⟩ (fm ⟨excB_ok (ex_at cm3 13), of_decide_eq_true (ex_at cm10 23)⟩ (fm ⟨excB_ok (ex_at cm3 11), of_decide_eq_true (ex_at cm10 22)⟩ (fm ⟨excB_ok (ex_at cm3 9), of_decide_eq_true (ex_at cm10 21)⟩ (fm ⟨excB_ok (ex_at cm3 7), of_decide_eq_true (ex_at cm10 20)⟩ (fm ⟨excB_ok (ex_at cm3 5), of_decide_eq_true (ex_at cm10 19)⟩ (fm ⟨excB_ok (ex_at cm3 3), of_decide_eq_true (ex_at cm10 18)⟩ (fm ⟨excB_ok (ex_at cm3 1), of_decide_eq_true (ex_at cm10 17)⟩ (fm ⟨excB_ok (ex_at cm2 24), of_decide_eq_true (ex_at cm10 16)⟩ (fm ⟨excB_ok (ex_at cm2 22), of_decide_eq_true (ex_at cm10 15)⟩ (fm ⟨excB_ok (ex_at cm2 20), of_decide_eq_true (ex_at cm10 14)⟩ (fm ⟨excB_ok (ex_at cm2 18), of_decide_eq_true (ex_at cm10 13)⟩ (fm ⟨excB_ok (ex_at cm2 16), of_decide_eq_true (ex_at cm10 12)⟩ (fm ⟨excB_ok (ex_at cm2 14), of_decide_eq_true (ex_at cm10 11)⟩ (fm ⟨excB_ok (ex_at cm2 12), of_decide_eq_true (ex_at cm10 10)⟩ fn0))))))))))))))))))))))
  have t_ise_IsLive : ∀ q ∈ tbi_IsLive, ExcC K (He.ga K q.1) ∧ PySem.W.kitOne K (.ref (He.ga K q.1)) ((CN.own "IsLive").u K) = some q.2 := (fm ⟨excB_ok (ex_at cm4 4), of_decide_eq_true (ex_at cm12 3)⟩ (fm ⟨excB_ok (ex_at cm4 2), of_decide_eq_true (ex_at cm12 2)⟩ (fm ⟨excB_ok (ex_at cm4 0), of_decide_eq_true (ex_at cm12 1)⟩ (fm ⟨excB_ok (ex_at cm3 23), of_decide_eq_true (ex_at cm12 0)⟩ (fm ⟨excB_ok (ex_at cm3 21), of_decide_eq_true (ex_at cm11 24)⟩ (fm ⟨excB_ok (ex_at cm3 19), of_decide_eq_true (ex_at cm11 23)⟩ (fm ⟨excB_ok (ex_at cm3 17), of_decide_eq_true (ex_at cm11 22)⟩ (fm ⟨excB_ok (ex_at cm3 15), of_decide_eq_true (ex_at cm11 21)⟩ (fm ⟨excB_ok (ex_at cm3 13), of_decide_eq_true (ex_at cm11 20)⟩ (fm ⟨excB_ok (ex_at cm3 11), of_decide_eq_true (ex_at cm11 19)⟩ (fm ⟨excB_ok (ex_at cm3 9), of_decide_eq_true (ex_at cm11 18)⟩ (fm ⟨excB_ok (ex_at cm3 7), of_decide_eq_true (ex_at cm11 17)⟩ (fm ⟨excB_ok (ex_at cm3 5), of_decide_eq_true (ex_at cm11 16)⟩ (fm ⟨excB_ok (ex_at cm3 3), of_decide_eq_true (ex_at cm11 15)⟩ (fm ⟨excB_ok (ex_at cm3 1), of_decide_eq_true (ex_at cm11 14)⟩ (fm ⟨excB_ok (ex_at cm2 24), of_decide_eq_true (ex_at cm11 13)⟩ (fm ⟨excB_ok (ex_at cm2 22), of_decide_eq_true (ex_at cm11 12)⟩ (fm ⟨excB_ok (ex_at cm2 20), of_decide_eq_true (ex_at cm11 11)⟩ (fm ⟨excB_ok (ex_at cm2 18), of_decide_eq_true (ex_at cm11 10)⟩ (fm ⟨excB_ok (ex_at cm2 16), of_decide_eq_true (ex_at cm11 9)⟩ (fm ⟨excB_ok (ex_at cm2 14), of_decide_eq_true (ex_at cm11 8)⟩ (fm ⟨excB_ok (ex_at cm2 12), of_decide_eq_true (ex_at cm11 7)⟩ fn0))))))))))))))))))))))
  have t_ise_StandsOn : ∀ q ∈ tbi_StandsOn, ExcC K (He.ga K q.1) ∧ PySem.W.kitOne K (.ref (He.ga K q.1)) ((CN.own "StandsOn").u K) = some q.2 := (fm ⟨excB_ok (ex_at cm4 4), of_decide_eq_true (ex_at cm13 0)⟩ (fm ⟨excB_ok (ex_at cm4 2), of_decide_eq_true (ex_at cm12 24)⟩ (fm ⟨excB_ok (ex_at cm4 0), of_decide_eq_true (ex_at cm12 23)⟩ (fm ⟨excB_ok (ex_at cm3 23), of_decide_eq_true (ex_at cm12 22)⟩ (fm ⟨excB_ok (ex_at cm3 21), of_decide_eq_true (ex_at cm12 21)⟩ (fm ⟨excB_ok (ex_at cm3 19), of_decide_eq_true (ex_at cm12 20)⟩ (fm ⟨excB_ok (ex_at cm3 17), of_decide_eq_true (ex_at cm12 19)⟩ (fm ⟨excB_ok (ex_at cm3 15), of_decide_eq_true (ex_at cm12 18)⟩ (fm ⟨excB_ok (ex_at cm3 13), of_decide_eq_true (ex_at cm12 17)⟩ (fm ⟨excB_ok (ex_at cm3 11), of_decide_eq_true (ex_at cm12 16)⟩ (fm ⟨excB_ok (ex_at cm3 9), of_decide_eq_true (ex_at cm12 15)⟩ (fm ⟨excB_ok (ex_at cm3 7), of_decide_eq_true (ex_at cm12 14)⟩ (fm ⟨excB_ok (ex_at cm3 5), of_decide_eq_true (ex_at cm12 13)⟩ (fm ⟨excB_ok (ex_at cm3 3), of_decide_eq_true (ex_at cm12 12)⟩ (fm ⟨excB_ok (ex_at cm3 1), of_decide_eq_true (ex_at cm12 11)⟩ (fm ⟨excB_ok (ex_at cm2 24), of_decide_eq_true (ex_at cm12 10)⟩ (fm ⟨excB_ok (ex_at cm2 22), of_decide_eq_true (ex_at cm12 9)⟩ (fm ⟨excB_ok (ex_at cm2 20), of_decide_eq_true (ex_at cm12 8)⟩ (fm ⟨excB_ok (ex_at cm2 18), of_decide_eq_true (ex_at cm12 7)⟩ (fm ⟨excB_ok (ex_at cm2 16), of_decide_eq_true (ex_at cm12 6)⟩ (fm ⟨excB_ok (ex_at cm2 14), of_decide_eq_true (ex_at cm12 5)⟩ (fm ⟨excB_ok (ex_at cm2 12), of_decide_eq_true (ex_at cm12 4)⟩ fn0))))))))))))))))))))))
  have t_ise_NoEditor : ∀ q ∈ tbi_NoEditor, ExcC K (He.ga K q.1) ∧ PySem.W.kitOne K (.ref (He.ga K q.1)) ((CN.own "NoEditor").u K) = some q.2 := (fm ⟨excB_ok (ex_at cm4 4), of_decide_eq_true (ex_at cm13 22)⟩ (fm ⟨excB_ok (ex_at cm4 2), of_decide_eq_true (ex_at cm13 21)⟩ (fm ⟨excB_ok (ex_at cm4 0), of_decide_eq_true (ex_at cm13 20)⟩ (fm ⟨excB_ok (ex_at cm3 23), of_decide_eq_true (ex_at cm13 19)⟩ (fm ⟨excB_ok (ex_at cm3 21), of_decide_eq_true (ex_at cm13 18)⟩ (fm ⟨excB_ok (ex_at cm3 19), of_decide_eq_true (ex_at cm13 17)⟩ (fm ⟨excB_ok (ex_at cm3 17), of_decide_eq_true (ex_at cm13 16)⟩ (fm ⟨excB_ok (ex_at cm3 15), of_decide_eq_true (ex_at cm13 15)⟩ (fm ⟨excB_ok (ex_at cm3 13), of_decide_eq_true (ex_at cm13 14)⟩ (fm ⟨excB_ok (ex_at cm3 11), of_decide_eq_true (ex_at cm13 13)⟩ (fm ⟨excB_ok (ex_at cm3 9), of_decide_eq_true (ex_at cm13 12)⟩ (fm ⟨excB_ok (ex_at cm3 7), of_decide_eq_true (ex_at cm13 11)⟩ (fm ⟨excB_ok (ex_at cm3 5), of_decide_eq_true (ex_at cm13 10)⟩ (fm ⟨excB_ok (ex_at cm3 3), of_decide_eq_true (ex_at cm13 9)⟩ (fm ⟨excB_ok (ex_at cm3 1), of_decide_eq_true (ex_at cm13 8)⟩ (fm ⟨excB_ok (ex_at cm2 24), of_decide_eq_true (ex_at cm13 7)⟩ (fm ⟨excB_ok (ex_at cm2 22), of_decide_eq_true (ex_at cm13 6)⟩ (fm ⟨excB_ok (ex_at cm2 20), of_decide_eq_true (ex_at cm13 5)⟩ (fm ⟨excB_ok (ex_at cm2 18), of_decide_eq_true (ex_at cm13 4)⟩ (fm ⟨excB_ok (ex_at cm2 16), of_decide_eq_true (ex_at cm13 3)⟩ (fm ⟨excB_ok (ex_at cm2 14), of_decide_eq_true (ex_at cm13 2)⟩ (fm ⟨excB_ok (ex_at cm2 12), of_decide_eq_true (ex_at cm13 1)⟩ fn0))))))))))))))))))))))
  have t_ise_NoPart : ∀ q ∈ tbi_NoPart, ExcC K (He.ga K q.1) ∧ PySem.W.kitOne K (.ref (He.ga K q.1)) ((CN.own "NoPart").u K) = some q.2 := (fm ⟨excB_ok (ex_at cm4 4), of_decide_eq_true (ex_at cm14 19)⟩ (fm ⟨excB_ok (ex_at cm4 2), of_decide_eq_true (ex_at cm14 18)⟩ (fm ⟨excB_ok (ex_at cm4 0), of_decide_eq_true (ex_at cm14 17)⟩ (fm ⟨excB_ok (ex_at cm3 23), of_decide_eq_true (ex_at cm14 16)⟩ (fm ⟨excB_ok (ex_at cm3 21), of_decide_eq_true (ex_at cm14 15)⟩ (fm ⟨excB_ok (ex_at cm3 19), of_decide_eq_true (ex_at cm14 14)⟩ (fm ⟨excB_ok (ex_at cm3 17), of_decide_eq_true (ex_at cm14 13)⟩ (fm ⟨excB_ok (ex_at cm3 15), of_decide_eq_true (ex_at cm14 12)⟩ (fm ⟨excB_ok (ex_at cm3 13), of_decide_eq_true (ex_at cm14 11)⟩ (fm ⟨excB_ok (ex_at cm3 11), of_decide_eq_true (ex_at cm14 10)⟩ (fm ⟨excB_ok (ex_at cm3 9), of_decide_eq_true (ex_at cm14 9)⟩ (fm ⟨excB_ok (ex_at cm3 7), of_decide_eq_true (ex_at cm14 8)⟩ (fm ⟨excB_ok (ex_at cm3 5), of_decide_eq_true (ex_at cm14 7)⟩ (fm ⟨excB_ok (ex_at cm3 3), of_decide_eq_true (ex_at cm14 6)⟩ (fm ⟨excB_ok (ex_at cm3 1), of_decide_eq_true (ex_at cm14 5)⟩ (fm ⟨excB_ok (ex_at cm2 24), of_decide_eq_true (ex_at cm14 4)⟩ (fm ⟨excB_ok (ex_at cm2 22), of_decide_eq_true (ex_at cm14 3)⟩ (fm ⟨excB_ok (ex_at cm2 20), of_decide_eq_true (ex_at cm14 2)⟩ (fm ⟨excB_ok (ex_at cm2 18), of_decide_eq_true (ex_at cm14 1)⟩ (fm ⟨excB_ok (ex_at cm2 16), of_decide_eq_true (ex_at cm14 0)⟩ (fm ⟨excB_ok (ex_at cm2 14), of_decide_eq_true (ex_at cm13 24)⟩ (fm ⟨excB_ok (ex_at cm2 12), of_decide_eq_true (ex_at cm13 23)⟩ fn0))))))))))))))))))))))
  have t_ise_Doubled : ∀ q ∈ tbi_Doubled, ExcC K (He.ga K q.1) ∧ PySem.W.kitOne K (.ref (He.ga K q.1)) ((CN.own "Doubled").u K) = some q.2 := (fm ⟨excB_ok (ex_at cm4 4), of_decide_eq_true (ex_at cm15 16)⟩ (fm ⟨excB_ok (ex_at cm4 2), of_decide_eq_true (ex_at cm15 15)⟩ (fm ⟨excB_ok (ex_at cm4 0), of_decide_eq_true (ex_at cm15 14)⟩ (fm ⟨excB_ok (ex_at cm3 23), of_decide_eq_true (ex_at cm15 13)⟩ (fm ⟨excB_ok (ex_at cm3 21), of_decide_eq_true (ex_at cm15 12)⟩ (fm ⟨excB_ok (ex_at cm3 19), of_decide_eq_true (ex_at cm15 11)⟩ (fm ⟨excB_ok (ex_at cm3 17), of_decide_eq_true (ex_at cm15 10)⟩ (fm ⟨excB_ok (ex_at cm3 15), of_decide_eq_true (ex_at cm15 9)⟩ (fm ⟨excB_ok (ex_at cm3 13), of_decide_eq_true (ex_at cm15 8)⟩ (fm ⟨excB_ok (ex_at cm3 11), of_decide_eq_true (ex_at cm15 7)⟩ (fm ⟨excB_ok (ex_at cm3 9), of_decide_eq_true (ex_at cm15 6)⟩ (fm ⟨excB_ok (ex_at cm3 7), of_decide_eq_true (ex_at cm15 5)⟩ (fm ⟨excB_ok (ex_at cm3 5), of_decide_eq_true (ex_at cm15 4)⟩ (fm ⟨excB_ok (ex_at cm3 3), of_decide_eq_true (ex_at cm15 3)⟩ (fm ⟨excB_ok (ex_at cm3 1), of_decide_eq_true (ex_at cm15 2)⟩ (fm ⟨excB_ok (ex_at cm2 24), of_decide_eq_true (ex_at cm15 1)⟩ (fm ⟨excB_ok (ex_at cm2 22), of_decide_eq_true (ex_at cm15 0)⟩ (fm ⟨excB_ok (ex_at cm2 20), of_decide_eq_true (ex_at cm14 24)⟩ (fm ⟨excB_ok (ex_at cm2 18), of_decide_eq_true (ex_at cm14 23)⟩ (fm ⟨excB_ok (ex_at cm2 16), of_decide_eq_true (ex_at cm14 22)⟩ (fm ⟨excB_ok (ex_at cm2 14), of_decide_eq_true (ex_at cm14 21)⟩ (fm ⟨excB_ok (ex_at cm2 12), of_decide_eq_true (ex_at cm14 20)⟩ fn0))))))))))))))))))))))
  have t_ise_Lost : ∀ q ∈ tbi_Lost, ExcC K (He.ga K q.1) ∧ PySem.W.kitOne K (.ref (He.ga K q.1)) ((CN.own "Lost").u K) = some q.2 := (fm ⟨excB_ok (ex_at cm4 4), of_decide_eq_true (ex_at cm16 13)⟩ (fm ⟨excB_ok (ex_at cm4 2), of_decide_eq_true (ex_at cm16 12)⟩ (fm ⟨excB_ok (ex_at cm4 0), of_decide_eq_true (ex_at cm16 11)⟩ (fm ⟨excB_ok (ex_at cm3 23), of_decide_eq_true (ex_at cm16 10)⟩ (fm ⟨excB_ok (ex_at cm3 21), of_decide_eq_true (ex_at cm16 9)⟩ (fm ⟨excB_ok (ex_at cm3 19), of_decide_eq_true (ex_at cm16 8)⟩ (fm ⟨excB_ok (ex_at cm3 17), of_decide_eq_true (ex_at cm16 7)⟩ (fm ⟨excB_ok (ex_at cm3 15), of_decide_eq_true (ex_at cm16 6)⟩ (fm ⟨excB_ok (ex_at cm3 13), of_decide_eq_true (ex_at cm16 5)⟩ (fm ⟨excB_ok (ex_at cm3 11), of_decide_eq_true (ex_at cm16 4)⟩ (fm ⟨excB_ok (ex_at cm3 9), of_decide_eq_true (ex_at cm16 3)⟩ (fm ⟨excB_ok (ex_at cm3 7), of_decide_eq_true (ex_at cm16 2)⟩ (fm ⟨excB_ok (ex_at cm3 5), of_decide_eq_true (ex_at cm16 1)⟩ (fm ⟨excB_ok (ex_at cm3 3), of_decide_eq_true (ex_at cm16 0)⟩ (fm ⟨excB_ok (ex_at cm3 1), of_decide_eq_true (ex_at cm15 24)⟩ (fm ⟨excB_ok (ex_at cm2 24), of_decide_eq_true (ex_at cm15 23)⟩ (fm ⟨excB_ok (ex_at cm2 22), of_decide_eq_true (ex_at cm15 22)⟩ (fm ⟨excB_ok (ex_at cm2 20), of_decide_eq_true (ex_at cm15 21)⟩ (fm ⟨excB_ok (ex_at cm2 18), of_decide_eq_true (ex_at cm15 20)⟩ (fm ⟨excB_ok (ex_at cm2 16), of_decide_eq_true (ex_at cm15 19)⟩ (fm ⟨excB_ok (ex_at cm2 14), of_decide_eq_true (ex_at cm15 18)⟩ (fm ⟨excB_ok (ex_at cm2 12), of_decide_eq_true (ex_at cm15 17)⟩ fn0))))))))))))))))))))))
  have t_ise_Ring : ∀ q ∈ tbi_Ring, ExcC K (He.ga K q.1) ∧ PySem.W.kitOne K (.ref (He.ga K q.1)) ((CN.own "Ring").u K) = some q.2 := (fm ⟨excB_ok (ex_at cm4 4), of_decide_eq_true (ex_at cm17 10)⟩ (fm ⟨excB_ok (ex_at cm4 2), of_decide_eq_true (ex_at cm17 9)⟩ (fm ⟨excB_ok (ex_at cm4 0), of_decide_eq_true (ex_at cm17 8)⟩ (fm ⟨excB_ok (ex_at cm3 23), of_decide_eq_true (ex_at cm17 7)⟩ (fm ⟨excB_ok (ex_at cm3 21), of_decide_eq_true (ex_at cm17 6)⟩ (fm ⟨excB_ok (ex_at cm3 19), of_decide_eq_true (ex_at cm17 5)⟩ (fm ⟨excB_ok (ex_at cm3 17), of_decide_eq_true (ex_at cm17 4)⟩ (fm ⟨excB_ok (ex_at cm3 15), of_decide_eq_true (ex_at cm17 3)⟩ (fm ⟨excB_ok (ex_at cm3 13), of_decide_eq_true (ex_at cm17 2)⟩ (fm ⟨excB_ok (ex_at cm3 11), of_decide_eq_true (ex_at cm17 1)⟩ (fm ⟨excB_ok (ex_at cm3 9), of_decide_eq_true (ex_at cm17 0)⟩ (fm ⟨excB_ok (ex_at cm3 7), of_decide_eq_true (ex_at cm16 24)⟩ (fm ⟨excB_ok (ex_at cm3 5), of_decide_eq_true (ex_at cm16 23)⟩ (fm ⟨excB_ok (ex_at cm3 3), of_decide_eq_true (ex_at cm16 22)⟩ (fm ⟨excB_ok (ex_at cm3 1), of_decide_eq_true (ex_at cm16 21)⟩ (fm ⟨excB_ok (ex_at cm2 24), of_decide_eq_true (ex_at cm16 20)⟩ (fm ⟨excB_ok (ex_at cm2 22), of_decide_eq_true (ex_at cm16 19)⟩ (fm ⟨excB_ok (ex_at cm2 20), of_decide_eq_true (ex_at cm16 18)⟩ (fm ⟨excB_ok (ex_at cm2 18), of_decide_eq_true (ex_at cm16 17)⟩ (fm ⟨excB_ok (ex_at cm2 16), of_decide_eq_true (ex_at cm16 16)⟩ (fm ⟨excB_ok (ex_at cm2 14), of_decide_eq_true (ex_at cm16 15)⟩ (fm ⟨excB_ok (ex_at cm2 12), of_decide_eq_true (ex_at cm16 14)⟩ fn0))))))))))))))))))))))
  have t_ise_NoHolder : ∀ q ∈ tbi_NoHolder, ExcC K (He.ga K q.1) ∧ PySem.W.kitOne K (.ref (He.ga K q.1)) ((CN.own "NoHolder").u K) = some q.2 := (fm ⟨excB_ok (ex_at cm4 4), of_decide_eq_true (ex_at cm18 7)⟩ (fm ⟨excB_ok (ex_at cm4 2), of_decide_eq_true (ex_at cm18 6)⟩ (fm ⟨excB_ok (ex_at cm4 0), of_decide_eq_true (ex_at cm18 5)⟩ (fm ⟨excB_ok (ex_at cm3 23), of_decide_eq_true (ex_at cm18 4)⟩ (fm ⟨excB_ok (ex_at cm3 21), of_decide_eq_true (ex_at cm18 3)⟩ (fm ⟨excB_ok (ex_at cm3 19), of_decide_eq_true (ex_at cm18 2)⟩ (fm ⟨excB_ok (ex_at cm3 17), of_decide_eq_true (ex_at cm18 1)⟩ (fm ⟨excB_ok (ex_at cm3 15), of_decide_eq_true (ex_at cm18 0)⟩ (fm ⟨excB_ok (ex_at cm3 13), of_decide_eq_true (ex_at cm17 24)⟩ (fm ⟨excB_ok (ex_at cm3 11), of_decide_eq_true (ex_at cm17 23)⟩ (fm ⟨excB_ok (ex_at cm3 9), of_decide_eq_true (ex_at cm17 22)⟩ (fm ⟨excB_ok (ex_at cm3 7), of_decide_eq_true (ex_at cm17 21)⟩ (fm ⟨excB_ok (ex_at cm3 5), of_decide_eq_true (ex_at cm17 20)⟩ (fm ⟨excB_ok (ex_at cm3 3), of_decide_eq_true (ex_at cm17 19)⟩ (fm ⟨excB_ok (ex_at cm3 1), of_decide_eq_true (ex_at cm17 18)⟩ (fm ⟨excB_ok (ex_at cm2 24), of_decide_eq_true (ex_at cm17 17)⟩ (fm ⟨excB_ok (ex_at cm2 22), of_decide_eq_true (ex_at cm17 16)⟩ (fm ⟨excB_ok (ex_at cm2 20), of_decide_eq_true (ex_at cm17 15)⟩ (fm ⟨excB_ok (ex_at cm2 18), of_decide_eq_true (ex_at cm17 14)⟩ (fm ⟨excB_ok (ex_at cm2 16), of_decide_eq_true (ex_at cm17 13)⟩ (fm ⟨excB_ok (ex_at cm2 14), of_decide_eq_true (ex_at cm17 12)⟩ (fm ⟨excB_ok (ex_at cm2 12), of_decide_eq_true (ex_at cm17 11)⟩ fn0))))))))))))))))))))))
  have t_ise_WrongKind : ∀ q ∈ tbi_WrongKind, ExcC K (He.ga K q.1) ∧ PySem.W.kitOne K (.ref (He.ga K q.1)) ((CN.own "WrongKind").u K) = some q.2 := (fm ⟨excB_ok (ex_at cm4 4), of_decide_eq_true (ex_at cm19 4)⟩ (fm ⟨excB_ok (ex_at cm4 2), of_decide_eq_true (ex_at cm19 3)⟩ (fm ⟨excB_ok (ex_at cm4 0), of_decide_eq_true (ex_at cm19 2)⟩ (fm ⟨excB_ok (ex_at cm3 23), of_decide_eq_true (ex_at cm19 1)⟩ (fm ⟨excB_ok (ex_at cm3 21), of_decide_eq_true (ex_at cm19 0)⟩ (fm ⟨excB_ok (ex_at cm3 19), of_decide_eq_true (ex_at cm18 24)⟩ (fm ⟨excB_ok (ex_at cm3 17), of_decide_eq_true (ex_at cm18 23)⟩ (fm ⟨excB_ok (ex_at cm3 15), of_decide_eq_true (ex_at cm18 22)⟩ (fm ⟨excB_ok (ex_at cm3 13), of_decide_eq_true (ex_at cm18 21)⟩ (fm ⟨excB_ok (ex_at cm3 11), of_decide_eq_true (ex_at cm18 20)⟩ (fm ⟨excB_ok (ex_at cm3 9), of_decide_eq_true (ex_at cm18 19)⟩ (fm ⟨excB_ok (ex_at cm3 7), of_decide_eq_true (ex_at cm18 18)⟩ (fm ⟨excB_ok (ex_at cm3 5), of_decide_eq_true (ex_at cm18 17)⟩ (fm ⟨excB_ok (ex_at cm3 3), of_decide_eq_true (ex_at cm18 16)⟩ (fm ⟨excB_ok (ex_at cm3 1), of_decide_eq_true (ex_at cm18 15)⟩ (fm ⟨excB_ok (ex_at cm2 24), of_decide_eq_true (ex_at cm18 14)⟩ (fm ⟨excB_ok (ex_at cm2 22), of_decide_eq_true (ex_at cm18 13)⟩ (fm ⟨excB_ok (ex_at cm2 20), of_decide_eq_true (ex_at cm18 12)⟩ (fm ⟨excB_ok (ex_at cm2 18), of_decide_eq_true (ex_at cm18 11)⟩ (fm ⟨excB_ok (ex_at cm2 16), of_decide_eq_true (ex_at cm18 10)⟩ (fm ⟨excB_ok (ex_at cm2 14), of_decide_eq_true (ex_at cm18 9)⟩ (fm ⟨excB_ok (ex_at cm2 12), of_decide_eq_true (ex_at cm18 8)⟩ fn0))))))))))))))))))))))
  have t_ise_Far : ∀ q ∈ tbi_Far, ExcC K (He.ga K q.1) ∧ PySem.W.kitOne K (.ref (He.ga K q.1)) ((CN.own "Far").u K) = some q.2 := (fm ⟨excB_ok (ex_at cm4 4), of_decide_eq_true (ex_at cm20 1)⟩ (fm ⟨excB_ok (ex_at cm4 2), of_decide_eq_true (ex_at cm20 0)⟩ (fm ⟨excB_ok (ex_at cm4 0), of_decide_eq_true (ex_at cm19 24)⟩ (fm ⟨excB_ok (ex_at cm3 23), of_decide_eq_true (ex_at cm19 23)⟩ (fm ⟨excB_ok (ex_at cm3 21), of_decide_eq_true (ex_at cm19 22)⟩ (fm ⟨excB_ok (ex_at cm3 19), of_decide_eq_true (ex_at cm19 21)⟩ (fm ⟨excB_ok (ex_at cm3 17), of_decide_eq_true (ex_at cm19 20)⟩ (fm ⟨excB_ok (ex_at cm3 15), of_decide_eq_true (ex_at cm19 19)⟩ (fm ⟨excB_ok (ex_at cm3 13), of_decide_eq_true (ex_at cm19 18)⟩ (fm ⟨excB_ok (ex_at cm3 11), of_decide_eq_true (ex_at cm19 17)⟩ (fm ⟨excB_ok (ex_at cm3 9), of_decide_eq_true (ex_at cm19 16)⟩ (fm ⟨excB_ok (ex_at cm3 7), of_decide_eq_true (ex_at cm19 15)⟩ (fm ⟨excB_ok (ex_at cm3 5), of_decide_eq_true (ex_at cm19 14)⟩ (fm ⟨excB_ok (ex_at cm3 3), of_decide_eq_true (ex_at cm19 13)⟩ (fm ⟨excB_ok (ex_at cm3 1), of_decide_eq_true (ex_at cm19 12)⟩ (fm ⟨excB_ok (ex_at cm2 24), of_decide_eq_true (ex_at cm19 11)⟩ (fm ⟨excB_ok (ex_at cm2 22), of_decide_eq_true (ex_at cm19 10)⟩ (fm ⟨excB_ok (ex_at cm2 20), of_decide_eq_true (ex_at cm19 9)⟩ (fm ⟨excB_ok (ex_at cm2 18), of_decide_eq_true (ex_at cm19 8)⟩ (fm ⟨excB_ok (ex_at cm2 16), of_decide_eq_true (ex_at cm19 7)⟩ (fm ⟨excB_ok (ex_at cm2 14), of_decide_eq_true (ex_at cm19 6)⟩ (fm ⟨excB_ok (ex_at cm2 12), of_decide_eq_true (ex_at cm19 5)⟩ fn0))))))))))))))))))))))
  have t_ise_TooLong : ∀ q ∈ tbi_TooLong, ExcC K (He.ga K q.1) ∧ PySem.W.kitOne K (.ref (He.ga K q.1)) ((CN.own "TooLong").u K) = some q.2 := (fm ⟨excB_ok (ex_at cm4 4), of_decide_eq_true (ex_at cm20 23)⟩ (fm ⟨excB_ok (ex_at cm4 2), of_decide_eq_true (ex_at cm20 22)⟩ (fm ⟨excB_ok (ex_at cm4 0), of_decide_eq_true (ex_at cm20 21)⟩ (fm ⟨excB_ok (ex_at cm3 23), of_decide_eq_true (ex_at cm20 20)⟩ (fm ⟨excB_ok (ex_at cm3 21), of_decide_eq_true (ex_at cm20 19)⟩ (fm ⟨excB_ok (ex_at cm3 19), of_decide_eq_true (ex_at cm20 18)⟩ (fm ⟨excB_ok (ex_at cm3 17), of_decide_eq_true (ex_at cm20 17)⟩ (fm ⟨excB_ok (ex_at cm3 15), of_decide_eq_true (ex_at cm20 16)⟩ (fm ⟨excB_ok (ex_at cm3 13), of_decide_eq_true (ex_at cm20 15)⟩ (fm ⟨excB_ok (ex_at cm3 11), of_decide_eq_true (ex_at cm20 14)⟩ (fm ⟨excB_ok (ex_at cm3 9), of_decide_eq_true (ex_at cm20 13)⟩ (fm ⟨excB_ok (ex_at cm3 7), of_decide_eq_true (ex_at cm20 12)⟩ (fm ⟨excB_ok (ex_at cm3 5), of_decide_eq_true (ex_at cm20 11)⟩ (fm ⟨excB_ok (ex_at cm3 3), of_decide_eq_true (ex_at cm20 10)⟩ (fm ⟨excB_ok (ex_at cm3 1), of_decide_eq_true (ex_at cm20 9)⟩ (fm ⟨excB_ok (ex_at cm2 24), of_decide_eq_true (ex_at cm20 8)⟩ (fm ⟨excB_ok (ex_at cm2 22), of_decide_eq_true (ex_at cm20 7)⟩ (fm ⟨excB_ok (ex_at cm2 20), of_decide_eq_true (ex_at cm20 6)⟩ (fm ⟨excB_ok (ex_at cm2 18), of_decide_eq_true (ex_at cm20 5)⟩ (fm ⟨excB_ok (ex_at cm2 16), of_decide_eq_true (ex_at cm20 4)⟩ (fm ⟨excB_ok (ex_at cm2 14), of_decide_eq_true (ex_at cm20 3)⟩ (fm ⟨excB_ok (ex_at cm2 12), of_decide_eq_true (ex_at cm20 2)⟩ fn0))))))))))))))))))))))
  have t_ise_EditError : ∀ q ∈ tbi_EditError, ExcC K (He.ga K q.1) ∧ PySem.W.kitOne K (.ref (He.ga K q.1)) ((CN.own "EditError").u K) = some q.2 := (fm ⟨excB_ok (ex_at cm4 4), of_decide_eq_true (ex_at cm21 20)⟩ (fm ⟨excB_ok (ex_at cm4 2), of_decide_eq_true (ex_at cm21 19)⟩ (fm ⟨excB_ok (ex_at cm4 0), of_decide_eq_true (ex_at cm21 18)⟩ (fm ⟨excB_ok (ex_at cm3 23), of_decide_eq_true (ex_at cm21 17)⟩ (fm ⟨excB_ok (ex_at cm3 21), of_decide_eq_true (ex_at cm21 16)⟩ (fm ⟨excB_ok (ex_at cm3 19), of_decide_eq_true (ex_at cm21 15)⟩ (fm ⟨excB_ok (ex_at cm3 17), of_decide_eq_true (ex_at cm21 14)⟩ (fm ⟨excB_ok (ex_at cm3 15), of_decide_eq_true (ex_at cm21 13)⟩ (fm ⟨excB_ok (ex_at cm3 13), of_decide_eq_true (ex_at cm21 12)⟩ (fm ⟨excB_ok (ex_at cm3 11), of_decide_eq_true (ex_at cm21 11)⟩ (fm ⟨excB_ok (ex_at cm3 9), of_decide_eq_true (ex_at cm21 10)⟩ (fm ⟨excB_ok (ex_at cm3 7), of_decide_eq_true (ex_at cm21 9)⟩ (fm ⟨excB_ok (ex_at cm3 5), of_decide_eq_true (ex_at cm21 8)⟩ (fm ⟨excB_ok (ex_at cm3 3), of_decide_eq_true (ex_at cm21 7)⟩ (fm ⟨excB_ok (ex_at cm3 1), of_decide_eq_true (ex_at cm21 6)⟩ (fm ⟨excB_ok (ex_at cm2 24), of_decide_eq_true (ex_at cm21 5)⟩ (fm ⟨excB_ok (ex_at cm2 22), of_decide_eq_true (ex_at cm21 4)⟩ (fm ⟨excB_ok (ex_at cm2 20), of_decide_eq_true (ex_at cm21 3)⟩ (fm ⟨excB_ok (ex_at cm2 18), of_decide_eq_true (ex_at cm21 2)⟩ (fm ⟨excB_ok (ex_at cm2 16), of_decide_eq_true (ex_at cm21 1)⟩ (fm ⟨excB_ok (ex_at cm2 14), of_decide_eq_true (ex_at cm21 0)⟩ (fm ⟨excB_ok (ex_at cm2 12), of_decide_eq_true (ex_at cm20 24)⟩ fn0))))))))))))))))))))))
  have t_ise_LeafError : ∀ q ∈ tbi_LeafError, ExcC K (He.ga K q.1) ∧ PySem.W.kitOne K (.ref (He.ga K q.1)) ((CN.own "LeafError").u K) = some q.2 := (fm ⟨excB_ok (ex_at cm4 4), of_decide_eq_true (ex_at cm22 17)⟩ (fm ⟨excB_ok (ex_at cm4 2), of_decide_eq_true (ex_at cm22 16)⟩ (fm ⟨excB_ok (ex_at cm4 0), of_decide_eq_true (ex_at cm22 15)⟩ (fm ⟨excB_ok (ex_at cm3 23), of_decide_eq_true (ex_at cm22 14)⟩ (fm ⟨excB_ok (ex_at cm3 21), of_decide_eq_true (ex_at cm22 13)⟩ (fm ⟨excB_ok (ex_at cm3 19), of_decide_eq_true (ex_at cm22 12)⟩ (fm ⟨excB_ok (ex_at cm3 17), of_decide_eq_true (ex_at cm22 11)⟩ (fm ⟨excB_ok (ex_at cm3 15), of_decide_eq_true (ex_at cm22 10)⟩ (fm ⟨excB_ok (ex_at cm3 13), of_decide_eq_true (ex_at cm22 9)⟩ (fm ⟨excB_ok (ex_at cm3 11), of_decide_eq_true (ex_at cm22 8)⟩ (fm ⟨excB_ok (ex_at cm3 9), of_decide_eq_true (ex_at cm22 7)⟩ (fm ⟨excB_ok (ex_at cm3 7), of_decide_eq_true (ex_at cm22 6)⟩ (fm ⟨excB_ok (ex_at cm3 5), of_decide_eq_true (ex_at cm22 5)⟩ (fm ⟨excB_ok (ex_at cm3 3), of_decide_eq_true (ex_at cm22 4)⟩ (fm ⟨excB_ok (ex_at cm3 1), of_decide_eq_true (ex_at cm22 3)⟩ (fm ⟨excB_ok (ex_at cm2 24), of_decide_eq_true (ex_at cm22 2)⟩ (fm ⟨excB_ok (ex_at cm2 22), of_decide_eq_true (ex_at cm22 1)⟩ (fm ⟨excB_ok (ex_at cm2 20), of_decide_eq_true (ex_at cm22 0)⟩ (fm ⟨excB_ok (ex_at cm2 18), of_decide_eq_true (ex_at cm21 24)⟩ (fm ⟨excB_ok (ex_at cm2 16), of_decide_eq_true (ex_at cm21 23)⟩ (fm ⟨excB_ok (ex_at cm2 14), of_decide_eq_true (ex_at cm21 22)⟩ (fm ⟨excB_ok (ex_at cm2 12), of_decide_eq_true (ex_at cm21 21)⟩ fn0))))))))))))))))))))))
  have t_ise_ValueError : ∀ q ∈ tbi_ValueError, ExcC K (He.ga K q.1) ∧ PySem.W.kitOne K (.ref (He.ga K q.1)) ((CN.ty "ValueError").u K) = some q.2 := (fm ⟨excB_ok (ex_at cm4 4), of_decide_eq_true (ex_at cm23 14)⟩ (fm ⟨excB_ok (ex_at cm4 2), of_decide_eq_true (ex_at cm23 13)⟩ (fm ⟨excB_ok (ex_at cm4 0), of_decide_eq_true (ex_at cm23 12)⟩ (fm ⟨excB_ok (ex_at cm3 23), of_decide_eq_true (ex_at cm23 11)⟩ (fm ⟨excB_ok (ex_at cm3 21), of_decide_eq_true (ex_at cm23 10)⟩ (fm ⟨excB_ok (ex_at cm3 19), of_decide_eq_true (ex_at cm23 9)⟩ (fm ⟨excB_ok (ex_at cm3 17), of_decide_eq_true (ex_at cm23 8)⟩ (fm ⟨excB_ok (ex_at cm3 15), of_decide_eq_true (ex_at cm23 7)⟩ (fm ⟨excB_ok (ex_at cm3 13), of_decide_eq_true (ex_at cm23 6)⟩ (fm ⟨excB_ok (ex_at cm3 11), of_decide_eq_true (ex_at cm23 5)⟩ (fm ⟨excB_ok (ex_at cm3 9), of_decide_eq_true (ex_at cm23 4)⟩ (fm ⟨excB_ok (ex_at cm3 7), of_decide_eq_true (ex_at cm23 3)⟩ (fm ⟨excB_ok (ex_at cm3 5), of_decide_eq_true (ex_at cm23 2)⟩ (fm ⟨excB_ok (ex_at cm3 3), of_decide_eq_true (ex_at cm23 1)⟩ (fm ⟨excB_ok (ex_at cm3 1), of_decide_eq_true (ex_at cm23 0)⟩ (fm ⟨excB_ok (ex_at cm2 24), of_decide_eq_true (ex_at cm22 24)⟩ (fm ⟨excB_ok (ex_at cm2 22), of_decide_eq_true (ex_at cm22 23)⟩ (fm ⟨excB_ok (ex_at cm2 20), of_decide_eq_true (ex_at cm22 22)⟩ (fm ⟨excB_ok (ex_at cm2 18), of_decide_eq_true (ex_at cm22 21)⟩ (fm ⟨excB_ok (ex_at cm2 16), of_decide_eq_true (ex_at cm22 20)⟩ (fm ⟨excB_ok (ex_at cm2 14), of_decide_eq_true (ex_at cm22 19)⟩ (fm ⟨excB_ok (ex_at cm2 12), of_decide_eq_true (ex_at cm22 18)⟩ fn0))))))))))))))))))))))
  have T : Tx K mg := ⟨t_g__law_first, t_g__law_edits, t_g__law_good, t_g__law_plain_ones, t_g__law_cell_at, t_g__law_with_fields, t_g__law_of_edits, t_g__law_mix, t_g_law, t_f_ValueError, t_f_enumerate, t_f_isinstance, t_f_len, t_f_range, t_rai_BadPage, t_rai_Doubled, t_rai_EditError, t_rai_Far, t_rai_IsLive, t_rai_Lost, t_rai_NoEdit, t_rai_NoEditor, t_rai_NoHolder, t_rai_NoPart, t_rai_NotLive, t_rai_Ring, t_rai_StandsOn, t_rai_TooLong, t_rai_Unlike, t_rai_WrongKind, t_vein_LeafError, t_xfv_choice, t_xfv_editor, t_xfv_line, t_xfv_number, t_xfv_one, t_xfv_other, t_xfv_part, t_exc_BadCond, t_exc_BadEdit, t_exc_BadPanel, t_exc_LeafError, t_exc_NoChoice, t_exc_NoRow, t_gc_BadCond, t_gc_BadEdit, t_gc_BadPage, t_gc_BadPanel, t_gc_Doubled, t_gc_EditError, t_gc_Far, t_gc_IsLive, t_gc_LeafError, t_gc_Lost, t_gc_NoChoice, t_gc_NoEdit, t_gc_NoEditor, t_gc_NoHolder, t_gc_NoPart, t_gc_NoRow, t_gc_NotLive, t_gc_Ring, t_gc_StandsOn, t_gc_TooLong, t_gc_Unlike, t_gc_WrongKind, t_ise_BadPanel, t_ise_NoChoice, t_ise_BadCond, t_ise_BadEdit, t_ise_NoRow, t_ise_BadPage, t_ise_Unlike, t_ise_NoEdit, t_ise_NotLive, t_ise_IsLive, t_ise_StandsOn, t_ise_NoEditor, t_ise_NoPart, t_ise_Doubled, t_ise_Lost, t_ise_Ring, t_ise_NoHolder, t_ise_WrongKind, t_ise_Far, t_ise_TooLong, t_ise_EditError, t_ise_LeafError, t_ise_ValueError⟩
  have u__law_first : DefU K "_law_first" "_law_first" s__law_first (He.ga K "_law_first") ["_law_e"] := ⟨fd__law_first, D__law_first, FunD.bindsN D__law_first fun _ _ _ _ _ _ us hl => match us, hl with | [_], _ => rfl⟩
  have u__law_edits : DefU K "_law_edits" "_law_edits" s__law_edits (He.ga K "_law_edits") ["_law_e"] := ⟨fd__law_edits, D__law_edits, FunD.bindsN D__law_edits fun _ _ _ _ _ _ us hl => match us, hl with | [_], _ => rfl⟩
  have u__law_good : DefU K "_law_good" "_law_good" s__law_good (He.ga K "_law_good") ["_law_e", "_law_at", "_law_edit"] := ⟨fd__law_good, D__law_good, FunD.bindsN D__law_good fun _ _ _ _ _ _ us hl => match us, hl with | [_, _, _], _ => rfl⟩
  have u__law_plain_ones : DefU K "_law_plain_ones" "_law_plain_ones" s__law_plain_ones (He.ga K "_law_plain_ones") [] := ⟨fd__law_plain_ones, D__law_plain_ones, FunD.bindsN D__law_plain_ones fun _ _ _ _ _ _ us hl => match us, hl with | [], _ => rfl⟩
  have u__law_cell_at : DefU K "_law_cell_at" "_law_cell_at" s__law_cell_at (He.ga K "_law_cell_at") ["_law_script", "_law_k"] := ⟨fd__law_cell_at, D__law_cell_at, FunD.bindsN D__law_cell_at fun _ _ _ _ _ _ us hl => match us, hl with | [_, _], _ => rfl⟩
  have u_BadPage_init : DefU K "__init__" "BadPage.__init__" s_BadPage_init (He.fAd K ("BadPage", some "__init__")) ["self", "line", "choice"] := ⟨fd_BadPage_init, D_BadPage_init, FunD.bindsN D_BadPage_init fun _ _ _ _ _ _ us hl => match us, hl with | [_, _, _], _ => rfl⟩
  have u_Unlike_init : DefU K "__init__" "Unlike.__init__" s_Unlike_init (He.fAd K ("Unlike", some "__init__")) ["self", "part", "one", "other"] := ⟨fd_Unlike_init, D_Unlike_init, FunD.bindsN D_Unlike_init fun _ _ _ _ _ _ us hl => match us, hl with | [_, _, _, _], _ => rfl⟩
  have u_StandsOn_init : DefU K "__init__" "StandsOn.__init__" s_StandsOn_init (He.fAd K ("StandsOn", some "__init__")) ["self", "number", "choice"] := ⟨fd_StandsOn_init, D_StandsOn_init, FunD.bindsN D_StandsOn_init fun _ _ _ _ _ _ us hl => match us, hl with | [_, _, _], _ => rfl⟩
  have u_NoEditor_init : DefU K "__init__" "NoEditor.__init__" s_NoEditor_init (He.fAd K ("NoEditor", some "__init__")) ["self", "editor"] := ⟨fd_NoEditor_init, D_NoEditor_init, FunD.bindsN D_NoEditor_init fun _ _ _ _ _ _ us hl => match us, hl with | [_, _], _ => rfl⟩
  have u_NoEdit_init : DefU K "__init__" "NoEdit.__init__" s_NoEdit_init (He.fAd K ("NoEdit", some "__init__")) ["self", "number"] := ⟨fd_NoEdit_init, D_NoEdit_init, FunD.bindsN D_NoEdit_init fun _ _ _ _ _ _ us hl => match us, hl with | [_, _], _ => rfl⟩
  have u_NotLive_init : DefU K "__init__" "NotLive.__init__" s_NotLive_init (He.fAd K ("NotLive", some "__init__")) ["self", "number"] := ⟨fd_NotLive_init, D_NotLive_init, FunD.bindsN D_NotLive_init fun _ _ _ _ _ _ us hl => match us, hl with | [_, _], _ => rfl⟩
  have u_IsLive_init : DefU K "__init__" "IsLive.__init__" s_IsLive_init (He.fAd K ("IsLive", some "__init__")) ["self", "number"] := ⟨fd_IsLive_init, D_IsLive_init, FunD.bindsN D_IsLive_init fun _ _ _ _ _ _ us hl => match us, hl with | [_, _], _ => rfl⟩
  have u__law_with_fields : DefU K "_law_with_fields" "_law_with_fields" s__law_with_fields (He.ga K "_law_with_fields") ["_law_name", "_law_one", "_law_other"] := ⟨fd__law_with_fields, D__law_with_fields, FunD.bindsN D__law_with_fields fun _ _ _ _ _ _ us hl => match us, hl with | [_, _, _], _ => rfl⟩
  have b0_EditError_init := FunD.binds1 (ps := ["self", "part", "choice"]) D_EditError_init 3 1 (List.cons_ne_nil _ _) rfl fun _ _ _ _ _ _ _ us its hl hi => match us, its, hl, hi with | [_, _, _], [_], _, _ => ⟨_, rfl, rfl⟩
  have b1_EditError_init := FunD.binds1 (ps := ["self", "part", "choice"]) D_EditError_init 2 0 (List.cons_ne_nil _ _) rfl fun _ _ _ _ _ _ _ us its hl hi => match us, its, hl, hi with | [_, _], [_], _, _ => ⟨_, rfl, rfl⟩
  have u_EditError_init : DefU1 K "__init__" "EditError.__init__" s_EditError_init (He.fAd K ("EditError", some "__init__")) ["self", "part", "choice"] := ⟨fd_EditError_init, D_EditError_init, (by obtain ⟨ds, hv, hb⟩ := b0_EditError_init; cases hv; exact hb), b1_EditError_init⟩
  have u__law_of_edits : DefU K "_law_of_edits" "_law_of_edits" s__law_of_edits (He.ga K "_law_of_edits") ["_law_name", "_law_number"] := ⟨fd__law_of_edits, D__law_of_edits, FunD.bindsN D__law_of_edits fun _ _ _ _ _ _ us hl => match us, hl with | [_, _], _ => rfl⟩
  have u__law_mix : DefU K "_law_mix" "_law_mix" s__law_mix (He.ga K "_law_mix") ["_law_cell", "_law_k"] := ⟨fd__law_mix, D__law_mix, FunD.bindsN D__law_mix fun _ _ _ _ _ _ us hl => match us, hl with | [_, _], _ => rfl⟩
  have e := hfa.symm.trans (He.glo_ok X G (c.d.fact 8 (f := .glo "law") rfl))
  cases e
  have b := FunD.bindsA (ps := ["_law_script"]) D_law fun _ _ _ _ _ _ us hl => match us, hl with | [_], _ => rfl
  refine ⟨fd_law, fun s v => b s [v] rfl, fun base _ _ => ?_⟩
  have h__law_first := c__law_first (P' := P') (w := w) (base := base) T u__law_first
  have h__law_edits := c__law_edits (P' := P') (w := w) (base := base) T u__law_edits
  have h__law_good := c__law_good (P' := P') (w := w) (base := base) T h__law_first h__law_edits u__law_good
  have h__law_plain_ones := c__law_plain_ones (P' := P') (w := w) (base := base) T h__law_good u__law_plain_ones
  have h__law_cell_at := c__law_cell_at (P' := P') (w := w) (base := base) T u__law_cell_at
  have h_BadPage_init := c_BadPage_init (P' := P') (w := w) (base := base) T u_BadPage_init
  have h_Unlike_init := c_Unlike_init (P' := P') (w := w) (base := base) T u_Unlike_init
  have h_StandsOn_init := c_StandsOn_init (P' := P') (w := w) (base := base) T u_StandsOn_init
  have h_NoEditor_init := c_NoEditor_init (P' := P') (w := w) (base := base) T u_NoEditor_init
  have h_NoEdit_init := c_NoEdit_init (P' := P') (w := w) (base := base) T u_NoEdit_init
  have h_NotLive_init := c_NotLive_init (P' := P') (w := w) (base := base) T u_NotLive_init
  have h_IsLive_init := c_IsLive_init (P' := P') (w := w) (base := base) T u_IsLive_init
  have h__law_with_fields := c__law_with_fields (P' := P') (w := w) (base := base) T h_BadPage_init h_Unlike_init h_StandsOn_init h_NoEditor_init h__law_good h_NoEdit_init h_NotLive_init h_IsLive_init u__law_with_fields
  have h_EditError_init := c_EditError_init (P' := P') (w := w) (base := base) T u_EditError_init
  have h__law_of_edits := c__law_of_edits (P' := P') (w := w) (base := base) T h_EditError_init h__law_good h__law_first h__law_edits u__law_of_edits
  have h__law_mix := c__law_mix (P' := P') (w := w) (base := base) T u__law_mix
  exact law_ok T h__law_cell_at h__law_mix h__law_with_fields h__law_of_edits h__law_plain_ones D_law
end Pd
open PySem PySem.W PySem.Calls PyProof.Rows
theorem Pd.holds_of (hl : ∀ ns : List Int, ns.length ≤ 63 → Pd.F_law [.list (ns.map Pd.D.int)] = .ok (.bl true)) : PySem.Challenge.rw_manyleaf_k06_refusals_made.Holds := by
  w_on; o_law
  refine HandSHeadRun.head_any (r := OpenLaw.row PySem.Challenge.rw_manyleaf_k06_refusals_made) (q := view (OpenLaw.row PySem.Challenge.rw_manyleaf_k06_refusals_made).prog [32]) (H := Pd.hk) (ob := Pd.ob) (M := 12000) (loose := Pd.loose) (d := HandSHeadRun.topDef (OpenLaw.row PySem.Challenge.rw_manyleaf_k06_refusals_made).prog 32) (kwd := []) Pd.ob_eq
    (by kernel_rfl) (fun s => by kernel_rfl) Pd.run (by kernel_rfl) (by kernel_rfl) (by kernel_rfl) (by rfl) (by first | assumption | decide +kernel) (by decide +kernel) ⟨rfl, rfl, rfl, rfl, rfl, by decide +kernel⟩ ?hw ?hc
  case hw => w_witness2
  case hc =>
    refine Pd.walk_d (l := PySem.Challenge.rw_manyleaf_k06_refusals_made) (n := 63) (k := 4) (x := "_law_script") rfl (by decide) (by kernel_rfl) ⟨rfl, by decide, by decide⟩ hl ?F
    intro w mg fa h Y G hmg0
    obtain ⟨K, KX, c⟩ := Y
    have hmg : mg ("law" : PySem.Str) = some (.ref fa) := by
      have e : (HandSHeadRun.topDef (OpenLaw.row PySem.Challenge.rw_manyleaf_k06_refusals_made).prog 32).name = ("law" : PySem.Str) := by kernel_rfl
      rw [← e]
      exact hmg0
    obtain ⟨fd, hb, hF⟩ := Pd.facts (P' := (PySem.Challenge.rw_manyleaf_k06_refusals_made).prog) (w := w) KX G hmg c
    exact ⟨K, fd, KX, hb, hF⟩
namespace Pd
open PySem PySem.Spec PyProof.Rows L2
/-- r, then u -/
def S.then (r : S) (u : Rho → S) : S := match r with
  | .nx ρ => u ρ
  | r => r
def S.pick (p : R Bool) (ρ : Rho) (a b : S) : S := match p with
  | .ok k => if k = true then a else b
  | .ex x => .ex x ρ
  | .st => .st
def S.ofR (r : R D) (ρ : Rho) (k : D → S) : S := match r with
  | .ok d => k d
  | .ex x => .ex x ρ
  | .st => .st
def S.ofI (r : R (List D)) (ρ : Rho) (k : List D → S) : S := match r with
  | .ok d => k d
  | .ex x => .ex x ρ
  | .st => .st
section
variable {s u : Rho → S} {ρ : Rho} {p : Rho → R Bool} {g : Rho → R D} {gi : Rho → R (List D)} {τ : D → Rho → R Rho} {b : Rho → S} {k : Rho → D → S} {i : Nat}
theorem e_seq : sSeq s u ρ = (s ρ).then u := rfl
theorem e_thn (ρ1 : Rho) : (S.nx ρ1).then u = u ρ1 := rfl
theorem e_trt (d : D) : (S.rt d).then u = .rt d := rfl
theorem e_trn (d : D) : (S.rn d).then u = .rn d := rfl
theorem e_tex (x : Ex) (ρ1 : Rho) : (S.ex x ρ1).then u = .ex x ρ1 := rfl
theorem e_if : sIf p s u ρ = S.pick (p ρ) ρ (s ρ) (u ρ) := rfl
theorem e_pick (k : Bool) (a b : S) : S.pick (.ok k) ρ a b = if k = true then a else b := rfl
theorem e_pickx (x : Ex) (a b : S) : S.pick (.ex x) ρ a b = .ex x ρ := rfl
theorem e_ofR (d : D) (k : D → S) : S.ofR (.ok d) ρ k = k d := rfl
theorem e_ofRx (x : Ex) (k : D → S) : S.ofR (.ex x) ρ k = .ex x ρ := rfl
theorem e_ret : sRet g ρ = S.ofR (g ρ) ρ fun d => .rt d := rfl
theorem e_retN : sRetN g ρ = S.ofR (g ρ) ρ fun d => .rn d := rfl
theorem e_set : sSet i g ρ = S.ofR (g ρ) ρ fun d => .nx (ρ.set i (some d)) := rfl
theorem e_drop : sDrop g ρ = S.ofR (g ρ) ρ fun _ => .nx ρ := rfl
theorem e_for : sFor gi τ b ρ = S.ofI (gi ρ) ρ fun items => forL τ b items ρ := rfl
theorem e_ofI (d : List D) (k : List D → S) : S.ofI (.ok d) ρ k = k d := rfl
theorem e_nil : sNil ρ = .nx ρ := rfl
theorem e_asg : sAsg g τ ρ = S.ofR (g ρ) ρ fun d => match τ d ρ with | .ok ρ' => .nx ρ' | _ => .st := rfl
end
theorem endS_rt (d : D) : endS (.rt d) = .ok d := rfl
theorem endS_rn (d : D) : endS (.rn d) = .ok d := rfl
theorem endS_nx (ρ : Rho) : endS (.nx ρ) = .ok .non := rfl
theorem endS_ex (x : Ex) (ρ : Rho) : endS (.ex x ρ) = .ex x := rfl
theorem endN_rn (d : D) : endN (.rn d) = .ok d := rfl
theorem endN_ex (x : Ex) (ρ : Rho) : endN (.ex x ρ) = .ex x := rfl
/-- a for whose turns are judged by what they come to -/
theorem forL_rule {τ : D → Rho → R Rho} {b : Rho → S} (Post : S → Prop) (Inv : Nat → Rho → Prop) : ∀ (items : List D) (k : Nat) (ρ : Rho), Inv k ρ →
    (∀ j d ρ, items[j]? = some d → Inv (k + j) ρ → ∃ ρ1, τ d ρ = .ok ρ1 ∧ match b ρ1 with
      | .nx ρ2 => Inv (k + j + 1) ρ2
      | .ct ρ2 => Inv (k + j + 1) ρ2
      | .bk ρ2 => Post (.nx ρ2)
      | r => Post r) → (∀ ρ, Inv (k + items.length) ρ → Post (.nx ρ)) → Post (forL τ b items ρ)
  | [], k, ρ, h0, _, hd => hd ρ h0
  | d :: ds, k, ρ, h0, hs, hd => by
    have ih := forL_rule (τ := τ) (b := b) Post Inv ds (k + 1)
    obtain ⟨ρ1, e1, h1⟩ := hs 0 d ρ rfl h0
    have go : ∀ ρ2, Inv (k + 1) ρ2 → Post (forL τ b ds ρ2) := fun ρ2 h2 => by
      refine ih ρ2 h2 (fun j d' ρ' e h => ?_) fun ρ' h => hd ρ' ?_
      · have := hs (j + 1) d' ρ' (by simpa using e) (by rw [show k + (j + 1) = k + 1 + j by omega]; exact h)
        rw [show k + (j + 1) + 1 = k + 1 + j + 1 by omega] at this
        exact this
      · rw [List.length_cons, show k + (ds.length + 1) = k + 1 + ds.length by omega]; exact h
    unfold forL
    rw [e1]
    dsimp only
    cases e2 : b ρ1 with
    | nx ρ2 => rw [e2] at h1; exact go ρ2 h1
    | ct ρ2 => rw [e2] at h1; exact go ρ2 h1
    | bk ρ2 => rw [e2] at h1; exact h1
    | rt d => rw [e2] at h1; exact h1
    | rn d => rw [e2] at h1; exact h1
    | rm d ρ2 => rw [e2] at h1; exact h1
    | ex x ρ2 => rw [e2] at h1; exact h1
    | st => rw [e2] at h1; exact h1
theorem atI_of {α : Type} {xs : List α} {i : Int} (h0 : 0 ≤ i) (h1 : i < xs.length) : ∃ d, atI xs i = some d ∧ xs[i.toNat]? = some d ∧ d ∈ xs := by
  have hl : i.toNat < xs.length := by omega
  refine ⟨xs[i.toNat], ?_, List.getElem?_eq_getElem hl, List.getElem_mem hl⟩
  have e : i = ((i.toNat : Nat) : Int) := by omega
  have := atI_nat (xs := xs) (j := i.toNat) (v := xs[i.toNat]) (List.getElem?_eq_getElem hl)
  rw [← e] at this
  exact this
theorem e_isi_int_non  : isiD "int" (.non) = .ok (.bl false) := rfl
theorem e_isi_int_bl (b : Bool) : isiD "int" (.bl b) = .ok (.bl true) := rfl
theorem e_isi_int_int (i : Int) : isiD "int" (.int i) = .ok (.bl true) := rfl
theorem e_isi_int_str (z : Str) : isiD "int" (.str z) = .ok (.bl false) := rfl
theorem e_isi_int_list (ds : List D) : isiD "int" (.list ds) = .ok (.bl false) := rfl
theorem e_isi_int_tup (ds : List D) : isiD "int" (.tup ds) = .ok (.bl false) := rfl
theorem e_isi_int_dict (lk : Bool) (ds : List (Key × D)) : isiD "int" (.dict lk ds) = .ok (.bl false) := rfl
theorem e_isi_int_dictT (ds : List (List Key × D)) : isiD "int" (.dictT ds) = .ok (.bl false) := rfl
theorem e_isi_bool_non  : isiD "bool" (.non) = .ok (.bl false) := rfl
theorem e_isi_bool_bl (b : Bool) : isiD "bool" (.bl b) = .ok (.bl true) := rfl
theorem e_isi_bool_int (i : Int) : isiD "bool" (.int i) = .ok (.bl false) := rfl
theorem e_isi_bool_str (z : Str) : isiD "bool" (.str z) = .ok (.bl false) := rfl
theorem e_isi_bool_list (ds : List D) : isiD "bool" (.list ds) = .ok (.bl false) := rfl
theorem e_isi_bool_tup (ds : List D) : isiD "bool" (.tup ds) = .ok (.bl false) := rfl
theorem e_isi_bool_dict (lk : Bool) (ds : List (Key × D)) : isiD "bool" (.dict lk ds) = .ok (.bl false) := rfl
theorem e_isi_bool_dictT (ds : List (List Key × D)) : isiD "bool" (.dictT ds) = .ok (.bl false) := rfl
theorem e_isi_str_non  : isiD "str" (.non) = .ok (.bl false) := rfl
theorem e_isi_str_bl (b : Bool) : isiD "str" (.bl b) = .ok (.bl false) := rfl
theorem e_isi_str_int (i : Int) : isiD "str" (.int i) = .ok (.bl false) := rfl
theorem e_isi_str_str (z : Str) : isiD "str" (.str z) = .ok (.bl true) := rfl
theorem e_isi_str_list (ds : List D) : isiD "str" (.list ds) = .ok (.bl false) := rfl
theorem e_isi_str_tup (ds : List D) : isiD "str" (.tup ds) = .ok (.bl false) := rfl
theorem e_isi_str_dict (lk : Bool) (ds : List (Key × D)) : isiD "str" (.dict lk ds) = .ok (.bl false) := rfl
theorem e_isi_str_dictT (ds : List (List Key × D)) : isiD "str" (.dictT ds) = .ok (.bl false) := rfl
theorem e_isi_list_non  : isiD "list" (.non) = .ok (.bl false) := rfl
theorem e_isi_list_bl (b : Bool) : isiD "list" (.bl b) = .ok (.bl false) := rfl
theorem e_isi_list_int (i : Int) : isiD "list" (.int i) = .ok (.bl false) := rfl
theorem e_isi_list_str (z : Str) : isiD "list" (.str z) = .ok (.bl false) := rfl
theorem e_isi_list_list (ds : List D) : isiD "list" (.list ds) = .ok (.bl true) := rfl
theorem e_isi_list_tup (ds : List D) : isiD "list" (.tup ds) = .ok (.bl false) := rfl
theorem e_isi_list_dict (lk : Bool) (ds : List (Key × D)) : isiD "list" (.dict lk ds) = .ok (.bl false) := rfl
theorem e_isi_list_dictT (ds : List (List Key × D)) : isiD "list" (.dictT ds) = .ok (.bl false) := rfl
theorem e_isi_tuple_non  : isiD "tuple" (.non) = .ok (.bl false) := rfl
theorem e_isi_tuple_bl (b : Bool) : isiD "tuple" (.bl b) = .ok (.bl false) := rfl
theorem e_isi_tuple_int (i : Int) : isiD "tuple" (.int i) = .ok (.bl false) := rfl
theorem e_isi_tuple_str (z : Str) : isiD "tuple" (.str z) = .ok (.bl false) := rfl
theorem e_isi_tuple_list (ds : List D) : isiD "tuple" (.list ds) = .ok (.bl false) := rfl
theorem e_isi_tuple_tup (ds : List D) : isiD "tuple" (.tup ds) = .ok (.bl true) := rfl
theorem e_isi_tuple_dict (lk : Bool) (ds : List (Key × D)) : isiD "tuple" (.dict lk ds) = .ok (.bl false) := rfl
theorem e_isi_tuple_dictT (ds : List (List Key × D)) : isiD "tuple" (.dictT ds) = .ok (.bl false) := rfl
theorem e_isi_dict_non  : isiD "dict" (.non) = .ok (.bl false) := rfl
theorem e_isi_dict_bl (b : Bool) : isiD "dict" (.bl b) = .ok (.bl false) := rfl
theorem e_isi_dict_int (i : Int) : isiD "dict" (.int i) = .ok (.bl false) := rfl
theorem e_isi_dict_str (z : Str) : isiD "dict" (.str z) = .ok (.bl false) := rfl
theorem e_isi_dict_list (ds : List D) : isiD "dict" (.list ds) = .ok (.bl false) := rfl
theorem e_isi_dict_tup (ds : List D) : isiD "dict" (.tup ds) = .ok (.bl false) := rfl
theorem e_isi_dict_dict (lk : Bool) (ds : List (Key × D)) : isiD "dict" (.dict lk ds) = .ok (.bl true) := rfl
theorem e_isi_dict_dictT (ds : List (List Key × D)) : isiD "dict" (.dictT ds) = .ok (.bl true) := rfl
theorem e_asB (b : Bool) : asB (.bl b) = .ok b := rfl
theorem e_lt (i j : Int) : ltD (.int i) (.int j) = .ok (.bl (decide (i < j))) := rfl
theorem e_gt (i j : Int) : gtD (.int i) (.int j) = .ok (.bl (decide (j < i))) := rfl
theorem e_le (i j : Int) : leD (.int i) (.int j) = .ok (.bl (decide (i ≤ j))) := rfl
theorem e_ge (i j : Int) : geD (.int i) (.int j) = .ok (.bl (decide (j ≤ i))) := rfl
theorem e_ltS (i j : Str) : ltD (.str i) (.str j) = .ok (.bl (ltS i j)) := rfl
theorem e_gtS (i j : Str) : gtD (.str i) (.str j) = .ok (.bl (ltS j i)) := rfl
theorem e_eqI (i j : Int) : eqD (.int i) (.int j) = .ok (.bl (i == j)) := rfl
theorem e_eqS (i j : Str) : eqD (.str i) (.str j) = .ok (.bl (i == j)) := rfl
theorem e_eqB (i j : Bool) : eqD (.bl i) (.bl j) = .ok (.bl (i == j)) := rfl
theorem e_neI (i j : Int) : neD (.int i) (.int j) = .ok (.bl (!(i == j))) := rfl
theorem e_neS (i j : Str) : neD (.str i) (.str j) = .ok (.bl (!(i == j))) := rfl
theorem e_neB (i j : Bool) : neD (.bl i) (.bl j) = .ok (.bl (!(i == j))) := rfl
theorem e_addI (i j : Int) : addD (.int i) (.int j) = .ok (.int (i + j)) := rfl
theorem e_iaddI (i j : Int) : iaddD (.int i) (.int j) = .ok (.int (i + j)) := rfl
theorem e_subI (i j : Int) : subD (.int i) (.int j) = .ok (.int (i - j)) := rfl
theorem e_negI (i : Int) : negD (.int i) = .ok (.int (-i)) := rfl
theorem e_andI (i j : Int) : andD (.int i) (.int j) = .ok (.int (Builtin.bitAnd i j)) := rfl
theorem e_orI (i j : Int) : orD (.int i) (.int j) = .ok (.int (Builtin.bitOr i j)) := rfl
theorem e_xorI (i j : Int) : xorD (.int i) (.int j) = .ok (.int (Builtin.bitXor i j)) := rfl
theorem e_modI (i j : Int) (h : 0 < j) : modD (.int i) (.int j) = .ok (.int (i % j)) := by
  show (if decide (0 < j) = true then R.ok (D.int (i % j)) else .st) = _
  rw [if_pos (decide_eq_true h)]
theorem e_fdivI (i j : Int) (h : 0 < j) (h' : j < 1073741824) : fdivD (.int i) (.int j) = .ok (.int (i / j)) := by
  show (if (decide (0 < j) && decide (j < 1073741824)) = true then R.ok (D.int (i / j)) else .st) = _
  rw [decide_eq_true h, decide_eq_true h']
  rfl
theorem e_mulI (i j : Int) (h : small64b i = true ∨ small64b j = true) : mulD (.int i) (.int j) = .ok (.int (i * j)) := by
  show (if (small64b i || small64b j) = true then R.ok (D.int (i * j)) else .st) = _
  rw [if_pos (by rw [Bool.or_eq_true]; exact h)]
theorem s64 {i : Int} (h : -(2 ^ 64) < i) (h' : i < 2 ^ 64) : small64b i = true := by
  unfold small64b
  rw [decide_eq_true h, decide_eq_true h']
  rfl
theorem e_shrI (i j : Int) (h : 0 ≤ j) : shrD (.int i) (.int j) = .ok (.int (i / 2 ^ j.toNat)) := by
  show (if decide (0 ≤ j) = true then R.ok (D.int (i / 2 ^ j.toNat)) else .st) = _
  rw [if_pos (decide_eq_true h)]
theorem e_shlI (i j : Int) (h : CPow i j) : shlD (.int i) (.int j) = .ok (.int (i * 2 ^ j.toNat)) := by
  show (if powOk i j = true then R.ok (D.int (i * 2 ^ j.toNat)) else .st) = _
  rw [if_pos (by unfold powOk; rw [decide_eq_true h.1, decide_eq_true h.2.1, decide_eq_true h.2.2]; rfl)]
theorem e_powI (i j : Int) (h : CPow i j) : powD (.int i) (.int j) = .ok (.int (i ^ j.toNat)) := by
  show (if powOk i j = true then R.ok (D.int (i ^ j.toNat)) else .st) = _
  rw [if_pos (by unfold powOk; rw [decide_eq_true h.1, decide_eq_true h.2.1, decide_eq_true h.2.2]; rfl)]
theorem line_small {n : Nat} (h : n ≤ 16777216) : n ≤ sizeLine := by rw [sizeLine_eq]; exact h
theorem e_addS (i j : Str) (h : i.length + j.length ≤ 16777216) : addD (.str i) (.str j) = .ok (.str (i ++ j)) := if_pos (line_small h)
theorem e_iaddS (i j : Str) (h : i.length + j.length ≤ 16777216) : iaddD (.str i) (.str j) = .ok (.str (i ++ j)) := if_pos (line_small h)
theorem e_addL (i j : List D) (h : i.length + j.length ≤ 16777216) : addD (.list i) (.list j) = .ok (.list (i ++ j)) := if_pos (line_small h)
theorem e_addT (i j : List D) (h : i.length + j.length ≤ 16777216) : addD (.tup i) (.tup j) = .ok (.tup (i ++ j)) := if_pos (line_small h)
theorem e_lenL (ds : List D) : lenD [.list ds] = .ok (.int ds.length) := rfl
theorem e_lenT (ds : List D) : lenD [.tup ds] = .ok (.int ds.length) := rfl
theorem e_lenS (z : Str) (h : z.length ≤ 16777216) : lenD [.str z] = .ok (.int z.length) := if_pos (line_small h)
theorem e_ord (c : Nat) : ordD [.str ⟨#[c]⟩] = .ok (.int c) := rfl
theorem e_intB (b : Bool) : intD [.bl b] = .ok (.int (if b then 1 else 0)) := rfl
theorem e_intI (i : Int) : intD [.int i] = .ok (.int i) := rfl
theorem e_lst (ds : List D) (h : ds.length ≤ 16777216) : lstD ds = .ok (.list ds) := if_pos (line_small h)
theorem e_tup (ds : List D) (h : ds.length ≤ 16777216) : tupD ds = .ok (.tup ds) := if_pos (line_small h)
theorem e_ixL (ds : List D) (i : Int) (d : D) (h : atI ds i = some d) : ixD (.list ds) (.int i) = .ok d := by
  show (match atI ds i with | some d => R.ok d | none => .st) = _
  rw [h]
theorem e_ixT (ds : List D) (i : Int) (d : D) (h : atI ds i = some d) : ixD (.tup ds) (.int i) = .ok d := by
  show (match atI ds i with | some d => R.ok d | none => .st) = _
  rw [h]
theorem e_inS (i j : Str) : inDD (.str i) (.str j) = .ok (.bl (hasSub j i)) := rfl
theorem e_ninS (i j : Str) : notInDD (.str i) (.str j) = .ok (.bl (!hasSub j i)) := rfl
theorem e_inL (d : D) (ds : List D) (h : (flD d && ds.all flD) = true) : inDD d (.list ds) = .ok (.bl (ds.any fun z => eqvD z d)) := by
  have e : inD d (.list ds) = .ok (ds.any fun z => eqvD z d) := by
    have e1 : inD d (.list ds) = (if (flD d && ds.all flD) = true then R.ok (ds.any fun z => eqvD z d) else if (D.sh d && D.sh (.list ds)) = true then .ok (ds.any fun z => eqvD z d) else .st) := by
      cases d <;> rfl
    rw [e1, if_pos h]
  unfold inDD
  rw [e]
  rfl
theorem e_ninL (d : D) (ds : List D) (h : (flD d && ds.all flD) = true) : notInDD d (.list ds) = .ok (.bl (!ds.any fun z => eqvD z d)) := by
  have e : inD d (.list ds) = .ok (ds.any fun z => eqvD z d) := by
    have e1 : inD d (.list ds) = (if (flD d && ds.all flD) = true then R.ok (ds.any fun z => eqvD z d) else if (D.sh d && D.sh (.list ds)) = true then .ok (ds.any fun z => eqvD z d) else .st) := by
      cases d <;> rfl
    rw [e1, if_pos h]
  unfold notInDD
  rw [e]
  rfl
theorem e_inT (d : D) (ds : List D) (h : (flD d && ds.all flD) = true) : inDD d (.tup ds) = .ok (.bl (ds.any fun z => eqvD z d)) := by
  have e : inD d (.tup ds) = .ok (ds.any fun z => eqvD z d) := by
    have e1 : inD d (.tup ds) = (if (flD d && ds.all flD) = true then R.ok (ds.any fun z => eqvD z d) else .st) := by
      cases d <;> rfl
    rw [e1, if_pos h]
  unfold inDD
  rw [e]
  rfl
theorem e_ninT (d : D) (ds : List D) (h : (flD d && ds.all flD) = true) : notInDD d (.tup ds) = .ok (.bl (!ds.any fun z => eqvD z d)) := by
  have e : inD d (.tup ds) = .ok (ds.any fun z => eqvD z d) := by
    have e1 : inD d (.tup ds) = (if (flD d && ds.all flD) = true then R.ok (ds.any fun z => eqvD z d) else .st) := by
      cases d <;> rfl
    rw [e1, if_pos h]
  unfold notInDD
  rw [e]
  rfl
theorem e_itL (ds : List D) : itemsD (.list ds) = .ok ds := rfl
theorem e_itT (ds : List D) : itemsD (.tup ds) = .ok ds := rfl
theorem e_itS (z : Str) : itemsD (.str z) = .ok (signs z) := rfl
theorem e_zip (a b : List D) : zipD [.list a, .list b] = .ok (zipL a b) := rfl
theorem e_enum (a : List D) : enumD [.list a] = .ok (enumL 0 a) := rfl
theorem e_slL (ds : List D) (lo hi : Option Int) : slD (.list ds) lo hi = .ok (.list (cutD ds lo hi)) := rfl
theorem e_slT (ds : List D) (lo hi : Option Int) : slD (.tup ds) lo hi = .ok (.tup (cutD ds lo hi)) := rfl
theorem e_slS (z : Str) (lo hi : Option Int) (h : z.length ≤ 16777216) : slD (.str z) lo hi = .ok (.str (cutS z lo hi)) := if_pos (line_small h)
theorem e_asI (i : Int) : asI (.int i) = .ok (some i) := rfl
theorem e_isN1 : isND .non .non = .ok (.bl true) := rfl
theorem e_isN2 (i : Int) : isND (.int i) .non = .ok (.bl false) := rfl
theorem e_notN1 : notND .non .non = .ok (.bl false) := rfl
theorem e_notN2 (i : Int) : notND (.int i) .non = .ok (.bl true) := rfl
theorem e_truB (b : Bool) : truD (.bl b) = .ok b := rfl
theorem e_truI (i : Int) : truD (.int i) = .ok (i != 0) := rfl
theorem e_truL (ds : List D) : truD (.list ds) = .ok (!ds.isEmpty) := rfl
theorem e_iteAnd (k x : Bool) : (if k = true then R.ok x else R.ok false) = R.ok (k && x) := by cases k <;> rfl
theorem e_iteOr (k x : Bool) : (if k = true then R.ok true else R.ok x) = R.ok (k || x) := by cases k <;> rfl
theorem e_iteAndD (k x : Bool) : (if k = true then R.ok (D.bl x) else R.ok (D.bl false)) = R.ok (D.bl (k && x)) := by cases k <;> rfl
theorem e_iteOrD (k x : Bool) : (if k = true then R.ok (D.bl true) else R.ok (D.bl x)) = R.ok (D.bl (k || x)) := by cases k <;> rfl
section
variable {c : Prop} [Decidable c]
theorem e_then_ite (a b : S) (u : Rho → S) : (if c then a else b).then u = if c then a.then u else b.then u := by split <;> rfl
theorem e_endS_ite (a b : S) : endS (if c then a else b) = if c then endS a else endS b := by split <;> rfl
theorem e_endN_ite (a b : S) : endN (if c then a else b) = if c then endN a else endN b := by split <;> rfl
theorem e_ofR_ite (a b : R D) (ρ : Rho) (k : D → S) : S.ofR (if c then a else b) ρ k = if c then S.ofR a ρ k else S.ofR b ρ k := by split <;> rfl
theorem e_pick_ite (a b : R Bool) (ρ : Rho) (s u : S) : S.pick (if c then a else b) ρ s u = if c then S.pick a ρ s u else S.pick b ρ s u := by split <;> rfl
theorem e_bind_ite {α β : Type} (a b : R α) (f : α → R β) : (if c then a else b).bind f = if c then a.bind f else b.bind f := by split <;> rfl
end
theorem e_mul1 (i j : Int) (h : (-18446744073709551616 < i ∧ i < 18446744073709551616) ∨ (-18446744073709551616 < j ∧ j < 18446744073709551616)) : mulD (.int i) (.int j) = .ok (.int (i * j)) :=
  e_mulI i j (h.imp (fun q => s64 (by have := q.1; omega) (by have := q.2; omega)) fun q => s64 (by have := q.1; omega) (by have := q.2; omega))
theorem e_pow10 (j : Int) (h0 : 0 ≤ j) (h1 : j ≤ 1000000) : powD (.int 10) (.int j) = .ok (.int (10 ^ j.toNat)) := e_powI 10 j ⟨h0, h1, by decide⟩
theorem e_pow2 (j : Int) (h0 : 0 ≤ j) (h1 : j ≤ 1000000) : powD (.int 2) (.int j) = .ok (.int (2 ^ j.toNat)) := e_powI 2 j ⟨h0, h1, by decide⟩
theorem e_shl1 (j : Int) (h0 : 0 ≤ j) (h1 : j ≤ 1000000) : shlD (.int 1) (.int j) = .ok (.int (2 ^ j.toNat)) := by
  rw [e_shlI 1 j ⟨h0, h1, by decide⟩, Int.one_mul]
/-- data of scalars, lists and tuples, so deep at most -/
def shN : Nat → D → Bool
  | _, .non => true | _, .bl _ => true | _, .int _ => true
  | _, .str s => PyData.strOk s
  | n + 1, .list ds => ds.all (shN n)
  | n + 1, .tup ds => ds.all (shN n)
  | _, _ => false
theorem shN_all {n : Nat} (ih : ∀ d, shN n d = true → D.flat d = true ∧ d.py.canLay0 = true ∧ d.py.depth ≤ n) : ∀ ds : List D, ds.all (shN n) = true → D.flatAll ds = true ∧ PyData.canLayAll0 (D.pyAll ds) = true ∧ PyData.depthAll (D.pyAll ds) ≤ n
  | [], _ => ⟨rfl, rfl, Nat.zero_le _⟩
  | d :: ds, h => by
    rw [List.all_cons, Bool.and_eq_true] at h
    obtain ⟨a, b, c⟩ := ih d h.1
    obtain ⟨a2, b2, c2⟩ := shN_all ih ds h.2
    refine ⟨?_, ?_, ?_⟩
    · show (D.flat d && D.flatAll ds) = true
      rw [a, a2]; rfl
    · show (d.py.canLay0 && PyData.canLayAll0 (D.pyAll ds)) = true
      rw [b, b2]; rfl
    · show max d.py.depth (PyData.depthAll (D.pyAll ds)) ≤ n
      omega
theorem shN_ok : ∀ (n : Nat) (d : D), shN n d = true → D.flat d = true ∧ d.py.canLay0 = true ∧ d.py.depth ≤ n
  | n, .non, _ => ⟨rfl, rfl, Nat.zero_le _⟩
  | n, .bl _, _ => ⟨rfl, rfl, Nat.zero_le _⟩
  | n, .int _, _ => ⟨rfl, rfl, Nat.zero_le _⟩
  | n, .str s, h => ⟨rfl, by cases n <;> exact h, Nat.zero_le _⟩
  | 0, .list _, h => by cases h
  | 0, .tup _, h => by cases h
  | n + 1, .list ds, h => by
    obtain ⟨a, b, c⟩ := shN_all (shN_ok n) ds h
    exact ⟨a, b, Nat.succ_le_succ c⟩
  | n + 1, .tup ds, h => by
    obtain ⟨a, b, c⟩ := shN_all (shN_ok n) ds h
    exact ⟨a, b, Nat.succ_le_succ c⟩
  | n, .dict _ _, h => by cases n <;> cases h
  | n, .dictT _, h => by cases n <;> cases h
  | n, .obj _ _, h => by cases n <;> cases h
  | n, .loc _, h => by cases n <;> cases h
  | n, .tpx _, h => by cases n <;> cases h
  | n, .exc _ _, h => by cases n <;> cases h
  | n, .adr _, h => by cases n <;> cases h
theorem sh_of (n : Nat) {d : D} (h : shN n d = true) (hn : n ≤ 64 := by decide) : D.sh d = true := by
  obtain ⟨a, b, c⟩ := shN_ok n d h
  unfold D.sh SeqAt.shaped
  rw [a, b, decide_eq_true (by omega)]
  rfl
theorem e_neSh (d e : D) (h : D.sh d = true) (h' : D.sh e = true) : neD d e = .ok (.bl (!eqvD d e)) := by
  unfold neD
  by_cases hs : scD d e = true
  · rw [if_pos hs]
  · rw [if_neg hs, h, h']
    rfl
theorem and_bd (x : Int) (y : Nat) : 0 ≤ Builtin.bitAnd x (y : Int) ∧ Builtin.bitAnd x (y : Int) ≤ (y : Int) := by
  unfold Builtin.bitAnd
  have hy : decide (0 ≤ (y : Int)) = true := decide_eq_true (by omega)
  rw [hy]
  by_cases hx : 0 ≤ x
  · rw [decide_eq_true hx]
    have h : x.toNat &&& ((y : Int).toNat) ≤ (y : Int).toNat := Nat.and_le_right
    show 0 ≤ ((x.toNat &&& (y : Int).toNat : Nat) : Int) ∧ ((x.toNat &&& (y : Int).toNat : Nat) : Int) ≤ (y : Int)
    omega
  · rw [decide_eq_false hx]
    have h : (y : Int).toNat &&& (Builtin.bitNot x).toNat ≤ (y : Int).toNat := Nat.and_le_left
    show 0 ≤ (y : Int) - (((y : Int).toNat &&& (Builtin.bitNot x).toNat : Nat) : Int) ∧ (y : Int) - (((y : Int).toNat &&& (Builtin.bitNot x).toNat : Nat) : Int) ≤ (y : Int)
    omega
end Pd
namespace Pd
open PySem PySem.Spec PyProof.Rows L2
abbrev cps (s : Str) : List Nat := s.cps.toList
/-- all signs of s are signs of g -/
def Sub (g s : Str) : Prop := ∀ c ∈ cps s, c ∈ cps g
theorem Sub.trans {f g a : Str} (h : Sub f g) (h' : Sub g a) : Sub f a := fun c hc => h c (h' c hc)
theorem Sub.refl (g : Str) : Sub g g := fun _ h => h
section
variable (a b c d e f g h i : D) (r : List D)
theorem e_ixL0 : ixD (.list (a :: r)) (.int 0) = .ok a := e_ixL _ _ _ (atI_nat (j := 0) rfl)
theorem e_ixL1 : ixD (.list (a :: b :: r)) (.int 1) = .ok b := e_ixL _ _ _ (atI_nat (j := 1) rfl)
theorem e_ixL2 : ixD (.list (a :: b :: c :: r)) (.int 2) = .ok c := e_ixL _ _ _ (atI_nat (j := 2) rfl)
theorem e_ixL3 : ixD (.list (a :: b :: c :: d :: r)) (.int 3) = .ok d := e_ixL _ _ _ (atI_nat (j := 3) rfl)
theorem e_ixL4 : ixD (.list (a :: b :: c :: d :: e :: r)) (.int 4) = .ok e := e_ixL _ _ _ (atI_nat (j := 4) rfl)
theorem e_ixL5 : ixD (.list (a :: b :: c :: d :: e :: f :: r)) (.int 5) = .ok f := e_ixL _ _ _ (atI_nat (j := 5) rfl)
theorem e_ixL6 : ixD (.list (a :: b :: c :: d :: e :: f :: g :: r)) (.int 6) = .ok g := e_ixL _ _ _ (atI_nat (j := 6) rfl)
theorem e_ixL7 : ixD (.list (a :: b :: c :: d :: e :: f :: g :: h :: r)) (.int 7) = .ok h := e_ixL _ _ _ (atI_nat (j := 7) rfl)
theorem e_ixL8 : ixD (.list (a :: b :: c :: d :: e :: f :: g :: h :: i :: r)) (.int 8) = .ok i := e_ixL _ _ _ (atI_nat (j := 8) rfl)
theorem e_ixT0 : ixD (.tup (a :: r)) (.int 0) = .ok a := e_ixT _ _ _ (atI_nat (j := 0) rfl)
theorem e_ixT1 : ixD (.tup (a :: b :: r)) (.int 1) = .ok b := e_ixT _ _ _ (atI_nat (j := 1) rfl)
theorem e_ixT2 : ixD (.tup (a :: b :: c :: r)) (.int 2) = .ok c := e_ixT _ _ _ (atI_nat (j := 2) rfl)
theorem e_ixT3 : ixD (.tup (a :: b :: c :: d :: r)) (.int 3) = .ok d := e_ixT _ _ _ (atI_nat (j := 3) rfl)
theorem e_ixT4 : ixD (.tup (a :: b :: c :: d :: e :: r)) (.int 4) = .ok e := e_ixT _ _ _ (atI_nat (j := 4) rfl)
theorem e_ixT5 : ixD (.tup (a :: b :: c :: d :: e :: f :: r)) (.int 5) = .ok f := e_ixT _ _ _ (atI_nat (j := 5) rfl)
end
theorem e_tupleL (ds : List D) : tupleD [.list ds] = .ok (.tup ds) := rfl
theorem e_listT (ds : List D) : listD [.tup ds] = .ok (.list ds) := rfl
theorem e_tupleT (ds : List D) : tupleD [.tup ds] = .ok (.tup ds) := rfl
theorem e_catL (a b : List D) (h : a.length + b.length ≤ 16777216) : catD (.list a) (.list b) = .ok (.list (a ++ b)) := if_pos (line_small h)
/-- data of scalars, lists and tuples, so deep at most, the texts not long -/
def shL : Nat → D → Bool
  | _, .non => true | _, .bl _ => true | _, .int _ => true
  | _, .str s => PyData.strOk s && decide (s.length ≤ 1000)
  | n + 1, .list ds => ds.all (shL n)
  | n + 1, .tup ds => ds.all (shL n)
  | _, _ => false
theorem shL_sh : ∀ {n : Nat} {d : D}, shL n d = true → shN n d = true
  | n, .non, _ => by cases n <;> rfl
  | n, .bl _, _ => by cases n <;> rfl
  | n, .int _, _ => by cases n <;> rfl
  | n, .str s, h => by
    have h' : (PyData.strOk s && decide (s.length ≤ 1000)) = true := by cases n <;> exact h
    rw [Bool.and_eq_true] at h'
    cases n <;> exact h'.1
  | 0, .list _, h => by cases h
  | 0, .tup _, h => by cases h
  | n + 1, .list ds, h => List.all_eq_true.mpr fun d hd => shL_sh (n := n) (List.all_eq_true.mp (show ds.all (shL n) = true from h) d hd)
  | n + 1, .tup ds, h => List.all_eq_true.mpr fun d hd => shL_sh (n := n) (List.all_eq_true.mp (show ds.all (shL n) = true from h) d hd)
  | n, .dict _ _, h => by cases n <;> cases h
  | n, .dictT _, h => by cases n <;> cases h
  | n, .obj _ _, h => by cases n <;> cases h
  | n, .loc _, h => by cases n <;> cases h
  | n, .tpx _, h => by cases n <;> cases h
  | n, .exc _ _, h => by cases n <;> cases h
  | n, .adr _, h => by cases n <;> cases h
/-- scalars, lists, tuples of these; or {} -/
def Th (n : Nat) (d : D) : Prop := shL n d = true ∨ d = .dict false []
theorem eqX_int (i j : Int) : eqXD (.int i) (.int j) = .ok (.bl (i == j)) := rfl
theorem neX_int (i j : Int) : neXD (.int i) (.int j) = .ok (.bl (!(i == j))) := rfl
theorem eqX_t0 (ds : List D) : eqXD (.tup ds) (.tup []) = .ok (.bl ds.isEmpty) := rfl
theorem neX_t0 (ds : List D) : neXD (.tup ds) (.tup []) = .ok (.bl (!ds.isEmpty)) := rfl
theorem eqX_S (s w : Str) : eqXD (.str s) (.str w) = .ok (.bl (s == w)) := rfl
theorem neX_S (s w : Str) : neXD (.str s) (.str w) = .ok (.bl (!(s == w))) := rfl
theorem eqv_same {n : Nat} {d : D} (h : shN n d = true) : eqvD d d = true := by
  obtain ⟨_, c, _⟩ := shN_ok n d h
  exact PySem.SeqAt.eqv_refl d.py c
theorem Th.of {n : Nat} {d : D} (h : shL n d = true) : Th n d := .inl h
theorem ofString_inj {a b : String} (h : Str.ofString a = Str.ofString b) : a = b := by
  have h1 : TL.tl (Str.ofString a) = TL.tl (Str.ofString b) := by rw [h]
  rw [TL.tl_ofString, TL.tl_ofString] at h1
  have h2 : a.toList = b.toList := by
    have inj : ∀ (x y : List Char), x.map Char.toNat = y.map Char.toNat → x = y := by
      intro x
      induction x with
      | nil => intro y e; cases y with
        | nil => rfl
        | cons _ _ => cases e
      | cons c x ih =>
        intro y e
        cases y with
        | nil => cases e
        | cons d y =>
          rw [List.map_cons, List.map_cons] at e
          injection e with e1 e2
          rw [ih y e2, Char.toNat_inj.mp e1]
    exact inj _ _ h1
  exact String.toList_inj.mp h2
theorem e_strLit (a b : String) : (Str.ofString a == Str.ofString b) = (a == b) := by
  by_cases h : a = b
  · subst h
    simp
  · rw [beq_eq_false_iff_ne.mpr h, beq_eq_false_iff_ne.mpr fun e => h (ofString_inj e)]
def S.next (r : S) (k : Rho → S) : S := match r with
  | .nx ρ => k ρ
  | .ct ρ => k ρ
  | .bk ρ => .nx ρ
  | r => r
section
variable {i : Nat} {b : Rho → S} {ρ : Rho} {k : Rho → S}
theorem e_forN (d : D) (ds : List D) : forL (τName i) b (d :: ds) ρ = (b (ρ.set i (some d))).next (forL (τName i) b ds) := rfl
theorem e_for0 {τ : D → Rho → R Rho} : forL τ b [] ρ = .nx ρ := rfl
theorem e_nxn (ρ1 : Rho) : (S.nx ρ1).next k = k ρ1 := rfl
end
section
variable {s u : SQF} {ρ : RhoQ} {M : Mem}
def SQ.then (r : SQ) (u : SQF) : SQ := match r with
  | .nx ρ M => u ρ M
  | r => r
def SQ.pick (r : R Bool) (ρ : RhoQ) (M : Mem) (a b : SQ) : SQ := match r with
  | .ok k => if k = true then a else b
  | .ex x => .ex x ρ M
  | .st => .st
end
end Pd
namespace Pd
open PySem PySem.Spec PyProof.Rows L2
section
variable {g go gk : GQ} {t : GQA} {ρ : RhoQ} {M M1 M2 : Mem} {s u : SQF} {gp : Rho → R D}
def SQ.of (r : RQ P) (ρ : RhoQ) (k : P → Mem → SQ) : SQ := match r with
  | .ok p M => k p M
  | .ex x M => .ex x ρ M
  | .st => .st
def R.new (r : R D) (M : Mem) : RQ P := match r with
  | .ok d => .ok (true, .loc M.length) (M ++ [(false, d)])
  | .ex x => .ex x M
  | .st => .st
end
end Pd
set_option maxHeartbeats 4000000
namespace Pd
open PySem PySem.Spec PyProof.Rows L2
local macro_rules | `(tactic| walk_at "pd") => `(tactic| try simp -implicitDefEqProofs only [e_seq, e_thn, e_trt, e_trn, e_tex, e_if, e_pick, e_pickx, e_ret, e_retN, e_set, e_drop, e_for, e_ofR, e_ofRx, e_ofI, e_nil, e_asg, endS_rt, endS_rn, endS_nx, endS_ex, endN_rn, endN_ex, gC, g1, g2, g3, gA, aNil, aCons, gAnd, gOr, gNot, gB, gTru, bAnd, bOr, bNot, gIf, iA, iSeq, gSl, pNone, pSome, ok_bind, ex_bind, st_bind, gVar, List.getElem?_cons_zero, List.getElem?_cons_succ, List.set_cons_zero, List.set_cons_succ, if_true, if_false, Bool.not_true, Bool.not_false, Bool.false_eq_true, ↓reduceIte, e_asB, e_lt, e_gt, e_le, e_ge, e_ltS, e_gtS, e_eqI, e_eqS, e_eqB, e_neI, e_neS, e_neB, e_addI, e_iaddI, e_subI, e_negI, e_andI, e_orI, e_xorI, e_lenL, e_lenT, e_ord, e_intB, e_intI, e_inS, e_ninS, e_itL, e_itT, e_itS, e_zip, e_enum, e_slL, e_slT, e_asI, e_isN1, e_isN2, e_notN1, e_notN2, e_truB, e_truI, e_truL, e_isi_int_non, e_isi_int_bl, e_isi_int_int, e_isi_int_str, e_isi_int_list, e_isi_int_tup, e_isi_int_dict, e_isi_int_dictT, e_isi_bool_non, e_isi_bool_bl, e_isi_bool_int, e_isi_bool_str, e_isi_bool_list, e_isi_bool_tup, e_isi_bool_dict, e_isi_bool_dictT, e_isi_str_non, e_isi_str_bl, e_isi_str_int, e_isi_str_str, e_isi_str_list, e_isi_str_tup, e_isi_str_dict, e_isi_str_dictT, e_isi_list_non, e_isi_list_bl, e_isi_list_int, e_isi_list_str, e_isi_list_list, e_isi_list_tup, e_isi_list_dict, e_isi_list_dictT, e_isi_tuple_non, e_isi_tuple_bl, e_isi_tuple_int, e_isi_tuple_str, e_isi_tuple_list, e_isi_tuple_tup, e_isi_tuple_dict, e_isi_tuple_dictT, e_isi_dict_non, e_isi_dict_bl, e_isi_dict_int, e_isi_dict_str, e_isi_dict_list, e_isi_dict_tup, e_isi_dict_dict, e_isi_dict_dictT, e_iteAnd, e_iteOr, e_iteAndD, e_iteOrD, e_then_ite, e_endS_ite, e_endN_ite, e_ofR_ite, e_pick_ite, e_bind_ite, e_modI, e_fdivI, e_mul1, e_pow10, e_pow2, e_shl1, e_shrI, e_addS, e_iaddS, e_addL, e_addT, e_lenS, e_lst, e_strLit, String.reduceBEq, e_ixL0, e_ixL1, e_ixL2, e_ixL3, e_ixL4, e_ixL5, e_ixL6, e_ixL7, e_ixL8, e_ixT0, e_ixT1, e_ixT2, e_ixT3, e_ixT4, e_ixT5, e_tupleL, e_listT, e_tupleT, eqX_int, neX_int, eqX_S, neX_S, eqX_t0, neX_t0, e_catL, e_tup, e_inT, e_ninT, e_inL, e_ninL, e_slS, Int.reduceLT, Int.reduceLE, Int.reduceMul, Int.reduceAdd, Int.reduceSub, Int.reducePow, Int.reduceNeg, Int.reduceToNat, List.length_cons, List.length_nil, List.length_append, Nat.reduceAdd, Nat.reduceLeDiff, flD, List.all_cons, List.all_nil, Bool.and_true, Bool.true_and, Bool.and_self, decide_true, decide_false, or_true, true_or, and_true, true_and, eq_self])
local macro_rules | `(tactic| walk_at "pdh") => `(tactic| try simp -implicitDefEqProofs only [e_seq, e_thn, e_trt, e_trn, e_tex, e_if, e_pick, e_pickx, e_ret, e_retN, e_set, e_drop, e_for, e_ofR, e_ofRx, e_ofI, e_nil, e_asg, endS_rt, endS_rn, endS_nx, endS_ex, endN_rn, endN_ex, gC, g1, g2, g3, gA, aNil, aCons, gAnd, gOr, gNot, gB, gTru, bAnd, bOr, bNot, gIf, iA, iSeq, gSl, pNone, pSome, ok_bind, ex_bind, st_bind, gVar, List.getElem?_cons_zero, List.getElem?_cons_succ, List.set_cons_zero, List.set_cons_succ, if_true, if_false, Bool.not_true, Bool.not_false, Bool.false_eq_true, ↓reduceIte, e_asB, e_lt, e_gt, e_le, e_ge, e_ltS, e_gtS, e_eqI, e_eqS, e_eqB, e_neI, e_neS, e_neB, e_addI, e_iaddI, e_subI, e_negI, e_andI, e_orI, e_xorI, e_lenL, e_lenT, e_ord, e_intB, e_intI, e_inS, e_ninS, e_itL, e_itT, e_itS, e_zip, e_enum, e_slL, e_slT, e_asI, e_isN1, e_isN2, e_notN1, e_notN2, e_truB, e_truI, e_truL, e_isi_int_non, e_isi_int_bl, e_isi_int_int, e_isi_int_str, e_isi_int_list, e_isi_int_tup, e_isi_int_dict, e_isi_int_dictT, e_isi_bool_non, e_isi_bool_bl, e_isi_bool_int, e_isi_bool_str, e_isi_bool_list, e_isi_bool_tup, e_isi_bool_dict, e_isi_bool_dictT, e_isi_str_non, e_isi_str_bl, e_isi_str_int, e_isi_str_str, e_isi_str_list, e_isi_str_tup, e_isi_str_dict, e_isi_str_dictT, e_isi_list_non, e_isi_list_bl, e_isi_list_int, e_isi_list_str, e_isi_list_list, e_isi_list_tup, e_isi_list_dict, e_isi_list_dictT, e_isi_tuple_non, e_isi_tuple_bl, e_isi_tuple_int, e_isi_tuple_str, e_isi_tuple_list, e_isi_tuple_tup, e_isi_tuple_dict, e_isi_tuple_dictT, e_isi_dict_non, e_isi_dict_bl, e_isi_dict_int, e_isi_dict_str, e_isi_dict_list, e_isi_dict_tup, e_isi_dict_dict, e_isi_dict_dictT, e_iteAnd, e_iteOr, e_iteAndD, e_iteOrD, e_then_ite, e_endS_ite, e_endN_ite, e_ofR_ite, e_pick_ite, e_bind_ite, e_modI, e_fdivI, e_mul1, e_pow10, e_pow2, e_shl1, e_shrI, e_addS, e_iaddS, e_addL, e_addT, e_lenS, e_lst, e_strLit, String.reduceBEq, e_ixL0, e_ixL1, e_ixL2, e_ixL3, e_ixL4, e_ixL5, e_ixL6, e_ixL7, e_ixL8, e_ixT0, e_ixT1, e_ixT2, e_ixT3, e_ixT4, e_ixT5, e_tupleL, e_listT, e_tupleT, eqX_int, neX_int, eqX_S, neX_S, eqX_t0, neX_t0, e_catL, e_tup, e_inT, e_ninT, e_inL, e_ninL, e_slS, Int.reduceLT, Int.reduceLE, Int.reduceMul, Int.reduceAdd, Int.reduceSub, Int.reducePow, Int.reduceNeg, Int.reduceToNat, List.length_cons, List.length_nil, List.length_append, Nat.reduceAdd, Nat.reduceLeDiff, flD, List.all_cons, List.all_nil, Bool.and_true, Bool.true_and, Bool.and_self, decide_true, decide_false, or_true, true_or, and_true, true_and, eq_self, *])
theorem good5 (fs : List (Str × D)) : F__law_good [.exc "BadPage" fs, .int 5, .bl false] = .ok (.bl true) := by kernel_rfl
theorem good6 (fs : List (Str × D)) : F__law_good [.exc "Unlike" fs, .int 6, .bl false] = .ok (.bl true) := by kernel_rfl
theorem good7 (fs : List (Str × D)) : F__law_good [.exc "NoEdit" fs, .int 7, .bl false] = .ok (.bl true) := by kernel_rfl
theorem good8 (fs : List (Str × D)) : F__law_good [.exc "NotLive" fs, .int 8, .bl false] = .ok (.bl true) := by kernel_rfl
theorem good9 (fs : List (Str × D)) : F__law_good [.exc "IsLive" fs, .int 9, .bl false] = .ok (.bl true) := by kernel_rfl
theorem good10 (fs : List (Str × D)) : F__law_good [.exc "StandsOn" fs, .int 10, .bl false] = .ok (.bl true) := by kernel_rfl
theorem good11 (fs : List (Str × D)) : F__law_good [.exc "NoEditor" fs, .int 11, .bl false] = .ok (.bl true) := by kernel_rfl
theorem goodE0 (fs : List (Str × D)) : F__law_good [.exc "NoPart" fs, .int 0, .bl true] = .ok (.bl true) := by kernel_rfl
theorem goodE1 (fs : List (Str × D)) : F__law_good [.exc "Doubled" fs, .int 1, .bl true] = .ok (.bl true) := by kernel_rfl
theorem goodE2 (fs : List (Str × D)) : F__law_good [.exc "Lost" fs, .int 2, .bl true] = .ok (.bl true) := by kernel_rfl
theorem goodE3 (fs : List (Str × D)) : F__law_good [.exc "Ring" fs, .int 3, .bl true] = .ok (.bl true) := by kernel_rfl
theorem goodE4 (fs : List (Str × D)) : F__law_good [.exc "NoHolder" fs, .int 4, .bl true] = .ok (.bl true) := by kernel_rfl
theorem goodE5 (fs : List (Str × D)) : F__law_good [.exc "WrongKind" fs, .int 5, .bl true] = .ok (.bl true) := by kernel_rfl
theorem goodE6 (fs : List (Str × D)) : F__law_good [.exc "Far" fs, .int 6, .bl true] = .ok (.bl true) := by kernel_rfl
theorem goodE7 (fs : List (Str × D)) : F__law_good [.exc "TooLong" fs, .int 7, .bl true] = .ok (.bl true) := by kernel_rfl
theorem plain_at : F__law_plain_ones [] = .ok (.bl true) := by kernel_rfl
def EC : List Str := ["NoPart", "Doubled", "Lost", "Ring", "NoHolder", "WrongKind", "Far", "TooLong"]
def exE (c : Str) (n d : D) : D := .exc c [("choice", d), ("part", n)]
theorem ne_me {k : Nat} {d : D} (h : shL k d = true) (hn : k ≤ 64 := by decide) : neD d d = .ok (.bl false) := by
  rw [e_neSh _ _ (sh_of k (shL_sh h) hn) (sh_of k (shL_sh h) hn), eqv_same (shL_sh h)]
  rfl
theorem tB {P : Rho → R D} {ρ : Rho} {b : Bool} (h : P ρ = .ok (.bl b)) : gB P ρ = .ok b := by unfold gB; rw [h]; rfl
theorem ifF {t : Rho → R Bool} {s u : Rho → S} {ρ : Rho} (h : t ρ = .ok false) : sIf t s u ρ = u ρ := by unfold sIf; rw [h]; rfl
theorem orF {p q : Rho → R Bool} {ρ : Rho} (h : p ρ = .ok false) (h2 : q ρ = .ok false) : bOr p q ρ = .ok false := by unfold bOr; rw [h]; exact h2
theorem notT {p : Rho → R Bool} {ρ : Rho} (h : p ρ = .ok true) : bNot p ρ = .ok false := by unfold bNot; rw [h]; rfl
section
variable {n i o : D} (hn : shL 3 n = true) (hi : shL 3 i = true) (ho : shL 3 o = true)
include hn hi in
theorem edit_step (c : Str) (k : Int) (h1 : ixD (.list (EC.map fun c => exE c n i)) (.int k) = .ok (exE c n i)) (h2 : ixD (.list (EC.map fun c => exE c n .non)) (.int k) = .ok (exE c n .non)) (hc : xfl_part.contains c = true ∧ xfl_choice.contains c = true)
    (hg : ∀ fs, F__law_good [.exc c fs, .int k, .bl true] = .ok (.bl true)) (o5 : Option D) : B__law_of_edits_0 [some n, some i, some (.list (EC.map fun c => exE c n i)), some (.list (EC.map fun c => exE c n .non)), some (.int k), o5] =
      .nx [some n, some i, some (.list (EC.map fun c => exE c n i)), some (.list (EC.map fun c => exE c n .non)), some (.int k), o5] := by
  have f1 : xfD xfl_part "part" (exE c n i) = .ok n := by
    show (if xfl_part.contains c = true then R.ok n else .st) = .ok n
    exact if_pos hc.1
  have f2 : xfD xfl_choice "choice" (exE c n i) = .ok i := by
    show (if xfl_choice.contains c = true then R.ok i else .st) = .ok i
    exact if_pos hc.2
  have f3 : xfD xfl_part "part" (exE c n .non) = .ok n := by
    show (if xfl_part.contains c = true then R.ok n else .st) = .ok n
    exact if_pos hc.1
  have f4 : xfD xfl_choice "choice" (exE c n .non) = .ok .non := by
    show (if xfl_choice.contains c = true then R.ok D.non else .st) = .ok .non
    exact if_pos hc.2
  generalize EC.map (fun c => exE c n i) = L1 at h1 ⊢
  generalize EC.map (fun c => exE c n .non) = L2 at h2 ⊢
  unfold B__law_of_edits_0
  show S.then (sIf _ _ _ _) _ = _
  have a1 : gB (g2 neD (gA lstD (aCons (g1 (xfD xfl_part "part") (g2 ixD (gVar 2) (gVar 4))) (aCons (g1 (xfD xfl_choice "choice") (g2 ixD (gVar 2) (gVar 4))) (aCons (g1 (xfD xfl_part "part") (g2 ixD (gVar 3) (gVar 4))) (aCons (g1 (xfD xfl_choice "choice") (g2 ixD (gVar 3) (gVar 4))) aNil))))) (gA lstD (aCons (gVar 0) (aCons (gVar 1) (aCons (gVar 0) (aCons (gC .non) aNil))))))
      [some n, some i, some (.list L1), some (.list L2), some (.int k), o5] = .ok false := by
    refine tB ?_
    have z1 : g2 ixD (gVar 2) (gVar 4) [some n, some i, some (.list L1), some (.list L2), some (.int k), o5] = .ok (exE c n i) := h1
    have z2 : g2 ixD (gVar 3) (gVar 4) [some n, some i, some (.list L1), some (.list L2), some (.int k), o5] = .ok (exE c n .non) := h2
    have y1 : gA lstD (aCons (g1 (xfD xfl_part "part") (g2 ixD (gVar 2) (gVar 4))) (aCons (g1 (xfD xfl_choice "choice") (g2 ixD (gVar 2) (gVar 4))) (aCons (g1 (xfD xfl_part "part") (g2 ixD (gVar 3) (gVar 4))) (aCons (g1 (xfD xfl_choice "choice") (g2 ixD (gVar 3) (gVar 4))) aNil)))) [some n, some i, some (.list L1), some (.list L2), some (.int k), o5] = .ok (.list [n, i, n, .non]) := by
      simp only [gA, aCons, aNil, g1, z1, z2, ok_bind, f1, f2, f3, f4]
      rfl
    show R.bind _ _ = _
    rw [y1]
    show neD (.list [n, i, n, .non]) (.list [n, i, n, .non]) = _
    exact ne_me (k := 4) (show (shL 3 n && (shL 3 i && (shL 3 n && true))) = true by rw [hn, hi]; rfl)
  rw [ifF a1]
  show sIf _ _ _ _ = _
  have b1 : ∀ (j : Nat) (x : D), g2 ixD (gVar j) (gVar 4) [some n, some i, some (.list L1), some (.list L2), some (.int k), o5] = .ok (exE c n x) → bNot (gB (gA F__law_good (aCons (g2 ixD (gVar j) (gVar 4)) (aCons (gVar 4) (aCons (gC (.bl true)) aNil))))) [some n, some i, some (.list L1), some (.list L2), some (.int k), o5] = .ok false := fun j x hx => by
    refine notT (tB ?_)
    have y1 : aCons (g2 ixD (gVar j) (gVar 4)) (aCons (gVar 4) (aCons (gC (.bl true)) aNil)) [some n, some i, some (.list L1), some (.list L2), some (.int k), o5] = .ok [exE c n x, .int k, .bl true] := by
      simp only [aCons, hx, ok_bind]
      rfl
    unfold gA
    rw [y1]
    exact hg _
  exact ifF (orF (b1 2 i h1) (b1 3 .non h2))
include hn hi in
theorem of_edits : F__law_of_edits [n, i] = .ok (.bl true) := by
  have e0 : F__law_of_edits [n, i] = endS ((sSeq (sFor (iA rangeD1 (aCons (gC (.int 8)) aNil)) (τName 4) B__law_of_edits_0)
  (sSeq (sSet 5 (gMkX "EditError" ["part", "choice"] [] (aCons (gVar 0) (aCons (gVar 1) aNil))))
  (sSeq (sIf (bOr (gB (g2 neD (g1 (xfD xfl_part "part") (gVar 5)) (gVar 0))) (bOr (gB (g2 neD (g1 (xfD xfl_choice "choice") (gVar 5)) (gVar 1))) (gB (g2 notND (g1 (xfD xfl_choice "choice") (gMkX "EditError" ["part", "choice"] [.non] (aCons (gVar 0) aNil))) (gC .non)))))
  (sRet (gC (.bl false)))
  sNil)
  (sRet (gAnd (g1 (isiXD tbi_LeafError) (gVar 5)) (g2 notInDD (gC (.bl true)) (g2 addD (gA F__law_first (aCons (gVar 5) aNil)) (gA F__law_edits (aCons (gVar 5) aNil)))))))))
      [some n, some i, some (.list (EC.map fun c => exE c n i)), some (.list (EC.map fun c => exE c n .non)), none, none]) := rfl
  rw [e0]
  have st := edit_step hn hi
  have e1 : sFor (iA rangeD1 (aCons (gC (.int 8)) aNil)) (τName 4) B__law_of_edits_0 [some n, some i, some (.list (EC.map fun c => exE c n i)), some (.list (EC.map fun c => exE c n .non)), none, none] =
      .nx [some n, some i, some (.list (EC.map fun c => exE c n i)), some (.list (EC.map fun c => exE c n .non)), some (.int 7), none] := by
    have s0 := st "NoPart" 0 rfl rfl (by decide +kernel) goodE0 none
    have s1 := st "Doubled" 1 rfl rfl (by decide +kernel) goodE1 none
    have s2 := st "Lost" 2 rfl rfl (by decide +kernel) goodE2 none
    have s3 := st "Ring" 3 rfl rfl (by decide +kernel) goodE3 none
    have s4 := st "NoHolder" 4 rfl rfl (by decide +kernel) goodE4 none
    have s5 := st "WrongKind" 5 rfl rfl (by decide +kernel) goodE5 none
    have s6 := st "Far" 6 rfl rfl (by decide +kernel) goodE6 none
    have s7 := st "TooLong" 7 rfl rfl (by decide +kernel) goodE7 none
    generalize EC.map (fun c => exE c n i) = L1 at *
    generalize EC.map (fun c => exE c n .non) = L2 at *
    have er : iA rangeD1 (aCons (gC (.int 8)) aNil) [some n, some i, some (.list L1), some (.list L2), none, none] = .ok [.int 0, .int 1, .int 2, .int 3, .int 4, .int 5, .int 6, .int 7] := by kernel_rfl
    unfold sFor
    rw [er]
    simp only [e_forN, e_for0, e_nxn, τName, List.set_cons_succ, List.set_cons_zero, s0, s1, s2, s3, s4, s5, s6, s7]
  show endS (S.then (sFor _ _ _ _) _) = _
  rw [e1]
  generalize EC.map (fun c => exE c n i) = L1 at *
  generalize EC.map (fun c => exE c n .non) = L2 at *
  show endS (S.then (sIf _ _ _ [some n, some i, some (.list L1), some (.list L2), some (.int 7), some (exE "EditError" n i)]) _) = _
  rw [ifF]
  · kernel_rfl
  · refine orF (tB ?_) (orF (tB ?_) (tB rfl))
    · exact ne_me hn
    · exact ne_me hi
end
theorem mix_int (c k : Int) (hk : 0 ≤ k) : ∃ r, F__law_mix [.int c, .int k] = .ok (.int r) ∧ 0 ≤ r := by
  show ∃ r, endS (S__law_mix [some (.int c), some (.int k), none, none]) = .ok (.int r) ∧ 0 ≤ r
  unfold S__law_mix
  have h0 : 0 ≤ 27 * k + 1 := by omega
  walk_at "pdh"
  generalize hx : (c % 1000000007 + 7919 * k) * 48271 % 2147483647 = x
  have hx0 : -18446744073709551616 < x := by have := Int.emod_nonneg ((c % 1000000007 + 7919 * k) * 48271) (show (2147483647 : Int) ≠ 0 by decide); omega
  have hx1 : x < 18446744073709551616 := by have := Int.emod_lt_of_pos ((c % 1000000007 + 7919 * k) * 48271) (show (0 : Int) < 2147483647 by decide); omega
  clear hx
  walk_at "pdh"
  generalize hy : x * x % 2147483629 = y
  have hy0 : -18446744073709551616 < y := by have := Int.emod_nonneg (x * x) (show (2147483629 : Int) ≠ 0 by decide); omega
  have hy1 : y < 18446744073709551616 := by have := Int.emod_lt_of_pos (x * x) (show (0 : Int) < 2147483629 by decide); omega
  clear hy
  walk_at "pdh"
  have m0 : 0 ≤ Builtin.bitAnd (c / 2 ^ (27 * k + 1).toNat) 134217727 := (and_bd _ 134217727).1
  have m1 : 0 ≤ y * (y + 3) % 2147483587 := Int.emod_nonneg _ (by decide)
  repeat' split
  all_goals exact ⟨_, rfl, by assumption⟩
theorem cell_at_in (ns : List Int) (k : Nat) (hn : ns.length ≤ 63) : ∃ z, F__law_cell_at [.list (ns.map D.int), .int (k : Int)] = .ok (.int z) := by
  show ∃ z, endS (S__law_cell_at [some (.list (ns.map D.int)), some (.int (k : Int))]) = .ok (.int z)
  unfold S__law_cell_at
  walk_at "pd"
  rw [List.length_map]
  by_cases h : (k : Int) < (ns.length : Int)
  · rw [decide_eq_true h]
    walk_at "pd"
    have hl : k < (ns.map D.int).length := by rw [List.length_map]; omega
    obtain ⟨d, ed, _, md⟩ := atI_of (xs := ns.map D.int) (i := (k : Int)) (by omega) (by omega)
    rw [e_ixL _ _ _ ed]
    obtain ⟨z, _, rfl⟩ := List.mem_map.mp md
    exact ⟨z, rfl⟩
  · rw [decide_eq_false h]
    exact ⟨0, rfl⟩
section
variable {n i o : D} (hn : shL 3 n = true) (hi : shL 3 i = true) (ho : shL 3 o = true)
theorem e_forT2 {i j : Nat} {b : Rho → S} (x y : D) (ds : List D) (ρ : Rho) : forL (τTup 2 (τCons (τName i) (τCons (τName j) τNil))) b (.tup [x, y] :: ds) ρ = (b ((ρ.set i (some x)).set j (some y))).next (forL (τTup 2 (τCons (τName i) (τCons (τName j) τNil))) b ds) := rfl
include hi in
theorem wf_step (c : Str) (k : Int) (a b d e f g : Option D) (o7 : Option D) (hx : xfD xfl_number "number" (.exc c [("number", i)]) = .ok i) (hg : ∀ fs, F__law_good [.exc c fs, .int (7 + k), .bl false] = .ok (.bl true)) :
    B__law_with_fields_0 [a, some i, b, d, e, f, g, some (.int k), some (.exc c [("number", i)])] = .nx [a, some i, b, d, e, f, g, some (.int k), some (.exc c [("number", i)])] := by
  refine ifF (orF (tB ?_) (notT (tB (hg _))))
  show R.bind _ _ = _
  have z : g1 (xfD xfl_number "number") (gVar 8) [a, some i, b, d, e, f, g, some (.int k), some (.exc c [("number", i)])] = .ok i := hx
  rw [z]
  exact ne_me hi
include hn hi ho in
theorem with_fields : F__law_with_fields [n, i, o] = .ok (.bl true) := by
  show endS (S.then (sIf _ _ _ [some n, some i, some o, some (.exc "BadPage" [("choice", o), ("line", i)]), some (.exc "Unlike" [("other", o), ("one", i), ("part", n)]), some (.exc "StandsOn" [("choice", o), ("number", i)]), some (.exc "NoEditor" [("editor", n)]), none, none]) _) = _
  rw [ifF]
  rotate_left
  · refine tB ?_
    show neD (.list [i, o, i, o, n]) (.list [i, o, i, o, n]) = _
    exact ne_me (k := 4) (show (shL 3 i && (shL 3 o && (shL 3 i && (shL 3 o && (shL 3 n && true))))) = true by rw [hn, hi, ho]; rfl)
  rw [show ∀ ρ, sNil ρ = S.nx ρ from fun _ => rfl, e_thn, e_seq, ifF]
  rotate_left
  · refine tB ?_
    show neD (.list [n, i, o]) (.list [n, i, o]) = _
    exact ne_me (k := 4) (show (shL 3 n && (shL 3 i && (shL 3 o && true))) = true by rw [hn, hi, ho]; rfl)
  rw [show ∀ ρ, sNil ρ = S.nx ρ from fun _ => rfl, e_thn, e_seq, ifF]
  rotate_left
  · exact orF (notT (tB (good5 [("choice", o), ("line", i)]))) (orF (notT (tB (good6 [("other", o), ("one", i), ("part", n)]))) (notT (tB (good10 [("choice", o), ("number", i)]))))
  rw [show ∀ ρ, sNil ρ = S.nx ρ from fun _ => rfl, e_thn, e_seq]
  have er : iA enumD (aCons (gA lstD (aCons (gMkX "NoEdit" ["number"] [] (aCons (gVar 1) aNil)) (aCons (gMkX "NotLive" ["number"] [] (aCons (gVar 1) aNil)) (aCons (gMkX "IsLive" ["number"] [] (aCons (gVar 1) aNil)) aNil)))) aNil)
      [some n, some i, some o, some (.exc "BadPage" [("choice", o), ("line", i)]), some (.exc "Unlike" [("other", o), ("one", i), ("part", n)]), some (.exc "StandsOn" [("choice", o), ("number", i)]), some (.exc "NoEditor" [("editor", n)]), none, none] =
      .ok [.tup [.int 0, .exc "NoEdit" [("number", i)]], .tup [.int 1, .exc "NotLive" [("number", i)]], .tup [.int 2, .exc "IsLive" [("number", i)]]] := rfl
  unfold sFor
  rw [er]
  have s0 := wf_step hi "NoEdit" 0 (some n) (some o) (some (.exc "BadPage" [("choice", o), ("line", i)])) (some (.exc "Unlike" [("other", o), ("one", i), ("part", n)])) (some (.exc "StandsOn" [("choice", o), ("number", i)])) (some (.exc "NoEditor" [("editor", n)])) none rfl good7
  have s1 := wf_step hi "NotLive" 1 (some n) (some o) (some (.exc "BadPage" [("choice", o), ("line", i)])) (some (.exc "Unlike" [("other", o), ("one", i), ("part", n)])) (some (.exc "StandsOn" [("choice", o), ("number", i)])) (some (.exc "NoEditor" [("editor", n)])) none rfl good8
  have s2 := wf_step hi "IsLive" 2 (some n) (some o) (some (.exc "BadPage" [("choice", o), ("line", i)])) (some (.exc "Unlike" [("other", o), ("one", i), ("part", n)])) (some (.exc "StandsOn" [("choice", o), ("number", i)])) (some (.exc "NoEditor" [("editor", n)])) none rfl good9
  simp only [e_forT2, e_for0, e_nxn, List.set_cons_succ, List.set_cons_zero, s0, s1, s2]
  exact good11 [("editor", n)]
end
theorem e_gC0p : gC0 F__law_plain_ones = fun _ => R.ok (.bl true) := by
  funext ρ
  show F__law_plain_ones [] = _
  exact plain_at
theorem name_of (z : Int) : ∃ s, ixD (.list [.str "", .str "a", .str "b.2", .str "abcdefghijkl"]) (.int (z % 4)) = .ok s ∧ shL 3 s = true := by
  have h0 : 0 ≤ z % 4 := Int.emod_nonneg _ (by decide)
  have h1 : z % 4 < 4 := Int.emod_lt_of_pos _ (by decide)
  obtain ⟨d, ed, _, md⟩ := atI_of (xs := [D.str "", .str "a", .str "b.2", .str "abcdefghijkl"]) (i := z % 4) h0 h1
  refine ⟨d, e_ixL _ _ _ ed, ?_⟩
  simp only [List.mem_cons, List.not_mem_nil, or_false] at md
  rcases md with rfl | rfl | rfl | rfl <;> decide +kernel
theorem other_of (z r : Int) : ∃ s, ixD (.list [.non, .int r]) (.int (z % 2)) = .ok s ∧ shL 3 s = true := by
  have h0 : 0 ≤ z % 2 := Int.emod_nonneg _ (by decide)
  have h1 : z % 2 < 2 := Int.emod_lt_of_pos _ (by decide)
  obtain ⟨d, ed, _, md⟩ := atI_of (xs := [D.non, .int r]) (i := z % 2) h0 h1
  refine ⟨d, e_ixL _ _ _ ed, ?_⟩
  simp only [List.mem_cons, List.not_mem_nil, or_false] at md
  rcases md with rfl | rfl <;> rfl
theorem law_true (ns : List Int) (hn : ns.length ≤ 63) : F_law [.list (ns.map D.int)] = .ok (.bl true) := by
  show endS (S_law [some (.list (ns.map D.int)), none, none, none, none, none]) = _
  unfold S_law
  walk_at "pd"
  refine forL_rule (fun r => endS (r.then _) = .ok (.bl true)) (fun _ ρ => ∃ a b c d e, ρ = [some (.list (ns.map D.int)), a, b, c, d, e]) _ 0 _ ⟨_, _, _, _, _, rfl⟩ ?_ ?_
  · rintro j d ρ hd ⟨a, b, c, x, y, rfl⟩
    obtain ⟨k, rfl⟩ : ∃ k : Nat, d = .int (k : Int) := by
      have hm := List.mem_of_getElem? hd
      have : ∀ d ∈ ([.int 0, .int 1, .int 2, .int 3] : List D), ∃ k : Nat, d = .int (k : Int) := by
        intro d hd
        simp only [List.mem_cons, List.not_mem_nil, or_false] at hd
        rcases hd with rfl | rfl | rfl | rfl
        · exact ⟨0, rfl⟩
        · exact ⟨1, rfl⟩
        · exact ⟨2, rfl⟩
        · exact ⟨3, rfl⟩
      exact this d hm
    refine ⟨_, rfl, ?_⟩
    obtain ⟨z, ez⟩ := cell_at_in ns k hn
    obtain ⟨s, es, hs⟩ := name_of z
    obtain ⟨r, er, _⟩ := mix_int z 1 (by decide)
    obtain ⟨t, et, ht⟩ := other_of (z / 1200) (r % 256)
    unfold B_law_0
    walk_at "pd"
    rw [ez]
    walk_at "pd"
    rw [es]
    walk_at "pd"
    rw [er]
    walk_at "pd"
    rw [et]
    walk_at "pd"
    rw [with_fields hs rfl ht, of_edits hs rfl]
    walk_at "pd"
    exact ⟨_, _, _, _, _, rfl⟩
  · rintro ρ ⟨a, b, c, d, e, rfl⟩
    show endS (S.then (S.nx _) (sRet (gC0 F__law_plain_ones))) = _
    rw [e_gC0p]
    rfl
end Pd
theorem PySem.Challenge.cw_manyleaf_k06_refusals_made_holds : PySem.Challenge.rw_manyleaf_k06_refusals_made.Holds := by
  exact Pd.holds_of Pd.law_true
