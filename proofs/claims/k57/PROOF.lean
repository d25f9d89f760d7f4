import PyProof.Rows.All
import Wide.All
import OpenK.AllK
import Wide.FinOn
import KE.KStar
import HandS.ForMost
import HandS.Exc
import HandS.ExcOwn
import HandS.ExcInit
import HandS.ExcField
import HandS.WordsExc
import HandS.TryMany
import HandS.Defaults
import HandS.Star
import HandS.IsInst
import HandS.Flow
import HandS.Wide
import HandS.Head0
import HandS.Head1
import HandS.Head2
import HandS.HeadEnd
import HandS.HeadHook1
import HandS.HeadHook2
import HandS.HeadHook3
import HandS.Evl
import HandS.Text
import HandS.Iter
import HandS.Zip
import HandS.Dict
import HandS.DictTup
import HandS.More
import HandS.Conv
import HandS.StrMore
import HandS.StrSplit
import HandS.TupAny
import HandS.RaiseMore
import HandS.Sort
import HandS.Walk
import HandS.NoneIn
import HandS.SetBool
import HandS.Style
import HandS.Codes
import HandS.Words
import HandS.Replace
import KE.KUnpackStar
import HandS.Zip0
import PyProof.ReprRoads
import PyProof.ReprLen
import HandS.EndBits
import KE.KIntText
import PyProof.Rows.StrCase
import HandS.List
import KE.KStateDown
import Lean
import PySem.Challenge.RW_neverunsaid_k57_acts_as_lines
set_option Elab.async false
set_option linter.all false
set_option maxRecDepth 100000
set_option maxHeartbeats 4000000

/-! ### the head's facts, from the module's names and the statics -/
namespace Gh
open PySem PySem.Spec PyProof.Rows L2 He
def asM (g : Addr → Option Obj) : Nat → List Addr
  | 0 => [mainGlobals, PySem.cStatics]
  | n + 1 => growD g (asM g n)
abbrev AlM : Type := AlT × Bool
def obsM (n : Nat) (fa : List Fa) (fn : List DefD) (ts : List Tab) (ex : PySem.W.Frag → Bool) (g : Addr → Option Obj) : AlM :=
  (obsT fa fn ts (frG g (sysModules :: asM g n)), ex (frG g (sysModules :: asM g n)))
def valM (fn : List DefD) (ts : List Tab) (w : World) : AlM := (valT fn ts w, true)
structure SaysM (fa : List Fa) (fn : List DefD) (ts : List Tab) (ex : PySem.W.Frag → Bool) (w : World) (K : PySem.W.Frag) : Prop where
  t : SaysT fa fn ts w K
  more : ex K = true
def hookM (n : Nat) (fa : List Fa) (fn : List DefD) (ts : List Tab) (ex : PySem.W.Frag → Bool) : PySem.W.Hook where
  α := AlM
  obs := fun s => obsM n fa fn ts ex s.heap.get?
  val := fun w => valM fn ts w
  says := fun w h => ∃ K : PySem.W.Frag, K.In h ∧ SaysM fa fn ts ex w K
  of := fun _ _ e => ⟨_, frG_in, ⟨congrArg (fun z : AlM => z.1) e, congrArg (fun z : AlM => z.2) e⟩⟩
  keeps := fun _ _ _ ⟨K, hK, c⟩ k => ⟨K, PySem.W.Frag.In.keeps hK k, c⟩
theorem obsM_eq {n : Nat} {fa : List Fa} {fn : List DefD} {ts : List Tab} {ex : PySem.W.Frag → Bool} {g : Addr → Option Obj} {s : Shared} (h : ∀ a, g a = s.heap.get? a) : obsM n fa fn ts ex g = (hookM n fa fn ts ex).obs s := by
  have e : g = s.heap.get? := funext h
  rw [e] <;> rfl
/-- the dict of the modules is what it is -/
def sysB (K : PySem.W.Frag) : Bool := match K.lookup sysModules with
  | some o => decide (o.cls = .type "dict")
  | none => false
theorem sysB_ok {K : PySem.W.Frag} (h : sysB K = true) : ∃ o, K.lookup sysModules = some o ∧ o.cls = .type "dict" := by
  unfold sysB at h
  split at h
  · rename_i o e
    exact ⟨o, e, of_decide_eq_true h⟩
  · cases h
/-- an own exception class, over a parent without __init__ that is over ValueError -/
def oexB (K : PySem.W.Frag) (C : Addr) : Bool := match K.lookup C with
  | some ⟨.type "type", _, .cls cd, sl⟩ => (match cd.mro, sl.toList with
    | .ref C' :: bm, [_, _, _, _, some (.builtin n), _] => C' == C && n == "ValueError.__new__" && !cd.hasDel && cd.hasDict && PySem.HandSPX.refsVE bm
    | _, _ => false)
  | _ => false
theorem oexB_ok {K : PySem.W.Frag} {C : Addr} (q : oexB K C = true) : ∃ nm q N bs bm sn sub ab col dd k0 k1 k2 k3 k5, K.lookup C = some (excClassObj nm q C N bs bm true sn sub ab col dd k0 k1 k2 k3 k5 "ValueError.__new__") ∧ PySem.HandSPX.refsVE bm = true := by
  unfold oexB at q
  split at q
  · rename_i dd cd sl ho
    split at q
    · rename_i C' bm k0 k1 k2 k3 n k5 hm hs
      simp only [Bool.and_eq_true, beq_iff_eq, Bool.not_eq_true'] at q
      obtain ⟨⟨⟨⟨rfl, rfl⟩, hdel⟩, hdict⟩, hok⟩ := q
      obtain ⟨nm, bs, mro, ns, qn, hd, sn, sub, ab, col, del⟩ := cd
      dsimp only at hm hdel hdict hok
      subst hm hdel hdict
      have hsl : sl = #[k0, k1, k2, k3, some (.builtin "ValueError.__new__"), k5] := by
        obtain ⟨l⟩ := sl
        simp only at hs
        rw [hs]
      subst hsl
      exact ⟨nm, qn, ns, bs, bm, sn, sub, ab, col, dd, k0, k1, k2, k3, k5, ho, hok⟩
    · cases q
  · cases q
/-- all of an own exception class x, its parent y: made by its own __init__ that calls y.__init__ -/
def xcB (K : PySem.W.Frag) (x : Str) (f : Str) : Bool :=
  oexB K (ga K x) && (eqO (PySem.W.findIn K (.ref (ga K x)) "__setattr__") (some (some (.builtin "object.__setattr__"))) &&
  (decide (PySem.W.subIn K (.ref (ga K x)) (.type "BaseException") = some true) && (decide (PySem.W.typeIn K (.ref (ga K x)) = some (.type "type")) && (PySem.W.keepIn K (.ref (ga K x)) &&
  (eqO (PySem.W.findIn K (.ref (ga K x)) "__init__") (some (some (.ref (ma K (ga K x) "__init__")))) && (decide (PySem.W.typeIn K (.ref (ma K (ga K x) "__init__")) = some (.type "function")) &&
  (eqO (PySem.W.findIn K (.ref (ga K x)) f) (some none) && (xfB K (ga K x) && decide (PySem.W.exmOne K (.ref (ga K x)) (.ref (ga K x)) = some true)))))))))
structure Xc (K : PySem.W.Frag) (x f : Str) : Prop where
  oex : OexC K (ga K x)
  ini : PySem.W.findIn K (.ref (ga K x)) "__init__" = some (some (.ref (ma K (ga K x) "__init__")))
  fn : PySem.W.typeIn K (.ref (ma K (ga K x) "__init__")) = some (.type "function")
  no : PySem.W.findIn K (.ref (ga K x)) f = some none
  xf : XfC K (ga K x)
  exm : PySem.W.exmOne K (.ref (ga K x)) (.ref (ga K x)) = some true
theorem xcB_ok {K : PySem.W.Frag} {x f : Str} (h : xcB K x f = true) : Xc K x f := by
  obtain ⟨h1, h⟩ := ba h
  obtain ⟨h2, h⟩ := ba h
  obtain ⟨h3, h⟩ := ba h
  obtain ⟨h4, h⟩ := ba h
  obtain ⟨h5, h⟩ := ba h
  obtain ⟨h6, h⟩ := ba h
  obtain ⟨h7, h⟩ := ba h
  obtain ⟨h8, h⟩ := ba h
  obtain ⟨h9, h10⟩ := ba h
  exact ⟨⟨oexB_ok h1, eqO_ok h2, of_decide_eq_true h3, of_decide_eq_true h4, h5⟩, eqO_ok h6, of_decide_eq_true h7, eqO_ok h8, xfB_ok h9, of_decide_eq_true h10⟩
/-- the parent: its __init__ is ValueError's -/
def upB (K : PySem.W.Frag) (y : Str) : Bool := PySem.W.readsIn K (ga K y) (.type "type") && (decide (PySem.W.specialIn K (.ref (ga K y)) "__getattribute__" = some (some (.builtin "type.__getattribute__"))) &&
  (match PySem.W.findCls K (.ref (ga K y)) (.type "type") "__init__" with
  | some (.val (.builtin i)) => decide (i = "ValueError.__init__")
  | _ => false))
structure Up (K : PySem.W.Frag) (y : Str) : Prop where
  rd : PySem.W.readsIn K (ga K y) (.type "type") = true
  ga' : PySem.W.specialIn K (.ref (ga K y)) "__getattribute__" = some (some (.builtin "type.__getattribute__"))
  val : PySem.W.findCls K (.ref (ga K y)) (.type "type") "__init__" = some (.val (.builtin "ValueError.__init__"))
theorem upB_ok {K : PySem.W.Frag} {y : Str} (h : upB K y = true) : Up K y := by
  obtain ⟨h1, h⟩ := ba h
  obtain ⟨h2, h⟩ := ba h
  refine ⟨h1, of_decide_eq_true h2, ?_⟩
  split at h
  · rename_i i e
    rw [e, of_decide_eq_true h]
  · cases h
end Gh
set_option Elab.async false
set_option linter.all false
set_option maxRecDepth 100000
set_option maxHeartbeats 0
namespace P57
open PySem PySem.Spec PyProof.Rows L2
def top (i : Nat) : Stmt := PySem.Challenge.pw_neverunsaid_k57_acts_as_lines.main.body.getD i (.Pass ⟨0, 0, 0, 0⟩)
abbrev s_InvalidLine_init : Stmt := inClass (top 2) 0
def d_InvalidLine_init : He.DefD := ⟨("InvalidLine", some "__init__"), "__init__", "InvalidLine.__init__", defArgs s_InvalidLine_init, defBody s_InvalidLine_init, defScope s_InvalidLine_init, [], []⟩
abbrev s_InvalidAct_init : Stmt := inClass (top 3) 0
def d_InvalidAct_init : He.DefD := ⟨("InvalidAct", some "__init__"), "__init__", "InvalidAct.__init__", defArgs s_InvalidAct_init, defBody s_InvalidAct_init, defScope s_InvalidAct_init, [], []⟩
abbrev s_is_integer : Stmt := top 6
def d_is_integer : He.DefD := ⟨("is_integer", none), "is_integer", "is_integer", defArgs s_is_integer, defBody s_is_integer, defScope s_is_integer, [], []⟩
abbrev s_is_count : Stmt := top 7
def d_is_count : He.DefD := ⟨("is_count", none), "is_count", "is_count", defArgs s_is_count, defBody s_is_count, defScope s_is_count, [], []⟩
abbrev s_is_signs : Stmt := top 8
def d_is_signs : He.DefD := ⟨("is_signs", none), "is_signs", "is_signs", defArgs s_is_signs, defBody s_is_signs, defScope s_is_signs, [.non], []⟩
abbrev s_count_in : Stmt := top 9
def d_count_in : He.DefD := ⟨("count_in", none), "count_in", "count_in", defArgs s_count_in, defBody s_count_in, defScope s_count_in, [], []⟩
abbrev s_is_cell : Stmt := top 13
def d_is_cell : He.DefD := ⟨("is_cell", none), "is_cell", "is_cell", defArgs s_is_cell, defBody s_is_cell, defScope s_is_cell, [], []⟩
abbrev s_is_text : Stmt := top 14
def d_is_text : He.DefD := ⟨("is_text", none), "is_text", "is_text", defArgs s_is_text, defBody s_is_text, defScope s_is_text, [], []⟩
abbrev s_is_item : Stmt := top 17
def d_is_item : He.DefD := ⟨("is_item", none), "is_item", "is_item", defArgs s_is_item, defBody s_is_item, defScope s_is_item, [], []⟩
abbrev s_is_act : Stmt := top 18
def d_is_act : He.DefD := ⟨("is_act", none), "is_act", "is_act", defArgs s_is_act, defBody s_is_act, defScope s_is_act, [.non], []⟩
abbrev s_act_line : Stmt := top 20
def d_act_line : He.DefD := ⟨("act_line", none), "act_line", "act_line", defArgs s_act_line, defBody s_act_line, defScope s_act_line, [], []⟩
abbrev s_act_in : Stmt := top 21
def d_act_in : He.DefD := ⟨("act_in", none), "act_in", "act_in", defArgs s_act_in, defBody s_act_in, defScope s_act_in, [], []⟩
abbrev s_read_act : Stmt := top 22
def d_read_act : He.DefD := ⟨("read_act", none), "read_act", "read_act", defArgs s_read_act, defBody s_read_act, defScope s_read_act, [], []⟩
abbrev s__law_cell : Stmt := top 24
def d__law_cell : He.DefD := ⟨("_law_cell", none), "_law_cell", "_law_cell", defArgs s__law_cell, defBody s__law_cell, defScope s__law_cell, [], []⟩
abbrev s__law_box : Stmt := top 25
def d__law_box : He.DefD := ⟨("_law_box", none), "_law_box", "_law_box", defArgs s__law_box, defBody s__law_box, defScope s__law_box, [], []⟩
abbrev s__law_take : Stmt := top 26
def d__law_take : He.DefD := ⟨("_law_take", none), "_law_take", "_law_take", defArgs s__law_take, defBody s__law_take, defScope s__law_take, [], []⟩
abbrev s__law_kinds : Stmt := top 27
def d__law_kinds : He.DefD := ⟨("_law_kinds", none), "_law_kinds", "_law_kinds", defArgs s__law_kinds, defBody s__law_kinds, defScope s__law_kinds, [], []⟩
abbrev s__law_signs : Stmt := top 28
def d__law_signs : He.DefD := ⟨("_law_signs", none), "_law_signs", "_law_signs", defArgs s__law_signs, defBody s__law_signs, defScope s__law_signs, [], []⟩
abbrev s__law_item : Stmt := top 29
def d__law_item : He.DefD := ⟨("_law_item", none), "_law_item", "_law_item", defArgs s__law_item, defBody s__law_item, defScope s__law_item, [], []⟩
abbrev s__law_act : Stmt := top 30
def d__law_act : He.DefD := ⟨("_law_act", none), "_law_act", "_law_act", defArgs s__law_act, defBody s__law_act, defScope s__law_act, [], []⟩
abbrev s__law_is_number : Stmt := top 31
def d__law_is_number : He.DefD := ⟨("_law_is_number", none), "_law_is_number", "_law_is_number", defArgs s__law_is_number, defBody s__law_is_number, defScope s__law_is_number, [], []⟩
abbrev s__law_is_cell : Stmt := top 32
def d__law_is_cell : He.DefD := ⟨("_law_is_cell", none), "_law_is_cell", "_law_is_cell", defArgs s__law_is_cell, defBody s__law_is_cell, defScope s__law_is_cell, [], []⟩
abbrev s__law_is_text : Stmt := top 33
def d__law_is_text : He.DefD := ⟨("_law_is_text", none), "_law_is_text", "_law_is_text", defArgs s__law_is_text, defBody s__law_is_text, defScope s__law_is_text, [], []⟩
abbrev s__law_is_act : Stmt := top 34
def d__law_is_act : He.DefD := ⟨("_law_is_act", none), "_law_is_act", "_law_is_act", defArgs s__law_is_act, defBody s__law_is_act, defScope s__law_is_act, [], []⟩
abbrev s__law_written : Stmt := top 35
def d__law_written : He.DefD := ⟨("_law_written", none), "_law_written", "_law_written", defArgs s__law_written, defBody s__law_written, defScope s__law_written, [], []⟩
abbrev s__law_number : Stmt := top 36
def d__law_number : He.DefD := ⟨("_law_number", none), "_law_number", "_law_number", defArgs s__law_number, defBody s__law_number, defScope s__law_number, [], []⟩
abbrev s__law_read : Stmt := top 37
def d__law_read : He.DefD := ⟨("_law_read", none), "_law_read", "_law_read", defArgs s__law_read, defBody s__law_read, defScope s__law_read, [], []⟩
abbrev s__law_told : Stmt := top 38
def d__law_told : He.DefD := ⟨("_law_told", none), "_law_told", "_law_told", defArgs s__law_told, defBody s__law_told, defScope s__law_told, [], []⟩
abbrev s__law_line : Stmt := top 39
def d__law_line : He.DefD := ⟨("_law_line", none), "_law_line", "_law_line", defArgs s__law_line, defBody s__law_line, defScope s__law_line, [], []⟩
abbrev s__law_spoilt_line : Stmt := top 40
def d__law_spoilt_line : He.DefD := ⟨("_law_spoilt_line", none), "_law_spoilt_line", "_law_spoilt_line", defArgs s__law_spoilt_line, defBody s__law_spoilt_line, defScope s__law_spoilt_line, [], []⟩
abbrev s__law_spoilt_act : Stmt := top 41
def d__law_spoilt_act : He.DefD := ⟨("_law_spoilt_act", none), "_law_spoilt_act", "_law_spoilt_act", defArgs s__law_spoilt_act, defBody s__law_spoilt_act, defScope s__law_spoilt_act, [], []⟩
abbrev s__law_odd : Stmt := top 42
def d__law_odd : He.DefD := ⟨("_law_odd", none), "_law_odd", "_law_odd", defArgs s__law_odd, defBody s__law_odd, defScope s__law_odd, [], []⟩
abbrev s__law_same : Stmt := top 43
def d__law_same : He.DefD := ⟨("_law_same", none), "_law_same", "_law_same", defArgs s__law_same, defBody s__law_same, defScope s__law_same, [], []⟩
abbrev s__law_right : Stmt := top 44
def d__law_right : He.DefD := ⟨("_law_right", none), "_law_right", "_law_right", defArgs s__law_right, defBody s__law_right, defScope s__law_right, [], []⟩
abbrev s_law : Stmt := top 45
def d_law : He.DefD := ⟨("law", none), "law", "law", defArgs s_law, defBody s_law, defScope s_law, [], []⟩
def fn : List He.DefD := [d_InvalidLine_init, d_InvalidAct_init, d_is_integer, d_is_count, d_is_signs, d_count_in, d_is_cell, d_is_text, d_is_item, d_is_act, d_act_line, d_act_in, d_read_act, d__law_cell, d__law_box, d__law_take, d__law_kinds, d__law_signs, d__law_item, d__law_act, d__law_is_number, d__law_is_cell, d__law_is_text, d__law_is_act, d__law_written, d__law_number, d__law_read, d__law_told, d__law_line, d__law_spoilt_line, d__law_spoilt_act, d__law_odd, d__law_same, d__law_right, d_law]
def fa : List He.Fa := ([.glo "is_integer", .glo "is_count", .glo "is_signs", .glo "count_in", .glo "is_cell", .glo "is_text", .glo "is_item", .glo "is_act", .glo "act_line", .glo "act_in", .glo "read_act", .glo "_law_cell", .glo "_law_box", .glo "_law_take", .glo "_law_kinds", .glo "_law_signs", .glo "_law_item", .glo "_law_act", .glo "_law_is_number", .glo "_law_is_cell", .glo "_law_is_text", .glo "_law_is_act", .glo "_law_written", .glo "_law_number", .glo "_law_read", .glo "_law_told", .glo "_law_line", .glo "_law_spoilt_line", .glo "_law_spoilt_act", .glo "_law_odd"] : List He.Fa) ++ ([.glo "_law_same", .glo "_law_right", .glo "law", .glo "UnsaidError", .glo "InvalidLine", .glo "InvalidAct", .str "DIGITS" "0123456789", .int "MOST_LETTERS" 8, .int "MOST_SIGNS" 40, .glo "ITEMS", .free "ValueError", .free "abs", .free "all", .free "bool", .free "int", .free "isinstance", .free "len", .free "list", .free "max", .free "min", .free "range", .free "repr", .free "str", .free "sum", .free "tuple", .free "zip"] : List He.Fa)
/-- in the table at a, under the key k: a tuple of these -/
def dtB (K : PySem.W.Frag) (a : Addr) (k : Str) (vs : List He.Dv) : Bool := match PySem.W.nsIn K a k with
  | some (some (.ref T)) => (match K.lookup T with
    | some ⟨.type c, _, .seq its _, _⟩ => decide (c = "tuple") && (decide (its.size ≤ sizeLine) && He.relAll (vs.map (He.Dv.v K)) its.toList)
    | _ => false)
  | _ => false
def ts : List He.Tab := [((fun K => He.ga K "ITEMS"), ["tick", "write", "carry", "drop", "double", "stop", "cut", "rise"])]
def exs (K : PySem.W.Frag) : List Bool := [dtB K (He.ga K "ITEMS") "tick" [.str "house"], dtB K (He.ga K "ITEMS") "write" [.str "house", .str "cell", .str "text"], dtB K (He.ga K "ITEMS") "carry" [.str "count"], dtB K (He.ga K "ITEMS") "drop" [.str "count"], dtB K (He.ga K "ITEMS") "double" [.str "count"], dtB K (He.ga K "ITEMS") "stop" [.str "house", .str "count"], dtB K (He.ga K "ITEMS") "cut" [.str "house", .str "count"], dtB K (He.ga K "ITEMS") "rise" [.str "house"], Gh.upB K "UnsaidError", Gh.xcB K "InvalidLine" "given", Gh.xcB K "InvalidAct" "given", Gh.sysB K]
def ex (K : PySem.W.Frag) : Bool := (exs K).all id
def names : List PySem.Str := (["UnsaidError", "InvalidLine", "InvalidAct", "DIGITS", "is_integer", "is_count", "is_signs", "count_in", "MOST_LETTERS", "MOST_SIGNS", "is_cell", "is_text", "ITEMS", "is_item", "is_act", "act_line", "act_in", "read_act", "_law_cell", "_law_box", "_law_take", "_law_kinds", "_law_signs", "_law_item", "_law_act", "_law_is_number", "_law_is_cell", "_law_is_text", "_law_is_act", "_law_written"] : List PySem.Str) ++ (["_law_number", "_law_read", "_law_told", "_law_line", "_law_spoilt_line", "_law_spoilt_act", "_law_odd", "_law_same", "_law_right"] : List PySem.Str)
abbrev R : PySem.W.OpenRow := PySem.W.OpenLaw.row PySem.Challenge.rw_neverunsaid_k57_acts_as_lines
abbrev hk : PySem.W.Hook := Gh.hookM 6 fa fn ts ex
def ob (s : PySem.W.SharedT) : Gh.AlM := Gh.obsM 6 fa fn ts ex (HandSHeadRun.getT s)
theorem ob_eq (s : PySem.W.SharedT) : ob s = hk.obs s.abs := Gh.obsM_eq (HandSHeadRun.getT_eq s)
theorem runF (w : World) : HandSHeadRun.RunEq R (PySem.W.view R.prog [45]) hk ob 4000 names (w.withFollow "special-get-raises" false) := by
  intro os
  kernel_rfl
theorem runT (w : World) : HandSHeadRun.RunEq R (PySem.W.view R.prog [45]) hk ob 4000 names (w.withFollow "special-get-raises" true) := by
  intro os
  kernel_rfl
theorem run (w : World) : HandSHeadRun.RunEq R (PySem.W.view R.prog [45]) hk ob 4000 names w := PySem.W.byRow2 "special-get-raises" runF runT w
end P57
set_option Elab.async false
set_option linter.all false
set_option maxRecDepth 100000
set_option maxHeartbeats 4000000
/-! data: what a pure def reckons with; how it lies in the heap -/
namespace Dx
open PySem PySem.Spec PyProof.Rows L2 Evl

inductive D where
  | non | bl (b : Bool) | int (i : Int) | str (s : Str) | lst (xs : List D) | tup (xs : List D) | dct (kvs : List (Str × D)) | lid (a : Nat) (xs : List D) | frl (xs : List D)

mutual
inductive Dt (K : PySem.W.Frag) (H : Hp) : V → D → Prop
  | non : Dt K H .non .non
  | bl (b : Bool) : Dt K H (.bl b) (.bl b)
  | int (i : Int) : Dt K H (.int i) (.int i)
  | str (x : Str) : Dt K H (.str x) (.str x)
  | lst {a : Addr} {xs : List V} {ds : List D} : H a = some (.lst xs) → Dts K H xs ds → Dt K H (.ref a) (.lst ds)
  | tup {a : Addr} {xs : List V} {ds : List D} : SqT K H a xs → Dts K H xs ds → Dt K H (.ref a) (.tup ds)
  | lid {a : Addr} {xs : List V} {ds : List D} : H a = some (.lst xs) → Dts K H xs ds → Dt K H (.ref a) (.lid a ds)
  | frl {a : Addr} {xs : List V} {ds : List D} : SqL K H a xs → Dts K H xs ds → Dt K H (.ref a) (.frl ds)
  | dct {a : Addr} {kvs : List (Key × V)} {ds : List (Str × D)} : Rd H a (.dK kvs) → Dks K H kvs ds → Dt K H (.ref a) (.dct ds)
inductive Dts (K : PySem.W.Frag) (H : Hp) : List V → List D → Prop
  | nil : Dts K H [] []
  | cons {v : V} {vs : List V} {d : D} {ds : List D} : Dt K H v d → Dts K H vs ds → Dts K H (v :: vs) (d :: ds)
inductive Dks (K : PySem.W.Frag) (H : Hp) : List (Key × V) → List (Str × D) → Prop
  | nil : Dks K H [] []
  | cons {k : Str} {v : V} {vs : List (Key × V)} {d : D} {ds : List (Str × D)} : Dt K H v d → Dks K H vs ds → Dks K H ((.inr k, v) :: vs) ((k, d) :: ds)
end

section
variable {K : PySem.W.Frag} {H H' : Hp}
mutual
theorem Dt.mono (e : Ex H H') : ∀ {v : V} {d : D}, Dt K H v d → Dt K H' v d
  | _, _, .non => .non
  | _, _, .bl b => .bl b
  | _, _, .int i => .int i
  | _, _, .str x => .str x
  | _, _, .lst h t => .lst (e _ _ h) (Dts.mono e t)
  | _, _, .tup h t => .tup (ex_t e h) (Dts.mono e t)
  | _, _, .lid h t => .lid (e _ _ h) (Dts.mono e t)
  | _, _, .frl h t => .frl (ex_l e h) (Dts.mono e t)
  | _, _, .dct h t => .dct (ex_rd e h) (Dks.mono e t)
theorem Dts.mono (e : Ex H H') : ∀ {v : List V} {d : List D}, Dts K H v d → Dts K H' v d
  | _, _, .nil => .nil
  | _, _, .cons h t => .cons (Dt.mono e h) (Dts.mono e t)
theorem Dks.mono (e : Ex H H') : ∀ {v : List (Key × V)} {d : List (Str × D)}, Dks K H v d → Dks K H' v d
  | _, _, .nil => .nil
  | _, _, .cons h t => .cons (Dt.mono e h) (Dks.mono e t)
end
theorem Dts.length : ∀ {vs : List V} {ds : List D}, Dts K H vs ds → vs.length = ds.length
  | _, _, .nil => rfl
  | _, _, .cons _ t => by rw [List.length_cons, List.length_cons, Dts.length t]
theorem Dts.get : ∀ {vs : List V} {ds : List D} {i : Nat} {d : D}, Dts K H vs ds → ds[i]? = some d → ∃ v, vs[i]? = some v ∧ Dt K H v d
  | _, _, _, _, .nil, e => by simp at e
  | _, _, 0, _, .cons h _, e => by simp at e; subst e; exact ⟨_, rfl, h⟩
  | _, _, i + 1, d, .cons _ t, e => by
    obtain ⟨v, h1, h2⟩ := Dts.get (i := i) (d := d) t (by simpa using e)
    exact ⟨v, by simpa using h1, h2⟩
theorem Dts.getV : ∀ {vs : List V} {ds : List D} {i : Nat} {v : V}, Dts K H vs ds → vs[i]? = some v → ∃ d, ds[i]? = some d ∧ Dt K H v d
  | _, _, _, _, .nil, e => by simp at e
  | _, _, 0, _, .cons h _, e => by simp at e; subst e; exact ⟨_, rfl, h⟩
  | _, _, i + 1, d, .cons _ t, e => by
    obtain ⟨v, h1, h2⟩ := Dts.getV (i := i) (v := d) t (by simpa using e)
    exact ⟨v, by simpa using h1, h2⟩
theorem Dts.append : ∀ {vs ws : List V} {ds es : List D}, Dts K H vs ds → Dts K H ws es → Dts K H (vs ++ ws) (ds ++ es)
  | _, _, _, _, .nil, h => h
  | _, _, _, _, .cons h t, q => .cons h (Dts.append t q)
theorem Dts.take : ∀ {vs : List V} {ds : List D} (n : Nat), Dts K H vs ds → Dts K H (vs.take n) (ds.take n)
  | _, _, 0, _ => .nil
  | _, _, _ + 1, .nil => .nil
  | _, _, n + 1, .cons h t => .cons h (Dts.take n t)
theorem Dts.drop : ∀ {vs : List V} {ds : List D} (n : Nat), Dts K H vs ds → Dts K H (vs.drop n) (ds.drop n)
  | _, _, 0, h => h
  | _, _, _ + 1, .nil => .nil
  | _, _, n + 1, .cons h t => Dts.drop n t
theorem Dts.set {v : V} {d : D} (h : Dt K H v d) : ∀ {vs : List V} {ds : List D} (n : Nat), Dts K H vs ds → Dts K H (vs.set n v) (ds.set n d)
  | _, _, _, .nil => .nil
  | _, _, 0, .cons _ t => .cons h t
  | _, _, n + 1, .cons q t => .cons q (Dts.set h n t)
theorem Dts.strs : ∀ {l : List Str} {ds : List D}, Dts K H (l.map V.str) ds → ds = l.map D.str
  | [], _, .nil => rfl
  | x :: l, _, .cons h t => by
    cases h
    rw [Dts.strs t]; rfl
theorem Dts.ofStrs : ∀ (l : List Str), Dts K H (l.map V.str) (l.map D.str)
  | [] => .nil
  | x :: l => .cons (.str x) (Dts.ofStrs l)
theorem Dts.toStrs : ∀ {vs : List V} {l : List Str}, Dts K H vs (l.map D.str) → vs = l.map V.str
  | _, [], .nil => rfl
  | _, x :: l, .cons h t => by
    cases h
    rw [Dts.toStrs t]; rfl
theorem Dts.ofInts : ∀ (l : List Int), Dts K H (l.map V.int) (l.map D.int)
  | [] => .nil
  | x :: l => .cons (.int x) (Dts.ofInts l)
theorem Dts.toInts : ∀ {vs : List V} {l : List Int}, Dts K H vs (l.map D.int) → vs = l.map V.int
  | _, [], .nil => rfl
  | _, x :: l, .cons h t => by
    cases h
    rw [Dts.toInts t]; rfl
end

/-! ### what the names of a def hold -/
inductive Ent where
  | no | pl (d : D) | ow (l : Bool) (ds : List D)
abbrev Den := List Ent
/-- what stands behind a def's body: the heap at its entry, its known part, the objects that may be changed for the caller -/
structure Th where
  He : Hp
  H0e : Hp
  IN : List Addr

structure Sd (K : PySem.W.Frag) (T : Th) (H0 H : Hp) (σ : L2.St) (δ : Den) : Prop where
  ex : Ex H0 H
  len : σ.length = δ.length
  pl : ∀ (i : Nat) d, δ[i]? = some (.pl d) → ∃ v, σ[i]? = some (some v) ∧ Dt K H0 v d
  ow : ∀ (i : Nat) l ds, δ[i]? = some (.ow l ds) → ∃ p vs, σ[i]? = some (some (.ref p)) ∧ H0 p = none ∧ H p = some (.lst vs) ∧ Dts K H0 vs ds ∧ (l = false → p ∈ T.IN) ∧ (l = true → T.He p = none ∧ p ∉ T.IN)
  ap : ∀ (i j : Nat) li lj di dj p, δ[i]? = some (.ow li di) → δ[j]? = some (.ow lj dj) → σ[i]? = some (some (.ref p)) → σ[j]? = some (some (.ref p)) → i = j
  fr : ∀ a o, T.He a = some o → a ∉ T.IN → H a = some o
  nw : ∀ a o, H0 a = some o → T.H0e a = some o ∨ T.He a = none
  e0 : Ex T.H0e H0
  inn : ∀ p ∈ T.IN, H0 p = none
  inH : ∀ p ∈ T.IN, H p ≠ none

section
variable {K : PySem.W.Frag} {T : Th} {H0 H : Hp} {σ : L2.St} {δ : Den}
theorem Sd.fresh0 (S : Sd K T H0 H σ δ) {p : Addr} (h : H p = none) : H0 p = none := fresh_back S.ex h
theorem Sd.freshE (S : Sd K T H0 H σ δ) {p : Addr} (h : H p = none) : T.He p = none := by
  cases e : T.He p with
  | none => rfl
  | some o =>
    by_cases hp : p ∈ T.IN
    · exact absurd h (S.inH p hp)
    · have q := S.fr p o e hp
      rw [h] at q; cases q
/-- a new object is laid, known -/
theorem Sd.lay (S : Sd K T H0 H σ δ) {p : Addr} {o : HO} (h : H p = none) : Sd K T (upd H0 p o) (upd H p o) σ δ := by
  have h0 := S.fresh0 h
  have x0 : Ex H0 (upd H0 p o) := Ex.new h0
  refine ⟨fun a u e => ?_, S.len, fun i d e => ?_, fun i l ds e => ?_, S.ap, fun a u e hn => ?_, fun a u e => ?_, S.e0.trans x0, fun q hq => ?_, fun q hq => ?_⟩
  · by_cases ha : a = p
    · subst ha; rw [upd_same] at e ⊢; exact e
    · rw [upd_ne ha] at e ⊢; exact S.ex a u e
  · obtain ⟨v, h1, h2⟩ := S.pl i d e
    exact ⟨v, h1, h2.mono x0⟩
  · obtain ⟨q, vs, h1, h2, h3, h4, h5⟩ := S.ow i l ds e
    have ne : q ≠ p := fun z => by rw [z, h] at h3; cases h3
    exact ⟨q, vs, h1, by rw [upd_ne ne]; exact h2, by rw [upd_ne ne]; exact h3, h4.mono x0, h5⟩
  · rw [upd_ne (fun z => by rw [z, S.freshE h] at e; cases e)]; exact S.fr a u e hn
  · by_cases ha : a = p
    · subst ha; exact .inr (S.freshE h)
    · rw [upd_ne ha] at e; exact S.nw a u e
  · rw [upd_ne (fun z => S.inH q hq (by rw [z]; exact h))]; exact S.inn q hq
  · rw [upd_ne (fun z => S.inH q hq (by rw [z]; exact h))]; exact S.inH q hq
theorem Sd.layEx (S : Sd K T H0 H σ δ) {p : Addr} {o : HO} (h : H p = none) : Ex H0 (upd H0 p o) := Ex.new (S.fresh0 h)
/-- a name takes a known value -/
theorem Sd.put (S : Sd K T H0 H σ δ) {i : Nat} {v : V} {d : D} (h : Dt K H0 v d) : Sd K T H0 H (σ.set i (some v)) (δ.set i (.pl d)) := by
  refine ⟨S.ex, by simpa using S.len, fun j d' e => ?_, fun j l ds e => ?_, fun j k lj lk dj dk p e1 e2 e3 e4 => ?_, S.fr, S.nw, S.e0, S.inn, S.inH⟩
  · by_cases hj : i = j
    · subst hj
      have hl : i < δ.length := by
        by_cases hl : i < δ.length
        · exact hl
        · rw [List.getElem?_eq_none (by simpa using hl)] at e; cases e
      rw [List.getElem?_set_self hl] at e
      cases e
      exact ⟨v, List.getElem?_set_self (by rw [S.len]; exact hl), h⟩
    · rw [List.getElem?_set_ne hj] at e ⊢; exact S.pl j d' e
  · by_cases hj : i = j
    · subst hj
      by_cases hl : i < δ.length
      · rw [List.getElem?_set_self hl] at e; cases e
      · rw [List.getElem?_eq_none (by simpa using hl)] at e; cases e
    · rw [List.getElem?_set_ne hj] at e ⊢; exact S.ow j l ds e
  · have no : ∀ {m : Nat} {lm dm}, (δ.set i (.pl d))[m]? = some (.ow lm dm) → i ≠ m := fun {m lm dm} e z => by
      subst z
      by_cases hl : i < δ.length
      · rw [List.getElem?_set_self hl] at e; cases e
      · rw [List.getElem?_eq_none (by simpa using hl)] at e; cases e
    have n1 := no e1
    have n2 := no e2
    rw [List.getElem?_set_ne n1] at e1 e3
    rw [List.getElem?_set_ne n2] at e2 e4
    exact S.ap j k lj lk dj dk p e1 e2 e3 e4
/-- a name is forgotten -/
theorem Sd.drop (S : Sd K T H0 H σ δ) {i : Nat} {x : Option V} : Sd K T H0 H (σ.set i x) (δ.set i .no) := by
  refine ⟨S.ex, by simpa using S.len, fun j d' e => ?_, fun j l ds e => ?_, fun j k lj lk dj dk p e1 e2 e3 e4 => ?_, S.fr, S.nw, S.e0, S.inn, S.inH⟩
  · have n : i ≠ j := fun z => by
      subst z
      by_cases hl : i < δ.length
      · rw [List.getElem?_set_self hl] at e; cases e
      · rw [List.getElem?_eq_none (by simpa using hl)] at e; cases e
    rw [List.getElem?_set_ne n] at e ⊢; exact S.pl j d' e
  · have n : i ≠ j := fun z => by
      subst z
      by_cases hl : i < δ.length
      · rw [List.getElem?_set_self hl] at e; cases e
      · rw [List.getElem?_eq_none (by simpa using hl)] at e; cases e
    rw [List.getElem?_set_ne n] at e ⊢; exact S.ow j l ds e
  · have no : ∀ {m : Nat} {lm dm}, (δ.set i .no)[m]? = some (.ow lm dm) → i ≠ m := fun {m lm dm} e z => by
      subst z
      by_cases hl : i < δ.length
      · rw [List.getElem?_set_self hl] at e; cases e
      · rw [List.getElem?_eq_none (by simpa using hl)] at e; cases e
    have n1 := no e1
    have n2 := no e2
    rw [List.getElem?_set_ne n1] at e1 e3
    rw [List.getElem?_set_ne n2] at e2 e4
    exact S.ap j k lj lk dj dk p e1 e2 e3 e4
/-- a name takes a new list that is its own: p, laid unknown -/
theorem Sd.putOw (S : Sd K T H0 H σ δ) {i : Nat} {p : Addr} {vs : List V} {ds : List D} (h : H p = none) (hd : Dts K H0 vs ds) :
    Sd K T H0 (upd H p (.lst vs)) (σ.set i (some (.ref p))) (δ.set i (.ow true ds)) := by
  have h0 := S.fresh0 h
  refine ⟨fun a u e => ?_, by simpa using S.len, fun j d' e => ?_, fun j l ds' e => ?_, fun j k lj lk dj dk q e1 e2 e3 e4 => ?_, fun a u e hn => ?_, S.nw, S.e0, S.inn, fun q hq => ?_⟩
  · rw [upd_ne (ne_of_none e h0)]; exact S.ex a u e
  · have n : i ≠ j := fun z => by
      subst z
      by_cases hl : i < δ.length
      · rw [List.getElem?_set_self hl] at e; cases e
      · rw [List.getElem?_eq_none (by simpa using hl)] at e; cases e
    rw [List.getElem?_set_ne n] at e ⊢; exact S.pl j d' e
  · by_cases hj : i = j
    · subst hj
      have hl : i < δ.length := by
        by_cases hl : i < δ.length
        · exact hl
        · rw [List.getElem?_eq_none (by simpa using hl)] at e; cases e
      rw [List.getElem?_set_self hl] at e
      cases e
      exact ⟨p, vs, List.getElem?_set_self (by rw [S.len]; exact hl), h0, upd_same, hd, (fun z => by cases z), (fun _ => ⟨S.freshE h, fun z => S.inH p z h⟩)⟩
    · rw [List.getElem?_set_ne hj] at e ⊢
      obtain ⟨q, ws, h1, h2, h3, h4, h5⟩ := S.ow j l ds' e
      exact ⟨q, ws, h1, h2, by rw [upd_ne (fun z => by rw [z, h] at h3; cases h3)]; exact h3, h4, h5⟩
  · have at_ : ∀ {m : Nat} {lm dm q}, (δ.set i (.ow true ds))[m]? = some (.ow lm dm) → (σ.set i (some (.ref p)))[m]? = some (some (.ref q)) → (i = m ∧ q = p) ∨ (i ≠ m ∧ δ[m]? = some (.ow lm dm) ∧ σ[m]? = some (some (.ref q)) ∧ q ≠ p) := fun {m lm dm q} e1 e2 => by
      by_cases hm : i = m
      · subst hm
        have hl : i < σ.length := by
          by_cases hl : i < σ.length
          · exact hl
          · rw [List.getElem?_eq_none (by simpa using hl)] at e2; cases e2
        rw [List.getElem?_set_self hl] at e2
        cases e2
        exact .inl ⟨rfl, rfl⟩
      · rw [List.getElem?_set_ne hm] at e1 e2
        obtain ⟨q', ws, h1, h2, h3, _⟩ := S.ow m lm dm e1
        rw [h1] at e2; cases e2
        exact .inr ⟨hm, e1, h1, fun z => by rw [z, h] at h3; cases h3⟩
    rcases at_ e1 e3 with ⟨a1, a2⟩ | ⟨a1, a2, a3, a4⟩
    · rcases at_ e2 e4 with ⟨b1, b2⟩ | ⟨b1, b2, b3, b4⟩
      · rw [← a1, ← b1]
      · exact absurd a2 b4
    · rcases at_ e2 e4 with ⟨b1, b2⟩ | ⟨b1, b2, b3, b4⟩
      · exact absurd b2 a4
      · exact S.ap j k lj lk dj dk q a2 b2 a3 b3
  · rw [upd_ne (fun z => by rw [z, S.freshE h] at e; cases e)]; exact S.fr a u e hn
  · rw [upd_ne (fun z => S.inH q hq (by rw [z]; exact h))]; exact S.inH q hq
/-- an own list changes -/
theorem Sd.chg (S : Sd K T H0 H σ δ) {i : Nat} {p : Addr} {l : Bool} {ds es : List D} {ws : List V} (e : δ[i]? = some (.ow l ds)) (hp : σ[i]? = some (some (.ref p))) (hd : Dts K H0 ws es) :
    Sd K T H0 (upd H p (.lst ws)) σ (δ.set i (.ow l es)) := by
  obtain ⟨p', vs, h1, h2, h3, h4, h5, h6⟩ := S.ow i l ds e
  rw [hp] at h1; cases h1
  have hl : i < δ.length := by
    by_cases hl : i < δ.length
    · exact hl
    · rw [List.getElem?_eq_none (by simpa using hl)] at e; cases e
  refine ⟨fun a u q => ?_, by simpa using S.len, fun j d' q => ?_, fun j l' ds' q => ?_, fun j k lj lk dj dk r e1 e2 e3 e4 => ?_, fun a u q hn => ?_, S.nw, S.e0, S.inn, fun q hq => ?_⟩
  · rw [upd_ne (ne_of_none q h2)]; exact S.ex a u q
  · have n : i ≠ j := fun z => by subst z; rw [List.getElem?_set_self hl] at q; cases q
    rw [List.getElem?_set_ne n] at q; exact S.pl j d' q
  · by_cases hj : i = j
    · subst hj
      rw [List.getElem?_set_self hl] at q
      cases q
      exact ⟨p, ws, hp, h2, upd_same, hd, h5, h6⟩
    · rw [List.getElem?_set_ne hj] at q
      obtain ⟨r, us, g1, g2, g3, g4, g5⟩ := S.ow j l' ds' q
      have ne : r ≠ p := fun z => hj (S.ap i j l l' ds ds' p e q hp (by rw [← z]; exact g1))
      exact ⟨r, us, g1, g2, by rw [upd_ne ne]; exact g3, g4, g5⟩
  · have tr : ∀ {m : Nat} {lm dm}, (δ.set i (.ow l es))[m]? = some (.ow lm dm) → ∃ lm' dm', δ[m]? = some (.ow lm' dm') := fun {m lm dm} z => by
      by_cases hm : i = m
      · subst hm; exact ⟨_, _, e⟩
      · rw [List.getElem?_set_ne hm] at z; exact ⟨_, _, z⟩
    obtain ⟨_, _, z1⟩ := tr e1
    obtain ⟨_, _, z2⟩ := tr e2
    exact S.ap j k _ _ _ _ r z1 z2 e3 e4
  · have ne : a ≠ p := fun z => by
      cases l with
      | false => exact hn (by rw [z]; exact h5 rfl)
      | true => rw [z, (h6 rfl).1] at q; cases q
    rw [upd_ne ne]; exact S.fr a u q hn
  · by_cases z : q = p
    · rw [z, upd_same]; simp
    · rw [upd_ne z]; exact S.inH q hq
/-- an own list, not of the caller, is known from here on -/
theorem Sd.freeze (S : Sd K T H0 H σ δ) {i : Nat} {ds : List D} (e : δ[i]? = some (.ow true ds)) :
    ∃ H0', Ex H0 H0' ∧ Sd K T H0' H σ (δ.set i (.pl (.lst ds))) := by
  obtain ⟨p, vs, h1, h2, h3, h4, _, h6⟩ := S.ow i true ds e
  obtain ⟨h5', hni⟩ := h6 rfl
  have hl : i < δ.length := by
    by_cases hl : i < δ.length
    · exact hl
    · rw [List.getElem?_eq_none (by simpa using hl)] at e; cases e
  have x0 : Ex H0 (upd H0 p (.lst vs)) := Ex.new h2
  refine ⟨upd H0 p (.lst vs), x0, fun a u q => ?_, by simpa using S.len, fun j d' q => ?_, fun j l' ds' q => ?_, fun j k lj lk dj dk r e1 e2 e3 e4 => ?_, S.fr, fun a u q => ?_, S.e0.trans x0, fun q hq => ?_, S.inH⟩
  · by_cases ha : a = p
    · subst ha; rw [upd_same] at q; rw [h3]; exact q
    · rw [upd_ne ha] at q; exact S.ex a u q
  · by_cases hj : i = j
    · subst hj
      rw [List.getElem?_set_self hl] at q
      cases q
      exact ⟨_, h1, .lst upd_same (h4.mono x0)⟩
    · rw [List.getElem?_set_ne hj] at q
      obtain ⟨v, g1, g2⟩ := S.pl j d' q
      exact ⟨v, g1, g2.mono x0⟩
  · have hj : i ≠ j := fun z => by subst z; rw [List.getElem?_set_self hl] at q; cases q
    rw [List.getElem?_set_ne hj] at q
    obtain ⟨r, us, g1, g2, g3, g4, g5⟩ := S.ow j l' ds' q
    have ne : r ≠ p := fun z => hj (S.ap i j true l' ds ds' p e q h1 (by rw [← z]; exact g1))
    exact ⟨r, us, g1, by rw [upd_ne ne]; exact g2, g3, g4.mono x0, g5⟩
  · have tr : ∀ {m : Nat} {lm dm}, (δ.set i (.pl (.lst ds)))[m]? = some (.ow lm dm) → δ[m]? = some (.ow lm dm) := fun {m lm dm} z => by
      by_cases hm : i = m
      · subst hm; rw [List.getElem?_set_self hl] at z; cases z
      · rw [List.getElem?_set_ne hm] at z; exact z
    exact S.ap j k _ _ _ _ r (tr e1) (tr e2) e3 e4
  · by_cases ha : a = p
    · rw [ha]; exact .inr h5'
    · rw [upd_ne ha] at q; exact S.nw a u q
  · rw [upd_ne (fun z => hni (by rw [← z]; exact hq))]; exact S.inn q hq
/-- an object is laid that is not known -/
theorem Sd.layUn (S : Sd K T H0 H σ δ) {p : Addr} {o : HO} (h : H p = none) : Sd K T H0 (upd H p o) σ δ := by
  have h0 := S.fresh0 h
  refine ⟨fun a u e => ?_, S.len, S.pl, fun i l ds e => ?_, S.ap, fun a u e hn => ?_, S.nw, S.e0, S.inn, fun q hq => ?_⟩
  · rw [upd_ne (ne_of_none e h0)]; exact S.ex a u e
  · obtain ⟨q, vs, h1, h2, h3, h4, h5⟩ := S.ow i l ds e
    exact ⟨q, vs, h1, h2, by rw [upd_ne (fun z => by rw [z, h] at h3; cases h3)]; exact h3, h4, h5⟩
  · rw [upd_ne (fun z => by rw [z, S.freshE h] at e; cases e)]; exact S.fr a u e hn
  · rw [upd_ne (fun z => S.inH q hq (by rw [z]; exact h))]; exact S.inH q hq
/-- an address that is held as an own list -/
def Held (σ : L2.St) (δ : Den) (p : Addr) : Prop := ∃ (i : Nat) (l : Bool) (ds : List D), δ[i]? = some (Ent.ow l ds) ∧ σ[i]? = some (some (V.ref p))
/-- an unknown object that no name holds changes -/
theorem Sd.mutUn (S : Sd K T H0 H σ δ) {p : Addr} {o : HO} (h0 : H0 p = none) (hh : ¬ Held σ δ p) (hE : T.He p = none) : Sd K T H0 (upd H p o) σ δ := by
  refine ⟨S.ex.mut h0, S.len, S.pl, fun i l ds e => ?_, S.ap, fun a u e hn => ?_, S.nw, S.e0, S.inn, fun q hq => ?_⟩
  · obtain ⟨q, vs, h1, h2, h3, h4, h5⟩ := S.ow i l ds e
    exact ⟨q, vs, h1, h2, by rw [upd_ne (fun z => hh ⟨i, l, ds, e, by rw [← z]; exact h1⟩)]; exact h3, h4, h5⟩
  · rw [upd_ne (fun z => by rw [z, hE] at e; cases e)]; exact S.fr a u e hn
  · by_cases z : q = p
    · rw [z, upd_same]; simp
    · rw [upd_ne z]; exact S.inH q hq
open Classical in
/-- what stands behind a part of a body: all that stands but what is held -/
noncomputable def Th.re (T : Th) (H0 H : Hp) (σ : L2.St) (δ : Den) : Th := ⟨fun a => if Held σ δ a then none else H a, H0, T.IN⟩
theorem re_none {p : Addr} (h : Held σ δ p) : (T.re H0 H σ δ).He p = none := by
  unfold Th.re; exact if_pos h
theorem re_some {p : Addr} (h : ¬ Held σ δ p) : (T.re H0 H σ δ).He p = H p := by
  unfold Th.re; exact if_neg h
theorem Sd.re (S : Sd K T H0 H σ δ) : Sd K (T.re H0 H σ δ) H0 H σ δ := by
  refine ⟨S.ex, S.len, S.pl, fun i l ds e => ?_, S.ap, fun a o e hn => ?_, fun a o e => .inl e, Ex.refl _, S.inn, S.inH⟩
  · obtain ⟨p, vs, h1, h2, h3, h4, h5, h6⟩ := S.ow i l ds e
    exact ⟨p, vs, h1, h2, h3, h4, h5, fun z => ⟨re_none ⟨i, l, ds, e, h1⟩, (h6 z).2⟩⟩
  · by_cases z : Held σ δ a
    · rw [re_none z] at e; cases e
    · rw [re_some z] at e; exact e
theorem Sd.back {H0' H' : Hp} {σ' : L2.St} {δ' : Den} (S : Sd K T H0 H σ δ) (S' : Sd K (T.re H0 H σ δ) H0' H' σ' δ') : Sd K T H0' H' σ' δ' := by
  have key : ∀ p, (T.re H0 H σ δ).He p = none → p ∉ T.IN → T.He p = none := fun p e hn => by
    by_cases z : Held σ δ p
    · obtain ⟨i, l, ds, e1, e2⟩ := z
      obtain ⟨q, vs, h1, h2, h3, h4, h5, h6⟩ := S.ow i l ds e1
      rw [e2] at h1; cases h1
      cases l with
      | true => exact (h6 rfl).1
      | false => exact absurd (h5 rfl) hn
    · rw [re_some z] at e; exact S.freshE e
  refine ⟨S'.ex, S'.len, S'.pl, fun i l ds e => ?_, S'.ap, fun a o e hn => ?_, fun a o e => ?_, S.e0.trans S'.e0, S'.inn, S'.inH⟩
  · obtain ⟨p, vs, h1, h2, h3, h4, h5, h6⟩ := S'.ow i l ds e
    exact ⟨p, vs, h1, h2, h3, h4, h5, fun z => ⟨key p (h6 z).1 (h6 z).2, (h6 z).2⟩⟩
  · by_cases z : Held σ δ a
    · obtain ⟨i, l, ds, e1, e2⟩ := z
      obtain ⟨q, vs, h1, h2, h3, h4, h5, h6⟩ := S.ow i l ds e1
      rw [e2] at h1; cases h1
      cases l with
      | true => rw [(h6 rfl).1] at e; cases e
      | false => exact absurd (h5 rfl) hn
    · exact S'.fr a o (by rw [re_some z]; exact S.fr a o e hn) hn
  · rcases S'.nw a o e with h | h
    · exact S.nw a o h
    · by_cases hi : a ∈ T.IN
      · rw [S'.inn a hi] at e; cases e
      · exact .inr (key a h hi)
/-- an unknown thing stays, unknown -/
theorem Sd.keeps {H0' H' : Hp} {σ' : L2.St} {δ' : Den} {p : Addr} {o : HO} (S' : Sd K (T.re H0 H σ δ) H0' H' σ' δ') (h : H p = some o) (h0 : H0 p = none) (hh : ¬ Held σ δ p) (hi : p ∉ T.IN) : H' p = some o ∧ H0' p = none ∧ ¬ Held σ' δ' p := by
  have e : (T.re H0 H σ δ).He p = some o := by rw [re_some hh]; exact h
  refine ⟨S'.fr p o e hi, ?_, fun ⟨i, l, ds, e1, e2⟩ => ?_⟩
  · cases z : H0' p with
    | none => rfl
    | some u =>
      rcases S'.nw p u z with q | q
      · rw [show (T.re H0 H σ δ).H0e p = H0 p from rfl, h0] at q; cases q
      · rw [e] at q; cases q
  · obtain ⟨q, vs, h1, h2, h3, h4, h5, h6⟩ := S'.ow i l ds e1
    rw [e2] at h1; cases h1
    cases l with
    | true => rw [(h6 rfl).1] at e; cases e
    | false => exact hi (h5 rfl)
end

/-! ### readings of data -/
abbrev GE := Den → Option (D × Den)
abbrev GT := Den → Option (Bool × Den)
abbrev GA := Den → Option (List D × Den)
def DEv (K : PySem.W.Frag) (te : TE) (g : GE) : Prop := ∀ (T : Th) (δ : Den) d δ', g δ = some (d, δ') → ∀ H0 H σ, Sd K T H0 H σ δ →
  ∀ Q : VK, (∀ v H0' H', Ex H0 H0' → Sd K T H0' H' σ δ' → Dt K H0' v d → Q v H') → te σ H Q
def DTv (K : PySem.W.Frag) (tt : TT) (g : GT) : Prop := ∀ (T : Th) (δ : Den) b δ', g δ = some (b, δ') → ∀ H0 H σ, Sd K T H0 H σ δ →
  ∀ Q : Bool → Hp → Prop, (∀ H0' H', Ex H0 H0' → Sd K T H0' H' σ δ' → Q b H') → tt σ H Q
def DAv (K : PySem.W.Frag) (ta : TA) (g : GA) : Prop := ∀ (T : Th) (δ : Den) ds δ', g δ = some (ds, δ') → ∀ H0 H σ, Sd K T H0 H σ δ →
  ∀ Q : List V → Hp → Prop, (∀ vs H0' H', Ex H0 H0' → Sd K T H0' H' σ δ' → Dts K H0' vs ds → Q vs H') → ta σ H Q
def PDE (X : Cx) (e : Expr) (g : GE) : Prop := ∃ te, PE X e te ∧ DEv X.K te g
def PDT (X : Cx) (e : Expr) (g : GT) : Prop := ∃ tt, PT X e tt ∧ DTv X.K tt g
def PDW (X : Cx) (e : Expr) (g : GT) : Prop := ∃ tt, PW X e tt ∧ DTv X.K tt g
def PDA (X : Cx) (es : List Expr) (g : GA) : Prop := ∃ ta, PA X es ta ∧ DAv X.K ta g

end Dx
set_option Elab.async false
set_option linter.all false
set_option maxRecDepth 100000
set_option maxHeartbeats 4000000
namespace Dx
open PySem PySem.Spec PyProof.Rows L2 Evl

/-! ### names, constants -/
def gC (d : D) : GE := fun δ => some (d, δ)
def gV (i : Nat) : GE := fun δ => match δ[i]? with
  | some (.pl d) => some (d, δ)
  | _ => none
theorem dev_c {K : PySem.W.Frag} {v : V} {d : D} (h : ∀ H, Dt K H v d) : DEv K (tC v) (gC d) := fun T δ d' δ' e H0 H σ S Q q => by
  cases e
  exact q v H0 H (Ex.refl _) S (h _)
theorem dev_v {K : PySem.W.Frag} {i : Nat} : DEv K (tVar i) (gV i) := fun T δ d' δ' e H0 H σ S Q q => by
  unfold gV at e
  split at e
  · rename_i d h
    cases e
    obtain ⟨v, h1, h2⟩ := S.pl i _ h
    exact ⟨v, h1, q v H0 H (Ex.refl _) S h2⟩
  · cases e
section
variable {X : Cx}
theorem pd_var (i : Nat) {x : Str} {pos : Pos} (hN : X.N[i]? = some x := by rfl) (hv : Vis X.env.scope x := by first | exact Or.inl rfl | exact Or.inr (Or.inl rfl) | exact Or.inr (Or.inr rfl)) (hd : (x == ("__debug__" : Str)) = false := by decide)
    (hcd : (x == ("__classdict__" : Str)) = false := by decide) : PDE X (.Name x pos) (gV i) := ⟨_, pv i hN hv hd hcd, dev_v⟩
theorem pd_int {i j pos} : PDE X (.Constant (.int i) j pos) (gC (.int i)) := ⟨_, pe_int, dev_c fun _ => .int i⟩
theorem pd_bl {b j pos} : PDE X (.Constant (.bool b) j pos) (gC (.bl b)) := ⟨_, pe_bl, dev_c fun _ => .bl b⟩
theorem pd_non {j pos} : PDE X (.Constant .none j pos) (gC .non) := ⟨_, pe_non, dev_c fun _ => .non⟩
theorem pd_str {x j pos} : PDE X (.Constant (.str x) j pos) (gC (.str x)) := ⟨_, pe_str, dev_c fun _ => .str x⟩
theorem pd_gi {x : Str} {i : Int} {pos : Pos} (hm : ∃ t, X.mg x = some (.int i t)) (hg : Gl X x := by rfl) (hd : (x == ("__debug__" : Str)) = false := by decide) : PDE X (.Name x pos) (gC (.int i)) := by
  obtain ⟨t, hm⟩ := hm
  exact ⟨_, pe_glob hg hm (v := .int i) ⟨t, rfl⟩ hd, dev_c fun _ => .int i⟩
theorem pd_gs {x : Str} {i : Str} {pos : Pos} (hm : ∃ t, X.mg x = some (.str i t)) (hg : Gl X x := by rfl) (hd : (x == ("__debug__" : Str)) = false := by decide) : PDE X (.Name x pos) (gC (.str i)) := by
  obtain ⟨t, hm⟩ := hm
  exact ⟨_, pe_glob hg hm (v := .str i) ⟨t, rfl⟩ hd, dev_c fun _ => .str i⟩
end

/-! ### two-place operations by data -/
def OpV (K : PySem.W.Frag) (r : R2) (g : D → D → Option D) : Prop := ∀ T H0 H σ δ, Sd K T H0 H σ δ → ∀ x y d1 d2 d, Dt K H0 x d1 → Dt K H0 y d2 → g d1 d2 = some d →
  ∀ Q : VK, (∀ v H0' H', Ex H0 H0' → Sd K T H0' H' σ δ → Dt K H0' v d → Q v H') → r x y H Q
def OpD (X : Cx) (f : Value → Value → Sem Value) (g : D → D → Option D) : Prop := ∃ r, OpR X f r ∧ OpV X.K r g
def gB (g : D → D → Option D) (ga gb : GE) : GE := fun δ => match ga δ with
  | some (a, δ1) => (match gb δ1 with
    | some (b, δ2) => (match g a b with
      | some c => some (c, δ2)
      | none => none)
    | none => none)
  | none => none
theorem gB_some {g : D → D → Option D} {ga gb : GE} {δ : Den} {d δ'} (h : gB g ga gb δ = some (d, δ')) : ∃ a δ1 b, ga δ = some (a, δ1) ∧ gb δ1 = some (b, δ') ∧ g a b = some d := by
  unfold gB at h
  cases e1 : ga δ with
  | none => rw [e1] at h; cases h
  | some p =>
    obtain ⟨a, δ1⟩ := p
    rw [e1] at h
    dsimp only at h
    cases e2 : gb δ1 with
    | none => rw [e2] at h; cases h
    | some p =>
      obtain ⟨b, δ2⟩ := p
      rw [e2] at h
      dsimp only at h
      cases e3 : g a b with
      | none => rw [e3] at h; cases h
      | some c =>
        rw [e3] at h
        cases h
        exact ⟨a, δ1, b, rfl, e2, e3⟩
section
variable {K : PySem.W.Frag}
theorem dev_op {r : R2} {ta tb : TE} {ga gb : GE} {g : D → D → Option D} (ha : DEv K ta ga) (hb : DEv K tb gb) (hr : OpV K r g) : DEv K (tOp r ta tb) (gB g ga gb) := fun T δ d δ' e H0 H σ S Q q => by
  obtain ⟨a, δ1, b, e1, e2, e3⟩ := gB_some e
  refine ha T δ a δ1 e1 H0 H σ S _ fun x H01 H1 x1 S1 r1 => ?_
  refine hb T δ1 b δ' e2 H01 H1 σ S1 _ fun y H02 H2 x2 S2 r2 => ?_
  exact hr T H02 H2 σ δ' S2 x y a b d (r1.mono x2) r2 e3 Q fun v H03 H3 x3 S3 r3 => q v H03 H3 ((x1.trans x2).trans x3) S3 r3
end
theorem OpD.or {X : Cx} {f : Value → Value → Sem Value} {g g' g'' : D → D → Option D} (h : OpD X f g) (h' : OpD X f g') (e : ∀ a b d, g'' a b = some d → g a b = some d ∨ g' a b = some d) : OpD X f g'' := by
  obtain ⟨r, h1, h2⟩ := h
  obtain ⟨r', h1', h2'⟩ := h'
  refine ⟨_, OpR.or h1 h1', fun T H0 H σ δ S x y d1 d2 d rx ry eg Q q => ?_⟩
  rcases e d1 d2 d eg with z | z
  · exact .inl (h2 T H0 H σ δ S x y d1 d2 d rx ry z Q q)
  · exact .inr (h2' T H0 H σ δ S x y d1 d2 d rx ry z Q q)
/-- ints in -/
def dI (C : Int → Int → Bool) (f : Int → Int → D) : D → D → Option D
  | .int i, .int j => if C i j = true then some (f i j) else none
  | _, _ => none
theorem dI_some {C : Int → Int → Bool} {f : Int → Int → D} {a b d : D} (h : dI C f a b = some d) : ∃ i j, a = .int i ∧ b = .int j ∧ C i j = true ∧ d = f i j := by
  unfold dI at h
  split at h
  · rename_i i j
    by_cases c : C i j = true
    · rw [if_pos c] at h; cases h; exact ⟨i, j, rfl, rfl, c, rfl⟩
    · rw [if_neg c] at h; cases h
  · cases h
section
variable {X : Cx} {f : Value → Value → Sem Value}
theorem opd_I {C : Int → Int → Prop} {C' : Int → Int → Bool} {g : Int → Int → V} {g' : Int → Int → D} (h : OpR X f (rI C g)) (hc : ∀ i j, C' i j = true → C i j) (hg : ∀ i j H, Dt X.K H (g i j) (g' i j)) : OpD X f (dI C' g') :=
  ⟨_, h, fun T H0 H σ δ S x y d1 d2 d rx ry e Q q => by
    obtain ⟨i, j, rfl, rfl, c, rfl⟩ := dI_some e
    cases rx
    cases ry
    exact ⟨i, j, rfl, rfl, hc i j c, q _ H0 H (Ex.refl _) S (hg i j H0)⟩⟩
theorem opd_I0 {g : Int → Int → V} {g' : Int → Int → D} (h : OpR X f (rI0 g)) (hg : ∀ i j H, Dt X.K H (g i j) (g' i j)) : OpD X f (dI (fun _ _ => true) g') :=
  ⟨_, h, fun T H0 H σ δ S x y d1 d2 d rx ry e Q q => by
    obtain ⟨i, j, rfl, rfl, c, rfl⟩ := dI_some e
    cases rx
    cases ry
    exact ⟨i, j, rfl, rfl, q _ H0 H (Ex.refl _) S (hg i j H0)⟩⟩
/-- texts in -/
def dS (C : Str → Str → Bool) (f : Str → Str → D) : D → D → Option D
  | .str i, .str j => if C i j = true then some (f i j) else none
  | _, _ => none
theorem dS_some {C : Str → Str → Bool} {f : Str → Str → D} {a b d : D} (h : dS C f a b = some d) : ∃ i j, a = .str i ∧ b = .str j ∧ C i j = true ∧ d = f i j := by
  unfold dS at h
  split at h
  · rename_i i j
    by_cases c : C i j = true
    · rw [if_pos c] at h; cases h; exact ⟨i, j, rfl, rfl, c, rfl⟩
    · rw [if_neg c] at h; cases h
  · cases h

/-! lists, tuples -/
def dCatL : D → D → Option D
  | .lst xs, .lst ys => if xs.length + ys.length ≤ sizeLine then some (.lst (xs ++ ys)) else none
  | _, _ => none
def rCatL (K : PySem.W.Frag) : R2 := fun x y H Q => ∃ l b xs zs, x = .ref l ∧ y = .ref b ∧ SqL K H l xs ∧ SqL K H b zs ∧ xs.length + zs.length ≤ sizeLine ∧ ∀ p, H p = none → Q (.ref p) (upd H p (.lst (xs ++ zs)))
theorem op_catL : OpR X (binaryOp .Add) (rCatL X.K) := by
  intro pins s σ H x y v u Q I rx ry h
  obtain ⟨l, b, xs, zs, rfl, rfl, hH, hB, hz, q⟩ := h
  cases rx
  cases ry
  obtain ⟨its, r, ⟨o, n, e, hc, hdn, hd⟩, z⟩ := I.list hH
  obtain ⟨its2, r2, ⟨o2, n2, e2, hc2, hdn2, hd2⟩, z2⟩ := I.list hB
  obtain ⟨oc, od, dt, sl⟩ := o
  obtain ⟨oc2, od2, dt2, sl2⟩ := o2
  dsimp only at hc hdn hd hc2 hdn2 hd2
  subst hc hdn hd hc2 hdn2 hd2
  have hl := r.length
  have hl2 := r2.length
  refine concat_meets ⟨_, e, rfl⟩ ⟨_, e2, rfl⟩ noFill_list_add seq_list_add PySem.F.slot_list_add PySem.F.entry_list_add (PySem.F.args_list_add_2 _ _) (list_addW l b its.toArray its2.toArray n n2 none none sl sl2 (by simp only [List.size_toArray]; omega)) ⟨e, e2, ?_⟩
  have ea : its.toArray ++ its2.toArray = (its ++ its2).toArray := by simp
  rw [ea]
  exact ⟨.ref _, _, I.lnew (t' := s.toks) (r.append r2) (by rw [List.length_append]; exact hz), rfl, q _ I.fresh⟩
theorem opd_catL : OpD X (binaryOp .Add) dCatL := ⟨_, op_catL, fun T H0 H σ δ S x y d1 d2 d rx ry e Q q => by
  cases rx <;> cases ry <;> simp only [dCatL] at e <;> first | cases e | skip
  rename_i a xs ds hx hds b ys es hy hes
  split at e
  · rename_i c
    cases e
    refine ⟨a, b, xs, ys, rfl, rfl, sq_of (S.ex _ _ hx), sq_of (S.ex _ _ hy), by rw [hds.length, hes.length]; exact c, fun p hp => ?_⟩
    exact q _ _ _ (S.layEx hp) (S.lay hp) (.lst upd_same ((hds.append hes).mono (S.layEx hp)))
  · cases e⟩
def dCatT : D → D → Option D
  | .tup xs, .tup ys => if xs.length + ys.length ≤ sizeLine then some (.tup (xs ++ ys)) else none
  | _, _ => none
theorem opd_catT : OpD X (binaryOp .Add) dCatT := ⟨_, op_catA, fun T H0 H σ δ S x y d1 d2 d rx ry e Q q => by
  cases rx <;> cases ry <;> simp only [dCatT] at e <;> first | cases e | skip
  rename_i a xs ds hx hds b ys es hy hes
  split at e
  · rename_i c
    cases e
    refine ⟨a, b, xs, ys, rfl, rfl, ex_t S.ex hx, ex_t S.ex hy, by rw [hds.length, hes.length]; exact c, fun z => ?_, fun _ z => ?_, fun _ _ p hp => ?_⟩
    · subst z
      cases hds
      exact q _ _ _ (Ex.refl _) S (.tup hy hes)
    · subst z
      cases hes
      exact q _ _ _ (Ex.refl _) S (by rw [List.append_nil]; exact .tup hx hds)
    · exact q _ _ _ (S.layEx hp) (S.lay hp) (.tup (st_of upd_same) ((hds.append hes).mono (S.layEx hp)))
  · cases e⟩
theorem opd_S {C : Str → Str → Prop} {C' : Str → Str → Bool} {g : Str → Str → V} {g' : Str → Str → D} (h : OpR X f (fun x y H Q => ∃ i j, x = .str i ∧ y = .str j ∧ C i j ∧ Q (g i j) H)) (hc : ∀ i j, C' i j = true → C i j) (hg : ∀ i j H, Dt X.K H (g i j) (g' i j)) : OpD X f (dS C' g') :=
  ⟨_, h, fun T H0 H σ δ S x y d1 d2 d rx ry e Q q => by
    obtain ⟨i, j, rfl, rfl, c, rfl⟩ := dS_some e
    cases rx
    cases ry
    exact ⟨i, j, rfl, rfl, hc i j c, q _ H0 H (Ex.refl _) S (hg i j H0)⟩⟩
theorem opd_S0 {g : Str → Str → V} {g' : Str → Str → D} (h : OpR X f (fun x y H Q => ∃ i j, x = .str i ∧ y = .str j ∧ Q (g i j) H)) (hg : ∀ i j H, Dt X.K H (g i j) (g' i j)) : OpD X f (dS (fun _ _ => true) g') :=
  ⟨_, h, fun T H0 H σ δ S x y d1 d2 d rx ry e Q q => by
    obtain ⟨i, j, rfl, rfl, c, rfl⟩ := dS_some e
    cases rx
    cases ry
    exact ⟨i, j, rfl, rfl, q _ H0 H (Ex.refl _) S (hg i j H0)⟩⟩
def strFit (a b : Str) : Bool := decide (a.length + b.length ≤ sizeLine)
/-- a + b -/
def dAdd : D → D → Option D
  | .int i, .int j => some (.int (i + j))
  | .str a, .str b => if strFit a b = true then some (.str (a ++ b)) else none
  | .lst xs, .lst ys => dCatL (.lst xs) (.lst ys)
  | .tup xs, .tup ys => dCatT (.tup xs) (.tup ys)
  | _, _ => none
theorem opd_add : OpD X (binaryOp .Add) dAdd := by
  have h1 : OpD X (binaryOp .Add) (dI (fun _ _ => true) fun i j => .int (i + j)) := opd_I0 op_add fun i j H => .int _
  have h2 : OpD X (binaryOp .Add) (dS strFit fun i j => .str (i ++ j)) := opd_S op_add_str (fun i j h => of_decide_eq_true h) fun i j H => .str _
  have h12 : OpD X (binaryOp .Add) (fun a b => match a, b with | .int i, .int j => some (.int (i + j)) | .str a, .str b => if strFit a b = true then some (.str (a ++ b)) else none | _, _ => none) :=
    h1.or h2 (fun a b d e => by
      cases a <;> cases b <;> simp only [dI, dS] at e ⊢ <;> first | exact .inl (by simpa using e) | exact .inr e | cases e)
  have h34 : OpD X (binaryOp .Add) (fun a b => match a, b with | .lst xs, .lst ys => dCatL (.lst xs) (.lst ys) | .tup xs, .tup ys => dCatT (.tup xs) (.tup ys) | _, _ => none) :=
    opd_catL.or opd_catT (fun a b d e => by
      cases a <;> cases b <;> first | exact .inl e | exact .inr e | cases e)
  exact h12.or h34 (fun a b d e => by
    cases a <;> cases b <;> first | exact .inl e | exact .inr e | cases e)
def dSub : D → D → Option D := dI (fun _ _ => true) fun i j => .int (i - j)
theorem opd_sub : OpD X (binaryOp .Sub) dSub := opd_I0 op_sub fun i j H => .int _
def mulFit (i j : Int) : Bool := decide (i.natAbs.log2 + j.natAbs.log2 < 1000000)
def dMul : D → D → Option D := dI mulFit fun i j => .int (i * j)
theorem opd_mul : OpD X (binaryOp .Mult) dMul := opd_I op_mulW (fun i j h => of_decide_eq_true (p := i.natAbs.log2 + j.natAbs.log2 < 1000000) h) fun i j H => .int _
def dMod : D → D → Option D := dI (fun _ j => decide (0 < j)) fun i j => .int (i % j)
theorem opd_mod : OpD X (binaryOp .Mod) dMod := opd_I op_mod (fun i j h => of_decide_eq_true h) fun i j H => .int _
def divFit (_ j : Int) : Bool := decide (0 < j) && decide (j.natAbs.log2 < 9000)
def dDiv : D → D → Option D := dI divFit fun i j => .int (i / j)
theorem opd_div : OpD X (binaryOp .FloorDiv) dDiv := opd_I op_fdivW (fun i j h => by
  obtain ⟨h1, h2⟩ := Bool.and_eq_true_iff.mp h
  exact ⟨of_decide_eq_true h1, of_decide_eq_true h2⟩) fun i j H => .int _
def powFit (i j : Int) : Bool := decide (0 ≤ j) && (decide (j ≤ 1000000) && decide (i.natAbs < 2 ^ 64))
def dPow : D → D → Option D := dI powFit fun i j => .int (i ^ j.toNat)
theorem opd_pow : OpD X (binaryOp .Pow) dPow := opd_I op_pow (fun i j h => by
  obtain ⟨h1, h2⟩ := Bool.and_eq_true_iff.mp h
  obtain ⟨h2, h3⟩ := Bool.and_eq_true_iff.mp h2
  exact ⟨of_decide_eq_true h1, of_decide_eq_true h2, of_decide_eq_true h3⟩) fun i j H => .int _
/-- orders -/
def dLt : D → D → Option D
  | .int i, .int j => some (.bl (decide (i < j)))
  | .str a, .str b => some (.bl (decide (a.cps.toList < b.cps.toList)))
  | _, _ => none
def dLe : D → D → Option D
  | .int i, .int j => some (.bl (decide (i ≤ j)))
  | .str a, .str b => some (.bl (!decide (b.cps.toList < a.cps.toList)))
  | _, _ => none
def dGt (a b : D) : Option D := dLt b a
def dGe (a b : D) : Option D := dLe b a
theorem opd_lt : OpD X (compareOp .Lt) dLt :=
  (opd_I0 (g' := fun i j => .bl (decide (i < j))) op_lt fun i j H => .bl _).or (opd_S0 (g' := fun i j => .bl (decide (i.cps.toList < j.cps.toList))) op_lt_str fun i j H => .bl _) (fun a b d e => by
    cases a <;> cases b <;> first | cases e | skip
    · exact .inl rfl
    · exact .inr rfl)
theorem opd_le : OpD X (compareOp .LtE) dLe :=
  (opd_I0 (g' := fun i j => .bl (decide (i ≤ j))) op_le fun i j H => .bl _).or (opd_S0 (g' := fun i j => .bl (!decide (j.cps.toList < i.cps.toList))) op_le_str fun i j H => .bl _) (fun a b d e => by
    cases a <;> cases b <;> first | cases e | skip
    · exact .inl rfl
    · exact .inr rfl)
theorem opd_gt : OpD X (compareOp .Gt) dGt :=
  (opd_I0 (g' := fun i j => .bl (decide (j < i))) op_gt fun i j H => .bl _).or (opd_S0 (g' := fun i j => .bl (decide (j.cps.toList < i.cps.toList))) op_gt_str fun i j H => .bl _) (fun a b d e => by
    cases a <;> cases b <;> first | cases e | skip
    · exact .inl rfl
    · exact .inr rfl)
theorem opd_ge : OpD X (compareOp .GtE) dGe :=
  (opd_I0 (g' := fun i j => .bl (decide (j ≤ i))) op_ge fun i j H => .bl _).or (opd_S0 (g' := fun i j => .bl (!decide (i.cps.toList < j.cps.toList))) op_ge_str fun i j H => .bl _) (fun a b d e => by
    cases a <;> cases b <;> first | cases e | skip
    · exact .inl rfl
    · exact .inr rfl)
end

/-! ### == by data -/
mutual
def toP : D → PyData
  | .non => .none
  | .bl b => .bool b
  | .int i => .int i
  | .str s => .str s
  | .lst xs => .list (toPs xs)
  | .tup xs => .tuple (toPs xs)
  | .lid _ xs => .list (toPs xs)
  | .frl xs => .list (toPs xs)
  | .dct kvs => .dict (toPk kvs)
def toPs : List D → List PyData
  | [] => []
  | x :: xs => toP x :: toPs xs
def toPk : List (Str × D) → List (PyData × PyData)
  | [] => []
  | (k, v) :: r => (.str k, toP v) :: toPk r
end
mutual
def noDct : D → Bool
  | .lst xs => noDcts xs
  | .tup xs => noDcts xs
  | .lid _ xs => noDcts xs
  | .frl xs => noDcts xs
  | .dct _ => false
  | _ => true
def noDcts : List D → Bool
  | [] => true
  | x :: xs => noDct x && noDcts xs
end
section
variable {K : PySem.W.Frag} {H : Hp}
mutual
theorem Dt.dp : ∀ {v : V} {d : D}, noDct d = true → Dt K H v d → Dp K H v (toP d)
  | _, _, _, .non => .non
  | _, _, _, .bl b => .bl b
  | _, _, _, .int i => .int i
  | _, _, _, .str x => .str x
  | _, _, n, .lst h t => .lst (sq_of h) (Dts.dp (by simpa only [noDct] using n) t)
  | _, _, n, .tup h t => .tup h (Dts.dp (by simpa only [noDct] using n) t)
  | _, _, n, .lid h t => .lst (sq_of h) (Dts.dp (by simpa only [noDct] using n) t)
  | _, _, n, .frl h t => .lst h (Dts.dp (by simpa only [noDct] using n) t)
  | _, _, n, .dct h t => by simp [noDct] at n
theorem Dts.dp : ∀ {v : List V} {d : List D}, noDcts d = true → Dts K H v d → DpAll K H v (toPs d)
  | _, _, _, .nil => .nil
  | _, _, n, .cons h t => by
    simp only [noDcts, Bool.and_eq_true] at n
    exact .cons (Dt.dp n.1 h) (Dts.dp n.2 t)
end
end
/-- a == b: what it is if it can be asked -/
def eqOk (a b : D) : Bool := noDct a && (noDct b && (SeqAt.shaped (toP a) && SeqAt.shaped (toP b)))
def dEqB (a b : D) : Bool := PyData.eqv (toP a) (toP b)
def dEq (a b : D) : Option D := if eqOk a b = true then some (.bl (dEqB a b)) else none
def dNe (a b : D) : Option D := if eqOk a b = true then some (.bl (!dEqB a b)) else none
theorem eqOk_of {a b : D} (h : eqOk a b = true) : noDct a = true ∧ noDct b = true ∧ SeqAt.shaped (toP a) = true ∧ SeqAt.shaped (toP b) = true := by
  obtain ⟨h1, h⟩ := Bool.and_eq_true_iff.mp h
  obtain ⟨h2, h⟩ := Bool.and_eq_true_iff.mp h
  obtain ⟨h3, h4⟩ := Bool.and_eq_true_iff.mp h
  exact ⟨h1, h2, h3, h4⟩
section
variable {X : Cx}
theorem opd_eq (hu : X.A.units + 64 < cLine) : OpD X (compareOp .Eq) dEq := ⟨_, op_eqD hu, fun T H0 H σ δ S x y d1 d2 d rx ry e Q q => by
  unfold dEq at e
  split at e
  · rename_i c
    cases e
    obtain ⟨h1, h2, h3, h4⟩ := eqOk_of c
    exact ⟨_, _, (rx.mono S.ex).dp h1, (ry.mono S.ex).dp h2, h3, h4, q _ H0 H (Ex.refl _) S (.bl _)⟩
  · cases e⟩
theorem opd_ne (hu : X.A.units + 64 < cLine) : OpD X (compareOp .NotEq) dNe := ⟨_, op_neD hu, fun T H0 H σ δ S x y d1 d2 d rx ry e Q q => by
  unfold dNe at e
  split at e
  · rename_i c
    cases e
    obtain ⟨h1, h2, h3, h4⟩ := eqOk_of c
    exact ⟨_, _, (rx.mono S.ex).dp h1, (ry.mono S.ex).dp h2, h3, h4, q _ H0 H (Ex.refl _) S (.bl _)⟩
  · cases e⟩
/-- a is None -/
def isNon : D → Bool
  | .non => true
  | _ => false
def dIs : D → D → Option D
  | a, .non => some (.bl (isNon a))
  | _, _ => none
def dIsNot : D → D → Option D
  | a, .non => some (.bl (!isNon a))
  | _, _ => none
theorem dt_non {K : PySem.W.Frag} {H : Hp} {v : V} {d : D} (h : Dt K H v d) : decide (v = .non) = isNon d := by
  cases h <;> first | rfl | exact decide_eq_false (by intro z; cases z)
theorem opd_is : OpD X (compareOp .Is) dIs := ⟨_, op_isN, fun T H0 H σ δ S x y d1 d2 d rx ry e Q q => by
  cases ry <;> cases d1 <;> first | cases e | skip
  all_goals exact ⟨rfl, by rw [dt_non rx]; exact q _ H0 H (Ex.refl _) S (.bl _)⟩⟩
theorem opd_isNot : OpD X (compareOp .IsNot) dIsNot := ⟨_, op_notN, fun T H0 H σ δ S x y d1 d2 d rx ry e Q q => by
  cases ry <;> cases d1 <;> first | cases e | skip
  all_goals exact ⟨rfl, by rw [dt_non rx]; exact q _ H0 H (Ex.refl _) S (.bl _)⟩⟩
end
end Dx
set_option Elab.async false
set_option linter.all false
set_option maxRecDepth 100000
set_option maxHeartbeats 4000000
namespace Dx
open PySem PySem.Spec PyProof.Rows L2 Evl
section
variable {X : Cx} {a b c : Expr} {pos p : Pos} {ga gb gc : GE}
theorem pd_bin {op : Operator} {g : D → D → Option D} (h : OpD X (binaryOp op) g) (ha : PDE X a ga) (hb : PDE X b gb) : PDE X (.BinOp a op b pos) (gB g ga gb) := by
  obtain ⟨r, h1, h2⟩ := h
  obtain ⟨ta, a1, a2⟩ := ha
  obtain ⟨tb, b1, b2⟩ := hb
  exact ⟨_, pe_op h1 a1 b1, dev_op a2 b2 h2⟩
theorem pd_cmp {op : CmpOp} {g : D → D → Option D} (h : OpD X (compareOp op) g) (ha : PDE X a ga) (hb : PDE X b gb) (hm : behindInMarks op b = false := by rfl) : PDE X (.Compare a [op] [b] pos) (gB g ga gb) := by
  obtain ⟨r, h1, h2⟩ := h
  obtain ⟨ta, a1, a2⟩ := ha
  obtain ⟨tb, b1, b2⟩ := hb
  exact ⟨_, pe_cmpR h1 a1 b1 hm, dev_op a2 b2 h2⟩
/-- a value that is a bool, as a test -/
def gTst (g : GE) : GT := fun δ => match g δ with
  | some (.bl b, δ') => some (b, δ')
  | _ => none
theorem gTst_some {g : GE} {δ : Den} {b δ'} (h : gTst g δ = some (b, δ')) : g δ = some (.bl b, δ') := by
  unfold gTst at h
  split at h
  · rename_i c δ2 e
    cases h
    exact e
  · cases h
theorem dtv_test {K : PySem.W.Frag} {t : TE} {g : GE} (h : DEv K t g) : DTv K (tTest t) (gTst g) := fun T δ k δ' e H0 H σ S Q q =>
  h T δ _ δ' (gTst_some e) H0 H σ S _ fun v H0' H' x S' r => by
    cases r
    exact ⟨k, rfl, q H0' H' x S'⟩
theorem dtv_tB {K : PySem.W.Frag} {t : TE} {g : GE} (h : DEv K t g) : DTv K (tB t) (gTst g) := dtv_test h
theorem pdt_cmp {op : CmpOp} {g : D → D → Option D} (h : OpD X (compareOp op) g) (ha : PDE X a ga) (hb : PDE X b gb) (hm : behindInMarks op b = false := by rfl) : PDT X (.Compare a [op] [b] pos) (gTst (gB g ga gb)) := by
  obtain ⟨r, h1, h2⟩ := h
  obtain ⟨ta, a1, a2⟩ := ha
  obtain ⟨tb, b1, b2⟩ := hb
  exact ⟨_, pt_cmpR h1 a1 b1 hm, dtv_test (dev_op a2 b2 h2)⟩
/-- a < b < c -/
def gCh (g g' : D → D → Option D) (ga gb gc : GE) : GE := fun δ => match ga δ with
  | some (x, δ1) => (match gb δ1 with
    | some (y, δ2) => (match g x y with
      | some (.bl true) => (match gc δ2 with
        | some (z, δ3) => (match g' y z with
          | some w => some (w, δ3)
          | none => none)
        | none => none)
      | some (.bl false) => some (.bl false, δ2)
      | _ => none)
    | none => none)
  | none => none
theorem dev_ch {K : PySem.W.Frag} {r r' : R2} {ta tb tc : TE} {g g' : D → D → Option D} (ha : DEv K ta ga) (hb : DEv K tb gb) (hc : DEv K tc gc) (hr : OpV K r g) (hr' : OpV K r' g') : DEv K (tChain r r' ta tb tc) (gCh g g' ga gb gc) := fun T δ d δ' e H0 H σ S Q q => by
  unfold gCh at e
  split at e
  · rename_i x δ1 e1
    split at e
    · rename_i y δ2 e2
      refine ha T δ x δ1 e1 H0 H σ S _ fun vx H01 H1 x1 S1 r1 => ?_
      refine hb T δ1 y δ2 e2 H01 H1 σ S1 _ fun vy H02 H2 x2 S2 r2 => ?_
      split at e
      · rename_i e3
        split at e
        · rename_i z δ3 e4
          split at e
          · rename_i w e5
            cases e
            refine hr T H02 H2 σ δ2 S2 vx vy x y _ (r1.mono x2) r2 e3 _ fun v3 H03 H3 x3 S3 r3 => ?_
            cases r3
            refine ⟨true, rfl, ?_⟩
            show tc σ H3 _
            refine hc T δ2 z δ' e4 H03 H3 σ S3 _ fun vz H04 H4 x4 S4 r4 => ?_
            exact hr' T H04 H4 σ δ' S4 vy vz y z d (r2.mono (x3.trans x4)) r4 e5 Q fun v H05 H5 x5 S5 r5 => q v H05 H5 ((((x1.trans x2).trans x3).trans x4).trans x5) S5 r5
          · cases e
        · cases e
      · rename_i e3
        cases e
        refine hr T H02 H2 σ δ' S2 vx vy x y _ (r1.mono x2) r2 e3 _ fun v3 H03 H3 x3 S3 r3 => ?_
        cases r3
        refine ⟨false, rfl, ?_⟩
        show Q (.bl false) H3
        exact q _ H03 H3 ((x1.trans x2).trans x3) S3 (.bl _)
      · cases e
    · cases e
  · cases e
theorem pd_chain {op op' : CmpOp} {g g' : D → D → Option D} (h : OpD X (compareOp op) g) (h' : OpD X (compareOp op') g') (ha : PDE X a ga) (hb : PDE X b gb) (hc : PDE X c gc)
    (hm : lastMarks [op, op'] [b, c] = false := by with_unfolding_all rfl) : PDE X (.Compare a [op, op'] [b, c] pos) (gCh g g' ga gb gc) := by
  obtain ⟨r, h1, h2⟩ := h
  obtain ⟨r', h1', h2'⟩ := h'
  obtain ⟨ta, a1, a2⟩ := ha
  obtain ⟨tb, b1, b2⟩ := hb
  obtain ⟨tc, c1, c2⟩ := hc
  exact ⟨_, pe_chain h1 h1' a1 b1 c1 hm, dev_ch a2 b2 c2 h2 h2'⟩
theorem pdt_chain {op op' : CmpOp} {g g' : D → D → Option D} (h : OpD X (compareOp op) g) (h' : OpD X (compareOp op') g') (ha : PDE X a ga) (hb : PDE X b gb) (hc : PDE X c gc)
    (hm : lastMarks [op, op'] [b, c] = false := by with_unfolding_all rfl) : PDT X (.Compare a [op, op'] [b, c] pos) (gTst (gCh g g' ga gb gc)) := by
  obtain ⟨r, h1, h2⟩ := h
  obtain ⟨r', h1', h2'⟩ := h'
  obtain ⟨ta, a1, a2⟩ := ha
  obtain ⟨tb, b1, b2⟩ := hb
  obtain ⟨tc, c1, c2⟩ := hc
  exact ⟨_, pt_chain h1 h1' a1 b1 c1 hm, dtv_test (dev_ch a2 b2 c2 h2 h2')⟩
/-- any expression as a test by its truth -/
def dTru : D → Option Bool
  | .non => some false
  | .bl b => some b
  | .int i => some (i != 0)
  | .str y => if y.length ≤ sizeLine then some ((y.length : Int) != 0) else none
  | .lst xs => some (!xs.isEmpty)
  | .tup xs => some (!xs.isEmpty)
  | .dct _ => none
  | .lid _ xs => some (!xs.isEmpty)
  | .frl xs => some (!xs.isEmpty)
def gTru (g : GE) : GT := fun δ => match g δ with
  | some (d, δ') => (match dTru d with
    | some b => some (b, δ')
    | none => none)
  | none => none
theorem dts_isEmpty {K : PySem.W.Frag} {H : Hp} {vs : List V} {ds : List D} (h : Dts K H vs ds) : vs.isEmpty = ds.isEmpty := by cases h <;> rfl
theorem tru_dt {K : PySem.W.Frag} {H0 H : Hp} (x : Ex H0 H) {v : V} {d : D} {b : Bool} (h : Dt K H0 v d) (e : dTru d = some b) : TruV K v H b := by
  cases h with
  | non => cases e; rfl
  | bl b => cases e; rfl
  | int i => cases e; rfl
  | str y =>
    simp only [dTru] at e
    split at e
    · rename_i c
      cases e
      exact ⟨c, rfl⟩
    · cases e
  | lst h t => cases e; exact .inl ⟨_, sq_of (x _ _ h), by rw [dts_isEmpty t]⟩
  | tup h t => cases e; exact .inr (.inl ⟨_, ex_t x h, by rw [dts_isEmpty t]⟩)
  | dct h t => cases e
  | lid h t => cases e; exact .inl ⟨_, sq_of (x _ _ h), by rw [dts_isEmpty t]⟩
  | frl h t => cases e; exact .inl ⟨_, ex_l x h, by rw [dts_isEmpty t]⟩
theorem pdt_truth (ha : PDE X a ga) (he : ∀ whole, isTrue a X.env whole = (do let v ← whole; standAt a.pos; holding [v] (truthy v)) := by intro _; rfl) : PDT X a (gTru ga) := by
  obtain ⟨ta, a1, a2⟩ := ha
  refine ⟨_, pt_truth a1 he, fun T δ b δ' e H0 H σ S Q q => ?_⟩
  unfold gTru at e
  split at e
  · rename_i d δ2 e1
    split at e
    · rename_i b2 e2
      cases e
      refine a2 T δ d δ' e1 H0 H σ S _ fun v H0' H' x S' r => ⟨b, tru_dt S'.ex r e2, q H0' H' x S'⟩
    · cases e
  · cases e
/-! and, or, not -/
def gAndT (g h : GT) : GT := fun δ => match g δ with
  | some (true, δ') => h δ'
  | some (false, δ') => some (false, δ')
  | none => none
def gOrT (g h : GT) : GT := fun δ => match g δ with
  | some (true, δ') => some (true, δ')
  | some (false, δ') => h δ'
  | none => none
def gNotT (g : GT) : GT := fun δ => match g δ with
  | some (b, δ') => some (!b, δ')
  | none => none
theorem dtv_and {K : PySem.W.Frag} {t u : TT} {g h : GT} (ht : DTv K t g) (hu : DTv K u h) : DTv K (tAnd t u) (gAndT g h) := fun T δ b δ' e H0 H σ S Q q => by
  unfold gAndT at e
  split at e
  · rename_i δ1 e1
    refine ht T δ true δ1 e1 H0 H σ S _ fun H01 H1 x1 S1 => ?_
    show u σ H1 Q
    exact hu T δ1 b δ' e H01 H1 σ S1 _ fun H02 H2 x2 S2 => q H02 H2 (x1.trans x2) S2
  · rename_i δ1 e1
    cases e
    refine ht T δ false δ' e1 H0 H σ S _ fun H01 H1 x1 S1 => ?_
    show Q false H1
    exact q H01 H1 x1 S1
  · cases e
theorem dtv_or {K : PySem.W.Frag} {t u : TT} {g h : GT} (ht : DTv K t g) (hu : DTv K u h) : DTv K (tOr t u) (gOrT g h) := fun T δ b δ' e H0 H σ S Q q => by
  unfold gOrT at e
  split at e
  · rename_i δ1 e1
    cases e
    refine ht T δ true δ' e1 H0 H σ S _ fun H01 H1 x1 S1 => ?_
    show Q true H1
    exact q H01 H1 x1 S1
  · rename_i δ1 e1
    refine ht T δ false δ1 e1 H0 H σ S _ fun H01 H1 x1 S1 => ?_
    show u σ H1 Q
    exact hu T δ1 b δ' e H01 H1 σ S1 _ fun H02 H2 x2 S2 => q H02 H2 (x1.trans x2) S2
  · cases e
theorem pdt_not {g : GT} (ha : PDT X a g) : PDT X (.UnaryOp .Not a pos) (gNotT g) := by
  obtain ⟨t, a1, a2⟩ := ha
  refine ⟨_, pt_not a1, fun T δ b δ' e H0 H σ S Q q => ?_⟩
  unfold gNotT at e
  split at e
  · rename_i b1 δ1 e1
    cases e
    exact a2 T δ b1 δ' e1 H0 H σ S _ q
  · cases e
variable {rest : List Expr}
theorem pdw_and1 {g : GT} (ha : PDT X a g) : PDW X (.BoolOp .And [a] pos) g := by
  obtain ⟨t, a1, a2⟩ := ha
  exact ⟨t, pw_and1 a1, a2⟩
theorem pdw_or1 {g : GT} (ha : PDT X a g) : PDW X (.BoolOp .Or [a] pos) g := by
  obtain ⟨t, a1, a2⟩ := ha
  exact ⟨t, pw_or1 a1, a2⟩
theorem pdw_and {g h : GT} (ha : PDT X a g) (hb : PDW X (.BoolOp .And (b :: rest) pos) h) : PDW X (.BoolOp .And (a :: b :: rest) pos) (gAndT g h) := by
  obtain ⟨t, a1, a2⟩ := ha
  obtain ⟨u, b1, b2⟩ := hb
  exact ⟨_, pw_and a1 b1, dtv_and a2 b2⟩
theorem pdw_or {g h : GT} (ha : PDT X a g) (hb : PDW X (.BoolOp .Or (b :: rest) pos) h) : PDW X (.BoolOp .Or (a :: b :: rest) pos) (gOrT g h) := by
  obtain ⟨t, a1, a2⟩ := ha
  obtain ⟨u, b1, b2⟩ := hb
  exact ⟨_, pw_or a1 b1, dtv_or a2 b2⟩
theorem pdt_w {g : GT} (h : PDW X a g) : PDT X a g := by
  obtain ⟨t, a1, a2⟩ := h
  exact ⟨t, a1.pt, a2⟩
/-- as values: all but the last are bools -/
def gAndV (g h : GE) : GE := fun δ => match g δ with
  | some (.bl true, δ') => h δ'
  | some (.bl false, δ') => some (.bl false, δ')
  | _ => none
def gOrV (g h : GE) : GE := fun δ => match g δ with
  | some (.bl true, δ') => some (.bl true, δ')
  | some (.bl false, δ') => h δ'
  | _ => none
def gNotV (g : GE) : GE := fun δ => match g δ with
  | some (.bl b, δ') => some (.bl (!b), δ')
  | _ => none
theorem pd_one {op} (ha : PDE X a ga) : PDE X (.BoolOp op [a] pos) ga := by
  obtain ⟨t, a1, a2⟩ := ha
  exact ⟨t, pe_one a1, a2⟩
theorem pd_and (ha : PDE X a ga) (hb : PDE X (.BoolOp .And (b :: rest) pos) gb) : PDE X (.BoolOp .And (a :: b :: rest) pos) (gAndV ga gb) := by
  obtain ⟨t, a1, a2⟩ := ha
  obtain ⟨u, b1, b2⟩ := hb
  refine ⟨_, pe_and a1 b1, fun T δ d δ' e H0 H σ S Q q => ?_⟩
  unfold gAndV at e
  split at e
  · rename_i δ1 e1
    refine a2 T δ _ δ1 e1 H0 H σ S _ fun v H01 H1 x1 S1 r => ?_
    cases r
    refine ⟨true, rfl, ?_⟩
    show u σ H1 Q
    exact b2 T δ1 d δ' e H01 H1 σ S1 _ fun v H02 H2 x2 S2 r2 => q v H02 H2 (x1.trans x2) S2 r2
  · rename_i δ1 e1
    cases e
    refine a2 T δ _ δ' e1 H0 H σ S _ fun v H01 H1 x1 S1 r => ?_
    cases r
    refine ⟨false, rfl, ?_⟩
    show Q (.bl false) H1
    exact q _ H01 H1 x1 S1 (.bl _)
  · cases e
theorem pd_or (ha : PDE X a ga) (hb : PDE X (.BoolOp .Or (b :: rest) pos) gb) : PDE X (.BoolOp .Or (a :: b :: rest) pos) (gOrV ga gb) := by
  obtain ⟨t, a1, a2⟩ := ha
  obtain ⟨u, b1, b2⟩ := hb
  refine ⟨_, pe_or a1 b1, fun T δ d δ' e H0 H σ S Q q => ?_⟩
  unfold gOrV at e
  split at e
  · rename_i δ1 e1
    cases e
    refine a2 T δ _ δ' e1 H0 H σ S _ fun v H01 H1 x1 S1 r => ?_
    cases r
    refine ⟨true, rfl, ?_⟩
    show Q (.bl true) H1
    exact q _ H01 H1 x1 S1 (.bl _)
  · rename_i δ1 e1
    refine a2 T δ _ δ1 e1 H0 H σ S _ fun v H01 H1 x1 S1 r => ?_
    cases r
    refine ⟨false, rfl, ?_⟩
    show u σ H1 Q
    exact b2 T δ1 d δ' e H01 H1 σ S1 _ fun v H02 H2 x2 S2 r2 => q v H02 H2 (x1.trans x2) S2 r2
  · cases e
theorem pd_not (ha : PDE X a ga) : PDE X (.UnaryOp .Not a pos) (gNotV ga) := by
  obtain ⟨t, a1, a2⟩ := ha
  refine ⟨_, pe_not a1, fun T δ d δ' e H0 H σ S Q q => ?_⟩
  unfold gNotV at e
  split at e
  · rename_i b δ1 e1
    cases e
    refine a2 T δ _ δ' e1 H0 H σ S _ fun v H01 H1 x1 S1 r => ?_
    cases r
    exact ⟨b, rfl, q _ H01 H1 x1 S1 (.bl _)⟩
  · cases e
def gNeg (g : GE) : GE := fun δ => match g δ with
  | some (.int i, δ') => some (.int (-i), δ')
  | _ => none
theorem pd_neg (ha : PDE X a ga) : PDE X (.UnaryOp .USub a pos) (gNeg ga) := by
  obtain ⟨t, a1, a2⟩ := ha
  refine ⟨_, pe_un un_neg a1, fun T δ d δ' e H0 H σ S Q q => ?_⟩
  unfold gNeg at e
  split at e
  · rename_i b δ1 e1
    cases e
    refine a2 T δ _ δ' e1 H0 H σ S _ fun v H01 H1 x1 S1 r => ?_
    cases r
    exact ⟨b, rfl, q _ H01 H1 x1 S1 (.int _)⟩
  · cases e
/-- a if t else b -/
def gIf (t : GT) (ga gb : GE) : GE := fun δ => match t δ with
  | some (true, δ') => ga δ'
  | some (false, δ') => gb δ'
  | none => none
theorem pd_if {t : GT} (hc : PDT X c t) (ha : PDE X a ga) (hb : PDE X b gb) : PDE X (.IfExp c a b pos) (gIf t ga gb) := by
  obtain ⟨tc, c1, c2⟩ := hc
  obtain ⟨ta, a1, a2⟩ := ha
  obtain ⟨tb, b1, b2⟩ := hb
  refine ⟨_, pe_ifExp c1 a1 b1, fun T δ d δ' e H0 H σ S Q q => ?_⟩
  unfold gIf at e
  split at e
  · rename_i δ1 e1
    refine c2 T δ true δ1 e1 H0 H σ S _ fun H01 H1 x1 S1 => ?_
    show ta σ H1 Q
    exact a2 T δ1 d δ' e H01 H1 σ S1 _ fun v H02 H2 x2 S2 r2 => q v H02 H2 (x1.trans x2) S2 r2
  · rename_i δ1 e1
    refine c2 T δ false δ1 e1 H0 H σ S _ fun H01 H1 x1 S1 => ?_
    show tb σ H1 Q
    exact b2 T δ1 d δ' e H01 H1 σ S1 _ fun v H02 H2 x2 S2 r2 => q v H02 H2 (x1.trans x2) S2 r2
  · cases e

/-! ### argument lists, displays -/
variable {es : List Expr} {gs : GA}
def gNil : GA := fun δ => some ([], δ)
def gCons (g : GE) (h : GA) : GA := fun δ => match g δ with
  | some (d, δ1) => (match h δ1 with
    | some (ds, δ2) => some (d :: ds, δ2)
    | none => none)
  | none => none
theorem pda_nil : PDA X [] gNil := ⟨_, pa_nil, fun T δ ds δ' e H0 H σ S Q q => by
  cases e
  exact q [] H0 H (Ex.refl _) S .nil⟩
theorem pda_cons (ha : PDE X a ga) (hr : PDA X es gs) (hs : starEach (a :: es) X.env = (false, eval a X.env) :: starEach es X.env := by rfl) : PDA X (a :: es) (gCons ga gs) := by
  obtain ⟨t, a1, a2⟩ := ha
  obtain ⟨u, b1, b2⟩ := hr
  refine ⟨_, pa_cons a1 b1 hs, fun T δ ds δ' e H0 H σ S Q q => ?_⟩
  unfold gCons at e
  split at e
  · rename_i d δ1 e1
    split at e
    · rename_i ds' δ2 e2
      cases e
      refine a2 T δ d δ1 e1 H0 H σ S _ fun v H01 H1 x1 S1 r1 => ?_
      exact b2 T δ1 ds' δ' e2 H01 H1 σ S1 _ fun vs H02 H2 x2 S2 r2 => q _ H02 H2 (x1.trans x2) S2 (.cons (r1.mono x2) r2)
    · cases e
  · cases e
/-- *e -/
def dItems : D → Option (List D)
  | .lst xs => some xs
  | .tup xs => some xs
  | .frl xs => some xs
  | _ => none
def gStar (g : GE) (h : GA) : GA := fun δ => match g δ with
  | some (d, δ1) => (match dItems d with
    | some xs => (match h δ1 with
      | some (ds, δ2) => some (xs ++ ds, δ2)
      | none => none)
    | none => none)
  | none => none
theorem dItems_dt {K : PySem.W.Frag} {H : Hp} {v : V} {d : D} {ds : List D} (h : Dt K H v d) (e : dItems d = some ds) : ∃ p xs, v = .ref p ∧ (SqT K H p xs ∨ SqL K H p xs) ∧ Dts K H xs ds := by
  cases h <;> cases e
  · rename_i a xs h t
    exact ⟨a, xs, rfl, .inr (sq_of h), t⟩
  · rename_i a xs h t
    exact ⟨a, xs, rfl, .inl h, t⟩
  · rename_i a xs h t
    exact ⟨a, xs, rfl, .inr h, t⟩
theorem pda_star (ha : PDE X a ga) (hr : PDA X es gs) (hs : starEach (.Starred a p :: es) X.env = (true, eval a X.env) :: starEach es X.env := by rfl) : PDA X (.Starred a p :: es) (gStar ga gs) := by
  obtain ⟨t, a1, a2⟩ := ha
  obtain ⟨u, b1, b2⟩ := hr
  refine ⟨_, StX.pa_star a1 b1 hs, fun T δ ds δ' e H0 H σ S Q q => ?_⟩
  unfold gStar at e
  split at e
  · rename_i d δ1 e1
    split at e
    · rename_i xs e3
      split at e
      · rename_i ds' δ2 e2
        cases e
        refine a2 T δ d δ1 e1 H0 H σ S _ fun v H01 H1 x1 S1 r1 => ?_
        obtain ⟨p, ys, rfl, hs, hd⟩ := dItems_dt r1 e3
        refine ⟨p, ys, rfl, hs.imp (ex_t S1.ex) (ex_l S1.ex), ?_⟩
        exact b2 T δ1 ds' δ' e2 H01 H1 σ S1 _ fun vs H02 H2 x2 S2 r2 => q _ H02 H2 (x1.trans x2) S2 ((hd.mono x2).append r2)
      · cases e
    · cases e
  · cases e
def gTup (g : GA) : GE := fun δ => match g δ with
  | some (ds, δ') => if ds.length ≤ sizeLine then some (.tup ds, δ') else none
  | none => none
def gLst (g : GA) : GE := fun δ => match g δ with
  | some (ds, δ') => if ds.length ≤ sizeLine then some (.lst ds, δ') else none
  | none => none
theorem pd_tup {x1} (h : PDA X es gs) : PDE X (.Tuple es x1 pos) (gTup gs) := by
  obtain ⟨u, b1, b2⟩ := h
  refine ⟨_, pe_tup b1, fun T δ d δ' e H0 H σ S Q q => ?_⟩
  unfold gTup at e
  split at e
  · rename_i ds δ1 e1
    split at e
    · rename_i hz
      cases e
      refine b2 T δ ds δ' e1 H0 H σ S _ fun vs H01 H1 x1 S1 r1 => ⟨by rw [r1.length]; exact hz, fun p hp => ?_⟩
      exact q _ _ _ (x1.trans (S1.layEx hp)) (S1.lay hp) (.tup (st_of upd_same) (r1.mono (S1.layEx hp)))
    · cases e
  · cases e
theorem pd_lst (h : PDA X es gs) : PDE X (.List es pos) (gLst gs) := by
  obtain ⟨u, b1, b2⟩ := h
  refine ⟨_, pe_lst b1, fun T δ d δ' e H0 H σ S Q q => ?_⟩
  unfold gLst at e
  split at e
  · rename_i ds δ1 e1
    split at e
    · rename_i hz
      cases e
      refine b2 T δ ds δ' e1 H0 H σ S _ fun vs H01 H1 x1 S1 r1 => ⟨by rw [r1.length]; exact hz, fun p hp => ?_⟩
      exact q _ _ _ (x1.trans (S1.layEx hp)) (S1.lay hp) (.lst upd_same (r1.mono (S1.layEx hp)))
    · cases e
  · cases e

/-! ### items, slices -/
theorem dts_atI {K : PySem.W.Frag} {H : Hp} {vs : List V} {ds : List D} {i : Int} {d : D} (h : Dts K H vs ds) (e : atI ds i = some d) : ∃ v, atI vs i = some v ∧ Dt K H v d := by
  unfold atI at e ⊢
  rw [h.length]
  cases e1 : ixN ds.length i with
  | none => rw [e1] at e; cases e
  | some j =>
    rw [e1] at e
    exact h.get e
def dIx : D → D → Option D
  | .lst xs, .int i => atI xs i
  | .frl xs, .int i => atI xs i
  | .tup xs, .int i => atI xs i
  | .str z, .int i => if z.length ≤ sizeLine then (atI z.cps.toList i).map fun c => .str ⟨#[c]⟩ else none
  | _, _ => none
theorem opv_ix : OpV X.K (rIx X.K) dIx := fun T H0 H σ δ S x y d1 d2 d rx ry e Q q => by
  cases ry with
  | int i =>
    cases rx with
    | @lst a xs ds h t =>
      obtain ⟨v, h1, h2⟩ := dts_atI t e
      exact .inl ⟨a, xs, i, v, rfl, rfl, sq_of (S.ex _ _ h), h1, q v H0 H (Ex.refl _) S h2⟩
    | @frl a xs ds h t =>
      obtain ⟨v, h1, h2⟩ := dts_atI t e
      exact .inl ⟨a, xs, i, v, rfl, rfl, ex_l S.ex h, h1, q v H0 H (Ex.refl _) S h2⟩
    | @tup a xs ds h t =>
      obtain ⟨v, h1, h2⟩ := dts_atI t e
      exact .inr (.inl ⟨a, xs, i, v, rfl, rfl, ex_t S.ex h, h1, q v H0 H (Ex.refl _) S h2⟩)
    | str z =>
      simp only [dIx] at e
      split at e
      · rename_i hz
        obtain ⟨c, h1, h2⟩ := Option.map_eq_some_iff.mp e
        subst h2
        exact .inr (.inr ⟨z, i, c, rfl, rfl, hz, h1, q _ H0 H (Ex.refl _) S (.str _)⟩)
      · cases e
    | _ => cases e
  | _ => cases rx <;> cases e
theorem pd_ix (ha : PDE X a ga) (hb : PDE X b gb) (hs : PlainIx b := by exact fun _ _ => rfl) : PDE X (.Subscript a b pos) (gB dIx ga gb) := by
  obtain ⟨ta, a1, a2⟩ := ha
  obtain ⟨tb, b1, b2⟩ := hb
  exact ⟨_, pe_ix ix_seq a1 b1 hs, dev_op a2 b2 opv_ix⟩
/-- a slice's part -/
abbrev GO := Den → Option (Option Int × Den)
def DOv (K : PySem.W.Frag) (to : TO) (g : GO) : Prop := ∀ (T : Th) (δ : Den) o δ', g δ = some (o, δ') → ∀ H0 H σ, Sd K T H0 H σ δ →
  ∀ Q : Option Int → Hp → Prop, (∀ H0' H', Ex H0 H0' → Sd K T H0' H' σ δ' → Q o H') → to σ H Q
def PDO (X : Cx) (e : Option Expr) (g : GO) : Prop := ∃ to, PO X e to ∧ DOv X.K to g
def gNo : GO := fun δ => some (none, δ)
def gSo (g : GE) : GO := fun δ => match g δ with
  | some (.int i, δ') => some (some i, δ')
  | _ => none
theorem pdo_none : PDO X none gNo := ⟨_, po_none, fun T δ o δ' e H0 H σ S Q q => by
  cases e
  exact q H0 H (Ex.refl _) S⟩
theorem pdo_some (ha : PDE X a ga) : PDO X (some a) (gSo ga) := by
  obtain ⟨t, a1, a2⟩ := ha
  refine ⟨_, po_some a1, fun T δ o δ' e H0 H σ S Q q => ?_⟩
  unfold gSo at e
  split at e
  · rename_i i δ1 e1
    cases e
    refine a2 T δ _ δ' e1 H0 H σ S _ fun v H01 H1 x1 S1 r => ?_
    cases r
    exact ⟨i, rfl, q H01 H1 x1 S1⟩
  · cases e
def cutD {α : Type} (xs : List α) (lo hi : Option Int) : List α := (xs.drop (HT.sIx xs.length 0 lo)).take (HT.sIx xs.length xs.length hi - HT.sIx xs.length 0 lo)
theorem dts_cut {K : PySem.W.Frag} {H : Hp} {vs : List V} {ds : List D} (lo hi : Option Int) (h : Dts K H vs ds) : Dts K H (cutV vs lo hi) (cutD ds lo hi) := by
  unfold cutV cutD
  rw [h.length]
  exact (h.drop _).take _
def dSl : D → Option Int → Option Int → Option D
  | .lst xs, lo, hi => some (.lst (cutD xs lo hi))
  | .frl xs, lo, hi => some (.lst (cutD xs lo hi))
  | .tup xs, lo, hi => some (.tup (cutD xs lo hi))
  | .str z, lo, hi => if z.length ≤ sizeLine then some (.str (cutS z lo hi)) else none
  | _, _, _ => none
def gSl (ga : GE) (gl gh : GO) : GE := fun δ => match ga δ with
  | some (d, δ1) => (match gl δ1 with
    | some (lo, δ2) => (match gh δ2 with
      | some (hi, δ3) => (match dSl d lo hi with
        | some r => some (r, δ3)
        | none => none)
      | none => none)
    | none => none)
  | none => none
theorem cut_whole {α : Type} {xs : List α} {lo hi : Option Int} (h : HT.sIx xs.length 0 lo = 0 ∧ HT.sIx xs.length xs.length hi = xs.length) : cutD xs lo hi = xs := by
  unfold cutD
  rw [h.1, h.2]
  simp
theorem pd_sl {lo hi : Option Expr} {p2 : Pos} {gl gh : GO} (ha : PDE X a ga) (hl : PDO X lo gl) (hh : PDO X hi gh) : PDE X (.Subscript a (.Slice lo hi none p2) pos) (gSl ga gl gh) := by
  obtain ⟨ta, a1, a2⟩ := ha
  obtain ⟨tl, l1, l2⟩ := hl
  obtain ⟨th, h1, h2⟩ := hh
  refine ⟨_, pe_slice (sl_list.or (sl_tupA.or sl_str)) a1 l1 h1, fun T δ d δ' e H0 H σ S Q q => ?_⟩
  unfold gSl at e
  split at e
  · rename_i d0 δ1 e1
    split at e
    · rename_i lo' δ2 e2
      split at e
      · rename_i hi' δ3 e3
        split at e
        · rename_i r e4
          cases e
          refine a2 T δ d0 δ1 e1 H0 H σ S _ fun v H01 H1 x1 S1 r1 => ?_
          refine l2 T δ1 lo' δ2 e2 H01 H1 σ S1 _ fun H02 H2 x2 S2 => ?_
          refine h2 T δ2 hi' δ' e3 H02 H2 σ S2 _ fun H03 H3 x3 S3 => ?_
          have r1 := r1.mono (x2.trans x3)
          have xx := (x1.trans x2).trans x3
          cases r1 with
          | @lst a xs ds h t =>
            cases e4
            exact .inl ⟨a, xs, rfl, sq_of (S3.ex _ _ h), fun p hp => q _ _ _ (xx.trans (S3.layEx hp)) (S3.lay hp) (.lst upd_same ((dts_cut lo' hi' t).mono (S3.layEx hp)))⟩
          | @frl a xs ds h t =>
            cases e4
            exact .inl ⟨a, xs, rfl, ex_l S3.ex h, fun p hp => q _ _ _ (xx.trans (S3.layEx hp)) (S3.lay hp) (.lst upd_same ((dts_cut lo' hi' t).mono (S3.layEx hp)))⟩
          | @tup a xs ds h t =>
            cases e4
            refine .inr (.inl ⟨a, xs, rfl, ex_t S3.ex h, fun w => ?_, fun _ p hp => ?_⟩)
            · rw [t.length] at w
              exact q _ _ _ xx S3 (by rw [cut_whole w]; exact .tup h t)
            · exact q _ _ _ (xx.trans (S3.layEx hp)) (S3.lay hp) (.tup (st_of upd_same) ((dts_cut lo' hi' t).mono (S3.layEx hp)))
          | str z =>
            simp only [dSl] at e4
            split at e4
            · rename_i hz
              cases e4
              exact .inr (.inr ⟨z, rfl, hz, q _ _ _ xx S3 (.str _)⟩)
            · cases e4
          | _ => cases e4
        · cases e
      · cases e
    · cases e
  · cases e
end
end Dx
set_option Elab.async false
set_option linter.all false
set_option maxRecDepth 100000
set_option maxHeartbeats 4000000
namespace Dx
open PySem PySem.Spec PyProof.Rows L2 Evl

/-! ### calls of built-ins by data -/
def CallV (K : PySem.W.Frag) (r : List V → Hp → VK → Prop) (g : List D → Option D) : Prop := ∀ T H0 H σ δ, Sd K T H0 H σ δ → ∀ xs ds d, Dts K H0 xs ds → g ds = some d →
  ∀ Q : VK, (∀ v H0' H', Ex H0 H0' → Sd K T H0' H' σ δ → Dt K H0' v d → Q v H') → r xs H Q
def CallD (X : Cx) (f : Value) (g : List D → Option D) : Prop := ∃ r, CallR X f r ∧ CallV X.K r g
def gCall (g : List D → Option D) (ga : GA) : GE := fun δ => match ga δ with
  | some (ds, δ') => (match g ds with
    | some d => some (d, δ')
    | none => none)
  | none => none
theorem gCall_some {g : List D → Option D} {ga : GA} {δ : Den} {d δ'} (h : gCall g ga δ = some (d, δ')) : ∃ ds, ga δ = some (ds, δ') ∧ g ds = some d := by
  unfold gCall at h
  split at h
  · rename_i ds δ1 e
    split at h
    · rename_i d' e'
      cases h
      exact ⟨ds, e, e'⟩
    · cases h
  · cases h
theorem CallR.or2 {X : Cx} {f : Value} {r r' : List V → Hp → VK → Prop} (h : CallR X f r) (h' : CallR X f r') : CallR X f (fun xs H Q => r xs H Q ∨ r' xs H Q) := by
  intro pins s σ H xs us Q I rx q
  rcases q with q | q
  · exact h pins s σ H xs us Q I rx q
  · exact h' pins s σ H xs us Q I rx q
theorem CallD.or {X : Cx} {f : Value} {g g' g'' : List D → Option D} (h : CallD X f g) (h' : CallD X f g') (e : ∀ a d, g'' a = some d → g a = some d ∨ g' a = some d) : CallD X f g'' := by
  obtain ⟨r, h1, h2⟩ := h
  obtain ⟨r', h1', h2'⟩ := h'
  refine ⟨_, CallR.or2 h1 h1', fun T H0 H σ δ S xs ds d rx eg Q q => ?_⟩
  rcases e ds d eg with z | z
  · exact .inl (h2 T H0 H σ δ S xs ds d rx z Q q)
  · exact .inr (h2' T H0 H σ δ S xs ds d rx z Q q)
theorem ite_some {α : Type} {c : Prop} [Decidable c] {x : Option α} {d : α} (h : (if c then x else none) = some d) : c ∧ x = some d := by
  by_cases hc : c
  · rw [if_pos hc] at h; exact ⟨hc, h⟩
  · rw [if_neg hc] at h; cases h
section
variable {X : Cx} {a b : Expr} {pos p : Pos} {ga gb : GE} {es : List Expr} {gs : GA} {x : Str} {bid T : String}
theorem dev_cb {K : PySem.W.Frag} {r : List V → Hp → VK → Prop} {t : TA} {g : List D → Option D} (ht : DAv K t gs) (hr : CallV K r g) : DEv K (tCB r t) (gCall g gs) := fun T δ d δ' e H0 H σ S Q q => by
  obtain ⟨ds, e1, e2⟩ := gCall_some e
  refine ht T δ ds δ' e1 H0 H σ S _ fun vs H01 H1 x1 S1 r1 => ?_
  exact hr T H01 H1 σ δ' S1 vs ds d r1 e2 Q fun v H02 H2 x2 S2 r2 => q v H02 H2 (x1.trans x2) S2 r2
theorem pd_cb {g : List D → Option D} (hc : CallD X (.builtin bid) g) (hm : X.mg x = none) (hv : bootBuiltins x = some (.builtin bid)) (ha : PDA X (a :: es) gs) (hg : Gl X x := by rfl) (hn : x ≠ "__name__" := by decide) (hdb : (x == ("__debug__" : Str)) = false := by decide)
    (he : starEach (a :: es) X.env = (false, eval a X.env) :: starEach es X.env := by rfl) (hpl : (backTo pos (starEach es X.env)).any (·.1) = false := by rfl) : PDE X (.Call (.Name x p) (a :: es) [] pos) (gCall g gs) := by
  obtain ⟨r, h1, h2⟩ := hc
  obtain ⟨t, a1, a2⟩ := ha
  exact ⟨_, pe_callB h1 hg hm hv a1 hn hdb he hpl, dev_cb a2 h2⟩
theorem pd_ct {g : List D → Option D} (hc : CallD X (.type T) g) (hm : X.mg x = none) (hv : bootBuiltins x = some (.type T)) (ha : PDA X (a :: es) gs) (hg : Gl X x := by rfl) (hn : x ≠ "__name__" := by decide) (hdb : (x == ("__debug__" : Str)) = false := by decide)
    (he : starEach (a :: es) X.env = (false, eval a X.env) :: starEach es X.env := by rfl) (hpl : (backTo pos (starEach es X.env)).any (·.1) = false := by rfl) : PDE X (.Call (.Name x p) (a :: es) [] pos) (gCall g gs) := by
  obtain ⟨r, h1, h2⟩ := hc
  obtain ⟨t, a1, a2⟩ := ha
  exact ⟨_, pe_callTy h1 hg hm hv a1 hn hdb he hpl, dev_cb a2 h2⟩
/-! len -/
def dLen1 : D → Option D
  | .str z => if z.length ≤ sizeLine then some (.int z.length) else none
  | .lst xs => some (.int xs.length)
  | .tup xs => some (.int xs.length)
  | .frl xs => some (.int xs.length)
  | _ => none
def on1 (f : D → Option D) : List D → Option D
  | [d] => f d
  | _ => none
theorem on1_some {f : D → Option D} {ds : List D} {d : D} (h : on1 f ds = some d) : ∃ a, ds = [a] ∧ f a = some d := by
  unfold on1 at h
  split at h
  · exact ⟨_, rfl, h⟩
  · cases h
def on2 (f : D → D → Option D) : List D → Option D
  | [a, b] => f a b
  | _ => none
theorem on2_some {f : D → D → Option D} {ds : List D} {d : D} (h : on2 f ds = some d) : ∃ a b, ds = [a, b] ∧ f a b = some d := by
  unfold on2 at h
  split at h
  · exact ⟨_, _, rfl, h⟩
  · cases h
theorem dts_one {K : PySem.W.Frag} {H : Hp} {xs : List V} {d : D} (h : Dts K H xs [d]) : ∃ v, xs = [v] ∧ Dt K H v d := by
  cases h with
  | cons h t => cases t; exact ⟨_, rfl, h⟩
theorem dts_two {K : PySem.W.Frag} {H : Hp} {xs : List V} {d e : D} (h : Dts K H xs [d, e]) : ∃ v w, xs = [v, w] ∧ Dt K H v d ∧ Dt K H w e := by
  cases h with
  | cons h t =>
    obtain ⟨w, rfl, h2⟩ := dts_one t
    exact ⟨_, _, rfl, h, h2⟩
theorem cd_len : CallD X (.builtin "len") (on1 dLen1) := ⟨_, call_len, fun T H0 H σ δ S xs ds d rx e Q q => by
  replace e := on1_some e
  obtain ⟨a, rfl, e⟩ := e
  obtain ⟨v, rfl, r⟩ := dts_one rx
  cases r with
  | str z =>
    obtain ⟨hz, e⟩ := ite_some (c := z.length ≤ sizeLine) e
    cases e
    exact ⟨_, _, rfl, ⟨hz, rfl⟩, q _ H0 H (Ex.refl _) S (.int _)⟩
  | lst h t => cases e; exact ⟨_, _, rfl, .inl ⟨_, sq_of (S.ex _ _ h), rfl⟩, q _ H0 H (Ex.refl _) S (by rw [t.length]; exact .int _)⟩
  | frl h t => cases e; exact ⟨_, _, rfl, .inl ⟨_, ex_l S.ex h, rfl⟩, q _ H0 H (Ex.refl _) S (by rw [t.length]; exact .int _)⟩
  | tup h t => cases e; exact ⟨_, _, rfl, .inr ⟨_, ex_t S.ex h, rfl⟩, q _ H0 H (Ex.refl _) S (by rw [t.length]; exact .int _)⟩
  | _ => cases e⟩
/-! abs, max, min, int, str -/
def dAbs : D → Option D
  | .int i => some (.int (if i < 0 then -i else i))
  | _ => none
theorem cd_abs : CallD X (.builtin "abs") (on1 dAbs) := ⟨_, call_abs, fun T H0 H σ δ S xs ds d rx e Q q => by
  replace e := on1_some e
  obtain ⟨a, rfl, e⟩ := e
  obtain ⟨v, rfl, r⟩ := dts_one rx
  cases r <;> cases e
  exact ⟨_, rfl, q _ H0 H (Ex.refl _) S (.int _)⟩⟩
def dMax : D → D → Option D
  | .int i, .int j => some (.int (if j > i then j else i))
  | _, _ => none
def dMin : D → D → Option D
  | .int i, .int j => some (.int (if j < i then j else i))
  | _, _ => none
theorem cd_max (hc : X.calm = true) : CallD X (.builtin "max") (on2 dMax) := ⟨_, call_max2 hc, fun T H0 H σ δ S xs ds d rx e Q q => by
  obtain ⟨a, b, rfl, e⟩ := on2_some e
  obtain ⟨v, w, rfl, r, r2⟩ := dts_two rx
  cases r <;> cases r2 <;> cases e
  exact ⟨_, _, rfl, q _ H0 H (Ex.refl _) S (.int _)⟩⟩
theorem cd_min (hc : X.calm = true) : CallD X (.builtin "min") (on2 dMin) := ⟨_, call_min2 hc, fun T H0 H σ δ S xs ds d rx e Q q => by
  obtain ⟨a, b, rfl, e⟩ := on2_some e
  obtain ⟨v, w, rfl, r, r2⟩ := dts_two rx
  cases r <;> cases r2 <;> cases e
  exact ⟨_, _, rfl, q _ H0 H (Ex.refl _) S (.int _)⟩⟩
def dInt : D → Option D
  | .int i => some (.int i)
  | .bl b => some (.int (if b then 1 else 0))
  | .str s => if s.length ≤ 640 then (PySem.intText? s).map .int else none
  | _ => none
theorem cd_int : CallD X (.type "int") (on1 dInt) := by
  have h1 : CallD X (.type "int") (on1 fun d => match d with | .int i => some (.int i) | .bl b => some (.int (if b then 1 else 0)) | _ => none) := ⟨_, call_int1, fun T H0 H σ δ S xs ds d rx e Q q => by
    replace e := on1_some e
    obtain ⟨a, rfl, e⟩ := e
    obtain ⟨v, rfl, r⟩ := dts_one rx
    cases r <;> cases e
    · exact .inr ⟨_, rfl, q _ H0 H (Ex.refl _) S (.int _)⟩
    · exact .inl ⟨_, rfl, q _ H0 H (Ex.refl _) S (.int _)⟩⟩
  have h2 : CallD X (.type "int") (on1 fun d => match d with | .str s => if s.length ≤ 640 then (PySem.intText? s).map .int else none | _ => none) := ⟨_, call_int_str, fun T H0 H σ δ S xs ds d rx e Q q => by
    replace e := on1_some e
    obtain ⟨a, rfl, e⟩ := e
    obtain ⟨v, rfl, r⟩ := dts_one rx
    cases r <;> first | cases e | skip
    rename_i s
    obtain ⟨hz, e⟩ := ite_some (c := s.length ≤ 640) e
    obtain ⟨n, h1, h2⟩ := Option.map_eq_some_iff.mp e
    subst h2
    exact ⟨s, n, rfl, h1, hz, q _ H0 H (Ex.refl _) S (.int _)⟩⟩
  refine h1.or h2 fun ds d e => ?_
  replace e := on1_some e
  obtain ⟨a, rfl, e⟩ := e
  cases a <;> first | exact .inl e | exact .inr e | cases e
def dStr : D → Option D
  | .int i => if i.natAbs.log2 < 1920 then some (.str (toString i)) else none
  | .str s => some (.str s)
  | _ => none
theorem cd_str : CallD X (.type "str") (on1 dStr) := by
  have h1 : CallD X (.type "str") (on1 fun d => match d with | .int i => if i.natAbs.log2 < 1920 then some (.str (toString i)) else none | _ => none) := ⟨_, call_str_int, fun T H0 H σ δ S xs ds d rx e Q q => by
    replace e := on1_some e
    obtain ⟨a, rfl, e⟩ := e
    obtain ⟨v, rfl, r⟩ := dts_one rx
    cases r <;> first | cases e | skip
    rename_i i
    obtain ⟨hz, e⟩ := ite_some (c := i.natAbs.log2 < 1920) e
    cases e
    exact ⟨i, rfl, hz, q _ H0 H (Ex.refl _) S (.str _)⟩⟩
  have h2 : CallD X (.type "str") (on1 fun d => match d with | .str s => some (.str s) | _ => none) := ⟨_, SkE.call_str_str, fun T H0 H σ δ S xs ds d rx e Q q => by
    replace e := on1_some e
    obtain ⟨a, rfl, e⟩ := e
    obtain ⟨v, rfl, r⟩ := dts_one rx
    cases r <;> cases e
    exact ⟨_, rfl, q _ H0 H (Ex.refl _) S (.str _)⟩⟩
  refine h1.or h2 fun ds d e => ?_
  replace e := on1_some e
  obtain ⟨a, rfl, e⟩ := e
  cases a <;> first | exact .inl e | exact .inr e | cases e
/-! sum, all, tuple, list -/
def ints? : List D → Option (List Int)
  | [] => some []
  | .int i :: r => (ints? r).map (i :: ·)
  | _ => none
def bools? : List D → Option (List Bool)
  | [] => some []
  | .bl i :: r => (bools? r).map (i :: ·)
  | _ => none
def strs? : List D → Option (List Str)
  | [] => some []
  | .str i :: r => (strs? r).map (i :: ·)
  | _ => none
theorem ints?_eq : ∀ {ds : List D} {ns : List Int}, ints? ds = some ns → ds = ns.map D.int
  | [], _, h => by cases h; rfl
  | .int i :: r, ns, h => by
    simp only [ints?] at h
    obtain ⟨n2, h1, h2⟩ := Option.map_eq_some_iff.mp h
    subst h2
    rw [ints?_eq h1]; rfl
  | .non :: _, _, h | .bl _ :: _, _, h | .str _ :: _, _, h | .lst _ :: _, _, h | .tup _ :: _, _, h | .dct _ :: _, _, h | .lid _ _ :: _, _, h | .frl _ :: _, _, h => by cases h
theorem bools?_eq : ∀ {ds : List D} {ns : List Bool}, bools? ds = some ns → ds = ns.map D.bl
  | [], _, h => by cases h; rfl
  | .bl i :: r, ns, h => by
    simp only [bools?] at h
    obtain ⟨n2, h1, h2⟩ := Option.map_eq_some_iff.mp h
    subst h2
    rw [bools?_eq h1]; rfl
  | .non :: _, _, h | .int _ :: _, _, h | .str _ :: _, _, h | .lst _ :: _, _, h | .tup _ :: _, _, h | .dct _ :: _, _, h | .lid _ _ :: _, _, h | .frl _ :: _, _, h => by cases h
theorem strs?_eq : ∀ {ds : List D} {ns : List Str}, strs? ds = some ns → ds = ns.map D.str
  | [], _, h => by cases h; rfl
  | .str i :: r, ns, h => by
    simp only [strs?] at h
    obtain ⟨n2, h1, h2⟩ := Option.map_eq_some_iff.mp h
    subst h2
    rw [strs?_eq h1]; rfl
  | .non :: _, _, h | .bl _ :: _, _, h | .int _ :: _, _, h | .lst _ :: _, _, h | .tup _ :: _, _, h | .dct _ :: _, _, h | .lid _ _ :: _, _, h | .frl _ :: _, _, h => by cases h
theorem ints?_map (ns : List Int) : ints? (ns.map D.int) = some ns := by
  induction ns with
  | nil => rfl
  | cons n ns ih => simp only [List.map_cons, ints?, ih, Option.map_some]
theorem bools?_map (ns : List Bool) : bools? (ns.map D.bl) = some ns := by
  induction ns with
  | nil => rfl
  | cons n ns ih => simp only [List.map_cons, bools?, ih, Option.map_some]
theorem strs?_map (ns : List Str) : strs? (ns.map D.str) = some ns := by
  induction ns with
  | nil => rfl
  | cons n ns ih => simp only [List.map_cons, strs?, ih, Option.map_some]
theorem Dts.toBools {K : PySem.W.Frag} {H : Hp} : ∀ {vs : List V} {l : List Bool}, Dts K H vs (l.map D.bl) → vs = l.map V.bl
  | _, [], .nil => rfl
  | _, x :: l, .cons h t => by
    cases h
    rw [Dts.toBools t]; rfl
def dSum : D → Option D
  | .lst xs => (ints? xs).map fun ns => .int ns.sum
  | _ => none
theorem cd_sum (hc : X.calm = true) : CallD X (.builtin "sum") (on1 dSum) := ⟨_, cr_sum hc, fun T H0 H σ δ S xs ds d rx e Q q => by
  replace e := on1_some e
  obtain ⟨a, rfl, e⟩ := e
  obtain ⟨v, rfl, r⟩ := dts_one rx
  cases r with
  | @lst a vs ds h t =>
    obtain ⟨ns, h1, h2⟩ := Option.map_eq_some_iff.mp (show (ints? ds).map (fun ns => D.int ns.sum) = some d from e)
    subst h2
    have e1 := ints?_eq h1
    subst e1
    have e2 := t.toInts
    subst e2
    exact ⟨a, ns, rfl, sq_of (S.ex _ _ h), q _ H0 H (Ex.refl _) S (.int _)⟩
  | _ => cases e⟩
def dAll : D → Option D
  | .lst xs => (bools? xs).map fun ns => .bl (ns.all id)
  | _ => none
theorem cd_all (hc : X.calm = true) : CallD X (.builtin "all") (on1 dAll) := ⟨_, cr_all hc, fun T H0 H σ δ S xs ds d rx e Q q => by
  replace e := on1_some e
  obtain ⟨a, rfl, e⟩ := e
  obtain ⟨v, rfl, r⟩ := dts_one rx
  cases r with
  | @lst a vs ds h t =>
    obtain ⟨ns, h1, h2⟩ := Option.map_eq_some_iff.mp (show (bools? ds).map (fun ns => D.bl (ns.all id)) = some d from e)
    subst h2
    have e1 := bools?_eq h1
    subst e1
    have e2 := t.toBools
    subst e2
    exact ⟨a, ns, rfl, sq_of (S.ex _ _ h), q _ H0 H (Ex.refl _) S (.bl _)⟩
  | _ => cases e⟩
def dTuple : D → Option D
  | .lst xs => some (.tup xs)
  | .tup xs => some (.tup xs)
  | .frl xs => some (.tup xs)
  | _ => none
theorem cd_tuple : CallD X (.type "tuple") (on1 dTuple) := ⟨_, call_tuple_of, fun T H0 H σ δ S xs ds d rx e Q q => by
  replace e := on1_some e
  obtain ⟨a, rfl, e⟩ := e
  obtain ⟨v, rfl, r⟩ := dts_one rx
  cases r <;> cases e
  · rename_i a vs ds h t
    exact ⟨a, vs, rfl, .inl ⟨sq_of (S.ex _ _ h), fun p hp => q _ _ _ (S.layEx hp) (S.lay hp) (.tup (st_of upd_same) (t.mono (S.layEx hp)))⟩⟩
  · rename_i a vs ds h t
    exact ⟨a, vs, rfl, .inr ⟨ex_t S.ex h, q _ _ _ (Ex.refl _) S (.tup h t)⟩⟩
  · rename_i a vs ds h t
    exact ⟨a, vs, rfl, .inl ⟨ex_l S.ex h, fun p hp => q _ _ _ (S.layEx hp) (S.lay hp) (.tup (st_of upd_same) (t.mono (S.layEx hp)))⟩⟩⟩
def dList : D → Option D
  | .lst xs => some (.lst xs)
  | .tup xs => some (.lst xs)
  | .frl xs => some (.lst xs)
  | _ => none
theorem cd_list : CallD X (.type "list") (on1 dList) := ⟨_, call_list_of, fun T H0 H σ δ S xs ds d rx e Q q => by
  replace e := on1_some e
  obtain ⟨a, rfl, e⟩ := e
  obtain ⟨v, rfl, r⟩ := dts_one rx
  cases r <;> cases e
  · rename_i a vs ds h t
    exact ⟨a, vs, rfl, .inl (sq_of (S.ex _ _ h)), fun p hp => q _ _ _ (S.layEx hp) (S.lay hp) (.lst upd_same (t.mono (S.layEx hp)))⟩
  · rename_i a vs ds h t
    exact ⟨a, vs, rfl, .inr (ex_t S.ex h), fun p hp => q _ _ _ (S.layEx hp) (S.lay hp) (.lst upd_same (t.mono (S.layEx hp)))⟩
  · rename_i a vs ds h t
    exact ⟨a, vs, rfl, .inl (ex_l S.ex h), fun p hp => q _ _ _ (S.layEx hp) (S.lay hp) (.lst upd_same (t.mono (S.layEx hp)))⟩⟩
/-! isinstance of a value and a built-in class -/
def tyN : D → String
  | .non => "NoneType" | .bl _ => "bool" | .int _ => "int" | .str _ => "str" | .lst _ => "list" | .tup _ => "tuple" | .dct _ => "dict" | .lid _ _ => "list" | .frl _ => "list"
theorem tyX_dt {K : PySem.W.Frag} {H0 H : Hp} (x : Ex H0 H) {v : V} {d : D} (h : Dt K H0 v d) : TyX K H v (.type (tyN d)) := by
  cases h with
  | non => exact .base .non
  | bl b => exact .base (.bl b)
  | int i => exact .base (.int i)
  | str s => exact .base (.str s)
  | lst h t => exact .base (.lst (x _ _ h))
  | tup h t =>
    rcases ex_t x h with (h | ⟨o, h⟩) | ⟨o, its, n, h, hc, _⟩
    · exact .base (.tup h)
    · exact .fTuple h
    · exact .kTuple h hc
  | dct h t =>
    rcases ex_rd x h with h | ⟨o, h⟩
    · exact .base (.dK h)
    · exact .fDict h
  | lid h t => exact .base (.lst (x _ _ h))
  | frl h t =>
    rcases ex_l x h with (h | ⟨o, h⟩) | ⟨o, its, n, h, hc, _⟩
    · exact .base (.lst h)
    · exact .base (.frz h)
    · exact .kList h hc
def isiB (d : D) (c : String) : Bool := tyN d == c || (tyN d == "bool" && c == "int")
theorem isi_kit (d : D) (c : String) (h : c ∈ ["int", "bool", "str", "list", "tuple", "dict"]) : kitB (tyN d) c = some (isiB d c) := by
  have key : ∀ t ∈ ["NoneType", "bool", "int", "str", "list", "tuple", "dict"], ∀ c ∈ ["int", "bool", "str", "list", "tuple", "dict"], kitB t c = some (t == c || (t == "bool" && c == "int")) := by decide +kernel
  have ht : tyN d ∈ ["NoneType", "bool", "int", "str", "list", "tuple", "dict"] := by cases d <;> simp [tyN]
  exact key _ ht c h
def gIsi (c : String) (g : GE) : GE := fun δ => match g δ with
  | some (d, δ') => some (.bl (isiB d c), δ')
  | none => none
theorem pd_isi {c : Str} {C : String} {p2 : Pos} (hc : C ∈ ["int", "bool", "str", "list", "tuple", "dict"]) (hm : X.mg "isinstance" = none) (hmc : X.mg c = none) (hv : bootBuiltins c = some (.type C)) (ha : PDE X a ga) (hg : Gl X "isinstance" := by rfl) (hgc : Gl X c := by rfl)
    (hn : c ≠ "__name__" := by decide) (hdb : (c == ("__debug__" : Str)) = false := by decide)
    (hs1 : starEach [a, .Name c p2] X.env = (false, eval a X.env) :: starEach [.Name c p2] X.env := by rfl) (hs2 : starEach [.Name c p2] X.env = (false, eval (.Name c p2) X.env) :: starEach [] X.env := by rfl)
    (hpl : (backTo pos (starEach [.Name c p2] X.env)).any (·.1) = false := by rfl) :
    PDE X (.Call (.Name "isinstance" p) [a, .Name c p2] [] pos) (gIsi C ga) := by
  obtain ⟨t, a1, a2⟩ := ha
  refine ⟨_, pe_callB call_isi hg hm boot_isinstance (pa_cons a1 (pa_cons (pe_bltn hgc hmc hv (v := .ty C) rfl hn hdb) pa_nil hs2) hs1) (by decide) (by decide) hs1 hpl, fun T δ d δ' e H0 H σ S Q q => ?_⟩
  unfold gIsi at e
  split at e
  · rename_i d0 δ1 e1
    cases e
    refine a2 T δ d0 δ' e1 H0 H σ S _ fun v H01 H1 x1 S1 r1 => ?_
    exact ⟨v, .ty C, _, _, _, rfl, .ty C, tyX_dt S1.ex r1, kit_ty (isi_kit d0 C hc), q _ H01 H1 x1 S1 (.bl _)⟩
  · cases e
end
end Dx
set_option Elab.async false
set_option linter.all false
set_option maxRecDepth 100000
set_option maxHeartbeats 4000000
namespace Dx
open PySem PySem.Spec PyProof.Rows L2 Evl
/-! ### one reading for all contexts -/
def rdE (K : PySem.W.Frag) (g : GE) : TE := fun σ H Q => ∃ T δ d δ' H0, g δ = some (d, δ') ∧ Sd K T H0 H σ δ ∧ ∀ v H0' H', Ex H0 H0' → Sd K T H0' H' σ δ' → Dt K H0' v d → Q v H'
def rdT (K : PySem.W.Frag) (g : GT) : TT := fun σ H Q => ∃ T δ d δ' H0, g δ = some (d, δ') ∧ Sd K T H0 H σ δ ∧ ∀ H0' H', Ex H0 H0' → Sd K T H0' H' σ δ' → Q d H'
theorem dev_rd {K : PySem.W.Frag} {g : GE} : DEv K (rdE K g) g := fun T δ d δ' e H0 H σ S Q q => ⟨T, δ, d, δ', H0, e, S, q⟩
theorem dtv_rd {K : PySem.W.Frag} {g : GT} : DTv K (rdT K g) g := fun T δ d δ' e H0 H σ S Q q => ⟨T, δ, d, δ', H0, e, S, q⟩
section
variable {X : Cx} {e : Expr} {g : GE} {h : GT}
theorem PDE.rd (p : PDE X e g) : PE X e (rdE X.K g) := by
  obtain ⟨te, p1, p2⟩ := p
  exact ⟨fun pins s σ H Q I ⟨T, δ, d, δ', H0, e, S, q⟩ => p1.run pins s σ H Q I (p2 T δ d δ' e H0 H σ S Q q)⟩
theorem PDT.rd (p : PDT X e h) : PT X e (rdT X.K h) := by
  obtain ⟨te, p1, p2⟩ := p
  exact ⟨fun pins s σ H Q I ⟨T, δ, d, δ', H0, e, S, q⟩ => p1.run pins s σ H Q I (p2 T δ d δ' e H0 H σ S Q q)⟩
end

/-! ### targets -/
abbrev GG := D → Den → Option Den
abbrev GGs := List D → Den → Option Den
/-- the slots but those of js are as they were -/
def Only (js : List Nat) (σ σ' : L2.St) : Prop := σ'.length = σ.length ∧ ∀ i, i ∉ js → σ'[i]? = σ[i]?
theorem Only.refl {js : List Nat} {σ : L2.St} : Only js σ σ := ⟨rfl, fun _ _ => rfl⟩
theorem Only.trans {js ks : List Nat} {σ σ1 σ2 : L2.St} (a : Only js σ σ1) (b : Only ks σ1 σ2) : Only (js ++ ks) σ σ2 :=
  ⟨b.1.trans a.1, fun i h => by
    simp only [List.mem_append, not_or] at h
    rw [b.2 i h.2, a.2 i h.1]⟩
def DGv (K : PySem.W.Frag) (t : TG) (g : GG) (js : List Nat) : Prop := ∀ (T : Th) d δ δ', g d δ = some δ' → ∀ v H0 H σ, Sd K T H0 H σ δ → Dt K H0 v d →
  ∀ Q : L2.St → Hp → Prop, (∀ H0' H' σ', Ex H0 H0' → Sd K T H0' H' σ' δ' → Only js σ σ' → Q σ' H') → t v σ H Q
def DGsv (K : PySem.W.Frag) (t : TGs) (g : GGs) (js : List Nat) : Prop := ∀ (T : Th) d δ δ', g d δ = some δ' → ∀ v H0 H σ, Sd K T H0 H σ δ → Dts K H0 v d →
  ∀ Q : L2.St → Hp → Prop, (∀ H0' H' σ', Ex H0 H0' → Sd K T H0' H' σ' δ' → Only js σ σ' → Q σ' H') → t v σ H Q
def rdG (K : PySem.W.Frag) (g : GG) (js : List Nat) : TG := fun v σ H Q => ∃ T d δ δ' H0, g d δ = some δ' ∧ Sd K T H0 H σ δ ∧ Dt K H0 v d ∧ ∀ H0' H' σ', Ex H0 H0' → Sd K T H0' H' σ' δ' → Only js σ σ' → Q σ' H'
def PDG (X : Cx) (tg : Expr) (g : GG) (js : List Nat) : Prop := PG X tg (rdG X.K g js)
def PDGs (X : Cx) (tg : List Expr) (g : GGs) (js : List Nat) : Prop := ∃ t, PGs X tg t ∧ DGsv X.K t g js
theorem dgv_rd {K : PySem.W.Frag} {g : GG} {js : List Nat} : DGv K (rdG K g js) g js := fun T d δ δ' e v H0 H σ S r Q q => ⟨T, d, δ, δ', H0, e, S, r, q⟩
section
variable {X : Cx} {tg : Expr} {t : TG} {g : GG} {es : List Expr} {gs : GGs} {js ks : List Nat}
theorem pdg_of (p1 : PG X tg t) (p2 : DGv X.K t g js) : PDG X tg g js :=
  ⟨fun pins s σ H v u Q I r ⟨T, d, δ, δ', H0, e, S, r', q⟩ => p1.run pins s σ H v u Q I r (p2 T d δ δ' e v H0 H σ S r' Q q)⟩
def gNm (i : Nat) : GG := fun d δ => some (δ.set i (.pl d))
theorem pdg_name (i : Nat) {x : Str} {pos : Pos} (hN : X.N.Nodup) (hi : X.N[i]? = some x := by rfl) (hx : Loc X.env.scope x := by first | exact Or.inl rfl | exact Or.inr rfl) (hf : X.fn x = true ∨ X.env.scope.names.lookup x = some .local := by first | exact .inl rfl | exact .inr rfl) :
    PDG X (.Name x pos) (gNm i) [i] := pdg_of (pg_name hN hi hx hf) fun T d δ δ' e v H0 H σ S r Q q => by
  cases e
  exact q _ _ _ (Ex.refl _) (S.put r) ⟨by simp, fun j hj => List.getElem?_set_ne (fun z => hj (by simp [z]))⟩
def gTgNil : GGs := fun ds δ => match ds with
  | [] => some δ
  | _ => none
def gTgCons (g : GG) (h : GGs) : GGs := fun ds δ => match ds with
  | d :: r => (match g d δ with
    | some δ1 => h r δ1
    | none => none)
  | _ => none
theorem pdgs_nil : PDGs X [] gTgNil [] := ⟨_, pgs_nil, fun T d δ δ' e v H0 H σ S r Q q => by
  unfold gTgNil at e
  split at e
  · cases e
    cases r
    exact ⟨rfl, q _ _ _ (Ex.refl _) S .refl⟩
  · cases e⟩
theorem pdgs_cons {e : Expr} (h1 : PDG X e g js) (h2 : PDGs X es gs ks) (hs : (assignEach (e :: es) X.env).map (·.2) = assign e X.env :: (assignEach es X.env).map (·.2) := by rfl) : PDGs X (e :: es) (gTgCons g gs) (js ++ ks) := by
  obtain ⟨t, a1, a2⟩ := h2
  refine ⟨_, pgs_cons h1 a1 hs, fun T d δ δ' e v H0 H σ S r Q q => ?_⟩
  unfold gTgCons at e
  split at e
  · rename_i d0 ds
    split at e
    · rename_i δ1 e1
      cases r with
      | cons r1 r2 =>
        refine ⟨_, _, rfl, dgv_rd T d0 δ δ1 e1 _ H0 H σ S r1 _ fun H01 H1 σ1 x1 S1 o1 => ?_⟩
        exact a2 T ds δ1 δ' e _ H01 H1 σ1 S1 (r2.mono x1) Q fun H02 H2 σ2 x2 S2 o2 => q H02 H2 σ2 (x1.trans x2) S2 (o1.trans o2)
    · cases e
  · cases e
def gTgTup (n : Nat) (h : GGs) : GG := fun d δ => match d with
  | .tup xs => if xs.length = n then h xs δ else none
  | .lst xs => if xs.length = n then h xs δ else none
  | _ => none
theorem PG.or {t u : TG} (h1 : PG X tg t) (h2 : PG X tg u) : PG X tg (fun v σ H Q => t v σ H Q ∨ u v σ H Q) :=
  ⟨fun pins s σ H v w Q I r h => h.elim (h1.run pins s σ H v w Q I r) (h2.run pins s σ H v w Q I r)⟩
theorem pdg_tup {n k : Nat} {pos : Pos} (hc : X.calm = true) (h : PDGs X es gs js) (hn : (assignEach es X.env).length = n := by rfl) (hst : (assignEach es X.env).findIdx? (·.1) = none := by rfl) : PDG X (.Tuple es k pos) (gTgTup n gs) js := by
  obtain ⟨t, a1, a2⟩ := h
  refine pdg_of (PG.or (pg_tup hc a1 hn hst) (pg_unl hc a1 hn hst)) fun T d δ δ' e v H0 H σ S r Q q => ?_
  cases r with
  | @tup a vs ds h t =>
    obtain ⟨hl, e⟩ := ite_some (c := ds.length = n) e
    exact .inl ⟨a, vs, rfl, ex_t S.ex h, by rw [t.length]; exact hl, a2 T ds δ δ' e _ H0 H σ S t Q q⟩
  | @lst a vs ds h t =>
    obtain ⟨hl, e⟩ := ite_some (c := ds.length = n) e
    exact .inr ⟨a, vs, rfl, sq_of (S.ex _ _ h), by rw [t.length]; exact hl, a2 T ds δ δ' e _ H0 H σ S t Q q⟩
  | _ => cases e
end

/-! ### walks over data -/
def YD (K : PySem.W.Frag) (H0 : Hp) (d : D) (H : Hp) (x : V) (H' : Hp) : Prop :=
  (H' = H ∧ Dt K H0 x d) ∨ ∃ p vs ds, x = .ref p ∧ H p = none ∧ H' = upd H p (.tup vs) ∧ d = .tup ds ∧ Dts K H0 vs ds
structure WalkD (K : PySem.W.Frag) (J : It) (xs : List D) (H0 : Hp) : Prop where
  goes : ∀ i H, i < xs.length → Ex H0 H → J.go i H
  stops : ∀ H, Ex H0 H → J.stop xs.length H
  yields : ∀ i H x H' d, xs[i]? = some d → Ex H0 H → J.yld i H x H' → YD K H0 d H x H'
theorem WalkD.mono {K : PySem.W.Frag} {J : It} {xs : List D} {H0 H0' : Hp} (w : WalkD K J xs H0) (x : Ex H0 H0') : WalkD K J xs H0' :=
  ⟨fun i H hi e => w.goes i H hi (x.trans e), fun H e => w.stops H (x.trans e), fun i H y H' d hi e q => by
    rcases w.yields i H y H' d hi (x.trans e) q with ⟨h1, h2⟩ | ⟨p, vs, ds, h1, h2, h3, h4, h5⟩
    · exact .inl ⟨h1, h2.mono x⟩
    · exact .inr ⟨p, vs, ds, h1, h2, h3, h4, h5.mono x⟩⟩
/-- what a turn gives is known -/
theorem YD.sd {K : PySem.W.Frag} {T : Th} {H00 H0 H H' : Hp} {σ : L2.St} {δ : Den} {d : D} {x : V} (y : YD K H00 d H x H') (e : Ex H00 H0) (S : Sd K T H0 H σ δ) :
    ∃ H0', Ex H0 H0' ∧ Sd K T H0' H' σ δ ∧ Dt K H0' x d := by
  rcases y with ⟨rfl, h⟩ | ⟨p, vs, ds, rfl, hp, rfl, rfl, h⟩
  · exact ⟨H0, Ex.refl _, S, h.mono e⟩
  · exact ⟨_, S.layEx hp, S.lay hp, .tup (st_of upd_same) (h.mono (e.trans (S.layEx hp)))⟩
abbrev GI := Den → Option (List D × Den)
def DIv (K : PySem.W.Frag) (wi : TI) (g : GI) : Prop := ∀ (T : Th) δ xs δ', g δ = some (xs, δ') → ∀ H0 H σ, Sd K T H0 H σ δ →
  ∀ R : It → Hp → Prop, (∀ J H0' H', Ex H0 H0' → Sd K T H0' H' σ δ' → WalkD K J xs H0' → R J H') → wi σ H R
def PDI (X : Cx) (tg it : Expr) (g : GI) : Prop := ∃ wi, PI X tg it wi ∧ DIv X.K wi g
/-- the items of a list, a tuple, a text -/
def chs (z : Str) : List D := z.cps.toList.map fun c => .str ⟨#[c]⟩
def dWalk : D → Option (List D)
  | .lst xs => some xs
  | .tup xs => some xs
  | .str z => some (chs z)
  | .frl xs => some xs
  | _ => none
def gIt (g : GE) : GI := fun δ => match g δ with
  | some (d, δ') => (match dWalk d with
    | some xs => some (xs, δ')
    | none => none)
  | none => none
theorem gIt_some {g : GE} {δ δ' : Den} {xs : List D} (h : gIt g δ = some (xs, δ')) : ∃ d, g δ = some (d, δ') ∧ dWalk d = some xs := by
  unfold gIt at h
  split at h
  · rename_i d δ1 e
    split at h
    · rename_i ys e'
      cases h
      exact ⟨d, e, e'⟩
    · cases h
  · cases h
theorem PI.or {X : Cx} {tg it : Expr} {w1 w2 : TI} (h1 : PI X tg it w1) (h2 : PI X tg it w2) : PI X tg it (fun σ H R => w1 σ H R ∨ w2 σ H R) :=
  ⟨fun pins s σ H R I h => h.elim (h1.run pins s σ H R I) (h2.run pins s σ H R I)⟩
section
variable {K : PySem.W.Frag}
theorem walkD_list {a : Addr} {xs : List V} {ds : List D} {H0 : Hp} (h : SqL K H0 a xs) (t : Dts K H0 xs ds) : WalkD K (Itl K a) ds H0 :=
  ⟨fun i H hi e => walk_list.goes i H (by rw [t.length]; exact hi) (ex_l e h), fun H e => by rw [← t.length]; exact walk_list.stops H (ex_l e h), fun i H x H' d hd e y => by
    have hi : i < xs.length := by rw [t.length]; exact (List.getElem?_eq_some_iff.mp hd).1
    obtain ⟨h1, h2⟩ := walk_list.yields i H x H' hi (ex_l e h) y
    obtain ⟨v, h3, h4⟩ := t.get hd
    rw [h2] at h3; cases h3
    exact .inl ⟨h1, h4⟩⟩
theorem walkD_tup {a : Addr} {xs : List V} {ds : List D} {H0 : Hp} (h : SqT K H0 a xs) (t : Dts K H0 xs ds) : WalkD K (Itt K a) ds H0 :=
  ⟨fun i H hi e => walk_tup.goes i H (by rw [t.length]; exact hi) (ex_t e h), fun H e => by rw [← t.length]; exact walk_tup.stops H (ex_t e h), fun i H x H' d hd e y => by
    have hi : i < xs.length := by rw [t.length]; exact (List.getElem?_eq_some_iff.mp hd).1
    obtain ⟨h1, h2⟩ := walk_tup.yields i H x H' hi (ex_t e h) y
    obtain ⟨v, h3, h4⟩ := t.get hd
    rw [h2] at h3; cases h3
    exact .inl ⟨h1, h4⟩⟩
theorem walkD_str {z : Str} {H0 : Hp} : WalkD K (Its z) (chs z) H0 :=
  ⟨fun i H hi e => walk_str.goes i H (by simpa [chs] using hi) trivial, fun H e => by
    have := (walk_str (z := z)).stops H trivial
    simpa [chs] using this, fun i H x H' d hd e y => by
    have hi : i < z.cps.size := by
      have := (List.getElem?_eq_some_iff.mp hd).1
      simpa [chs] using this
    obtain ⟨h1, c, h2, h3⟩ := walk_str.yields i H x H' hi trivial y
    unfold chs at hd
    rw [List.getElem?_map, Array.getElem?_toList, h2] at hd
    cases hd
    subst h3
    exact .inl ⟨h1, .str _⟩⟩
def rngD (lo : Int) (n : Nat) : List D := (List.range n).map fun i => .int (lo + (i : Nat))
theorem walkD_range {lo : Int} {n : Nat} {H0 : Hp} : WalkD K (Itr lo n) (rngD lo n) H0 :=
  ⟨fun i H hi e => walk_range.goes i H (by simpa [rngD] using hi) trivial, fun H e => by
    have := (walk_range (lo := lo) (n := n)).stops H trivial
    simpa [rngD] using this, fun i H x H' d hd e y => by
    have hi : i < n := by
      have := (List.getElem?_eq_some_iff.mp hd).1
      simpa [rngD] using this
    obtain ⟨h1, h2⟩ := walk_range.yields i H x H' hi trivial y
    unfold rngD at hd
    rw [List.getElem?_map, List.getElem?_range hi] at hd
    cases hd
    subst h2
    exact .inl ⟨h1, .int _⟩⟩
/-- pairs of two walks' items -/
def zipD (xs ys : List D) : List D := List.zipWith (fun a b => .tup [a, b]) xs ys
theorem zipD_len (xs ys : List D) : (zipD xs ys).length = min xs.length ys.length := by simp [zipD]
theorem zipD_get {xs ys : List D} {i : Nat} {d : D} (h : (zipD xs ys)[i]? = some d) : ∃ a b, xs[i]? = some a ∧ ys[i]? = some b ∧ d = .tup [a, b] := by
  unfold zipD at h
  rw [List.getElem?_zipWith] at h
  cases e1 : xs[i]? <;> cases e2 : ys[i]? <;> rw [e1, e2] at h <;> cases h
  exact ⟨_, _, rfl, rfl, rfl⟩
end
section
variable {X : Cx} {tg e : Expr} {g : GE}
theorem pdi_val (he : PDE X e g) : PDI X tg e (gIt g) := by
  obtain ⟨te, p1, p2⟩ := he
  refine ⟨_, PI.or (pi_list p1) (PI.or (pi_tup p1) (pi_str p1)), fun T δ xs δ' e H0 H σ S R q => ?_⟩
  obtain ⟨d, e1, e2⟩ := gIt_some e
  cases d with
  | lst ys =>
    cases e2
    refine .inl (p2 T δ _ δ' e1 H0 H σ S _ fun v H0' H' x S' r => ?_)
    cases r with
    | @lst a vs ds h t => exact ⟨a, rfl, ⟨vs, sq_of (S'.ex _ _ h)⟩, q _ H0' H' x S' (walkD_list (sq_of h) t)⟩
  | frl ys =>
    cases e2
    refine .inl (p2 T δ _ δ' e1 H0 H σ S _ fun v H0' H' x S' r => ?_)
    cases r with
    | @frl a vs ds h t => exact ⟨a, rfl, ⟨vs, ex_l S'.ex h⟩, q _ H0' H' x S' (walkD_list h t)⟩
  | tup ys =>
    cases e2
    refine .inr (.inl (p2 T δ _ δ' e1 H0 H σ S _ fun v H0' H' x S' r => ?_))
    cases r with
    | @tup a vs ds h t => exact ⟨a, rfl, ⟨vs, ex_t S'.ex h⟩, q _ H0' H' x S' (walkD_tup h t)⟩
  | str z =>
    cases e2
    refine .inr (.inr (p2 T δ _ δ' e1 H0 H σ S _ fun v H0' H' x S' r => ?_))
    cases r
    exact ⟨z, rfl, q _ H0' H' x S' walkD_str⟩
  | _ => cases e2
def small (i : Int) : Bool := decide (-(2 ^ 62) ≤ i) && decide (i < 2 ^ 62)
theorem small_iff {i : Int} (h : small i = true) : -(2 ^ 62) ≤ i ∧ i < 2 ^ 62 := by simpa [small] using h
def gRg1 (ga : GA) : GI := fun δ => match ga δ with
  | some ([.int j], δ') => if small j = true then some (rngD 0 j.toNat, δ') else none
  | _ => none
def gRg2 (ga : GA) : GI := fun δ => match ga δ with
  | some ([.int i, .int j], δ') => if small i = true ∧ small j = true then some (rngD i (j - i).toNat, δ') else none
  | _ => none
theorem pdi_rng1 {a : Expr} {ga : GA} {p pos : Pos} (hm : X.mg "range" = none) (ha : PDA X [a] ga) (hg : Gl X "range" := by rfl) (hs : starEach [a] X.env = [(false, eval a X.env)] := by rfl) : PDI X tg (.Call (.Name "range" p) [a] [] pos) (gRg1 ga) := by
  obtain ⟨t, a1, a2⟩ := ha
  refine ⟨_, pi_range1 hg hm a1 hs, fun T δ xs δ' e H0 H σ S R q => ?_⟩
  unfold gRg1 at e
  split at e
  · rename_i j δ1 e1
    obtain ⟨hj, e⟩ := ite_some e
    cases e
    refine a2 T δ _ δ' e1 H0 H σ S _ fun vs H01 H1 x1 S1 r => ?_
    obtain ⟨v, rfl, r1⟩ := dts_one r
    cases r1
    exact ⟨j, rfl, (small_iff hj).1, (small_iff hj).2, q _ H01 H1 x1 S1 walkD_range⟩
  · cases e
theorem pdi_rng2 {a b : Expr} {ga : GA} {p pos : Pos} (hm : X.mg "range" = none) (ha : PDA X [a, b] ga) (hg : Gl X "range" := by rfl) (hs : starEach [a, b] X.env = [(false, eval a X.env), (false, eval b X.env)] := by rfl) (hs2 : starEach [b] X.env = [(false, eval b X.env)] := by rfl) :
    PDI X tg (.Call (.Name "range" p) [a, b] [] pos) (gRg2 ga) := by
  obtain ⟨t, a1, a2⟩ := ha
  refine ⟨_, pi_range2 hg hm a1 hs hs2, fun T δ xs δ' e H0 H σ S R q => ?_⟩
  unfold gRg2 at e
  split at e
  · rename_i i j δ1 e1
    obtain ⟨⟨hi, hj⟩, e⟩ := ite_some e
    cases e
    refine a2 T δ _ δ' e1 H0 H σ S _ fun vs H01 H1 x1 S1 r => ?_
    obtain ⟨v, w, rfl, r1, r2⟩ := dts_two r
    cases r1
    cases r2
    exact ⟨i, j, rfl, ⟨(small_iff hi).1, (small_iff hi).2, (small_iff hj).1, (small_iff hj).2⟩, q _ H01 H1 x1 S1 walkD_range⟩
  · cases e
end

/-! ### comprehensions -/
def wipeD (δ : Den) : List Nat → Den
  | [] => δ
  | v :: vs => (wipeD δ vs).set v .no
/-- the names of the block as they were before -/
def backD (δ1 δ2 : Den) : List Nat → Den
  | [] => δ2
  | v :: vs => (backD δ1 δ2 vs).set v (δ1[v]?.getD .no)
def notOw (δ : Den) (vs : List Nat) : Bool := vs.all fun v => match δ[v]? with
  | some (.ow _ _) => false
  | none => false
  | _ => true
theorem wipeD_length (δ : Den) : ∀ vs : List Nat, (wipeD δ vs).length = δ.length
  | [] => rfl
  | v :: vs => by unfold wipeD; rw [List.length_set, wipeD_length δ vs]
theorem backD_length (δ1 δ : Den) : ∀ vs : List Nat, (backD δ1 δ vs).length = δ.length
  | [] => rfl
  | v :: vs => by unfold backD; rw [List.length_set, backD_length δ1 δ vs]
theorem Sd.wipe {K : PySem.W.Frag} {T : Th} {H0 H : Hp} {σ : L2.St} {δ : Den} (S : Sd K T H0 H σ δ) : ∀ vs, Sd K T H0 H (L2.wipe σ vs) (wipeD δ vs)
  | [] => S
  | v :: vs => (S.wipe vs).drop
theorem wipe_out {σ : L2.St} {i : Nat} : ∀ {vs : List Nat}, i ∉ vs → (L2.wipe σ vs)[i]? = σ[i]?
  | [], _ => rfl
  | v :: vs, h => by
    unfold L2.wipe
    rw [List.getElem?_set_ne (fun z => h (by rw [z]; simp)), wipe_out (fun z => h (by simp [z]))]
theorem backD_out {δ1 δ2 : Den} {i : Nat} : ∀ {vs : List Nat}, i ∉ vs → (backD δ1 δ2 vs)[i]? = δ2[i]?
  | [], _ => rfl
  | v :: vs, h => by
    unfold backD
    rw [List.getElem?_set_ne (fun z => h (by rw [z]; simp)), backD_out (fun z => h (by simp [z]))]
theorem backD_in {δ1 δ2 : Den} {i : Nat} (hl : i < δ2.length) : ∀ {vs : List Nat}, i ∈ vs → (backD δ1 δ2 vs)[i]? = some (δ1[i]?.getD .no)
  | v :: vs, h => by
    unfold backD
    by_cases z : v = i
    · subst z
      rw [List.getElem?_set_self (by rw [backD_length]; exact hl)]
    · rw [List.getElem?_set_ne z]
      exact backD_in hl (by simpa [Ne.symm z] using h)
theorem Sd.unwipe {K : PySem.W.Frag} {T : Th} {H0 H H0' H' : Hp} {σ σ2 : L2.St} {δ1 δ2 : Den} {vs : List Nat} (S : Sd K T H0 H σ δ1) (x : Ex H0 H0') (S2 : Sd K T H0' H' σ2 δ2) (hw : L2.wipe σ2 vs = L2.wipe σ vs) (hn : notOw δ1 vs = true) :
    Sd K T H0' H' σ (backD δ1 δ2 vs) := by
  have len : δ2.length = δ1.length := by
    have := congrArg List.length hw
    rw [wipe_length, wipe_length, S2.len, S.len] at this
    exact this
  have no : ∀ v ∈ vs, ∀ l ds, (backD δ1 δ2 vs)[v]? ≠ some (.ow l ds) := fun v hv l ds e => by
    have q := List.all_eq_true.mp hn v hv
    by_cases hl : v < δ2.length
    · rw [backD_in hl hv] at e
      cases z : δ1[v]? with
      | none => rw [z] at e; cases e
      | some u =>
        rw [z] at e q
        cases e
        cases q
    · rw [List.getElem?_eq_none (by rw [backD_length]; omega)] at e; cases e
  refine ⟨S2.ex, by rw [backD_length, len]; exact S.len, fun i d e => ?_, fun i l ds e => ?_, fun i j li lj di dj p e1 e2 e3 e4 => ?_, S2.fr, S2.nw, S2.e0, S2.inn, S2.inH⟩
  · by_cases hi : i ∈ vs
    · by_cases hl : i < δ2.length
      · rw [backD_in hl hi] at e
        cases z : δ1[i]? with
        | none => rw [z] at e; cases e
        | some u =>
          rw [z] at e
          cases e
          obtain ⟨v, h1, h2⟩ := S.pl i d z
          exact ⟨v, h1, h2.mono x⟩
      · rw [List.getElem?_eq_none (by rw [backD_length]; omega)] at e; cases e
    · rw [backD_out hi] at e
      obtain ⟨v, h1, h2⟩ := S2.pl i d e
      exact ⟨v, by rw [← wipe_out hi, ← hw, wipe_out hi]; exact h1, h2⟩
  · by_cases hi : i ∈ vs
    · exact absurd e (no i hi l ds)
    · rw [backD_out hi] at e
      obtain ⟨p, ws, h1, h2⟩ := S2.ow i l ds e
      exact ⟨p, ws, by rw [← wipe_out hi, ← hw, wipe_out hi]; exact h1, h2⟩
  · by_cases hi : i ∈ vs
    · exact absurd e1 (no i hi _ _)
    · by_cases hj : j ∈ vs
      · exact absurd e2 (no j hj _ _)
      · rw [backD_out hi] at e1
        rw [backD_out hj] at e2
        rw [← wipe_out hi, ← hw, wipe_out hi] at e3
        rw [← wipe_out hj, ← hw, wipe_out hj] at e4
        exact S2.ap i j li lj di dj p e1 e2 e3 e4
/-- one turn: target, test, item; the names of the block wiped again -/
def turnD (gt : GG) (gc : GT) (ge : GE) (vs : List Nat) (x : D) (a : Den × List D) : Option (Den × List D) := match gt x a.1 with
  | some δ1 => (match gc δ1 with
    | some (true, δ2) => (match ge δ2 with
      | some (d, δ3) => if a.2.length < sizeLine then some (wipeD δ3 vs, a.2 ++ [d]) else none
      | none => none)
    | some (false, δ2) => some (wipeD δ2 vs, a.2)
    | none => none)
  | none => none
def goD (gt : GG) (gc : GT) (ge : GE) (vs : List Nat) : List D → Den × List D → Option (Den × List D)
  | [], a => some a
  | x :: xs, a => (turnD gt gc ge vs x a).bind (goD gt gc ge vs xs)
def gLc (gi : GI) (gt : GG) (gc : GT) (ge : GE) (vs : List Nat) : GE := fun δ => match gi δ with
  | some (xs, δ1) => if notOw δ1 vs = true then (match goD gt gc ge vs xs (wipeD δ1 vs, []) with
    | some (δ2, ds) => some (.lst ds, backD δ1 δ2 vs)
    | none => none) else none
  | none => none
theorem wipe_of {σ σ2 : L2.St} {vs : List Nat} (hl : σ2.length = σ.length) (h : ∀ i, i ∉ vs → σ2[i]? = (L2.wipe σ vs)[i]?) : L2.wipe σ2 vs = L2.wipe σ vs := by
  apply List.ext_getElem?
  intro i
  by_cases hi : i ∈ vs
  · have key : ∀ (τ : L2.St) (ws : List Nat), i ∈ ws → (L2.wipe τ ws)[i]? = if i < τ.length then some none else none := fun τ ws => by
      induction ws with
      | nil => intro h; cases h
      | cons w ws ih =>
        intro h
        unfold L2.wipe
        by_cases z : w = i
        · subst z
          by_cases hl : w < τ.length
          · rw [List.getElem?_set_self (by rw [wipe_length]; exact hl), if_pos hl]
          · rw [List.getElem?_eq_none (by rw [List.length_set, wipe_length]; omega), if_neg hl]
        · rw [List.getElem?_set_ne z]
          exact ih (by simpa [Ne.symm z] using h)
    rw [key σ2 vs hi, key σ vs hi, hl]
  · rw [wipe_out hi, h i hi]
section
variable {X : Cx}
theorem sd_lc {K : PySem.W.Frag} {T : Th} {J : It} {xs : List D} {gt : GG} {gc : GT} {ge : GE} {vs js : List Nat} {tt : TT} {te : TE} (hj : ∀ i ∈ js, i ∈ vs) (hc : DTv K tt gc) (he : DEv K te ge) {H0 H : Hp} {σ : L2.St} {δ1 δ2 : Den} {ds : List D} (S : Sd K T H0 H σ δ1)
    (w : WalkD K J xs H0) (hn : notOw δ1 vs = true) (hgo : goD gt gc ge vs xs (wipeD δ1 vs, []) = some (δ2, ds)) {Dl : Addr} (hD : H Dl = none) {Q : VK} (q : ∀ v H0' H', Ex H0 H0' → Sd K T H0' H' σ (backD δ1 δ2 vs) → Dt K H0' v (.lst ds) → Q v H') :
    ∃ W : Nat → Nat → Hp → Prop, (∃ m, W 0 m (upd H Dl (.lst []))) ∧ ∀ i m H, W i m H →
      (J.stop i H ∧ Q (.ref Dl) H) ∨ (J.go i H ∧ ∃ Nx : Hp → Prop, (∀ H', Nx H' → ∃ m', m' < m ∧ W (i + 1) m' H') ∧ ∀ x H', J.yld i H x H' → rdG K gt js x (L2.wipe σ vs) H' fun σ2 H2 => L2.wipe σ2 vs = L2.wipe σ vs ∧ tt σ2 H2 fun b H3 =>
        if b = true then te σ2 H3 fun y H4 => ∃ acc, H4 Dl = some (.lst acc) ∧ acc.length < sizeLine ∧ Nx (upd H4 Dl (.lst (acc ++ [y]))) else Nx H3) := by
  have hED : T.He Dl = none := S.freshE hD
  have hID : Dl ∉ T.IN := fun z => S.inH Dl z hD
  -- the word at turn i
  let Pv : Nat → Hp → Prop := fun i H' => ∃ H0' δc acc dacc, Ex H0 H0' ∧ Sd K T H0' H' (L2.wipe σ vs) δc ∧ H' Dl = some (.lst acc) ∧ H0' Dl = none ∧ ¬ Held (L2.wipe σ vs) δc Dl ∧ Dts K H0' acc dacc ∧ goD gt gc ge vs (xs.drop i) (δc, dacc) = some (δ2, ds)
  refine ⟨fun i m H' => m = xs.length - i ∧ i ≤ xs.length ∧ Pv i H', ⟨_, rfl, Nat.zero_le _, H0, wipeD δ1 vs, [], [], Ex.refl _, (S.wipe vs).layUn hD, upd_same, S.fresh0 hD, fun ⟨i, l, es, e1, e2⟩ => ?_, .nil, by rw [List.drop_zero]; exact hgo⟩, ?_⟩
  · obtain ⟨p, us, h1, h2, h3, _⟩ := (S.wipe vs).ow i l es e1
    rw [e2] at h1; cases h1
    rw [hD] at h3; cases h3
  rintro i m Hc ⟨rfl, hi, H0c, δc, acc, dacc, x0, Sc, hl, h0, hh, ha, hg⟩
  by_cases hlt : i < xs.length
  · refine .inr ⟨w.goes i Hc hlt (x0.trans Sc.ex), Pv (i + 1), fun H' p => ⟨xs.length - (i + 1), by omega, rfl, hlt, p⟩, fun x H' y => ?_⟩
    have hx : xs[i]? = some xs[i] := by simp [hlt]
    have hY := w.yields i Hc x H' xs[i] hx (x0.trans Sc.ex) y
    -- within the turn
    obtain ⟨H0y, xy, Sy, ry⟩ := hY.sd x0 Sc.re
    rw [List.drop_eq_getElem_cons hlt] at hg
    unfold goD at hg
    obtain ⟨⟨δn, daccn⟩, h1, h2⟩ := Option.bind_eq_some_iff.mp hg
    unfold turnD at h1
    split at h1
    · rename_i δa ea
      refine dgv_rd _ _ δc δa ea x H0y H' _ Sy ry _ fun H0z Hz σ2 xz S2 o2 => ?_
      replace xy := xy.trans xz
      have ew : L2.wipe σ2 vs = L2.wipe σ vs := wipe_of (by rw [o2.1, wipe_length]) fun i hi => o2.2 i fun z => hi (hj i z)
      refine ⟨ew, ?_⟩
      -- what a turn's end gives
      have fin : ∀ {H0e He' : Hp} {δe : Den}, Ex H0z H0e → Sd K (T.re H0c Hc (L2.wipe σ vs) δc) H0e He' σ2 δe → Sd K T H0e He' (L2.wipe σ vs) (wipeD δe vs) ∧ He' Dl = some (.lst acc) ∧ H0e Dl = none ∧ ¬ Held (L2.wipe σ vs) (wipeD δe vs) Dl := fun {H0e He' δe} xe Se => by
        have Se' := Se.wipe vs
        rw [ew] at Se'
        obtain ⟨k1, k2, k3⟩ := Se'.keeps hl h0 hh hID
        exact ⟨Sc.back Se', k1, k2, k3⟩
      split at h1
      · rename_i δb eb
        refine hc _ δa true δb eb H0z Hz σ2 S2 _ fun H03 H3 x3 S3 => ?_
        rw [if_pos rfl]
        split at h1
        · rename_i d δe ee
          obtain ⟨hz, h1⟩ := ite_some h1
          cases h1
          refine he _ δb d δe ee H03 H3 σ2 S3 _ fun v H04 H4 x4 S4 r4 => ?_
          obtain ⟨f1, f2, f3, f4⟩ := fin (x3.trans x4) S4
          refine ⟨acc, f2, by rw [ha.length]; exact hz, H04, wipeD δe vs, acc ++ [v], dacc ++ [d], x0.trans (xy.trans (x3.trans x4)), f1.mutUn f3 f4 hED, upd_same, f3, f4, (ha.mono (xy.trans (x3.trans x4))).append (.cons r4 .nil), h2⟩
        · cases h1
      · rename_i δb eb
        cases h1
        refine hc _ δa false δb eb H0z Hz σ2 S2 _ fun H03 H3 x3 S3 => ?_
        rw [if_neg (by decide)]
        obtain ⟨f1, f2, f3, f4⟩ := fin x3 S3
        exact ⟨H03, wipeD δb vs, acc, dacc, x0.trans (xy.trans x3), f1, f2, f3, f4, ha.mono (xy.trans x3), h2⟩
      · cases h1
    · cases h1
  · have e : i = xs.length := by omega
    subst e
    rw [List.drop_length] at hg
    cases hg
    refine .inl ⟨w.stops Hc (x0.trans Sc.ex), ?_⟩
    have hn0 : H0c Dl = none := h0
    -- the new list is known from here on
    have S' := S.unwipe x0 Sc (wipe_of (by rw [wipe_length]) fun i hi => rfl) hn
    have x1 : Ex H0c (upd H0c Dl (.lst acc)) := Ex.new h0
    refine q _ (upd H0c Dl (.lst acc)) Hc (x0.trans x1) ?_ (.lst upd_same (ha.mono x1))
    refine ⟨fun a u q => ?_, S'.len, fun j d' q => ?_, fun j l' ds' q => ?_, S'.ap, S'.fr, fun a u q => ?_, S'.e0.trans x1, fun p hp => ?_, S'.inH⟩
    · by_cases z : a = Dl
      · subst z; rw [upd_same] at q; rw [hl]; exact q
      · rw [upd_ne z] at q; exact S'.ex a u q
    · obtain ⟨v, g1, g2⟩ := S'.pl j d' q
      exact ⟨v, g1, g2.mono x1⟩
    · obtain ⟨r, us, g1, g2, g3, g4, g5⟩ := S'.ow j l' ds' q
      have nr : r ≠ Dl := fun z => by
        by_cases hv : j ∈ vs
        · have n := List.all_eq_true.mp hn j hv
          have hlen : j < δ2.length := by
            have := (List.getElem?_eq_some_iff.mp q).1
            rw [backD_length] at this; exact this
          rw [backD_in hlen hv] at q
          cases zz : δ1[j]? with
          | none => rw [zz] at q; cases q
          | some u => rw [zz] at q n; cases q; cases n
        · rw [backD_out hv] at q
          exact hh ⟨j, l', ds', q, by rw [wipe_out hv, ← z]; exact g1⟩
      exact ⟨r, us, g1, by rw [upd_ne nr]; exact g2, g3, g4.mono x1, g5⟩
    · by_cases z : a = Dl
      · rw [z]; exact .inr hED
      · rw [upd_ne z] at q; exact S'.nw a u q
    · rw [upd_ne (fun z => hID (by rw [← z]; exact hp))]; exact S'.inn p hp
theorem dev_lc {K : PySem.W.Frag} {wi : TI} {gi : GI} {gt : GG} {gc : GT} {ge : GE} {vs js : List Nat} {tt : TT} {te : TE} (hj : ∀ i ∈ js, i ∈ vs) (hi : DIv K wi gi) (hc : DTv K tt gc) (he : DEv K te ge) :
    DEv K (tLc wi (rdG K gt js) tt te vs) (gLc gi gt gc ge vs) := fun T δ d δ' e H0 H σ S Q q => by
  unfold gLc at e
  split at e
  · rename_i xs δ1 e1
    obtain ⟨hn, e⟩ := ite_some e
    split at e
    · rename_i δ2 ds e2
      cases e
      refine hi T δ xs δ1 e1 H0 H σ S _ fun J H01 H1 x1 S1 w => ?_
      intro Dl hD
      exact sd_lc hj hc he S1 w hn e2 hD fun v H0' H' x S' r => q v H0' H' (x1.trans x) S' r
    · cases e
  · cases e
def gYes : GT := fun δ => some (true, δ)
def PDTs (X : Cx) (ifs : List Expr) (g : GT) : Prop := PTs X ifs (rdT X.K g)
theorem pdts_nil : PDTs X [] gYes := ⟨fun pins s σ H Q I ⟨T, δ, d, δ', H0, e, S, q⟩ => by
  cases e
  exact pts_nil.run pins s σ H Q I (q H0 H (Ex.refl _) S)⟩
theorem pdts_one {c : Expr} {g : GT} (h : PDT X c g) : PDTs X [c] g := pts_one h.rd
abbrev InBlk (X : Cx) (scope : Scope) (P : Cx → Prop) : Prop := ∀ (s : Shared) (H : Hp) (C : Addr) (cl : List (Str × Addr)) (fp : List Addr), P (X.blk s H scope (compEnvC scope cl C X.env) fp)
theorem pd_lc {elt tg iter : Expr} {ifs : List Expr} {scope : Scope} (own : List (Str × Nat)) {pos : Pos} {gi : GI} {gt : GG} {gc : GT} {ge : GE} {js : List Nat} (hc : X.calm = true) (hN : X.N.Nodup) (hi : PDI X tg iter gi)
    (hg : InBlk X scope fun Y => PDG Y tg gt js) (ht : InBlk X scope fun Y => PDTs Y ifs gc) (he : InBlk X scope fun Y => PDE Y elt ge)
    (ok : blkC X.N X.env.scope scope own = true := by rfl) (hj : ∀ i ∈ js, i ∈ own.map (·.2) := by decide) (hs : ∀ x, foldedSetIterable iter X.env x = pure x := by intro _; rfl) :
    PDE X (.ListComp elt [⟨tg, iter, ifs, 0⟩] scope pos) (gLc gi gt gc ge (own.map (·.2))) := by
  obtain ⟨wi, i1, i2⟩ := hi
  exact ⟨_, pe_lc (g := rdG X.K gt js) (tt := rdT X.K gc) (te := rdE X.K ge) hc hN i1 (blkOk_by ok) hg ht (fun s H C cl fp => (he s H C cl fp).rd) hs, dev_lc hj i2 dtv_rd dev_rd⟩
end
end Dx
set_option Elab.async false
set_option linter.all false
set_option maxRecDepth 100000
set_option maxHeartbeats 4000000
namespace Dx
open PySem PySem.Spec PyProof.Rows L2 Evl
/-! ### statements -/
inductive Out where
  | nx (δ : Den) | rt (d : D) (δ : Den) | bk (δ : Den) | ct (δ : Den) | ex (c f : Str) (v : D) (δ : Den)
abbrev GS := Den → Option Out
/-- what is wanted behind an outcome -/
def Hit (K : PySem.W.Frag) (T : Th) (H0 : Hp) (E : Ends) (W : WX) : Out → Prop
  | .nx δ' => ∀ H0' H' σ', Ex H0 H0' → Sd K T H0' H' σ' δ' → E.nx σ' H'
  | .rt d δ' => ∀ v H0' H' σ', Ex H0 H0' → Sd K T H0' H' σ' δ' → Dt K H0' v d → E.rt v H'
  | .bk δ' => ∀ H0' H' σ', Ex H0 H0' → Sd K T H0' H' σ' δ' → E.bk σ' H'
  | .ct δ' => ∀ H0' H' σ', Ex H0 H0' → Sd K T H0' H' σ' δ' → E.ct σ' H'
  | .ex c f v δ' => ∀ H0' H' σ' dd fs u, Ex H0 H0' → Sd K T H0' H' σ' δ' → H' dd = some (.xd fs) → fs.lookup f = some u → Dt K H0' u v → W (.ref (He.ga K c)) (some dd) σ' H'
theorem Hit.mono {K : PySem.W.Frag} {T : Th} {H0 H0' : Hp} {E : Ends} {W : WX} {o : Out} (h : Hit K T H0 E W o) (x : Ex H0 H0') : Hit K T H0' E W o := by
  cases o with
  | nx δ => exact fun H01 H1 σ1 x1 S1 => h H01 H1 σ1 (x.trans x1) S1
  | rt d δ => exact fun v H01 H1 σ1 x1 S1 r => h v H01 H1 σ1 (x.trans x1) S1 r
  | bk δ => exact fun H01 H1 σ1 x1 S1 => h H01 H1 σ1 (x.trans x1) S1
  | ct δ => exact fun H01 H1 σ1 x1 S1 => h H01 H1 σ1 (x.trans x1) S1
  | ex c f v δ => exact fun H01 H1 σ1 dd fs u x1 S1 => h H01 H1 σ1 dd fs u (x.trans x1) S1
def DSv (K : PySem.W.Frag) (W : WX) (t : TS) (g : GS) : Prop := ∀ (T : Th) δ o, g δ = some o → ∀ H0 H σ, Sd K T H0 H σ δ → ∀ E : Ends, Hit K T H0 E W o → t E σ H
def PDS (X : Cx) (W : WX) (st : Stmt) (g : GS) : Prop := ∃ t, PS X st t ∧ DSv X.K W t g
def PDSs (X : Cx) (W : WX) (sts : List Stmt) (g : GS) : Prop := ∃ t, PSs X sts t ∧ DSv X.K W t g
section
variable {X : Cx} {W : WX} {st : Stmt} {rest : List Stmt} {e c : Expr} {pos : Pos} {g h : GS} {ge : GE}
def gsNil : GS := fun δ => some (.nx δ)
def gsCons (g h : GS) : GS := fun δ => match g δ with
  | some (.nx δ1) => h δ1
  | o => o
theorem pdss_nil : PDSs X W [] gsNil := ⟨_, pss_nil, fun T δ o e H0 H σ S E q => by
  cases e
  exact q H0 H σ (Ex.refl _) S⟩
theorem dsv_seq {K : PySem.W.Frag} {t u : TS} (ht : DSv K W t g) (hu : DSv K W u h) : DSv K W (tSeq t u) (gsCons g h) := fun T δ o e H0 H σ S E q => by
  unfold gsCons at e
  cases e1 : g δ with
  | none => rw [e1] at e; cases e
  | some o1 =>
    rw [e1] at e
    cases o1 with
    | nx δ1 =>
      refine ht T δ _ e1 H0 H σ S _ fun H01 H1 σ1 x1 S1 => ?_
      exact hu T δ1 o e H01 H1 σ1 S1 E (q.mono x1)
    | rt d δ1 => cases e; exact ht T δ _ e1 H0 H σ S _ q
    | bk δ1 => cases e; exact ht T δ _ e1 H0 H σ S _ q
    | ct δ1 => cases e; exact ht T δ _ e1 H0 H σ S _ q
    | ex c f v δ1 => cases e; exact ht T δ _ e1 H0 H σ S _ q
theorem pdss_cons (h1 : PDS X W st g) (h2 : PDSs X W rest h) : PDSs X W (st :: rest) (gsCons g h) := by
  obtain ⟨t, a1, a2⟩ := h1
  obtain ⟨u, b1, b2⟩ := h2
  exact ⟨_, pss_cons a1 b1, dsv_seq a2 b2⟩
theorem pds_pass : PDS X W (.Pass pos) gsNil := ⟨_, ps_pass, fun T δ o e H0 H σ S E q => by
  cases e
  exact q H0 H σ (Ex.refl _) S⟩
def gsBk : GS := fun δ => some (.bk δ)
def gsCt : GS := fun δ => some (.ct δ)
theorem pds_break : PDS X W (.Break pos) gsBk := ⟨_, ps_break, fun T δ o e H0 H σ S E q => by
  cases e
  exact q H0 H σ (Ex.refl _) S⟩
theorem pds_cont : PDS X W (.Continue pos) gsCt := ⟨_, ps_continue, fun T δ o e H0 H σ S E q => by
  cases e
  exact q H0 H σ (Ex.refl _) S⟩
/-- return -/
def gsRet (ge : GE) : GS := fun δ => match ge δ with
  | some (d, δ') => some (.rt d δ')
  | none => none
theorem pds_ret (he : PDE X e ge) : PDS X W (.Return (some e) pos) (gsRet ge) := by
  obtain ⟨t, a1, a2⟩ := he
  refine ⟨_, ps_ret a1, fun T δ o e H0 H σ S E q => ?_⟩
  unfold gsRet at e
  split at e
  · rename_i d δ1 e1
    cases e
    exact a2 T δ d δ1 e1 H0 H σ S _ fun v H01 H1 x1 S1 r => q v H01 H1 σ x1 S1 r
  · cases e
def gsRetN : GS := fun δ => some (.rt .non δ)
theorem pds_retN : PDS X W (.Return none pos) gsRetN := ⟨_, ps_retN, fun T δ o e H0 H σ S E q => by
  cases e
  exact q .non H0 H σ (Ex.refl _) S .non⟩
/-- an expression whose value is not kept -/
def gsDrop (ge : GE) : GS := fun δ => match ge δ with
  | some (_, δ') => some (.nx δ')
  | none => none
theorem pds_drop (he : PDE X e ge) (hs : swapsWith e none pos.line X.env = pure false := by rfl) : PDS X W (.Expr e pos) (gsDrop ge) := by
  obtain ⟨t, a1, a2⟩ := he
  refine ⟨_, ps_expr a1 hs, fun T δ o e H0 H σ S E q => ?_⟩
  unfold gsDrop at e
  split at e
  · rename_i d δ1 e1
    cases e
    exact a2 T δ d δ1 e1 H0 H σ S _ fun v H01 H1 x1 S1 r => q H01 H1 σ x1 S1
  · cases e
/-- target = value -/
def gsAsg (ge : GE) (gt : GG) : GS := fun δ => match ge δ with
  | some (d, δ1) => (match gt d δ1 with
    | some δ2 => some (.nx δ2)
    | none => none)
  | none => none
theorem dsv_asg {K : PySem.W.Frag} {te : TE} {tg : TG} {gt : GG} {js : List Nat} (ht : DEv K te ge) (hg : DGv K tg gt js) : DSv K W (tAsg te tg) (gsAsg ge gt) := fun T δ o e H0 H σ S E q => by
  unfold gsAsg at e
  split at e
  · rename_i d δ1 e1
    split at e
    · rename_i δ2 e2
      cases e
      refine ht T δ d δ1 e1 H0 H σ S _ fun v H01 H1 x1 S1 r => ?_
      exact hg T d δ1 δ2 e2 v H01 H1 σ S1 r _ fun H02 H2 σ' x2 S' _ => q H02 H2 σ' (x1.trans x2) S'
    · cases e
  · cases e
theorem dgv_name {K : PySem.W.Frag} {i : Nat} : DGv K (gName i) (gNm i) [i] := fun T d δ δ' e v H0 H σ S r Q q => by
  cases e
  exact q _ _ _ (Ex.refl _) (S.put r) ⟨by simp, fun j hj => List.getElem?_set_ne (fun z => hj (by simp [z]))⟩
theorem pds_set (i : Nat) {x : Str} {pos' : Pos} (hN : X.N.Nodup) (he : PDE X e ge) (hi : X.N[i]? = some x := by rfl) (hx : Loc X.env.scope x := by first | exact Or.inl rfl | exact Or.inr rfl)
    (hs : swapsWith e (some (.Name x pos')) pos.line X.env = pure false := by rfl) (hf : X.fn x = true ∨ X.env.scope.names.lookup x = some .local := by first | exact .inl rfl | exact .inr rfl) : PDS X W (.Assign [.Name x pos'] e pos) (gsAsg ge (gNm i)) := by
  obtain ⟨t, a1, a2⟩ := he
  exact ⟨_, ps_set hN hi hx a1 hs hf, dsv_asg a2 dgv_name⟩
theorem pds_asg {tg : Expr} {gt : GG} {js : List Nat} (he : PDE X e ge) (hg : PDG X tg gt js) (hs : swapsWithSole [tg] e pos.line X.env = pure false := by rfl) (hw : swappedStores [tg] e X.env = pure none := by rfl)
    (h1 : (assignEach [tg] X.env).map (·.2) = [assign tg X.env] := by rfl) : PDS X W (.Assign [tg] e pos) (gsAsg ge gt) := by
  obtain ⟨t, a1, a2⟩ := he
  exact ⟨_, ps_asg a1 hg hs hw h1, dsv_asg a2 dgv_rd⟩
/-- name = [.. for ..] on one line -/
theorem pds_setLc (i : Nat) {y : Str} {py : Pos} {elt tg iter : Expr} {ifs : List Expr} {scope : Scope} (own : List (Str × Nat)) {lpos spos : Pos} {gi : GI} {gt : GG} {gc : GT} {js : List Nat} (hc : X.calm = true) (hN : X.N.Nodup) (hi : PDI X tg iter gi)
    (hg : InBlk X scope fun Y => PDG Y tg gt js) (ht : InBlk X scope fun Y => PDTs Y ifs gc) (he : InBlk X scope fun Y => PDE Y elt ge)
    (hy : X.N[i]? = some y := by rfl) (hyl : X.env.scope.names.lookup y = some .local := by rfl) (hsw : swapsWith (.ListComp elt [⟨tg, iter, ifs, 0⟩] scope lpos) (some (.Name y py)) spos.line X.env = pure true := by rfl)
    (ok : blkC X.N X.env.scope scope own = true := by rfl) (hj : ∀ i ∈ js, i ∈ own.map (·.2) := by decide) (hs : ∀ x, foldedSetIterable iter X.env x = pure x := by intro _; rfl) :
    PDS X W (.Assign [.Name y py] (.ListComp elt [⟨tg, iter, ifs, 0⟩] scope lpos) spos) (gsAsg (gLc gi gt gc ge (own.map (·.2))) (gNm i)) := by
  obtain ⟨wi, i1, i2⟩ := hi
  exact ⟨_, ps_setLc (g := rdG X.K gt js) (tt := rdT X.K gc) (te := rdE X.K ge) hc hN hy hyl hsw i1 (blkOk_by ok) hg ht (fun s H C cl fp => (he s H C cl fp).rd) hs, dsv_asg (dev_lc hj i2 dtv_rd dev_rd) dgv_name⟩
/-- a, b = x, y -/
def gsPar (i j : Nat) (ga : GA) : GS := fun δ => match ga δ with
  | some ([a, b], δ1) => some (.nx ((δ1.set i (.pl a)).set j (.pl b)))
  | _ => none
theorem pds_par (i j : Nat) {x y : Str} {a b : Expr} {ga : GA} {px py pt : Pos} {kt k2 pt2} (hc : X.calm = true) (hN : X.N.Nodup) (ha : PDA X [a, b] ga) (hi : X.N[i]? = some x := by rfl) (hj : X.N[j]? = some y := by rfl) (hij : i ≠ j := by decide)
    (hx : X.env.scope.names.lookup x = some .local := by rfl) (hy : X.env.scope.names.lookup y = some .local := by rfl)
    (hw : swappedStores [.Tuple [.Name x px, .Name y py] kt pt] (.Tuple [a, b] k2 pt2) X.env = pure (some [x, y]) := by with_unfolding_all rfl)
    (hs : swapsWithSole [.Tuple [.Name x px, .Name y py] kt pt] (.Tuple [a, b] k2 pt2) pos.line X.env = pure false := by rfl) : PDS X W (.Assign [.Tuple [.Name x px, .Name y py] kt pt] (.Tuple [a, b] k2 pt2) pos) (gsPar i j ga) := by
  obtain ⟨t, a1, a2⟩ := ha
  refine ⟨_, ps_par hc hN hi hj hij hx hy a1 hw hs, fun T δ o e H0 H σ S E q => ?_⟩
  unfold gsPar at e
  split at e
  · rename_i a b δ1 e1
    cases e
    refine a2 T δ _ δ1 e1 H0 H σ S _ fun vs H01 H1 x1 S1 r => ?_
    obtain ⟨v, w, rfl, r1, r2⟩ := dts_two r
    exact ⟨v, w, rfl, q H01 H1 _ x1 ((S1.put r1).put r2)⟩
  · cases e
theorem dts_three {K : PySem.W.Frag} {H : Hp} {xs : List V} {d e f : D} (h : Dts K H xs [d, e, f]) : ∃ u v w, xs = [u, v, w] ∧ Dt K H u d ∧ Dt K H v e ∧ Dt K H w f := by
  cases h with
  | cons h t =>
    obtain ⟨v, w, rfl, h2, h3⟩ := dts_two t
    exact ⟨_, _, _, rfl, h, h2, h3⟩
def gsPar3 (i j l : Nat) (ga : GA) : GS := fun δ => match ga δ with
  | some ([a, b, c], δ1) => some (.nx (((δ1.set i (.pl a)).set j (.pl b)).set l (.pl c)))
  | _ => none
theorem pds_par3 (i j l : Nat) {x y z : Str} {a b c : Expr} {ga : GA} {px py pz pt : Pos} {kt k2 pt2} (hc : X.calm = true) (hN : X.N.Nodup) (ha : PDA X [a, b, c] ga) (hi : X.N[i]? = some x := by rfl) (hj : X.N[j]? = some y := by rfl) (hl : X.N[l]? = some z := by rfl)
    (hij : i ≠ j := by decide) (hil : i ≠ l := by decide) (hjl : j ≠ l := by decide)
    (hx : X.env.scope.names.lookup x = some .local := by rfl) (hy : X.env.scope.names.lookup y = some .local := by rfl) (hz : X.env.scope.names.lookup z = some .local := by rfl)
    (hw : swappedStores [.Tuple [.Name x px, .Name y py, .Name z pz] kt pt] (.Tuple [a, b, c] k2 pt2) X.env = pure (some [x, y, z]) := by with_unfolding_all rfl)
    (hs : swapsWithSole [.Tuple [.Name x px, .Name y py, .Name z pz] kt pt] (.Tuple [a, b, c] k2 pt2) pos.line X.env = pure false := by rfl) :
    PDS X W (.Assign [.Tuple [.Name x px, .Name y py, .Name z pz] kt pt] (.Tuple [a, b, c] k2 pt2) pos) (gsPar3 i j l ga) := by
  obtain ⟨t, a1, a2⟩ := ha
  refine ⟨_, ps_par3 hc hN hi hj hl hij hil hjl hx hy hz a1 hw hs, fun T δ o e H0 H σ S E q => ?_⟩
  unfold gsPar3 at e
  split at e
  · rename_i a b c δ1 e1
    cases e
    refine a2 T δ _ δ1 e1 H0 H σ S _ fun vs H01 H1 x1 S1 r => ?_
    obtain ⟨u, v, w, rfl, r1, r2, r3⟩ := dts_three r
    exact ⟨u, v, w, rfl, q H01 H1 _ x1 (((S1.put r1).put r2).put r3)⟩
  · cases e
/-- if -/
def gsIf (t : GT) (g h : GS) : GS := fun δ => match t δ with
  | some (true, δ') => g δ'
  | some (false, δ') => h δ'
  | none => none
theorem pds_if {a b : List Stmt} {t : GT} (hc : PDT X c t) (ha : PDSs X W a g) (hb : PDSs X W b h) : PDS X W (.If c a b pos) (gsIf t g h) := by
  obtain ⟨tc, c1, c2⟩ := hc
  obtain ⟨ta, a1, a2⟩ := ha
  obtain ⟨tb, b1, b2⟩ := hb
  refine ⟨_, ps_if c1 a1 b1, fun T δ o e H0 H σ S E q => ?_⟩
  unfold gsIf at e
  split at e
  · rename_i δ1 e1
    refine c2 T δ true δ1 e1 H0 H σ S _ fun H01 H1 x1 S1 => ?_
    show ta E σ H1
    exact a2 T δ1 o e H01 H1 σ S1 E (q.mono x1)
  · rename_i δ1 e1
    refine c2 T δ false δ1 e1 H0 H σ S _ fun H01 H1 x1 S1 => ?_
    show tb E σ H1
    exact b2 T δ1 o e H01 H1 σ S1 E (q.mono x1)
  · cases e
/-- for -/
def forD (gt : GG) (gb : GS) : List D → Den → Option Out
  | [], δ => some (.nx δ)
  | x :: xs, δ => match gt x δ with
    | some δ1 => (match gb δ1 with
      | some (.nx δ2) => forD gt gb xs δ2
      | some (.ct δ2) => forD gt gb xs δ2
      | some (.bk δ2) => some (.nx δ2)
      | some (.rt d δ2) => some (.rt d δ2)
      | some (.ex c f v δ2) => some (.ex c f v δ2)
      | none => none)
    | none => none
def gsFor (gi : GI) (gt : GG) (gb : GS) : GS := fun δ => match gi δ with
  | some (xs, δ1) => forD gt gb xs δ1
  | none => none
theorem dsv_for {K : PySem.W.Frag} {wi : TI} {gi : GI} {gt : GG} {gb : GS} {js : List Nat} {tb : TS} (hi : DIv K wi gi) (hb : DSv K W tb gb) : DSv K W (tFor wi (rdG K gt js) tb) (gsFor gi gt gb) := fun T δ o e H0 H σ S E q => by
  unfold gsFor at e
  split at e
  · rename_i xs δ1 e1
    refine hi T δ xs δ1 e1 H0 H σ S _ fun J H01 H1 x1 S1 w => ?_
    let Pv : Nat → L2.St → Hp → Prop := fun i σ' H' => ∃ H0' δ', Ex H01 H0' ∧ Sd K T H0' H' σ' δ' ∧ forD gt gb (xs.drop i) δ' = some o
    refine ⟨fun i m σ' H' => m = xs.length - i ∧ i ≤ xs.length ∧ Pv i σ' H', ⟨_, rfl, Nat.zero_le _, H01, δ1, Ex.refl _, S1, by rw [List.drop_zero]; exact e⟩, ?_⟩
    rintro i m σ' H' ⟨rfl, hi, H0', δ', x', S', hg⟩
    by_cases hlt : i < xs.length
    · refine .inr ⟨w.goes i H' hlt (x'.trans S'.ex), Pv (i + 1), fun σ2 H2 p => ⟨xs.length - (i + 1), by omega, rfl, hlt, p⟩, fun x H2 y => ?_⟩
      have hx : xs[i]? = some xs[i] := by simp [hlt]
      obtain ⟨H0y, xy, Sy, ry⟩ := (w.yields i H' x H2 xs[i] hx (x'.trans S'.ex) y).sd x' S'
      rw [List.drop_eq_getElem_cons hlt] at hg
      unfold forD at hg
      split at hg
      · rename_i δa ea
        refine dgv_rd T _ δ' δa ea x H0y H2 _ Sy ry _ fun H0z Hz σ3 xz S3 _ => ?_
        replace xy := xy.trans xz
        split at hg
        · rename_i δb eb
          exact hb T δa _ eb H0z Hz σ3 S3 _ fun H04 H4 σ4 x4 S4 => ⟨H04, δb, x'.trans (xy.trans x4), S4, hg⟩
        · rename_i δb eb
          exact hb T δa _ eb H0z Hz σ3 S3 _ fun H04 H4 σ4 x4 S4 => ⟨H04, δb, x'.trans (xy.trans x4), S4, hg⟩
        · rename_i δb eb
          cases hg
          exact hb T δa _ eb H0z Hz σ3 S3 _ fun H04 H4 σ4 x4 S4 => q H04 H4 σ4 (x1.trans (x'.trans (xy.trans x4))) S4
        · rename_i d δb eb
          cases hg
          exact hb T δa _ eb H0z Hz σ3 S3 _ fun v H04 H4 σ4 x4 S4 r => q v H04 H4 σ4 (x1.trans (x'.trans (xy.trans x4))) S4 r
        · rename_i c f d δb eb
          cases hg
          exact hb T δa _ eb H0z Hz σ3 S3 _ fun H04 H4 σ4 dd fs u x4 S4 => q H04 H4 σ4 dd fs u (x1.trans (x'.trans (xy.trans x4))) S4
        · cases hg
      · cases hg
    · have e2 : i = xs.length := by omega
      subst e2
      rw [List.drop_length] at hg
      cases hg
      exact .inl ⟨w.stops H' (x'.trans S'.ex), q H0' H' σ' (x1.trans x') S'⟩
  · cases e
theorem pds_for {tg iter : Expr} {body : List Stmt} {gi : GI} {gt : GG} {gb : GS} {js : List Nat} (hp : PassesOwn (model X.prog X.w) X.A X.env X.xe) (hc : X.calm = true) (hi : PDI X tg iter gi) (hg : PDG X tg gt js) (hb : PDSs X W body gb)
    (hs : ∀ x, foldedSetIterable iter X.env x = pure x := by intro _; rfl) : PDS X W (.For tg iter body [] pos) (gsFor gi gt gb) := by
  obtain ⟨wi, i1, i2⟩ := hi
  obtain ⟨tb, b1, b2⟩ := hb
  exact ⟨_, ps_for hp hc i1 hg b1 hs, dsv_for i2 b2⟩

/-! ### own lists -/
def hasV (δ : Den) (i : Nat) : Bool := match δ[i]? with
  | some (.pl _) => true
  | some (.ow _ _) => true
  | _ => false
theorem Sd.hasV {K : PySem.W.Frag} {T : Th} {H0 H : Hp} {σ : L2.St} {δ : Den} {i : Nat} (S : Sd K T H0 H σ δ) (h : hasV δ i = true) : ∃ v, σ[i]? = some (some v) := by
  unfold Dx.hasV at h
  split at h
  · rename_i d e
    obtain ⟨v, h1, _⟩ := S.pl i d e
    exact ⟨v, h1⟩
  · rename_i l ds e
    obtain ⟨p, vs, h1, _⟩ := S.ow i l ds e
    exact ⟨_, h1⟩
  · cases h
/-- o[i] where o is a name, known or own -/
def gIxN (i : Nat) (gb : GE) : GE := fun δ => if hasV δ i = true then (match gb δ with
  | some (d, δ') => (match δ'[i]? with
    | some (.pl a) => (match dIx a d with
      | some r => some (r, δ')
      | none => none)
    | some (.ow _ ds) => (match dIx (.lst ds) d with
      | some r => some (r, δ')
      | none => none)
    | _ => none)
  | none => none) else none
theorem pd_ixN (i : Nat) {x : Str} {b : Expr} {px : Pos} {gb : GE} (hb : PDE X b gb) (hN : X.N[i]? = some x := by rfl) (hv : Vis X.env.scope x := by first | exact Or.inl rfl | exact Or.inr (Or.inl rfl) | exact Or.inr (Or.inr rfl)) (hd : (x == ("__debug__" : Str)) = false := by decide)
    (hcd : (x == ("__classdict__" : Str)) = false := by decide) (hs : PlainIx b := by exact fun _ _ => rfl) : PDE X (.Subscript (.Name x px) b pos) (gIxN i gb) := by
  obtain ⟨tb, b1, b2⟩ := hb
  refine ⟨_, pe_ix ix_seq (pv i hN hv hd hcd) b1 hs, fun T δ d δ' e H0 H σ S Q q => ?_⟩
  obtain ⟨hh, e⟩ := ite_some e
  obtain ⟨u, hu⟩ := S.hasV hh
  refine ⟨u, hu, ?_⟩
  split at e
  · rename_i j δ1 e1
    refine b2 T δ j δ1 e1 H0 H σ S _ fun v H01 H1 x1 S1 r => ?_
    split at e
    · rename_i a ea
      split at e
      · rename_i r0 er
        cases e
        obtain ⟨u', h1, h2⟩ := S1.pl i a ea
        rw [hu] at h1; cases h1
        exact opv_ix T H01 H1 σ _ S1 u v a j _ h2 r er Q fun w H02 H2 x2 S2 r2 => q w H02 H2 (x1.trans x2) S2 r2
      · cases e
    · rename_i l ds ea
      split at e
      · rename_i r0 er
        cases e
        obtain ⟨p, vs, h1, h2, h3, h4, _⟩ := S1.ow i l ds ea
        rw [hu] at h1; cases h1
        cases r with
        | int k =>
          obtain ⟨w, g1, g2⟩ := dts_atI h4 er
          exact .inl ⟨p, vs, k, w, rfl, rfl, sq_of h3, g1, q w H01 H1 x1 S1 g2⟩
        | _ => cases er
      · cases e
    · cases e
  · cases e
/-- o[j] = e, o an own list -/
def gsSetIx (i : Nat) (ge gj : GE) : GS := fun δ => match ge δ with
  | some (d, δ1) => (match gj δ1 with
    | some (.int k, δ2) => (match δ2[i]? with
      | some (.ow l ds) => (match ixN ds.length k with
        | some j => if hasV δ1 i = true then some (.nx (δ2.set i (.ow l (ds.set j d)))) else none
        | none => none)
      | _ => none)
    | _ => none)
  | none => none
theorem pds_setIx (i : Nat) {x : Str} {px ps : Pos} {j : Expr} {gj : GE} (he : PDE X e ge) (hj : PDE X j gj) (hN : X.N[i]? = some x := by rfl) (hv : Vis X.env.scope x := by first | exact Or.inl rfl | exact Or.inr (Or.inl rfl) | exact Or.inr (Or.inr rfl)) (hd : (x == ("__debug__" : Str)) = false := by decide)
    (hcd : (x == ("__classdict__" : Str)) = false := by decide)
    (ha : ∀ v, assign (.Subscript (.Name x px) j ps) X.env v = (do
      let ov ← holding [v] (eval (.Name x px) X.env)
      let iv ← holding [v, ov] (eval j X.env)
      standAt ps
      holding [v, ov, iv] (setItem ov iv v)
      release [v, ov, iv] []) := by intro _; rfl)
    (hs : swapsWithSole [.Subscript (.Name x px) j ps] e pos.line X.env = pure false := by rfl) (hw : swappedStores [.Subscript (.Name x px) j ps] e X.env = pure none := by rfl)
    (h1 : (assignEach [.Subscript (.Name x px) j ps] X.env).map (·.2) = [assign (.Subscript (.Name x px) j ps) X.env] := by rfl) : PDS X W (.Assign [.Subscript (.Name x px) j ps] e pos) (gsSetIx i ge gj) := by
  obtain ⟨te, a1, a2⟩ := he
  obtain ⟨tj, b1, b2⟩ := hj
  refine ⟨_, ps_asg a1 (pg_sub (pv i hN hv hd hcd) b1 set_list ha) hs hw h1, fun T δ o e H0 H σ S E q => ?_⟩
  unfold gsSetIx at e
  split at e
  · rename_i d δ1 e1
    split at e
    · rename_i k δ2 e2
      split at e
      · rename_i l ds e3
        split at e
        · rename_i j' e4
          obtain ⟨hh, e⟩ := ite_some e
          cases e
          refine a2 T δ d δ1 e1 H0 H σ S _ fun v H01 H1 x1 S1 r1 => ?_
          obtain ⟨u, hu⟩ := S1.hasV hh
          refine ⟨u, hu, ?_⟩
          refine b2 T δ1 _ δ2 e2 H01 H1 σ S1 _ fun w H02 H2 x2 S2 r2 => ?_
          cases r2
          obtain ⟨p, vs, g1, g2, g3, g4, _⟩ := S2.ow i l ds e3
          rw [hu] at g1; cases g1
          refine ⟨p, vs, k, j', rfl, rfl, g3, by rw [g4.length]; exact e4, ?_⟩
          exact q H02 _ σ (x1.trans x2) (S2.chg e3 hu (Dts.set (r1.mono x2) j' g4))
        · cases e
      · cases e
    · cases e
  · cases e
/-- o.append(e), o an own list -/
def isOw (δ : Den) (i : Nat) : Bool := match δ[i]? with
  | some (.ow _ _) => true
  | _ => false
def gsApp (i : Nat) (ge : GE) : GS := fun δ => if isOw δ i = true then (match ge δ with
  | some (d, δ1) => (match δ1[i]? with
    | some (.ow l ds) => if ds.length < sizeLine then some (.nx (δ1.set i (.ow l (ds ++ [d])))) else none
    | _ => none)
  | none => none) else none
theorem pds_app (i : Nat) {x : Str} {px apos cpos : Pos} (he : PDE X e ge) (hN : X.N[i]? = some x := by rfl) (hv : Vis X.env.scope x := by first | exact Or.inl rfl | exact Or.inr (Or.inl rfl) | exact Or.inr (Or.inr rfl)) (hd : (x == ("__debug__" : Str)) = false := by decide)
    (hcd : (x == ("__classdict__" : Str)) = false := by decide) (hbase : attributeBase (.Name x px) "append" X.env (eval (.Name x px) X.env) = eval (.Name x px) X.env := by rfl)
    (hfew : ((backTo cpos (starEach [e] X.env)).all (fun x => !x.1) && (backToKw cpos (keywordEach [] X.env)).all (fun x => x.1.isSome)
      && decide (([e] : List Expr).length + ([] : List Keyword).length + (if ([] : List Keyword).isEmpty then 0 else 1) < 30)) = true := by rfl)
    (hline : (apos.endLine == cpos.line) = true := by rfl) (hs : starEach [e] X.env = (false, eval e X.env) :: starEach [] X.env := by rfl) (hplain : (backTo cpos (starEach [] X.env)).any (·.1) = false := by rfl)
    (hsw : swapsWith (.Call (.Attribute (.Name x px) "append" apos) [e] [] cpos) none pos.line X.env = pure false := by rfl) : PDS X W (.Expr (.Call (.Attribute (.Name x px) "append" apos) [e] [] cpos) pos) (gsApp i ge) := by
  obtain ⟨te, a1, a2⟩ := he
  refine ⟨_, ps_expr (pe_bm PySem.F.plainAttrs_list PySem.F.slot_list_append PySem.F.type_list_append mt_append (pv i hN hv hd hcd) (pa_cons a1 pa_nil hs) hbase hfew hline hs hplain) hsw, fun T δ o e H0 H σ S E q => ?_⟩
  obtain ⟨hh, e⟩ := ite_some e
  obtain ⟨u, hu, ty⟩ : ∃ u, σ[i]? = some (some u) ∧ tyV X.K "list" u H := by
    unfold isOw at hh
    split at hh
    · rename_i l ds e0
      obtain ⟨p, vs, h1, _, h3, _⟩ := S.ow i l ds e0
      exact ⟨_, h1, .inl ⟨rfl, vs, sq_of h3⟩⟩
    · cases hh
  split at e
  · rename_i d δ1 e1
    split at e
    · rename_i l ds e3
      obtain ⟨hz, e⟩ := ite_some e
      cases e
      refine ⟨u, hu, ty, ?_⟩
      refine a2 T δ d δ1 e1 H0 H σ S _ fun v H01 H1 x1 S1 r1 => ?_
      obtain ⟨p, vs, g1, g2, g3, g4, _⟩ := S1.ow i l ds e3
      rw [hu] at g1; cases g1
      refine ⟨p, vs, v, rfl, rfl, g3, by rw [g4.length]; exact hz, ?_⟩
      exact q H01 _ σ x1 (S1.chg e3 hu (g4.append (.cons r1 .nil)))
    · cases e
  · cases e
/-- an own list is known from here on -/
def gsFrz (i : Nat) (g : GS) : GS := fun δ => match δ[i]? with
  | some (.ow true ds) => g (δ.set i (.pl (.lst ds)))
  | _ => g δ
theorem pdss_frz (i : Nat) (h : PDSs X W rest g) : PDSs X W rest (gsFrz i g) := by
  obtain ⟨t, a1, a2⟩ := h
  refine ⟨t, a1, fun T δ o e H0 H σ S E q => ?_⟩
  unfold gsFrz at e
  split at e
  · rename_i ds e1
    obtain ⟨H0', x, S'⟩ := S.freeze e1
    exact a2 T _ o e H0' H σ S' E (q.mono x)
  · exact a2 T _ o e H0 H σ S E q
/-- name = [..], an own list from here on -/
def gsNew (i : Nat) (ga : GA) : GS := fun δ => match ga δ with
  | some (ds, δ') => if ds.length ≤ sizeLine then some (.nx (δ'.set i (.ow true ds))) else none
  | none => none
theorem pds_new (i : Nat) {x : Str} {pos' lp : Pos} {es : List Expr} {ga : GA} (hN : X.N.Nodup) (he : PDA X es ga) (hi : X.N[i]? = some x := by rfl) (hx : Loc X.env.scope x := by first | exact Or.inl rfl | exact Or.inr rfl)
    (hs : swapsWith (.List es lp) (some (.Name x pos')) pos.line X.env = pure false := by rfl) (hf : X.fn x = true ∨ X.env.scope.names.lookup x = some .local := by first | exact .inl rfl | exact .inr rfl) : PDS X W (.Assign [.Name x pos'] (.List es lp) pos) (gsNew i ga) := by
  obtain ⟨t, a1, a2⟩ := he
  refine ⟨_, ps_set hN hi hx (pe_lst a1) hs hf, fun T δ o e H0 H σ S E q => ?_⟩
  unfold gsNew at e
  split at e
  · rename_i ds δ1 e1
    obtain ⟨hz, e⟩ := ite_some e
    cases e
    refine a2 T δ ds δ1 e1 H0 H σ S _ fun vs H01 H1 x1 S1 r1 => ⟨by rw [r1.length]; exact hz, fun p hp => ?_⟩
    exact q H01 _ _ x1 (S1.putOw hp r1)
  · cases e
end
end Dx
set_option Elab.async false
set_option linter.all false
set_option maxRecDepth 100000
set_option maxHeartbeats 4000000
namespace Dx
open PySem PySem.Spec PyProof.Rows L2 Evl
/-! ### what a def promises by data -/
/-- what a call adds to what is known lies where nothing lay -/
def Fr (H0 H H0' : Hp) : Prop := ∀ a o, H0' a = some o → H0 a = some o ∨ H a = none
/-- nothing that stands is changed -/
def spP (K : PySem.W.Frag) (n : Nat) (g : List D → Option D) : Sp := fun vs H Q _ => vs.length = n ∧ ∃ H0 ds d, Ex H0 H ∧ Dts K H0 vs ds ∧ g ds = some d ∧
  ∀ v H0' H', Ex H0 H0' → Ex H0' H' → Ex H H' → Fr H0 H H0' → Dt K H0' v d → Q v H'
/-- the first argument is a list that is changed -/
def spB (K : PySem.W.Frag) (n : Nat) (g : List D → List D → Option (D × List D)) : Sp := fun vs H Q _ => vs.length = n ∧ ∃ H0 b us bs ws ds d bs', vs = .ref b :: ws ∧ Ex H0 H ∧ H0 b = none ∧ H b = some (.lst us) ∧ Dts K H0 us bs ∧ Dts K H0 ws ds ∧ g bs ds = some (d, bs') ∧
  ∀ v H0' H' us', Ex H0 H0' → Ex H0' H' → (∀ a o, a ≠ b → H a = some o → H' a = some o) → Fr H0 H H0' → H' b = some (.lst us') → Dts K H0' us' bs' → Dt K H0' v d → Q v H'
/-- nothing is raised -/
def W0 : WX := fun _ _ _ _ => False
def den0 (n : Nat) (ds : List D) : Den := ds.map Ent.pl ++ List.replicate (n - ds.length) .no
def denB (n : Nat) (bs ds : List D) : Den := .ow false bs :: (ds.map Ent.pl ++ List.replicate (n - (ds.length + 1)) .no)
def gOf (n : Nat) (gs : GS) : List D → Option D := fun ds => match gs (den0 n ds) with
  | some (.rt d _) => some d
  | some (.nx _) => some .non
  | _ => none
def box (δ : Den) : Option (List D) := match (δ[0]? : Option Ent) with
  | some (Ent.ow false bs) => some bs
  | _ => none
def gOfB (n : Nat) (gs : GS) : List D → List D → Option (D × List D) := fun bs ds => match gs (denB n bs ds) with
  | some (.rt d δ) => (box δ).map fun bs' => (d, bs')
  | some (.nx δ) => (box δ).map fun bs' => (.non, bs')
  | _ => none
theorem Dts.getPl {K : PySem.W.Frag} {H : Hp} {vs : List V} {ds : List D} (h : Dts K H vs ds) {i : Nat} {d : D} {r : List Ent} (hr : ∀ e ∈ r, e = Ent.no) (e : (ds.map Ent.pl ++ r)[i]? = some (.pl d)) : ∃ v, vs[i]? = some v ∧ Dt K H v d := by
  by_cases hi : i < ds.length
  · rw [List.getElem?_append_left (by simpa using hi), List.getElem?_map] at e
    obtain ⟨d', h1, h2⟩ := Option.map_eq_some_iff.mp e
    cases h2
    exact h.get h1
  · rw [List.getElem?_append_right (by simpa using hi)] at e
    exact nomatch hr _ (List.mem_of_getElem? e)
theorem noOw {ds : List D} {r : List Ent} (hr : ∀ e ∈ r, e = Ent.no) {i : Nat} {l bs} (e : (ds.map Ent.pl ++ r)[i]? = some (.ow l bs)) : False := by
  rcases List.mem_append.mp (List.mem_of_getElem? e) with h | h
  · obtain ⟨d, _, h⟩ := List.mem_map.mp h
    cases h
  · exact nomatch hr _ h
theorem rep_no {n : Nat} : ∀ e ∈ List.replicate n Ent.no, e = Ent.no := fun e h => (List.mem_replicate.mp h).2
section
variable {K : PySem.W.Frag} {H0 H : Hp} {vs ws : List V} {ds bs : List D} {N : List Str}
/-- a body's begin -/
theorem sd_start (x : Ex H0 H) (h : Dts K H0 vs ds) : Sd K ⟨H, H0, []⟩ H0 H (L2.start N vs) (den0 N.length ds) := by
  refine ⟨x, ?_, fun i d e => ?_, fun i l bs e => (noOw rep_no e).elim, fun i j li lj di dj p e1 _ _ _ => (noOw rep_no e1).elim, fun a o e _ => e, fun a o e => .inl e, Ex.refl _, fun p hp => absurd hp (by simp), fun p hp => absurd hp (by simp)⟩
  · unfold L2.start den0
    simp [h.length]
  · obtain ⟨v, h1, h2⟩ := h.getPl rep_no e
    refine ⟨v, ?_, h2⟩
    have hi := (List.getElem?_eq_some_iff.mp h1).1
    unfold L2.start
    rw [List.getElem?_append_left (by simpa using hi), List.getElem?_map, h1]
    rfl
theorem sd_startB {b : Addr} {us : List V} (x : Ex H0 H) (hb0 : H0 b = none) (hb : H b = some (.lst us)) (hu : Dts K H0 us bs) (h : Dts K H0 ws ds) : Sd K ⟨H, H0, [b]⟩ H0 H (L2.start N (.ref b :: ws)) (denB N.length bs ds) := by
  have key : ∀ {i : Nat} {l es}, (denB N.length bs ds)[i]? = some (.ow l es) → i = 0 ∧ l = false ∧ es = bs := fun {i l es} e => by
    cases i with
    | zero => unfold denB at e; simp at e; exact ⟨rfl, e.1, e.2.symm⟩
    | succ i => exact (noOw rep_no (show (ds.map Ent.pl ++ List.replicate (N.length - (ds.length + 1)) .no)[i]? = some (.ow l es) from e)).elim
  refine ⟨x, ?_, fun i d e => ?_, fun i l es e => ?_, fun i j li lj di dj p e1 e2 _ _ => (key e1).1.trans (key e2).1.symm, fun a o e _ => e, fun a o e => .inl e, Ex.refl _, fun p hp => ?_, fun p hp => ?_⟩
  · unfold L2.start denB
    simp [h.length]
  · cases i with
    | zero => unfold denB at e; simp at e
    | succ i =>
      obtain ⟨v, h1, h2⟩ := h.getPl rep_no (show (ds.map Ent.pl ++ List.replicate (N.length - (ds.length + 1)) .no)[i]? = some (.pl d) from e)
      refine ⟨v, ?_, h2⟩
      have hi := (List.getElem?_eq_some_iff.mp h1).1
      unfold L2.start
      rw [List.getElem?_append_left (by simpa using hi), List.getElem?_map, List.getElem?_cons_succ, h1]
      rfl
  · obtain ⟨rfl, rfl, rfl⟩ := key e
    exact ⟨b, us, rfl, hb0, hb, hu, fun _ => List.mem_singleton.mpr rfl, fun z => by cases z⟩
  · rw [List.mem_singleton.mp hp]; exact hb0
  · rw [List.mem_singleton.mp hp, hb]; simp
/-- a body's end -/
theorem Sd.endP {H0' H' : Hp} {σ : L2.St} {δ : Den} (S : Sd K ⟨H, H0, []⟩ H0' H' σ δ) : Ex H H' ∧ Fr H0 H H0' := ⟨fun a o e => S.fr a o e (by simp), S.nw⟩
end
section
variable {P : Program} {w : World} {K : PySem.W.Frag} {mg : Str → Option Value} {base : Heap} {x qual : Str} {params : Arguments} {body : List Stmt} {scope : Scope} {dvs : List V} {kws : List (Str × V)} {f : Addr} {fd : FuncData} {N ps : List Str} {k : Nat} {gs : GS}
theorem fnP (F : FunD K x qual params body scope dvs kws f fd) (S : FnScope N ps scope) (hb : ∀ (cdv : Value) (A : Around) (outer : List Env) (s : Shared) (H : Hp) (E : XK), Room k (A.deeper (envOfC qual scope s.heap.objs.size f cdv)) →
    PDSs (cxOf CX0 P w K mg base N qual scope f cdv A outer s H E).nox W0 body gs) : FnOk P w K mg base CX0 (k + 1) f fd ps (spP K ps.length (gOf N.length gs)) := by
  refine F.ok S (fun vs H Q E h => h.1) fun cdv A outer s H vs Q E hr h => ?_
  obtain ⟨t, p1, p2⟩ := hb cdv A outer s H E hr
  refine ⟨t, p1.nox, ?_⟩
  obtain ⟨hl, H0, ds, d, x0, hd, hg, q⟩ := h
  unfold gOf at hg
  have S0 := sd_start (N := N) x0 hd
  split at hg
  · rename_i d' δ e
    cases hg
    exact p2 _ _ _ e H0 H _ S0 _ fun v H0' H' σ' x S' r => q v H0' H' x S'.ex S'.endP.1 S'.endP.2 r
  · rename_i δ e
    cases hg
    exact p2 _ _ _ e H0 H _ S0 _ fun H0' H' σ' x S' => q .non H0' H' x S'.ex S'.endP.1 S'.endP.2 .non
  · cases hg
theorem box_some {δ : Den} {bs : List D} (h : box δ = some bs) : δ[0]? = some (.ow false bs) := by
  unfold box at h
  split at h
  · rename_i bs' e
    cases h
    exact e
  · cases h
theorem fnB (F : FunD K x qual params body scope dvs kws f fd) (S : FnScope N ps scope) (hb : ∀ (cdv : Value) (A : Around) (outer : List Env) (s : Shared) (H : Hp) (E : XK), Room k (A.deeper (envOfC qual scope s.heap.objs.size f cdv)) →
    PDSs (cxOf CX0 P w K mg base N qual scope f cdv A outer s H E).nox W0 body gs) : FnOk P w K mg base CX0 (k + 1) f fd ps (spB K ps.length (gOfB N.length gs)) := by
  refine F.ok S (fun vs H Q E h => h.1) fun cdv A outer s H vs Q E hr h => ?_
  obtain ⟨t, p1, p2⟩ := hb cdv A outer s H E hr
  refine ⟨t, p1.nox, ?_⟩
  obtain ⟨hl, H0, b, us, bs, ws, ds, d, bs', rfl, x0, hb0, hbH, hu, hd, hg, q⟩ := h
  have S0 := sd_startB (N := N) x0 hb0 hbH hu hd
  have fin : ∀ {H0' H' : Hp} {σ' : L2.St} {δ : Den} {v : V}, Ex H0 H0' → Sd K ⟨H, H0, [b]⟩ H0' H' σ' δ → box δ = some bs' → Dt K H0' v d → Q v H' := fun {H0' H' σ' δ v} x S' e r => by
    obtain ⟨p, us', h1, h2, h3, h4, h5, _⟩ := S'.ow 0 false bs' (box_some e)
    obtain rfl : p = b := List.mem_singleton.mp (h5 rfl)
    exact q v H0' H' us' x S'.ex (fun a o ha e => S'.fr a o e (by simpa using ha)) S'.nw h3 h4 r
  unfold gOfB at hg
  split at hg
  · rename_i d' δ e
    obtain ⟨bs2, h1, h2⟩ := Option.map_eq_some_iff.mp hg
    cases h2
    exact p2 _ _ _ e H0 H _ S0 _ fun v H0' H' σ' x S' r => fin x S' h1 r
  · rename_i δ e
    obtain ⟨bs2, h1, h2⟩ := Option.map_eq_some_iff.mp hg
    cases h2
    exact p2 _ _ _ e H0 H _ S0 _ fun H0' H' σ' x S' => fin x S' h1 .non
  · cases hg
/-- a weaker law of the same def -/
theorem FnOk.law {n : Nat} {g g' : List D → Option D} (F : FnOk P w K mg base CX0 k f fd ps (spP K n g)) (h : ∀ ds d, g' ds = some d → g ds = some d) : FnOk P w K mg base CX0 k f fd ps (spP K n g') :=
  F.imp fun vs H Q E ⟨hl, H0, ds, d, x0, hd, hg, q⟩ => ⟨hl, H0, ds, d, x0, hd, h ds d hg, q⟩
theorem FnOk.lawB {n : Nat} {g g' : List D → List D → Option (D × List D)} (F : FnOk P w K mg base CX0 k f fd ps (spB K n g)) (h : ∀ bs ds d, g' bs ds = some d → g bs ds = some d) : FnOk P w K mg base CX0 k f fd ps (spB K n g') :=
  F.imp fun vs H Q E ⟨hl, H0, b, us, bs, ws, ds, d, bs', e, x0, hb0, hbH, hu, hd, hg, q⟩ => ⟨hl, H0, b, us, bs, ws, ds, d, bs', e, x0, hb0, hbH, hu, hd, h bs ds _ hg, q⟩
end

/-! ### calls of the module's defs -/
/-- the def x, called with n values -/
structure CalP (P : Program) (w : World) (K : PySem.W.Frag) (mg : Str → Option Value) (base : Heap) (k : Nat) (x : Str) (sp : Sp) : Prop where
  ex : ∃ f, mg x = some (.ref f) ∧ PySem.W.keepIn K (.ref f) = true ∧ FnR P w K mg base CX0 k f sp
section
variable {P : Program} {w : World} {K : PySem.W.Frag} {mg : Str → Option Value} {base : Heap} {j k : Nat} {x : Str} {sp sp' : Sp}
theorem CalP.mono (c : CalP P w K mg base j x sp) (h : j ≤ k) : CalP P w K mg base k x sp := by
  obtain ⟨f, h1, h2, F⟩ := c.ex
  exact ⟨f, h1, h2, F.mono h⟩
theorem CalP.imp (c : CalP P w K mg base k x sp) (h : ∀ vs H Q E, sp' vs H Q E → sp vs H Q E) : CalP P w K mg base k x sp' := by
  obtain ⟨f, h1, h2, F⟩ := c.ex
  exact ⟨f, h1, h2, F.imp h⟩
theorem CalP.of {f : Addr} {fd : FuncData} {ps : List Str} {ds : List Value} {dvs : List V} (hm : mg x = some (.ref f)) (hk : PySem.W.keepIn K (.ref f) = true) (F : FnOk P w K mg base CX0 k f fd ps sp) (hb : Binds K fd ps ds) (hd : Vals dvs ds) :
    CalP P w K mg base k x (fun vs H Q E => sp (vs ++ dvs) H Q E) := ⟨f, hm, hk, F.raw hb hd⟩
theorem spP_dfl {n m : Nat} {g : List D → Option D} {dvs : List V} {dds : List D} (hd : ∀ H, Dts K H dvs dds) (hn : m = n + dvs.length) : ∀ vs H Q E, spP K n (fun ds => g (ds ++ dds)) vs H Q E → spP K m g (vs ++ dvs) H Q E :=
  fun vs H Q E ⟨hl, H0, ds, d, x0, h, hg, q⟩ => ⟨by rw [List.length_append, hl, hn], H0, ds ++ dds, d, x0, h.append (hd H0), hg, q⟩
end
section
variable {X : Cx} {k : Nat} {x : Str} {n : Nat} {g : List D → Option D} {gB : List D → List D → Option (D × List D)} {e a : Expr} {es : List Expr} {ga : GA} {p pos : Pos}
/-- behind a call that changes nothing -/
theorem Sd.called {K : PySem.W.Frag} {T : Th} {H0 H H0' H' : Hp} {σ : L2.St} {δ : Den} (S : Sd K T H0 H σ δ) (x0 : Ex H0 H0') (x1 : Ex H0' H') (x : Ex H H') (f : Fr H0 H H0') : Sd K T H0' H' σ δ := by
  have back : ∀ {p : Addr}, H0 p = none → H p ≠ none → H0' p = none := fun {p} h0 h => by
    cases e : H0' p with
    | none => rfl
    | some o =>
      rcases f p o e with z | z
      · rw [h0] at z; cases z
      · exact absurd z h
  refine ⟨x1, S.len, fun i d e => ?_, fun i l ds e => ?_, S.ap, fun a o e hn => x a o (S.fr a o e hn), fun a o e => ?_, S.e0.trans x0, fun p hp => back (S.inn p hp) (S.inH p hp), fun p hp h => ?_⟩
  · obtain ⟨v, h1, h2⟩ := S.pl i d e
    exact ⟨v, h1, h2.mono x0⟩
  · obtain ⟨q, vs, h1, h2, h3, h4, h5⟩ := S.ow i l ds e
    exact ⟨q, vs, h1, back h2 (by rw [h3]; simp), x q _ h3, h4.mono x0, h5⟩
  · rcases f a o e with z | z
    · exact S.nw a o z
    · exact .inr (S.freshE z)
  · cases e : H p with
    | none => exact S.inH p hp e
    | some o => rw [x p o e] at h; cases h
theorem run_cal {CXk : Nat} {sp : Sp} {pins : List (Addr × Obj)} {σ : L2.St} {H : Hp} {s : Shared} {Q : VK} {us : List Value} {vs : List V} {f : Addr} (F : FnR X.prog X.w X.K X.mg X.base CX0 CXk f sp) (hr : Room CXk X.A) (I : Inv X pins σ H s) (r : Vals vs us) (h : sp vs H Q E0) :
    wpAny (model X.prog X.w) X.A (call (.ref f) us) (EP X pins σ Q) X.xe s := wpAny_call (run_fnR F hr pass0 I r h)
def tCal (sp : Sp) (t : TA) : TE := fun σ H Q => t σ H fun vs H1 => sp vs H1 Q E0
theorem pe_cal {sp : Sp} {t : TA} (c : CalP X.prog X.w X.K X.mg X.base k x sp) (hr : Room k X.A) (ha : PA X (e :: es) t) (hg : Gl X x := by rfl) (hdb : (x == ("__debug__" : Str)) = false := by decide)
    (he : starEach (e :: es) X.env = (false, eval e X.env) :: starEach es X.env := by rfl) (hpl : (backTo pos (starEach es X.env)).any (·.1) = false := by rfl) : PE X (.Call (.Name x p) (e :: es) [] pos) (tCal sp t) := by
  obtain ⟨f, hm, hk, F⟩ := c.ex
  refine ⟨fun pins s σ H Q I h => ?_⟩
  refine wpAny_Call_Name_kw (ld_glob I hg hm ?_ hdb)
  refine PySem.W.callWith_K (h₀ := X.base) I.ok.mod.kin hk (thn (ha.run pos pins s σ H _ I h) fun us s1 ⟨vs, H1, I1, r, q⟩ => ⟨I1.kIn, ?_⟩) he hpl
  exact run_cal F hr I1 r q
theorem pe_cal0 {sp : Sp} (c : CalP X.prog X.w X.K X.mg X.base k x sp) (hr : Room k X.A) (hg : Gl X x := by rfl) (hdb : (x == ("__debug__" : Str)) = false := by decide) : PE X (.Call (.Name x p) [] [] pos) (tCal sp tNil) := by
  obtain ⟨f, hm, hk, F⟩ := c.ex
  refine ⟨fun pins s σ H Q I h => ?_⟩
  refine wpAny_Call_Name_kw (ld_glob I hg hm ?_ hdb)
  exact PySem.W.callWith_K0 I.kIn hk (run_cal (us := []) F hr I .nil h)
/-- the first argument with a star, others behind it -/
theorem args_two {M : Model} {A : Around} {E : Value → Shared → Prop} {s : Shared} {f : Value} {u v : Bool × Sem Value} {rest : List (Bool × Sem Value)} {Q : Args → Shared → Prop} (h : wpAny M A (spliced (u :: v :: rest)) (fun vs s' => Q ⟨vs, []⟩ s') E s) :
    wpAny M A (evalArgs f true (u :: v :: rest) []) Q E s := by
  have key : evalArgs f true (u :: v :: rest) [] = evalArgs f false (u :: v :: rest) [] := by
    obtain ⟨b, t⟩ := u
    cases b <;> rfl
  rw [key]
  unfold evalArgs
  show wpAny M A (spliced (u :: v :: rest) >>= _) Q E s
  refine wpAny_bind (wpAny_mono h (fun vs s' h' => ?_) fun _ _ x => x)
  exact wpAny_holding (wpAny_bind (wpAny_pure (wpAny_bind (wpAny_pure (wpAny_pure h')))))
theorem pe_calS {sp : Sp} {t : TA} {ps : Pos} (c : CalP X.prog X.w X.K X.mg X.base k x sp) (hr : Room k X.A) (ha : PA X (.Starred e ps :: a :: es) t) (hg : Gl X x := by rfl) (hdb : (x == ("__debug__" : Str)) = false := by decide)
    (he : ∃ u v r, backTo pos (starEach (.Starred e ps :: a :: es) X.env) = u :: v :: r ∧ (u :: v :: r).any (·.1) = true := by exact ⟨_, _, _, rfl, rfl⟩) : PE X (.Call (.Name x p) (.Starred e ps :: a :: es) [] pos) (tCal sp t) := by
  obtain ⟨f, hm, hk, F⟩ := c.ex
  obtain ⟨u, v, r, he, hst⟩ := he
  refine ⟨fun pins s σ H Q I h => ?_⟩
  refine wpAny_Call_Name_kw (ld_glob I hg hm ?_ hdb)
  have z := ha.run pos pins s σ H _ I h
  rw [he] at z
  show wpAny _ _ (callWith pos (.ref f) [] (backTo pos (starEach (.Starred e ps :: a :: es) X.env)) []) _ _ _
  rw [he]
  refine PySem.W.ks_call (P := fun h => X.K.In h) hst (PySem.W.keeps_K hk) (args_two (thn z fun us s1 ⟨vs, H1, I1, r, q⟩ => ⟨I1.kIn, ?_⟩))
  exact run_cal F hr I1 r q
def gCal (g : List D → Option D) (n : Nat) (ga : GA) : GE := fun δ => match ga δ with
  | some (ds, δ') => if ds.length = n then (match g ds with
    | some d => some (d, δ')
    | none => none) else none
  | none => none
theorem dev_cal {K : PySem.W.Frag} {t : TA} (ht : DAv K t ga) : DEv K (tCal (spP K n g) t) (gCal g n ga) := fun T δ d δ' e H0 H σ S Q q => by
  unfold gCal at e
  split at e
  · rename_i ds δ1 e1
    obtain ⟨hl, e⟩ := ite_some e
    split at e
    · rename_i d' e2
      cases e
      refine ht T δ ds δ' e1 H0 H σ S _ fun vs H01 H1 x1 S1 r1 => ?_
      exact ⟨by rw [r1.length]; exact hl, H01, ds, d, S1.ex, r1, e2, fun v H0' H' y0 y1 y f r => q v H0' H' (x1.trans y0) (S1.called y0 y1 y f) r⟩
    · cases e
  · cases e
theorem pd_cal (c : CalP X.prog X.w X.K X.mg X.base k x (spP X.K n g)) (hr : Room k X.A) (ha : PDA X (e :: es) ga) (hg : Gl X x := by rfl) (hdb : (x == ("__debug__" : Str)) = false := by decide)
    (he : starEach (e :: es) X.env = (false, eval e X.env) :: starEach es X.env := by rfl) (hpl : (backTo pos (starEach es X.env)).any (·.1) = false := by rfl) : PDE X (.Call (.Name x p) (e :: es) [] pos) (gCal g n ga) := by
  obtain ⟨t, a1, a2⟩ := ha
  exact ⟨_, pe_cal c hr a1 hg hdb he hpl, dev_cal a2⟩
theorem pd_cal0 (c : CalP X.prog X.w X.K X.mg X.base k x (spP X.K n g)) (hr : Room k X.A) (hg : Gl X x := by rfl) (hdb : (x == ("__debug__" : Str)) = false := by decide) : PDE X (.Call (.Name x p) [] [] pos) (gCal g n gNil) := by
  obtain ⟨t, a1, a2⟩ := (pda_nil : PDA X [] Dx.gNil)
  refine ⟨_, pe_cal0 c hr hg hdb, dev_cal (t := tNil) fun T δ ds δ' e H0 H σ S Q q => ?_⟩
  cases e
  exact q [] H0 H (Ex.refl _) S .nil
theorem pd_calS {ps : Pos} (c : CalP X.prog X.w X.K X.mg X.base k x (spP X.K n g)) (hr : Room k X.A) (ha : PDA X (.Starred e ps :: a :: es) ga) (hg : Gl X x := by rfl) (hdb : (x == ("__debug__" : Str)) = false := by decide)
    (he : ∃ u v r, backTo pos (starEach (.Starred e ps :: a :: es) X.env) = u :: v :: r ∧ (u :: v :: r).any (·.1) = true := by exact ⟨_, _, _, rfl, rfl⟩) : PDE X (.Call (.Name x p) (.Starred e ps :: a :: es) [] pos) (gCal g n ga) := by
  obtain ⟨t, a1, a2⟩ := ha
  exact ⟨_, pe_calS c hr a1 hg hdb he, dev_cal a2⟩
/-- behind a call that changed the list at b, held at the slot i -/
theorem Sd.calledB {K : PySem.W.Frag} {T : Th} {H0 H H0' H' : Hp} {σ : L2.St} {δ : Den} {i : Nat} {l : Bool} {bs bs' : List D} {b : Addr} {us' : List V} (S : Sd K T H0 H σ δ) (hδ : δ[i]? = some (.ow l bs)) (hσ : σ[i]? = some (some (.ref b)))
    (x0 : Ex H0 H0') (x1 : Ex H0' H') (x : ∀ a o, a ≠ b → H a = some o → H' a = some o) (f : Fr H0 H H0') (hb : H' b = some (.lst us')) (hu : Dts K H0' us' bs') : Sd K T H0' H' σ (δ.set i (.ow l bs')) := by
  obtain ⟨b', us, g1, g2, g3, g4, g5, g6⟩ := S.ow i l bs hδ
  rw [hσ] at g1; cases g1
  have hl : i < δ.length := (List.getElem?_eq_some_iff.mp hδ).1
  have back : ∀ {p : Addr}, H0 p = none → H p ≠ none → H0' p = none := fun {p} h0 h => by
    cases e : H0' p with
    | none => rfl
    | some o =>
      rcases f p o e with z | z
      · rw [h0] at z; cases z
      · exact absurd z h
  have tr : ∀ {m : Nat} {lm dm}, (δ.set i (.ow l bs'))[m]? = some (.ow lm dm) → ∃ lm' dm', δ[m]? = some (.ow lm' dm') := fun {m lm dm} z => by
    by_cases hm : i = m
    · subst hm; exact ⟨_, _, hδ⟩
    · rw [List.getElem?_set_ne hm] at z; exact ⟨_, _, z⟩
  refine ⟨x1, by simpa using S.len, fun j d e => ?_, fun j l' ds e => ?_, fun j k lj lk dj dk r e1 e2 e3 e4 => ?_, fun a o e hn => ?_, fun a o e => ?_, S.e0.trans x0, fun p hp => back (S.inn p hp) (S.inH p hp), fun p hp h => ?_⟩
  · have n : i ≠ j := fun z => by subst z; rw [List.getElem?_set_self hl] at e; cases e
    rw [List.getElem?_set_ne n] at e
    obtain ⟨v, h1, h2⟩ := S.pl j d e
    exact ⟨v, h1, h2.mono x0⟩
  · by_cases hj : i = j
    · subst hj
      rw [List.getElem?_set_self hl] at e
      cases e
      exact ⟨b, us', hσ, back g2 (by rw [g3]; simp), hb, hu, g5, g6⟩
    · rw [List.getElem?_set_ne hj] at e
      obtain ⟨q, vs, h1, h2, h3, h4, h5⟩ := S.ow j l' ds e
      exact ⟨q, vs, h1, back h2 (by rw [h3]; simp), x q _ (fun z => hj (S.ap i j l l' bs ds b hδ e hσ (by rw [← z]; exact h1))) h3, h4.mono x0, h5⟩
  · obtain ⟨_, _, z1⟩ := tr e1
    obtain ⟨_, _, z2⟩ := tr e2
    exact S.ap j k _ _ _ _ r z1 z2 e3 e4
  · refine x a o (fun z => ?_) (S.fr a o e hn)
    cases l with
    | false => exact hn (by rw [z]; exact g5 rfl)
    | true => rw [z, (g6 rfl).1] at e; cases e
  · rcases f a o e with z | z
    · exact S.nw a o z
    · exact .inr (S.freshE z)
  · by_cases z : p = b
    · rw [z, hb] at h; cases h
    · cases e : H p with
      | none => exact S.inH p hp e
      | some o => rw [x p o z e] at h; cases h
/-- f(o, ..), o an own list that f may change -/
def gCalB (g : List D → List D → Option (D × List D)) (n i : Nat) (ga : GA) : GE := fun δ => if isOw δ i = true then (match ga δ with
  | some (ds, δ') => (match δ'[i]? with
    | some (.ow l bs) => if ds.length + 1 = n then (match g bs ds with
      | some (d, bs') => some (d, δ'.set i (.ow l bs'))
      | none => none) else none
    | _ => none)
  | none => none) else none
theorem Sd.isOw {K : PySem.W.Frag} {T : Th} {H0 H : Hp} {σ : L2.St} {δ : Den} {i : Nat} (S : Sd K T H0 H σ δ) (h : isOw δ i = true) : ∃ p, σ[i]? = some (some (.ref p)) := by
  unfold Dx.isOw at h
  split at h
  · rename_i l ds e
    obtain ⟨p, vs, h1, _⟩ := S.ow i l ds e
    exact ⟨p, h1⟩
  · cases h
theorem pd_calB (i : Nat) {y : Str} {py : Pos} (c : CalP X.prog X.w X.K X.mg X.base k x (spB X.K n gB)) (hr : Room k X.A) (ha : PDA X es ga) (hN : X.N[i]? = some y := by rfl) (hv : Vis X.env.scope y := by first | exact Or.inl rfl | exact Or.inr (Or.inl rfl) | exact Or.inr (Or.inr rfl))
    (hd : (y == ("__debug__" : Str)) = false := by decide) (hcd : (y == ("__classdict__" : Str)) = false := by decide) (hg : Gl X x := by rfl) (hdb : (x == ("__debug__" : Str)) = false := by decide)
    (he : starEach (.Name y py :: es) X.env = (false, eval (.Name y py) X.env) :: starEach es X.env := by rfl) (hpl : (backTo pos (starEach es X.env)).any (·.1) = false := by rfl) : PDE X (.Call (.Name x p) (.Name y py :: es) [] pos) (gCalB gB n i ga) := by
  obtain ⟨t, a1, a2⟩ := ha
  refine ⟨_, pe_cal c hr (pa_cons (pv i hN hv hd hcd) a1 he) hg hdb he hpl, fun T δ d δ' e H0 H σ S Q q => ?_⟩
  obtain ⟨hh, e⟩ := ite_some e
  obtain ⟨b, hb⟩ := S.isOw hh
  refine ⟨_, hb, ?_⟩
  split at e
  · rename_i ds δ1 e1
    split at e
    · rename_i l bs e2
      obtain ⟨hl, e⟩ := ite_some e
      split at e
      · rename_i d' bs' e3
        cases e
        refine a2 T δ ds δ1 e1 H0 H σ S _ fun vs H01 H1 x1 S1 r1 => ?_
        obtain ⟨b', us, g1, g2, g3, g4, _⟩ := S1.ow i l bs e2
        rw [hb] at g1; cases g1
        exact ⟨by rw [List.length_cons, r1.length]; exact hl, H01, b, us, bs, vs, ds, d, bs', rfl, S1.ex, g2, g3, g4, r1, e3, fun v H0' H' us' y0 y1 y f hb' hu' r => q v H0' H' (x1.trans y0) (S1.calledB e2 hb y0 y1 y f hb' hu') r⟩
      · cases e
    · cases e
  · cases e
end
end Dx
set_option Elab.async false
set_option linter.all false
set_option maxRecDepth 100000
set_option maxHeartbeats 4000000
namespace Dx
open PySem PySem.Spec PyProof.Rows L2 Evl
/-! ### membership -/
def vOf : D → Option V
  | .non => some .non
  | .bl b => some (.bl b)
  | .int i => some (.int i)
  | .str s => some (.str s)
  | _ => none
def vsOf : List D → Option (List V)
  | [] => some []
  | d :: r => match vOf d, vsOf r with
    | some v, some vs => some (v :: vs)
    | _, _ => none
theorem vOf_dt {K : PySem.W.Frag} {H : Hp} {v u : V} {d : D} (h : Dt K H v d) (e : vOf d = some u) : v = u ∧ flatV v = true := by
  cases h <;> cases e <;> exact ⟨rfl, rfl⟩
theorem vsOf_dts {K : PySem.W.Frag} {H : Hp} : ∀ {vs us : List V} {ds : List D}, Dts K H vs ds → vsOf ds = some us → vs = us ∧ vs.all flatV = true
  | _, _, _, .nil, e => by cases e; exact ⟨rfl, rfl⟩
  | v :: vs, us, d :: ds, .cons h t, e => by
    unfold vsOf at e
    split at e
    · rename_i v' vs' e1 e2
      cases e
      obtain ⟨rfl, f1⟩ := vOf_dt h e1
      obtain ⟨rfl, f2⟩ := vsOf_dts t e2
      exact ⟨rfl, by rw [List.all_cons, f1, f2]; rfl⟩
    · cases e
/-- x among the flat items of a list or a tuple; one sign in a text -/
def dInB : D → D → Option Bool
  | .str x, .str z => (match x.cps.toList with
    | [c] => some (decide (c ∈ z.cps.toList))
    | _ => none)
  | x, .lst ys => (match vOf x, vsOf ys with
    | some v, some vs => some (inV v vs)
    | _, _ => none)
  | x, .tup ys => (match vOf x, vsOf ys with
    | some v, some vs => some (inV v vs)
    | _, _ => none)
  | _, _ => none
def dIn (x y : D) : Option D := (dInB x y).map D.bl
def dNotIn (x y : D) : Option D := (dInB x y).map fun b => .bl (!b)
theorem one_cps {x : Str} {c : Nat} (h : x.cps.toList = [c]) : x = ⟨#[c]⟩ := by
  obtain ⟨a⟩ := x
  have h : a.toList = [c] := h
  have : a = #[c] := by
    rw [← Array.toList_inj, h]
  rw [this]
section
variable {X : Cx}
theorem opd_inG {op : CmpOp} {neg : Bool} (h1 : OpR X (compareOp op) (rIn X.K neg)) (h2 : OpR X (compareOp op) (fun x y H Q => ∃ (c : Nat) (z : Str), x = .str ⟨#[c]⟩ ∧ y = .str z ∧ Q (.bl (if neg then !decide (c ∈ z.cps.toList) else decide (c ∈ z.cps.toList))) H)) :
    OpD X (compareOp op) (fun x y => (dInB x y).map fun b => .bl (if neg then !b else b)) := by
  refine ⟨_, OpR.or h1 h2, fun T H0 H σ δ S x y d1 d2 d rx ry e Q q => ?_⟩
  obtain ⟨b, e1, e2⟩ := Option.map_eq_some_iff.mp e
  subst e2
  have seq : ∀ {ys : List D}, (match vOf d1, vsOf ys with
      | some v, some vs => some (inV v vs)
      | _, _ => none) = some b → ∀ {p : Addr} {vs : List V}, Dts X.K H0 vs ys → y = .ref p → (SqL X.K H p vs ∨ SqT X.K H p vs) → rIn X.K neg x y H Q := fun {ys} e {p vs} t ey hs => by
    split at e
    · rename_i v ws e3 e4
      cases e
      obtain ⟨rfl, f1⟩ := vOf_dt rx e3
      obtain ⟨rfl, f2⟩ := vsOf_dts t e4
      exact ⟨p, vs, ey, hs, f1, f2, q _ H0 H (Ex.refl _) S (.bl _)⟩
    · cases e
  cases ry with
  | @lst a vs ds h t => exact .inl (seq (by cases d1 <;> exact e1) t rfl (.inl (sq_of (S.ex _ _ h))))
  | @tup a vs ds h t => exact .inl (seq (by cases d1 <;> exact e1) t rfl (.inr (ex_t S.ex h)))
  | str z =>
    cases rx with
    | str x0 =>
      refine .inr ?_
      have e1 : (match x0.cps.toList with
        | [c] => some (decide (c ∈ z.cps.toList))
        | _ => none) = some b := e1
      split at e1
      · rename_i c ec
        cases e1
        exact ⟨c, z, by rw [one_cps ec], rfl, q _ H0 H (Ex.refl _) S (.bl _)⟩
      · cases e1
    | _ => cases e1
  | _ => cases d1 <;> cases e1
theorem opd_in : OpD X (compareOp .In) dIn := opd_inG (neg := false) op_in_seq op_in_sign
theorem opd_notIn : OpD X (compareOp .NotIn) dNotIn := opd_inG (neg := true) op_notIn_seq op_notIn_sign
/-- i in range(lo, hi) -/
theorem op_notIn_rng : OpR X (compareOp .NotIn) (fun x y H Q => ∃ i a lo hi, x = V.int i ∧ y = V.ref a ∧ H a = some (.rng lo hi) ∧ Q (.bl (!decide (lo ≤ i ∧ i < hi))) H) := by
  intro pins s σ H x y v u Q I rx ry h
  obtain ⟨i, a, lo, hi, rfl, rfl, ha, q⟩ := h
  obtain ⟨k, rfl⟩ := rx
  obtain rfl : u = Value.ref a := ry
  obtain ⟨t1, t2, t3, ho⟩ := I.hok a _ ha
  show wpAny _ _ (do return Value.bool (!(← contains (Value.ref a) (Value.int i k)))) _ _ s
  refine wpAny_bind (wpAny_contains_slot (T := "range") ⟨_, ho, rfl⟩ F.slot_range_contains (call_meets F.slot_range_contains ⟨_, ho, rfl⟩ F.entry_range_contains (F.args_range_contains_2 _ _) (q_contains a lo hi i t1 t2 t3 k)
    ⟨ho, wpAny_truthy_bool (wpAny_pure ⟨.bl _, H, I, rfl, ?_⟩)⟩))
  rw [place1]
  exact q
variable {a b : Expr} {e : Expr} {ga gb ge : GE} {gs : GA} {pos p p2 : Pos}
def gInR (neg : Bool) (ga : GE) (gs : GA) : GE := fun δ => match ga δ with
  | some (.int i, δ1) => (match gs δ1 with
    | some ([.int lo, .int hi], δ2) => some (.bl (if neg then !decide (lo ≤ i ∧ i < hi) else decide (lo ≤ i ∧ i < hi)), δ2)
    | _ => none)
  | _ => none
theorem dev_inR {K : PySem.W.Frag} {neg : Bool} {ta : TE} {ts : TA} (ha : DEv K ta ga) (hs : DAv K ts gs) : DEv K (tOp (fun x y H Q => ∃ i a lo hi, x = V.int i ∧ y = V.ref a ∧ H a = some (.rng lo hi) ∧ Q (.bl (if neg then !decide (lo ≤ i ∧ i < hi) else decide (lo ≤ i ∧ i < hi))) H) ta
    (tCB (fun vs H Q => ∃ i j, vs = [V.int i, V.int j] ∧ ∀ p, H p = none → Q (.ref p) (upd H p (.rng i j))) ts)) (gInR neg ga gs) := fun T δ d δ' e H0 H σ S Q q => by
  unfold gInR at e
  split at e
  · rename_i i δ1 e1
    split at e
    · rename_i lo hi δ2 e2
      cases e
      refine ha T δ _ δ1 e1 H0 H σ S _ fun v H01 H1 x1 S1 r1 => ?_
      refine hs T δ1 _ δ' e2 H01 H1 σ S1 _ fun vs H02 H2 x2 S2 r2 => ?_
      obtain ⟨v1, v2, rfl, q1, q2⟩ := dts_two r2
      cases r1
      cases q1
      cases q2
      exact ⟨lo, hi, rfl, fun p hp => ⟨i, p, lo, hi, rfl, rfl, upd_same, q _ H02 _ (x1.trans x2) (S2.layUn hp) (.bl _)⟩⟩
    · cases e
  · cases e
theorem pd_notInR {lo hi : Expr} (hm : X.mg "range" = none) (ha : PDE X a ga) (hs : PDA X [lo, hi] gs) (hg : Gl X "range" := by rfl) (he : starEach [lo, hi] X.env = (false, eval lo X.env) :: starEach [hi] X.env := by rfl) (hpl : (backTo p2 (starEach [hi] X.env)).any (·.1) = false := by rfl)
    (hmk : behindInMarks .NotIn (.Call (.Name "range" p) [lo, hi] [] p2) = false := by rfl) : PDE X (.Compare a [.NotIn] [.Call (.Name "range" p) [lo, hi] [] p2] pos) (gInR true ga gs) := by
  obtain ⟨ta, a1, a2⟩ := ha
  obtain ⟨ts, s1, s2⟩ := hs
  exact ⟨_, pe_cmpR op_notIn_rng a1 (pe_callTy cr_range2 hg hm boot_range s1 (by decide) (by decide) he hpl) hmk, dev_inR (neg := true) a2 s2⟩
theorem pdt_notInR {lo hi : Expr} (hm : X.mg "range" = none) (ha : PDE X a ga) (hs : PDA X [lo, hi] gs) (hg : Gl X "range" := by rfl) (he : starEach [lo, hi] X.env = (false, eval lo X.env) :: starEach [hi] X.env := by rfl) (hpl : (backTo p2 (starEach [hi] X.env)).any (·.1) = false := by rfl)
    (hmk : behindInMarks .NotIn (.Call (.Name "range" p) [lo, hi] [] p2) = false := by rfl) : PDT X (.Compare a [.NotIn] [.Call (.Name "range" p) [lo, hi] [] p2] pos) (gTst (gInR true ga gs)) := by
  obtain ⟨ta, a1, a2⟩ := ha
  obtain ⟨ts, s1, s2⟩ := hs
  exact ⟨_, pt_cmpR op_notIn_rng a1 (pe_callTy cr_range2 hg hm boot_range s1 (by decide) (by decide) he hpl) hmk, dtv_test (dev_inR (neg := true) a2 s2)⟩

/-! ### methods of texts -/
def gM0 (f : Str → Option D) (ga : GE) : GE := fun δ => match ga δ with
  | some (.str a, δ1) => (match f a with
    | some d => some (d, δ1)
    | none => none)
  | _ => none
def gM1 (f : Str → D → Option D) (ga gb : GE) : GE := fun δ => match ga δ with
  | some (.str a, δ1) => (match gb δ1 with
    | some (b, δ2) => (match f a b with
      | some d => some (d, δ2)
      | none => none)
    | none => none)
  | _ => none
theorem dev_m0 {K : PySem.W.Frag} {t : TE} {r : V → List V → Hp → VK → Prop} {f : Str → Option D} (ht : DEv K t ga) (hr : ∀ T H0 H σ δ, Sd K T H0 H σ δ → ∀ a d, f a = some d → ∀ Q : VK, (∀ v H0' H', Ex H0 H0' → Sd K T H0' H' σ δ → Dt K H0' v d → Q v H') → r (.str a) [] H Q) :
    DEv K (tM0 r t) (gM0 f ga) := fun T δ d δ' e H0 H σ S Q q => by
  unfold gM0 at e
  split at e
  · rename_i a δ1 e1
    split at e
    · rename_i d' e2
      cases e
      refine ht T δ _ δ' e1 H0 H σ S _ fun v H01 H1 x1 S1 r1 => ?_
      cases r1
      exact ⟨⟨a, rfl⟩, hr T H01 H1 σ δ' S1 a d e2 Q fun v H02 H2 x2 S2 r2 => q v H02 H2 (x1.trans x2) S2 r2⟩
    · cases e
  · cases e
theorem dev_m1 {K : PySem.W.Frag} {t u : TE} {r : V → List V → Hp → VK → Prop} {f : Str → D → Option D} (ht : DEv K t ga) (hu : DEv K u gb)
    (hr : ∀ T H0 H σ δ, Sd K T H0 H σ δ → ∀ a y b d, Dt K H0 y b → f a b = some d → ∀ Q : VK, (∀ v H0' H', Ex H0 H0' → Sd K T H0' H' σ δ → Dt K H0' v d → Q v H') → r (.str a) [y] H Q) :
    DEv K (tM1 r t u) (gM1 f ga gb) := fun T δ d δ' e H0 H σ S Q q => by
  unfold gM1 at e
  split at e
  · rename_i a δ1 e1
    split at e
    · rename_i b δ2 e2
      split at e
      · rename_i d' e3
        cases e
        refine ht T δ _ δ1 e1 H0 H σ S _ fun v H01 H1 x1 S1 r1 => ?_
        cases r1
        refine ⟨⟨a, rfl⟩, ?_⟩
        refine hu T δ1 b δ' e2 H01 H1 σ S1 _ fun y H02 H2 x2 S2 r2 => ?_
        exact hr T H02 H2 σ δ' S2 a y b d r2 e3 Q fun v H03 H3 x3 S3 r3 => q v H03 H3 ((x1.trans x2).trans x3) S3 r3
      · cases e
    · cases e
  · cases e
/-- a new list of texts -/
theorem new_strs {K : PySem.W.Frag} {T : Th} {H0 H : Hp} {σ : L2.St} {δ : Den} (S : Sd K T H0 H σ δ) {ys : List Str} {Q : VK} (q : ∀ v H0' H', Ex H0 H0' → Sd K T H0' H' σ δ → Dt K H0' v (.lst (ys.map D.str)) → Q v H') : rNewStrs ys H Q :=
  fun p hp => q _ _ _ (S.layEx hp) (S.lay hp) (.lst upd_same (Dts.ofStrs ys))
def dSplit (a : Str) : D → Option D
  | .str b => if (b.length == 0) = false ∧ a.length + 2 ≤ sizeLine then some (.lst ((Txt.split a b).map D.str)) else none
  | _ => none
theorem pd_split {apos : Pos} (ha : PDE X a ga) (hb : PDE X b gb) (hs : starEach [b] X.env = [(false, eval b X.env)] := by rfl) (hbase : attributeBase a "split" X.env (eval a X.env) = eval a X.env := by rfl) (hline : (apos.endLine == pos.line) = true := by rfl) :
    PDE X (.Call (.Attribute a "split" apos) [b] [] pos) (gM1 dSplit ga gb) := by
  obtain ⟨t, a1, a2⟩ := ha
  obtain ⟨u, b1, b2⟩ := hb
  refine ⟨_, pe_split a1 b1 hs hbase hline, dev_m1 a2 b2 fun T H0 H σ δ S a y b d ry e Q q => ?_⟩
  unfold dSplit at e
  split at e
  · rename_i b'
    obtain ⟨⟨h1, h2⟩, e⟩ := ite_some e
    cases e
    cases ry
    exact ⟨a, _, rfl, rfl, h1, h2, new_strs S q⟩
  · cases e
def dJoin (a : Str) : D → Option D
  | .lst xs => (match strs? xs with
    | some ys => if (ys.map (·.length)).sum + ys.length * a.length ≤ 16777216 then some (.str (Txt.join a ys)) else none
    | none => none)
  | .tup xs => (match strs? xs with
    | some ys => if (ys.map (·.length)).sum + ys.length * a.length ≤ 16777216 then some (.str (Txt.join a ys)) else none
    | none => none)
  | _ => none
theorem pd_join {apos : Pos} (ha : PDE X a ga) (hb : PDE X b gb) (hs : starEach [b] X.env = [(false, eval b X.env)] := by rfl) (hbase : attributeBase a "join" X.env (eval a X.env) = eval a X.env := by rfl) (hline : (apos.endLine == pos.line) = true := by rfl) :
    PDE X (.Call (.Attribute a "join" apos) [b] [] pos) (gM1 dJoin ga gb) := by
  obtain ⟨t, a1, a2⟩ := ha
  obtain ⟨u, b1, b2⟩ := hb
  refine ⟨_, pe_join a1 b1 hs hbase hline, dev_m1 a2 b2 fun T H0 H σ δ S a y b d ry e Q q => ?_⟩
  cases ry with
  | @lst p vs ds h t =>
    simp only [dJoin] at e
    split at e
    · rename_i ys ey
      obtain ⟨hz, e⟩ := ite_some e
      cases e
      have ed := strs?_eq ey
      subst ed
      have ev := t.toStrs
      subst ev
      exact ⟨a, p, ys, rfl, rfl, .inl (sq_of (S.ex _ _ h)), hz, q _ H0 H (Ex.refl _) S (.str _)⟩
    · cases e
  | @tup p vs ds h t =>
    simp only [dJoin] at e
    split at e
    · rename_i ys ey
      obtain ⟨hz, e⟩ := ite_some e
      cases e
      have ed := strs?_eq ey
      subst ed
      have ev := t.toStrs
      subst ev
      exact ⟨a, p, ys, rfl, rfl, .inr (ex_t S.ex h), hz, q _ H0 H (Ex.refl _) S (.str _)⟩
    · cases e
  | _ => cases e
def dUpper (a : Str) : Option D := if a.length ≤ 5592405 then some (.str (Txt.upper a)) else none
theorem pd_upper {apos : Pos} (ha : PDE X a ga) (hbase : attributeBase a "upper" X.env (eval a X.env) = eval a X.env := by rfl) (hline : (apos.endLine == pos.line) = true := by rfl) :
    PDE X (.Call (.Attribute a "upper" apos) [] [] pos) (gM0 dUpper ga) := by
  obtain ⟨t, a1, a2⟩ := ha
  refine ⟨_, pe_upper a1 hbase hline, dev_m0 a2 fun T H0 H σ δ S a d e Q q => ?_⟩
  obtain ⟨hz, e⟩ := ite_some (c := a.length ≤ 5592405) e
  cases e
  exact ⟨a, rfl, rfl, hz, q _ H0 H (Ex.refl _) S (.str _)⟩
/-- x.split(sep, k) -/
def dSplitK (a : Str) : List D → Option D
  | [.str b, .int k] => if (b.length == 0) = false ∧ small k = true ∧ a.length + 2 ≤ sizeLine then some (.lst ((Txt.splitMax a b k).map D.str)) else none
  | _ => none
def gMA (f : Str → List D → Option D) (ga : GE) (gs : GA) : GE := fun δ => match ga δ with
  | some (.str a, δ1) => (match gs δ1 with
    | some (b, δ2) => (match f a b with
      | some d => some (d, δ2)
      | none => none)
    | none => none)
  | _ => none
theorem pd_splitK {c : Expr} {apos : Pos} (ha : PDE X a ga) (hb : PDA X [b, c] gs) (hbase : attributeBase a "split" X.env (eval a X.env) = eval a X.env := by rfl)
    (hfew : ((backTo pos (starEach [b, c] X.env)).all (fun x => !x.1) && (backToKw pos (keywordEach [] X.env)).all (fun x => x.1.isSome)
      && decide (([b, c] : List Expr).length + ([] : List Keyword).length + (if ([] : List Keyword).isEmpty then 0 else 1) < 30)) = true := by rfl)
    (hline : (apos.endLine == pos.line) = true := by rfl) (hs : starEach [b, c] X.env = (false, eval b X.env) :: starEach [c] X.env := by rfl) (hpl : (backTo pos (starEach [c] X.env)).any (·.1) = false := by rfl) :
    PDE X (.Call (.Attribute a "split" apos) [b, c] [] pos) (gMA dSplitK ga gs) := by
  obtain ⟨t, a1, a2⟩ := ha
  obtain ⟨u, b1, b2⟩ := hb
  refine ⟨_, pe_bm F.plainAttrs_str F.slot_str_split F.type_str_split mt_splitMax a1 b1 hbase hfew hline hs hpl, fun T δ d δ' e H0 H σ S Q q => ?_⟩
  unfold gMA at e
  split at e
  · rename_i a0 δ1 e1
    split at e
    · rename_i bs δ2 e2
      split at e
      · rename_i d' e3
        cases e
        refine a2 T δ _ δ1 e1 H0 H σ S _ fun v H01 H1 x1 S1 r1 => ?_
        cases r1
        refine ⟨rfl, ?_⟩
        refine b2 T δ1 _ δ' e2 H01 H1 σ S1 _ fun vs H02 H2 x2 S2 r2 => ?_
        unfold dSplitK at e3
        split at e3
        · rename_i b' k'
          obtain ⟨⟨h1, h2, h3⟩, e3⟩ := ite_some e3
          cases e3
          obtain ⟨v1, v2, rfl, q1, q2⟩ := dts_two r2
          cases q1
          cases q2
          obtain ⟨k1, k2⟩ := small_iff h2
          exact ⟨a0, b', k', rfl, rfl, h1, by omega, by omega, h3, new_strs S2 fun v H03 H3 x3 S3 r3 => q v H03 H3 ((x1.trans x2).trans x3) S3 r3⟩
        · cases e3
      · cases e
    · cases e
  · cases e
/-- x * n, x a text -/
def dRepS : D → D → Option D
  | .str x, .int n => if 1 < n ∧ n < 10000 ∧ 0 < x.length ∧ x.length < 1000 then some (.str ⟨(List.replicate n.toNat x.cps).foldl (· ++ ·) #[]⟩) else none
  | _, _ => none

/-! ### a written dict -/
structure TabD (K : PySem.W.Frag) (w : World) (d : Addr) (tb : List (Str × D)) : Prop where
  kd : ∃ es n, KDict K w d es n
  hit : ∀ k dd, tb.lookup k = some dd → ∃ u v, PySem.W.nsIn K d k = some (some u) ∧ RelV v u ∧ ∀ H, Dt K H v dd
  miss : ∀ k, tb.lookup k = none → PySem.W.nsIn K d k = some none
def tKGet (K : PySem.W.Frag) (d : Addr) (td ty tx : TE) : TE := fun σ H Q => td σ H fun x H1 => x = .ref d ∧ ty σ H1 fun y H2 => ∃ z, y = .str z ∧ tx σ H2 fun f H3 => ∃ r, PySem.W.nsIn K d z = some r ∧ ((r = none ∧ Q f H3) ∨ ∃ u v, r = some u ∧ RelV v u ∧ Q v H3)
theorem pe_kget {o f : Expr} {apos : Pos} {d : Addr} {td ty tx : TE} {es : Array DictEntry} {n : Nat} (D : KDict X.K X.w d es n) (ho : PE X o td) (he : PE X e ty) (hf : PE X f tx) (m : M2 X o "get" apos e f pos) : PE X (.Call (.Attribute o "get" apos) [e, f] [] pos) (tKGet X.K d td ty tx) := by
  refine ⟨fun pins s σ H Q I h => ?_⟩
  refine wpAny_Call_method m.base m.few m.line PySem.F.plainAttrs_dict PySem.F.slot_dict_get PySem.F.type_dict_get (thn (ho.run pins s σ H _ I h) fun u s1 ⟨x, H1, I1, rx, ex, q1⟩ => ?_)
  subst ex
  obtain rfl : u = Value.ref d := rx
  refine ⟨kd_type D I1, fun a e => ?_, ?_⟩
  · cases e
    exact ⟨_, I1.kIn _ _ D.at_, rfl⟩
  rw [m.trees]
  refine Calls.callWith_builtin rfl (Calls.evalArgs_plain (Calls.spliced_cons (thn (he.run pins s1 σ H1 _ I1 q1) fun iv s2 ⟨y, H2, I2, ry, z, ey, q2⟩ =>
    Calls.spliced_cons (thn (hf.run pins s2 σ H2 _ I2 q2) fun fv s3 ⟨f3, H3, I3, rf, r, er, q3⟩ => Calls.spliced_nil ?_))))
  subst ey
  obtain ⟨t, rfl⟩ := ry
  have hm := PySem.W.mapOf_K (prog := X.prog) I3.kIn D.at_ D.lit
  refine call_meetsIn PySem.F.slot_dict_get hm.typeIs PySem.F.entry_dict_get (PySem.F.args_dict_get_3 _ _ _) (meets_dict_get_default (strKind X.prog X.w) d (PySem.strKind_is X.prog X.w z t) D.low fv) ⟨_, hm, ?_⟩
  rw [PySem.W.find_K D.at_ er]
  rcases q3 with ⟨rfl, q⟩ | ⟨u, v, rfl, rv, q⟩
  · exact ⟨f3, H3, I3.tok _, rf, q⟩
  · exact ⟨v, H3, I3.tok _, rv, q⟩
def gKGet (tb : List (Str × D)) (ge gf : GE) : GE := fun δ => match ge δ with
  | some (.str z, δ1) => (match gf δ1 with
    | some (f, δ2) => some ((tb.lookup z).getD f, δ2)
    | none => none)
  | _ => none
theorem pd_kget {x : Str} {f : Expr} {apos px : Pos} {d : Addr} {tb : List (Str × D)} {gf : GE} (D : TabD X.K X.w d tb) (hm : X.mg x = some (.ref d)) (he : PDE X e ge) (hf : PDE X f gf) (hg : Gl X x := by rfl) (hd : (x == ("__debug__" : Str)) = false := by decide)
    (m : M2 X (.Name x px) "get" apos e f pos := by exact ⟨rfl, rfl, rfl, rfl⟩) : PDE X (.Call (.Attribute (.Name x px) "get" apos) [e, f] [] pos) (gKGet tb ge gf) := by
  obtain ⟨es, n, kd⟩ := D.kd
  obtain ⟨t, a1, a2⟩ := he
  obtain ⟨u, b1, b2⟩ := hf
  refine ⟨_, pe_kget kd (pe_glob hg hm (v := .ref d) rfl hd) a1 b1 m, fun T δ d' δ' e H0 H σ S Q q => ⟨rfl, ?_⟩⟩
  unfold gKGet at e
  split at e
  · rename_i z δ1 e1
    split at e
    · rename_i f0 δ2 e2
      cases e
      refine a2 T δ _ δ1 e1 H0 H σ S _ fun v H01 H1 x1 S1 r1 => ?_
      cases r1
      refine ⟨z, rfl, ?_⟩
      refine b2 T δ1 _ δ' e2 H01 H1 σ S1 _ fun v H02 H2 x2 S2 r2 => ?_
      cases hl : tb.lookup z with
      | none =>
        rw [hl] at q
        exact ⟨none, D.miss z hl, .inl ⟨rfl, q v H02 H2 (x1.trans x2) S2 r2⟩⟩
      | some dd =>
        rw [hl] at q
        obtain ⟨u0, v0, h1, h2, h3⟩ := D.hit z dd hl
        exact ⟨some u0, h1, .inr ⟨u0, v0, rfl, h2, q v0 H02 H2 (x1.trans x2) S2 (h3 H02)⟩⟩
    · cases e
  · cases e
end
end Dx
set_option Elab.async false
set_option linter.all false
set_option maxRecDepth 100000
set_option maxHeartbeats 4000000
namespace Dx
open PySem PySem.Spec PyProof.Rows L2 Evl
section
variable {X : Cx}
theorem rep_size (x : Array Nat) (n : Nat) : ((List.replicate n x).foldl (· ++ ·) #[]).size = n * x.size := by
  have key : ∀ (n : Nat) (acc : Array Nat), ((List.replicate n x).foldl (· ++ ·) acc).size = acc.size + n * x.size := fun n => by
    induction n with
    | zero => intro acc; simp
    | succ n ih => intro acc; rw [List.replicate_succ, List.foldl_cons, ih, Array.size_append, Nat.succ_mul]; omega
  rw [key]
  simp
theorem op_repS : OpR X (binaryOp .Mult) (fun x y H Q => ∃ z n, x = .str z ∧ y = .int n ∧ (1 < n ∧ n < 10000 ∧ 0 < z.length ∧ z.length < 1000) ∧ Q (.str ⟨(List.replicate n.toNat z.cps).foldl (· ++ ·) #[]⟩) H) := by
  intro pins s σ H x y v u Q I rx ry h
  obtain ⟨z, n, rfl, rfl, ⟨h1, h2, h3, h4⟩, q⟩ := h
  obtain ⟨t, rfl⟩ := rx
  obtain ⟨t', rfl⟩ := ry
  have e1 : ¬ n < 1 := by omega
  have e2 : (n == 1 || z.length == 0) = false := by
    simp only [Bool.or_eq_false_iff, beq_eq_false_iff_ne, ne_eq]
    omega
  have hm : z.length * n.toNat ≤ 1000 * 10000 := Nat.mul_le_mul (by omega) (by omega)
  have hs : (10000000 : Nat) ≤ sizeLine := by decide
  refine PySem.P.mul_str ?_ (fun _ _ => ?_) (fun _ _ => ?_) ?_
  · rw [decide_eq_false (by omega), decide_eq_false (by omega)]; rfl
  · have h5 : (1000 : Int) ≤ (2 ^ 63 - 1) / n := by
      have : (2 ^ 63 - 1) / n ≥ (2 ^ 63 - 1) / 10000 := by
        rw [ge_iff_le, Int.le_ediv_iff_mul_le (by omega)]
        have : (2 ^ 63 - 1 : Int) / 10000 * n ≤ (2 ^ 63 - 1 : Int) / 10000 * 10000 := Int.mul_le_mul_of_nonneg_left (by omega) (by decide)
        exact Int.le_trans this (by decide)
      exact Int.le_trans (by decide) this
    omega
  · show decide (z.length * n.toNat > sizeLine) = false
    rw [decide_eq_false_iff_not]
    omega
  · rw [if_neg e1, if_neg (by rw [e2]; decide)]
    refine ⟨?_, .str _, H, I.tok _, ⟨_, rfl⟩, q⟩
    show ((List.replicate n.toNat z.cps).foldl (· ++ ·) #[]).size ≤ sizeLine
    rw [rep_size, Nat.mul_comm]
    exact Nat.le_trans hm hs
def dMulS : D → D → Option D
  | .int i, .int j => dMul (.int i) (.int j)
  | .str x, .int n => dRepS (.str x) (.int n)
  | _, _ => none
theorem opd_mulS : OpD X (binaryOp .Mult) dMulS := by
  have h2 : OpD X (binaryOp .Mult) dRepS := ⟨_, op_repS, fun T H0 H σ δ S x y d1 d2 d rx ry e Q q => by
    unfold dRepS at e
    split at e
    · rename_i z n
      obtain ⟨c, e⟩ := ite_some e
      cases e
      cases rx
      cases ry
      exact ⟨z, n, rfl, rfl, c, q _ H0 H (Ex.refl _) S (.str _)⟩
    · cases e⟩
  refine opd_mul.or h2 fun a b d e => ?_
  cases a <;> cases b <;> first | exact .inl e | exact .inr e | cases e

/-! ### a starred target over a list -/
/-- a list, told apart: what stands ahead of the star, a new list, what stands behind -/
theorem star_apart {pins : List (Addr × Obj)} {σ : L2.St} {H : Hp} {s : Shared} {l : Addr} {xs : List V} {n i : Nat} {Q : List Value → Shared → Prop} (hc : X.A.handled = none) (I : Inv X pins σ H s) (h : SqL X.K H l xs) (hi : i < n) (hn : n ≤ xs.length + 1)
    (hQ : ∀ p us s', H p = none → Inv X pins σ (upd H p (.lst ((xs.drop i).take (xs.length + 1 - n)))) s' → Vals (xs.take i ++ [.ref p] ++ (xs.drop i).drop (xs.length + 1 - n)) us → Q us s') :
    wpAny (model X.prog X.w) X.A (unpackItems (.ref l) n (some i)) Q X.xe s := by
  obtain ⟨its, rv, pl, hz⟩ := I.list h
  have hl := pl.isList
  have hlen := rv.length
  have lz : its.toArray.size = xs.length := by rw [List.size_toArray]; exact hlen.symm
  have lt : l < s.heap.objs.size := by obtain ⟨o, e, _⟩ := hl; exact Heap.lt_size e
  have ne : l ≠ s.heap.objs.size := Nat.ne_of_lt lt
  unfold unpackItems
  refine wpAny_bind ?_
  unfold notIterableAtAll
  refine wpAny_bind (wpAny_specialOf hl.typeIs slot_list_iter.lookup (wpAny_pure ?_))
  simp only [Bool.false_eq_true, if_false]
  refine wpAny_bind (wpAny_holding (wpAny_pyIter_list hl ?_))
  refine wpAny_bind (wpAny_holding (PySem.W.kun_draw ne i 0 _ _ ⟨_, Heap.get?_push_size _ rfl, rfl, rfl⟩ (hl.push _) (by omega) fun g hit sb => ?_))
  have hlg : g.IsList l its.toArray := (hl.push _).extBut sb.extBut ne
  rw [Nat.zero_add] at hit
  obtain ⟨oi, ei, _⟩ := id hit
  obtain ⟨ol, el, _⟩ := id hlg
  rw [List.drop_zero]
  have hf : (List.take i its.toArray.toList).length = i := by rw [List.length_take, Array.length_toList]; omega
  rw [if_neg (by rw [hf]; omega)]
  refine wpAny_bind (wpAny_holding (PySem.W.kun_collect (s := { s with heap := g }) (T := "list_iterator") (.inr (.inr (.inl rfl))) (Walks.list (A := X.A.in1) hc s.heap.objs.size l ne its.toArray) (fun j u st => st.1.typeIs) (k := i) (by omega) ⟨hit, hlg⟩ (Heap.lt_size ei) (Heap.lt_size el) (fun g2 tk hk => ?_) (by rw [lz]; exact hz)))
  have hd : (List.drop i its.toArray.toList).length = xs.length - i := by rw [List.length_drop, Array.length_toList, lz]
  have hm : (List.drop i its.toArray.toList).length - (n - 1 - i) = xs.length + 1 - n := by rw [hd]; omega
  show wpAny _ _ (if (List.drop i its.toArray.toList).length < n - 1 - i then _ else _) _ _ _
  rw [if_neg (by rw [hd]; omega)]
  show wpAny _ _ (newList ((List.drop i its.toArray.toList).take ((List.drop i its.toArray.toList).length - (n - 1 - i))) >>= fun d => pure (List.take i its.toArray.toList ++ [d] ++ (List.drop i its.toArray.toList).drop ((List.drop i its.toArray.toList).length - (n - 1 - i)))) _ _ _
  rw [hm]
  have kp : ∀ b o, s.heap.get? b = some o → g2.get? b = some o := fun b o e => hk b o (Nat.ne_of_lt (Heap.lt_size e)) (sb.extBut b o (Nat.ne_of_lt (Heap.lt_size e)) (Heap.get?_push_of_some _ e))
  have I2 : Inv X pins σ H { s with heap := g2, toks := tk } := I.kept kp
  have rt : its.toArray.toList = its := by simp
  rw [rt]
  have rm := (rv.drop i).take (xs.length + 1 - n)
  refine wpAny_bind (wpAny_newList (wpAny_pure ?_) (by rw [List.length_take, List.length_drop]; omega))
  refine hQ g2.objs.size _ _ (I2.hok.fresh (Nat.le_refl _)) (I2.laid (t' := tk) (fun b o e => Heap.get?_push_of_some _ e) (Nat.le_refl _) ⟨by rw [List.length_take, List.length_drop]; omega, _, 0, rm, Heap.get?_push_size _ rfl⟩) ?_
  exact ((rv.take i).append (.cons (show L2.RelV (V.ref g2.objs.size) (Value.ref g2.objs.size) from rfl) .nil)).append ((rv.drop i).drop _)
variable {es : List Expr} {k : Nat} {pos p : Pos}
def gStarL (K : PySem.W.Frag) (n i : Nat) (t : TGs) : TG := fun v σ H Q => ∃ a xs, v = .ref a ∧ SqL K H a xs ∧ n ≤ xs.length + 1 ∧ ∀ p, H p = none → t (xs.take i ++ [.ref p] ++ (xs.drop i).drop (xs.length + 1 - n)) σ (upd H p (.lst ((xs.drop i).take (xs.length + 1 - n)))) Q
theorem pg_starL {t : TGs} {n i : Nat} (hc : X.calm = true) (h : PGs X es t) (hi : i < n) (hn : (assignEach es X.env).length = n) (hst : (assignEach es X.env).findIdx? (·.1) = some i) : PG X (.Tuple es k pos) (gStarL X.K n i t) := by
  refine ⟨fun pins s σ H v u Q I r hw => ?_⟩
  obtain ⟨a, xs, e1, hq, hl, hw⟩ := hw
  subst e1
  cases r
  rw [PyProof.Rows.assign_Tuple]
  refine wpAny_bind (wpAny_standAt ?_)
  unfold unpack
  rw [hn, hst]
  refine wpAny_bind (wpAny_holding (star_apart (I.ok.hd hc) I hq hi hl fun p us s' hp I' rv => ?_))
  exact h.run pins s' σ _ _ us Q I' rv (hw p hp)
theorem pgs_star {e : Expr} {t : TG} {u : TGs} (h1 : PG X e t) (h2 : PGs X es u) (hs : (assignEach (.Starred e p :: es) X.env).map (·.2) = assign e X.env :: (assignEach es X.env).map (·.2) := by rfl) : PGs X (.Starred e p :: es) (L2.gCons t u) := by
  refine ⟨fun pins s σ H vs us Q I r h => ?_⟩
  obtain ⟨v, vr, e1, h⟩ := h
  subst e1
  cases r with
  | cons r rr =>
    rw [hs]
    exact assignInOrder_cons (thn (h1.run pins s σ H _ _ _ I r h) fun _ s1 ⟨σ1, H1, I1, q1⟩ => h2.run pins s1 σ1 H1 _ _ Q I1 rr q1)
theorem pdgs_star {e : Expr} {g : GG} {gs : GGs} {js ks : List Nat} (h1 : PDG X e g js) (h2 : PDGs X es gs ks) (hs : (assignEach (.Starred e p :: es) X.env).map (·.2) = assign e X.env :: (assignEach es X.env).map (·.2) := by rfl) : PDGs X (.Starred e p :: es) (gTgCons g gs) (js ++ ks) := by
  obtain ⟨t, a1, a2⟩ := h2
  refine ⟨_, pgs_star h1 a1 hs, fun T d δ δ' e v H0 H σ S r Q q => ?_⟩
  unfold gTgCons at e
  split at e
  · rename_i d0 ds
    split at e
    · rename_i δ1 e1
      cases r with
      | cons r1 r2 =>
        refine ⟨_, _, rfl, dgv_rd T d0 δ δ1 e1 _ H0 H σ S r1 _ fun H01 H1 σ1 x1 S1 o1 => ?_⟩
        exact a2 T ds δ1 δ' e _ H01 H1 σ1 S1 (r2.mono x1) Q fun H02 H2 σ2 x2 S2 o2 => q H02 H2 σ2 (x1.trans x2) S2 (o1.trans o2)
    · cases e
  · cases e
def gTgStar (n i : Nat) (h : GGs) : GG := fun d δ => match d with
  | .lst xs => if n ≤ xs.length + 1 then h (xs.take i ++ [.lst ((xs.drop i).take (xs.length + 1 - n))] ++ (xs.drop i).drop (xs.length + 1 - n)) δ else none
  | _ => none
theorem pdg_star {gs : GGs} {js : List Nat} (n i : Nat) (hc : X.calm = true) (h : PDGs X es gs js) (hi : i < n := by decide) (hn : (assignEach es X.env).length = n := by rfl) (hst : (assignEach es X.env).findIdx? (·.1) = some i := by rfl) : PDG X (.Tuple es k pos) (gTgStar n i gs) js := by
  obtain ⟨t, a1, a2⟩ := h
  refine pdg_of (pg_starL hc a1 hi hn hst) fun T d δ δ' e v H0 H σ S r Q q => ?_
  cases r with
  | @lst a vs ds h t =>
    obtain ⟨hl, e⟩ := ite_some (c := n ≤ ds.length + 1) e
    refine ⟨a, vs, rfl, sq_of (S.ex _ _ h), by rw [t.length]; exact hl, fun p hp => ?_⟩
    rw [t.length]
    have x1 := S.layEx (o := .lst ((vs.drop i).take (ds.length + 1 - n))) hp
    refine a2 T _ δ δ' e _ _ _ σ (S.lay hp) ?_ Q fun H02 H2 σ2 x2 S2 o2 => q H02 H2 σ2 (x1.trans x2) S2 o2
    have td := (t.drop i).mono x1
    exact (((t.take i).mono x1).append (.cons (.lst upd_same (td.take _)) .nil)).append (td.drop _)
  | _ => cases e
end
end Dx
set_option Elab.async false
set_option linter.all false
set_option maxRecDepth 100000
set_option maxHeartbeats 4000000
/-! exceptions of own classes by data -/
namespace Dx
open PySem PySem.Spec PyProof.Rows L2 Evl
section
variable {X : Cx} {o e : Expr} {es : List Expr} {ta : TA} {p1 p2 pos : Pos}
/-- Parent.__init__(self, ..), the parent an own class over ValueError -/
theorem pe_upinit {y : Str} {pl : Sem Bool} (u : Gh.Up X.K y) (hm : X.mg y = some (.ref (He.ga X.K y))) (ha : PA X (e :: es) ta) (hg : Gl X y := by rfl) (hdb : (y == ("__debug__" : Str)) = false := by decide)
    (hc : eval (.Call (.Attribute (.Name y p1) "__init__" p2) (e :: es) [] pos) X.env = (do
      let ov ← eval (.Name y p1) X.env
      standAt p2.atName
      let (f, first) ← holding [ov] (getMethod ov "__init__" pl)
      callWith pos f first (backTo pos (starEach (e :: es) X.env)) (backToKw pos (keywordEach [] X.env))) := by rfl)
    (he : starEach (e :: es) X.env = (false, eval e X.env) :: starEach es X.env := by rfl) (hpl : (backTo pos (starEach es X.env)).any (·.1) = false := by rfl) :
    PE X (.Call (.Attribute (.Name y p1) "__init__" p2) (e :: es) [] pos) (tVeI X.K ta) := by
  refine ⟨fun pins s σ H Q I h => ?_⟩
  refine PySem.W.methodCall_KW (ld_glob I hg hm ?_ hdb) hc
  refine PySem.W.method_cls I.kIn u.ga' (PySem.W.cls_value I.kIn u.rd u.val (by decide +kernel) ?_)
  show wpAny _ _ (callWith pos (Value.builtin "ValueError.__init__") [] (backTo pos (starEach (e :: es) X.env)) []) _ _ _
  refine PyProof.Rows.callWith_method1 (thn (ha.run pos pins _ σ H _ (I.tok _) h) fun us s1 ⟨vs, H1, I1, r1, a, C, ws, ev, hl, T, ea, q⟩ => ?_) he hpl
  subst ev
  cases r1 with
  | @cons _ u0 _ ur ra rw' =>
    obtain rfl : u0 = Value.ref a := ra
    have hlen : ur.length ≤ sizeLine := by
      rw [← Paired.length rw', sizeLine_eq]
      omega
    exact oinit_ok T I1 ea hlen fun s' J => ⟨.non, H1, J, rfl, q⟩
end
/-- what such an __init__(self, f) leaves -/
def spInit (C : Addr) (f : Str) : Sp := fun vs H Q _ => ∃ a v, vs = [.ref a, v] ∧ H a = some (exo a C none) ∧ ∀ dx, H dx = none → dx ≠ a → Q .non (upd (upd H dx (exd dx [(f, v)])) a (exo a C (some dx)))
theorem init_reads {K : PySem.W.Frag} {C : Addr} {f z x y : Str} {vs : List V} {H : Hp} {Q : VK} {E : XK} (T : OexC K C) (hno : PySem.W.findIn K (.ref C) f = some none) (h : spInit C f vs H Q E) :
    tSeq (tDrop (tVeI K (tCons (tVar 0) (tCons (tC (.str z)) tNil)))) (tOst K f (tVar 0) (tVar 1)) { nx := fun _ H' => Q .non H', rt := Q } (L2.start [x, y] vs) H := by
  obtain ⟨a, v, rfl, ea, q⟩ := h
  refine ⟨_, rfl, ⟨a, C, [.str z], rfl, by simp, T, ea, ?_⟩⟩
  exact ⟨v, rfl, .ref a, rfl, a, C, rfl, T, hno, .inl ⟨ea, fun dx h1 h2 => q dx h1 h2⟩⟩
/-- the class x whose __init__ keeps f, its making at depth k -/
structure XMk (P : Program) (w : World) (K : PySem.W.Frag) (mg : Str → Option Value) (base : Heap) (k : Nat) (x f : Str) : Prop where
  cls : Gh.Xc K x f
  glo : mg x = some (.ref (He.ga K x))
  made : ∃ fd ps, FnOk P w K mg base CX0 k (He.ma K (He.ga K x) "__init__") fd ps (spInit (He.ga K x) f) ∧ Binds K fd ps []
section
variable {X : Cx} {W : WX} {e : Expr} {ge : GE} {x f : Str} {p pos rp : Pos} {k : Nat}
def gsRaise (x f : Str) (ge : GE) : GS := fun δ => match ge δ with
  | some (d, δ') => some (.ex x f d δ')
  | none => none
theorem pds_raise (hc : X.calm = true) (tk : Takes X W) (m : XMk X.prog X.w X.K X.mg X.base k x f) (hr : Room (k + 1) X.A) (he : PDE X e ge) (hg : Gl X x := by rfl)
    (hdb : (x == ("__debug__" : Str)) = false := by decide) (hs : starEach [e] X.env = (false, eval e X.env) :: starEach [] X.env := by rfl) (hpl : (backTo pos (starEach [] X.env)).any (·.1) = false := by rfl) :
    PDS X W (.Raise (some (.Call (.Name x p) [e] [] pos)) none rp) (gsRaise x f ge) := by
  obtain ⟨te, a1, a2⟩ := he
  obtain ⟨fd, ps, F1, hb⟩ := m.made
  refine ⟨_, ps_raise hc tk (pmk_oex m.cls.oex m.cls.ini m.cls.fn F1 hr hb .nil pass0 hg m.glo (pa_cons a1 pa_nil hs) hdb hs hpl), fun T δ o e H0 H σ S E q => ?_⟩
  unfold gsRaise at e
  split at e
  · rename_i d δ1 e1
    cases e
    refine a2 T δ d δ1 e1 H0 H σ S _ fun v H01 H1 x1 S1 r1 => ⟨by simp, fun a ha => ⟨a, v, rfl, upd_same, fun dx h1 h2 => ⟨rfl, dx, [(f, v)], upd_same, ?_, ?_, ?_⟩⟩⟩
    · rw [upd_ne h2, upd_same]
    · rw [upd_ne h2] at h1; exact h1
    · rw [upd_ne h2] at h1
      have eH : upd (del (upd (upd (upd H1 a (exo a (He.ga X.K x) none)) dx (exd dx [(f, v)])) a (exo a (He.ga X.K x) (some dx))) a) dx (.xd [(f, v)]) = upd H1 dx (.xd [(f, v)]) := by
        funext b
        by_cases hb : b = dx
        · subst hb; rw [upd_same, upd_same]
        · rw [upd_ne hb, upd_ne hb]
          by_cases hba : b = a
          · subst hba; rw [del_same, ha]
          · rw [del_ne hba, upd_ne hba, upd_ne hb, upd_ne hba]
      rw [eH]
      exact q H01 _ σ dx [(f, v)] v x1 (S1.layUn h1) upd_same (by simp) r1
  · cases e

/-! ### what may raise, by data -/
abbrev Res := Except (Str × Str × D) D
def spX (K : PySem.W.Frag) (n : Nat) (g : List D → Option Res) : Sp := fun vs H Q E => vs.length = n ∧ ∃ H0 ds r, Ex H0 H ∧ Dts K H0 vs ds ∧ g ds = some r ∧
  (match r with
  | .ok d => ∀ v H0' H', Ex H0 H0' → Ex H0' H' → Ex H H' → Fr H0 H H0' → Dt K H0' v d → Q v H'
  | .error (c, f, d) => ∀ H0' H' dd fs u, Ex H0 H0' → Ex H0' H' → Ex H H' → Fr H0 H H0' → H' dd = some (.xd fs) → fs.lookup f = some u → Dt K H0' u d → E (.ref (He.ga K c)) (some dd) H')
def gOfX (n : Nat) (gs : GS) : List D → Option Res := fun ds => match gs (den0 n ds) with
  | some (.rt d _) => some (.ok d)
  | some (.nx _) => some (.ok .non)
  | some (.ex c f v _) => some (.error (c, f, v))
  | _ => none
end
section
variable {P : Program} {w : World} {K : PySem.W.Frag} {mg : Str → Option Value} {base : Heap} {x qual : Str} {params : Arguments} {body : List Stmt} {scope : Scope} {dvs : List V} {kws : List (Str × V)} {f : Addr} {fd : FuncData} {N ps : List Str} {k : Nat} {gs : GS}
theorem fnX (F : FunD K x qual params body scope dvs kws f fd) (S : FnScope N ps scope)
    (hb : ∀ (cdv : Value) (A : Around) (outer : List Env) (s : Shared) (H : Hp) (E : XK), Room k (A.deeper (envOfC qual scope s.heap.objs.size f cdv)) → Takes (cxOf (L2.CX P w) P w K mg base N qual scope f cdv A outer s H E) (fun cls d _ H => E cls d H) →
      PDSs (cxOf (L2.CX P w) P w K mg base N qual scope f cdv A outer s H E) (fun cls d _ H => E cls d H) body gs) : FnOk P w K mg base (L2.CX P w) (k + 1) f fd ps (spX K ps.length (gOfX N.length gs)) := by
  refine F.ok S (fun vs H Q E h => h.1) fun cdv A outer s H vs Q E hr h => ?_
  obtain ⟨t, p1, p2⟩ := hb cdv A outer s H E hr (takes_of rfl rfl rfl rfl)
  refine ⟨t, p1, ?_⟩
  obtain ⟨hl, H0, ds, r, x0, hd, hg, q⟩ := h
  unfold gOfX at hg
  have S0 := sd_start (N := N) x0 hd
  split at hg
  · rename_i d' δ e
    cases hg
    exact p2 _ _ _ e H0 H _ S0 _ fun v H0' H' σ' x S' r => q v H0' H' x S'.ex S'.endP.1 S'.endP.2 r
  · rename_i δ e
    cases hg
    exact p2 _ _ _ e H0 H _ S0 _ fun H0' H' σ' x S' => q .non H0' H' x S'.ex S'.endP.1 S'.endP.2 .non
  · rename_i c fl v δ e
    cases hg
    exact p2 _ _ _ e H0 H _ S0 _ fun H0' H' σ' dd fs u x S' h1 h2 r => q H0' H' dd fs u x S'.ex S'.endP.1 S'.endP.2 h1 h2 r
  · cases hg
/-- the def x that may raise: positional, by one keyword -/
structure CalX (P : Program) (w : World) (K : PySem.W.Frag) (mg : Str → Option Value) (base : Heap) (k : Nat) (x : Str) (ps : List Str) (sp : Sp) : Prop where
  ex : ∃ f fd, mg x = some (.ref f) ∧ PySem.W.keepIn K (.ref f) = true ∧ FnOk P w K mg base (L2.CX P w) k f fd ps sp ∧ Binds K fd ps [] ∧ ∀ (s : Shared) (us : List Value), us.length = ps.length → BindsTo s fd ⟨[], ps.zip us⟩ (ps.zip us)
theorem CalX.mono {j : Nat} {sp : Sp} (c : CalX P w K mg base j x ps sp) (h : j ≤ k) : CalX P w K mg base k x ps sp := by
  obtain ⟨f, fd, h1, h2, F, b1, b2⟩ := c.ex
  exact ⟨f, fd, h1, h2, F.mono h, b1, b2⟩
theorem FnOk.lawX {n : Nat} {g g' : List D → Option Res} (F : FnOk P w K mg base (L2.CX P w) k f fd ps (spX K n g)) (h : ∀ ds d, g' ds = some d → g ds = some d) : FnOk P w K mg base (L2.CX P w) k f fd ps (spX K n g') :=
  F.imp fun vs H Q E ⟨hl, H0, ds, d, x0, hd, hg, q⟩ => ⟨hl, H0, ds, d, x0, hd, h ds d hg, q⟩
end
section
variable {X : Cx} {W : WX} {k : Nat} {x : Str} {n : Nat} {ps : List Str} {g : List D → Option Res} {e a b c : Expr} {es : List Expr} {ga gs : GA} {p pos : Pos} {sp : Sp} {t : TA}
abbrev GX := Den → Option (Str × Str × D × Den)
def DXv (K : PySem.W.Frag) (W : WX) (te : TE) (g : GX) : Prop := ∀ (T : Th) (δ : Den) c f v δ', g δ = some (c, f, v, δ') → ∀ H0 H σ, Sd K T H0 H σ δ →
  (∀ H0' H' dd fs u, Ex H0 H0' → Sd K T H0' H' σ δ' → H' dd = some (.xd fs) → fs.lookup f = some u → Dt K H0' u v → W (.ref (He.ga K c)) (some dd) σ H') → ∀ Q, te σ H Q
def DXAv (K : PySem.W.Frag) (W : WX) (te : TA) (g : GX) : Prop := ∀ (T : Th) (δ : Den) c f v δ', g δ = some (c, f, v, δ') → ∀ H0 H σ, Sd K T H0 H σ δ →
  (∀ H0' H' dd fs u, Ex H0 H0' → Sd K T H0' H' σ δ' → H' dd = some (.xd fs) → fs.lookup f = some u → Dt K H0' u v → W (.ref (He.ga K c)) (some dd) σ H') → ∀ Q, te σ H Q
/-- its values and its exceptions by one reading -/
def PDX (X : Cx) (W : WX) (e : Expr) (g : GE) (gx : GX) : Prop := ∃ te, PE X e te ∧ DEv X.K te g ∧ DXv X.K W te gx
def PDXA (X : Cx) (W : WX) (es : List Expr) (g : GA) (gx : GX) : Prop := ∃ te, PA X es te ∧ DAv X.K te g ∧ DXAv X.K W te gx
def gxNo : GX := fun _ => none
theorem pdx_of {ge : GE} (h : PDE X e ge) : PDX X W e ge gxNo := by
  obtain ⟨t, a1, a2⟩ := h
  exact ⟨t, a1, a2, fun T δ c f v δ' e => by cases e⟩
def tCalX (sp : Sp) (W : WX) (t : TA) : TE := fun σ H Q => t σ H fun vs H1 => sp vs H1 Q (WE W σ)
theorem pe_calX (cl : CalX X.prog X.w X.K X.mg X.base k x ps sp) (hr : Room k X.A) (tk : Takes X W) (ha : PA X (e :: es) t) (hg : Gl X x := by rfl) (hdb : (x == ("__debug__" : Str)) = false := by decide)
    (he : starEach (e :: es) X.env = (false, eval e X.env) :: starEach es X.env := by rfl) (hpl : (backTo pos (starEach es X.env)).any (·.1) = false := by rfl) : PE X (.Call (.Name x p) (e :: es) [] pos) (tCalX sp W t) := by
  obtain ⟨f, fd, hm, hk, F, hb, _⟩ := cl.ex
  refine ⟨fun pins s σ H Q I h => ?_⟩
  refine wpAny_Call_Name_kw (ld_glob I hg hm ?_ hdb)
  refine PySem.W.callWith_K (h₀ := X.base) I.ok.mod.kin hk (thn (ha.run pos pins s σ H _ I h) fun us s1 ⟨vs, H1, I1, r, q⟩ => ⟨I1.kIn, ?_⟩) he hpl
  exact run_fnS (E := WE W) F hr hb (passAt tk σ) I1 r q
/-- f(k = e), the only parameter -/
theorem pe_calXk {kn : Str} {te : TE} {kp : Pos} (cl : CalX X.prog X.w X.K X.mg X.base k x [kn] sp) (hr : Room k X.A) (tk : Takes X W) (ha : PE X e te) (hg : Gl X x := by rfl) (hdb : (x == ("__debug__" : Str)) = false := by decide)
    (hall : (backToKw pos (keywordEach [⟨some kn, e, kp⟩] X.env)).all (·.1.isSome) = true := by rfl) (hks : (backToKw pos (keywordEach [⟨some kn, e, kp⟩] X.env)).filterMap (·.1) = [kn] := by rfl)
    (hpl : ((backTo pos (starEach [] X.env)).any (·.1) || (backToKw pos (keywordEach [⟨some kn, e, kp⟩] X.env)).any (·.1.isNone)) = false := by rfl) : PE X (.Call (.Name x p) [] [⟨some kn, e, kp⟩] pos) (tCalX sp W (tCons te tNil)) := by
  obtain ⟨f, fd, hm, hk, F, _, hb⟩ := cl.ex
  refine ⟨fun pins s σ H Q I h => ?_⟩
  refine wpAny_Call_Name_kw (ld_glob I hg hm ?_ hdb)
  refine PySem.W.callWith_KW0 (h₀ := X.base) I.ok.mod.kin hk hall (thn ((pk_cons ha pk_nil).run pos pins s σ H _ I h) fun ws s2 ⟨zs, H2, I2, rz, q2⟩ => ⟨I2.kIn, ?_⟩) hpl
  rw [hks]
  have hl : zs.length = 1 := F.len _ _ _ _ q2
  have hw : ws.length = [kn].length := by rw [← rz.length]; exact hl
  refine wpAny_call (codeAny_mono (F.run X.A X.stack s2 H2 ⟨[], [kn].zip ws⟩ ws zs Q (WE W σ) hr I2.env0 (hb s2 ws hw) rz q2) fun r s' hq => ?_)
  cases r with
  | error e => exact passAt tk σ pins _ _ _ _ I2 hq
  | ok fl =>
    cases fl with
    | ret u => exact I2.after hq
    | next => exact False.elim hq
    | brk => exact False.elim hq
    | cont => exact False.elim hq
def gCalO (g : List D → Option Res) (n : Nat) (ga : GA) : GE := fun δ => match ga δ with
  | some (ds, δ') => if ds.length = n then (match g ds with
    | some (.ok d) => some (d, δ')
    | _ => none) else none
  | none => none
def gCalE (g : List D → Option Res) (n : Nat) (ga : GA) : GX := fun δ => match ga δ with
  | some (ds, δ') => if ds.length = n then (match g ds with
    | some (.error (c, f, d)) => some (c, f, d, δ')
    | _ => none) else none
  | none => none
theorem dev_calO {K : PySem.W.Frag} (ht : DAv K t ga) : DEv K (tCalX (spX K n g) W t) (gCalO g n ga) := fun T δ d δ' e H0 H σ S Q q => by
  unfold gCalO at e
  split at e
  · rename_i ds δ1 e1
    obtain ⟨hl, e⟩ := ite_some e
    split at e
    · rename_i d' e2
      cases e
      refine ht T δ ds δ' e1 H0 H σ S _ fun vs H01 H1 x1 S1 r1 => ?_
      exact ⟨by rw [r1.length]; exact hl, H01, ds, .ok d, S1.ex, r1, e2, fun v H0' H' y0 y1 y f r => q v H0' H' (x1.trans y0) (S1.called y0 y1 y f) r⟩
    · cases e
  · cases e
theorem dxv_calE {K : PySem.W.Frag} (ht : DAv K t ga) : DXv K W (tCalX (spX K n g) W t) (gCalE g n ga) := fun T δ c f v δ' e H0 H σ S q Q => by
  unfold gCalE at e
  split at e
  · rename_i ds δ1 e1
    obtain ⟨hl, e⟩ := ite_some e
    split at e
    · rename_i c' f' d' e2
      cases e
      refine ht T δ ds δ' e1 H0 H σ S _ fun vs H01 H1 x1 S1 r1 => ?_
      exact ⟨by rw [r1.length]; exact hl, H01, ds, .error (c, f, v), S1.ex, r1, e2, fun H0' H' dd fs u y0 y1 y fr h1 h2 r => q H0' H' dd fs u (x1.trans y0) (S1.called y0 y1 y fr) h1 h2 r⟩
    · cases e
  · cases e
theorem pdx_cal (cl : CalX X.prog X.w X.K X.mg X.base k x ps (spX X.K n g)) (hr : Room k X.A) (tk : Takes X W) (ha : PDA X (e :: es) ga) (hg : Gl X x := by rfl) (hdb : (x == ("__debug__" : Str)) = false := by decide)
    (he : starEach (e :: es) X.env = (false, eval e X.env) :: starEach es X.env := by rfl) (hpl : (backTo pos (starEach es X.env)).any (·.1) = false := by rfl) : PDX X W (.Call (.Name x p) (e :: es) [] pos) (gCalO g n ga) (gCalE g n ga) := by
  obtain ⟨t, a1, a2⟩ := ha
  exact ⟨_, pe_calX cl hr tk a1 hg hdb he hpl, dev_calO a2, dxv_calE a2⟩
theorem pdx_calk {kn : Str} {ge : GE} {kp : Pos} (cl : CalX X.prog X.w X.K X.mg X.base k x [kn] (spX X.K n g)) (hr : Room k X.A) (tk : Takes X W) (ha : PDE X e ge) (hg : Gl X x := by rfl) (hdb : (x == ("__debug__" : Str)) = false := by decide)
    (hall : (backToKw pos (keywordEach [⟨some kn, e, kp⟩] X.env)).all (·.1.isSome) = true := by rfl) (hks : (backToKw pos (keywordEach [⟨some kn, e, kp⟩] X.env)).filterMap (·.1) = [kn] := by rfl)
    (hpl : ((backTo pos (starEach [] X.env)).any (·.1) || (backToKw pos (keywordEach [⟨some kn, e, kp⟩] X.env)).any (·.1.isNone)) = false := by rfl) :
    PDX X W (.Call (.Name x p) [] [⟨some kn, e, kp⟩] pos) (gCalO g n (Dx.gCons ge Dx.gNil)) (gCalE g n (Dx.gCons ge Dx.gNil)) := by
  obtain ⟨t, a1, a2⟩ := ha
  have dv : DAv X.K (tCons t tNil) (Dx.gCons ge Dx.gNil) := fun T δ ds δ' e H0 H σ S Q q => by
    unfold Dx.gCons Dx.gNil at e
    split at e
    · rename_i d δ1 e1
      cases e
      exact a2 T δ d δ' e1 H0 H σ S _ fun v H01 H1 x1 S1 r1 => q [v] H01 H1 x1 S1 (.cons r1 .nil)
    · cases e
  exact ⟨_, pe_calXk cl hr tk a1 hg hdb hall hks hpl, dev_calO dv, dxv_calE dv⟩
def gxIf (t : GT) (ga gb : GX) : GX := fun δ => match t δ with
  | some (true, δ') => ga δ'
  | some (false, δ') => gb δ'
  | none => none
theorem pdx_if {t : GT} {ga gb : GE} {gax gbx : GX} (hc : PDT X c t) (ha : PDX X W a ga gax) (hb : PDX X W b gb gbx) : PDX X W (.IfExp c a b pos) (gIf t ga gb) (gxIf t gax gbx) := by
  obtain ⟨tc, c1, c2⟩ := hc
  obtain ⟨ta, a1, a2, a3⟩ := ha
  obtain ⟨tb, b1, b2, b3⟩ := hb
  refine ⟨_, pe_ifExp c1 a1 b1, fun T δ d δ' e H0 H σ S Q q => ?_, fun T δ cc f v δ' e H0 H σ S q Q => ?_⟩
  · unfold gIf at e
    split at e
    · rename_i δ1 e1
      refine c2 T δ true δ1 e1 H0 H σ S _ fun H01 H1 x1 S1 => ?_
      show ta σ H1 Q
      exact a2 T δ1 d δ' e H01 H1 σ S1 _ fun v H02 H2 x2 S2 r2 => q v H02 H2 (x1.trans x2) S2 r2
    · rename_i δ1 e1
      refine c2 T δ false δ1 e1 H0 H σ S _ fun H01 H1 x1 S1 => ?_
      show tb σ H1 Q
      exact b2 T δ1 d δ' e H01 H1 σ S1 _ fun v H02 H2 x2 S2 r2 => q v H02 H2 (x1.trans x2) S2 r2
    · cases e
  · unfold gxIf at e
    split at e
    · rename_i δ1 e1
      refine c2 T δ true δ1 e1 H0 H σ S _ fun H01 H1 x1 S1 => ?_
      show ta σ H1 Q
      exact a3 T δ1 cc f v δ' e H01 H1 σ S1 (fun H02 H2 dd fs u x2 S2 h1 h2 r => q H02 H2 dd fs u (x1.trans x2) S2 h1 h2 r) Q
    · rename_i δ1 e1
      refine c2 T δ false δ1 e1 H0 H σ S _ fun H01 H1 x1 S1 => ?_
      show tb σ H1 Q
      exact b3 T δ1 cc f v δ' e H01 H1 σ S1 (fun H02 H2 dd fs u x2 S2 h1 h2 r => q H02 H2 dd fs u (x1.trans x2) S2 h1 h2 r) Q
    · cases e
theorem pdxa_nil : PDXA X W [] Dx.gNil gxNo := by
  obtain ⟨t, a1, a2⟩ := (pda_nil : PDA X [] Dx.gNil)
  exact ⟨t, a1, a2, fun T δ c f v δ' e => by cases e⟩
def gxCons (g : GE) (gx hx : GX) : GX := fun δ => match gx δ with
  | some r => some r
  | none => (match g δ with
    | some (_, δ1) => hx δ1
    | none => none)
theorem pdxa_cons {ge : GE} {gx hx : GX} (ha : PDX X W a ge gx) (hr : PDXA X W es gs hx) (hs : starEach (a :: es) X.env = (false, eval a X.env) :: starEach es X.env := by rfl) : PDXA X W (a :: es) (Dx.gCons ge gs) (gxCons ge gx hx) := by
  obtain ⟨t, a1, a2, a3⟩ := ha
  obtain ⟨u, b1, b2, b3⟩ := hr
  refine ⟨_, pa_cons a1 b1 hs, fun T δ ds δ' e H0 H σ S Q q => ?_, fun T δ c f v δ' e H0 H σ S q Q => ?_⟩
  · unfold Dx.gCons at e
    split at e
    · rename_i d δ1 e1
      split at e
      · rename_i ds' δ2 e2
        cases e
        refine a2 T δ d δ1 e1 H0 H σ S _ fun v H01 H1 x1 S1 r1 => ?_
        exact b2 T δ1 ds' δ' e2 H01 H1 σ S1 _ fun vs H02 H2 x2 S2 r2 => q _ H02 H2 (x1.trans x2) S2 (.cons (r1.mono x2) r2)
      · cases e
    · cases e
  · unfold gxCons at e
    split at e
    · rename_i r e1
      cases e
      exact a3 T δ c f v δ' e1 H0 H σ S q _
    · split at e
      · rename_i d δ1 e1
        refine a2 T δ d δ1 e1 H0 H σ S _ fun y H01 H1 x1 S1 r1 => ?_
        exact b3 T δ1 c f v δ' e H01 H1 σ S1 (fun H02 H2 dd fs u x2 S2 h1 h2 r => q H02 H2 dd fs u (x1.trans x2) S2 h1 h2 r) _
      · cases e
theorem pdx_lst {gx : GX} (h : PDXA X W es gs gx) : PDX X W (.List es pos) (gLst gs) gx := by
  obtain ⟨u, b1, b2, b3⟩ := h
  refine ⟨_, pe_lst b1, fun T δ d δ' e H0 H σ S Q q => ?_, fun T δ c f v δ' e H0 H σ S q Q => b3 T δ c f v δ' e H0 H σ S q _⟩
  unfold gLst at e
  split at e
  · rename_i ds δ1 e1
    obtain ⟨hz, e⟩ := ite_some e
    cases e
    refine b2 T δ ds δ' e1 H0 H σ S _ fun vs H01 H1 x1 S1 r1 => ⟨by rw [r1.length]; exact hz, fun p hp => ?_⟩
    exact q _ _ _ (x1.trans (S1.layEx hp)) (S1.lay hp) (.lst upd_same (r1.mono (S1.layEx hp)))
  · cases e
/-- return e, name = e where e may raise -/
def gsX (gx : GX) (g : GS) : GS := fun δ => match gx δ with
  | some (c, f, v, δ') => some (.ex c f v δ')
  | none => g δ
theorem pds_retx {ge : GE} {gx : GX} (h : PDX X W e ge gx) : PDS X W (.Return (some e) pos) (gsX gx (gsRet ge)) := by
  obtain ⟨t, a1, a2, a3⟩ := h
  refine ⟨_, ps_ret a1, fun T δ o e H0 H σ S E q => ?_⟩
  unfold gsX at e
  split at e
  · rename_i c f v δ1 e1
    cases e
    exact a3 T δ c f v δ1 e1 H0 H σ S (fun H0' H' dd fs u x1 S1 h1 h2 r => q H0' H' σ dd fs u x1 S1 h1 h2 r) _
  · unfold gsRet at e
    split at e
    · rename_i d δ1 e1
      cases e
      exact a2 T δ d δ1 e1 H0 H σ S _ fun v H01 H1 x1 S1 r => q v H01 H1 σ x1 S1 r
    · cases e
end
end Dx
set_option Elab.async false
set_option linter.all false
set_option maxRecDepth 100000
set_option maxHeartbeats 4000000
namespace Dx
open PySem PySem.Spec PyProof.Rows L2 Evl
def rdS (K : PySem.W.Frag) (W : WX) (g : GS) : TS := fun E σ H => ∃ T δ o H0, g δ = some o ∧ Sd K T H0 H σ δ ∧ Hit K T H0 E W o
theorem dsv_rd {K : PySem.W.Frag} {W : WX} {g : GS} : DSv K W (rdS K W g) g := fun T δ o e H0 H σ S E q => ⟨T, δ, o, H0, e, S, q⟩
section
variable {X : Cx} {W : WX} {sts : List Stmt} {g : GS}
theorem PDSs.rd (h : PDSs X W sts g) : PSs X sts (rdS X.K W g) := by
  obtain ⟨t, p1, p2⟩ := h
  exact ⟨fun pins s σ H D I ⟨T, δ, o, H0, e, S, q⟩ => p1.run pins s σ H D I (p2 T δ o e H0 H σ S D q)⟩
/-- try: .. except x as n: return [s, n.f] -/
def gsTry (x f s : Str) (i : Nat) (gb : GS) : GS := fun δ => match gb δ with
  | some (.ex c f' v δ') => if c = x ∧ f' = f ∧ i < δ'.length then some (.rt (.lst [.str s, v]) δ') else none
  | o => o
theorem pds_try {x n f z : Str} (i : Nat) {body : List Stmt} {np p1 p2 p3 p4 p5 pos pos' : Pos} {j : Nat} (hN : X.N.Nodup) (tk : Takes X W) (c : Gh.Xc X.K x f) (hm : X.mg x = some (.ref (He.ga X.K x)))
    (hb : ∀ (W' : WX) (pn : List (Addr × Obj)) (xe : Value → Shared → Prop), Takes (X.tr pn xe) W' → PDSs (X.tr pn xe) W' body g)
    (hs : X.stack = X.env :: X.outer := by rfl) (hf : X.env.frame = some X.env.locals := by rfl) (hi : X.N[i]? = some n := by rfl) (hln : X.env.kindOf n = some .local := by rfl) (hg : Gl X x := by rfl) (hdb : (x == ("__debug__" : Str)) = false := by decide)
    (hd : (n == ("__debug__" : Str)) = false := by decide) (hcd : (n == ("__classdict__" : Str)) = false := by decide)
    (hl1 : ∀ (a : Addr) (pn : List (Addr × Obj)), starEach [.Constant (.str z) j p1, .Attribute (.Name n p2) f p3] (X.suite a pn).env = (false, eval (.Constant (.str z) j p1) (X.suite a pn).env) :: starEach [.Attribute (.Name n p2) f p3] (X.suite a pn).env := by intro _ _; rfl)
    (hl2 : ∀ (a : Addr) (pn : List (Addr × Obj)), starEach [.Attribute (.Name n p2) f p3] (X.suite a pn).env = (false, eval (.Attribute (.Name n p2) f p3) (X.suite a pn).env) :: starEach [] (X.suite a pn).env := by intro _ _; rfl)
    (hba : ∀ (a : Addr) (pn : List (Addr × Obj)), attributeBase (.Name n p2) f (X.suite a pn).env (eval (.Name n p2) (X.suite a pn).env) = eval (.Name n p2) (X.suite a pn).env := by intro _ _; rfl) :
    PDS X W (.Try body [.ExceptHandler (some (.Name x np)) (some n) [.Return (some (.List [.Constant (.str z) j p1, .Attribute (.Name n p2) f p3] p4)) p5] pos'] [] [] pos) (gsTry x f z i g) := by
  refine ⟨_, ps_try_as (tb := fun W' => rdS X.K W' g) (ts := fun a cls d => tRet (tLst (tCons (tC (.str z)) (tCons (tXf a cls d (He.ga X.K x) f (tVar i)) tNil)))) hs hf hN hi hln ⟨hg, hdb, .inl hm⟩ tk (fun W' pn xe tk' _ => (hb W' pn xe tk').rd) (fun a oe cls d pn hz hfs => ?_), fun T δ o e H0 H σ S E q => ?_⟩
  · exact pss_one (ps_ret (pe_lst (pa_cons pe_str (pa_cons (pe_xf (pn := pn) c.xf c.no hz hfs (pv i hi (.inl hln) hd hcd) (hba a pn)) pa_nil (hl2 a pn)) (hl1 a pn))))
  · have ok : ∀ {o' : Out}, g δ = some o' → (∀ c' f' v δ', o' = .ex c' f' v δ' → c' = x ∧ f' = f ∧ i < δ'.length ∧ Hit X.K T H0 E W (.rt (.lst [.str z, v]) δ')) → ((∀ c' f' v δ', o' ≠ .ex c' f' v δ') → Hit X.K T H0 E W o') →
        rdS X.K (wAs X.K (.ref (He.ga X.K x)) i (fun a cls d => tRet (tLst (tCons (tC (.str z)) (tCons (tXf a cls d (He.ga X.K x) f (tVar i)) tNil)))) W E) g E σ H := fun {o'} e' h1 h2 => by
      refine ⟨T, δ, o', H0, e', S, ?_⟩
      cases o' with
      | nx δ1 => exact h2 fun _ _ _ _ z => by cases z
      | rt d δ1 => exact h2 fun _ _ _ _ z => by cases z
      | bk δ1 => exact h2 fun _ _ _ _ z => by cases z
      | ct δ1 => exact h2 fun _ _ _ _ z => by cases z
      | ex c' f' v δ1 =>
        obtain ⟨rfl, rfl, hil, hq⟩ := h1 c' f' v δ1 rfl
        intro H0' H' σ' dd fs u x1 S1 hdd hlk r
        refine ⟨true, c.exm, fun _ a ha => ?_, fun z => by cases z⟩
        have hσ : (σ'.set i (some (V.ref a)))[i]? = some (some (.ref a)) := List.getElem?_set_self (by rw [S1.len]; exact hil)
        refine ⟨.ref a, hσ, rfl, rfl, dd, fs, u, rfl, hdd, hlk, (show 2 ≤ sizeLine by decide), fun p hp => ?_⟩
        have x2 := S1.layEx (o := .lst [.str z, u]) hp
        exact hq _ _ _ σ' (x1.trans x2) (S1.lay hp) (.lst upd_same (.cons (.str _) (.cons (r.mono x2) .nil)))
    unfold gsTry at e
    cases e1 : g δ with
    | none => rw [e1] at e; cases e
    | some o1 =>
      rw [e1] at e
      refine ok e1 (fun c' f' v δ' z => ?_) (fun hne => ?_)
      · subst z
        obtain ⟨⟨h1, h2, h3⟩, e⟩ := ite_some e
        cases e
        exact ⟨h1, h2, h3, q⟩
      · cases o1 with
        | ex c' f' v δ1 => exact absurd rfl (hne c' f' v δ1)
        | _ => cases e; exact q
end
end Dx
set_option Elab.async false
set_option linter.all false
set_option maxRecDepth 100000
set_option maxHeartbeats 4000000
/-! zip of any two sequences: an iterator is what steps and stops -/
namespace Zx
open PySem PySem.Spec PyProof.Rows L2
/-- the iterator i over l gives v: P before, P' behind -/
structure Stp (prog : Program) (w : World) (A : Around) (i l : Addr) (v : Value) (P P' : Heap → Prop) : Prop where
  keep : ∀ h h', P h → (∀ o, h.get? i = some o → h'.get? i = some o) → (∀ o, h.get? l = some o → h'.get? l = some o) → P h'
  keep' : ∀ h h', P' h → (∀ o, h.get? i = some o → h'.get? i = some o) → (∀ o, h.get? l = some o → h'.get? l = some o) → P' h'
  run : ∀ (s : Shared) (Q : Value → Shared → Prop) (E : Value → Shared → Prop), P s.heap → (∀ h', P' h' → Heap.SameBut i s.heap h' → Q v { s with heap := h' }) → wpAny (model prog w) A (Builtin.SmallTypes.nextOf (.ref i)) Q E s
structure Stop (prog : Program) (w : World) (A : Around) (i l : Addr) (P : Heap → Prop) : Prop where
  keep : ∀ h h', P h → (∀ o, h.get? i = some o → h'.get? i = some o) → (∀ o, h.get? l = some o → h'.get? l = some o) → P h'
  run : ∀ (s : Shared) (Q : Value → Shared → Prop) (E : Value → Shared → Prop), P s.heap → (∀ h' e, Heap.ExtBut i s.heap h' → (∃ o, h'.get? e = some o ∧ o.cls = .type "StopIteration") → E (.ref e) { s with heap := h' }) →
    wpAny (model prog w) A (Builtin.SmallTypes.nextOf (.ref i)) Q E s
section
variable {prog : Program} {w : World} {A : Around} {E : Value → Shared → Prop} {s : Shared} {z TI TO i1 i2 l1 l2 : Addr} {x y a b : Value} {P1 P1' P2 P2' : Heap → Prop}
theorem next_item {Q : Value → Shared → Prop} (D : ZipApart z TI TO i1 i2 l1 l2) (hz : IsZip s.heap z TI TO .none) (hTI : IsPair s.heap TI (.ref i1) (.ref i2)) (hTO : IsPair s.heap TO a b)
    (S1 : Stp prog w A i1 l1 x P1 P1') (S2 : Stp prog w A i2 l2 y P2 P2') (p1 : P1 s.heap) (p2 : P2 s.heap) (q1 : ∃ o, s.heap.get? i1 = some o) (q2 : ∃ o, s.heap.get? i2 = some o)
    (hQ : ∀ h', IsZip h' z TI TO (rawInt s.heap.objs.size) → IsPair h' TO x y → P1' h' → P2' h' → IsPair h' s.heap.objs.size x y → h'.objs.size = s.heap.objs.size + 1 →
      (∀ c o, c ≠ z → c ≠ TO → c ≠ i1 → c ≠ i2 → s.heap.get? c = some o → h'.get? c = some o) → Q (.ref s.heap.objs.size) { s with heap := h' }) :
    wpAny (model prog w) A (Builtin.«zip.__next__» ⟨[.ref z], []⟩) (fun fin s' => ∃ v, fin = .done (.ret v) ∧ Q v s') E s := by
  show wpAny _ _ (field (.ref z) 2 >>= _) _ _ _
  refine wpAny_bind (wpAny_field hz rfl (x := .bool false) rfl ?_)
  show wpAny _ _ (field (.ref z) 3 >>= _) _ _ _
  refine wpAny_bind (wpAny_field hz rfl (x := .ref TI) rfl (wpAny_bind (wpAny_seqItems hTI rfl ?_)))
  show wpAny _ _ (Builtin.SmallTypes.ownedTupleIsFree (.ref z) >>= _) _ _ _
  refine wpAny_bind ?_
  unfold Builtin.SmallTypes.ownedTupleIsFree
  refine wpAny_bind (wpAny_field hz rfl (x := .none) rfl (wpAny_pure ?_))
  simp only [if_true]
  refine wpAny_bind (wpAny_rule (wpAny_bind (wpAny_field hz rfl (x := .ref TO) rfl (wpAny_bind (wpAny_setField_rec hz (by simp) fun g1 z1 s1 => ?_)))))
  replace z1 : IsZip g1 z TI TO .ellipsis := z1
  refine wpAny_bind ?_
  simp only [List.zipIdx_cons, List.zipIdx_nil, List.forIn_cons, List.forIn_nil]
  have e1 := s1.extBut
  -- the first one
  refine wpAny_bind (wpAny_bind (wpAny_onRaise ?_))
  show wpAny _ _ (Builtin.SmallTypes.nextOf (.ref i1) >>= _) _ _ _
  refine wpAny_bind (S1.run _ _ _ (S1.keep _ _ p1 (fun o e => e1 _ o D.i1z e) (fun o e => e1 _ o D.l1z e)) fun g2 p2' s2 => wpAny_pure ?_)
  have e2 := s2.extBut
  have to2 : IsPair g2 TO a b := e2 _ _ D.TOi1 (e1 _ _ D.TOz hTO)
  refine wpAny_bind (wpAny_seqItems to2 rfl (wpAny_bind (wpAny_updateSeq_pair to2 fun g3 to3 s3 => ?_)))
  replace to3 : IsPair g3 TO x b := to3
  have e3 := s3.extBut
  refine wpAny_bind (wpAny_letGo (wpAny_pure ?_))
  -- the second one
  refine wpAny_bind (wpAny_bind (wpAny_onRaise ?_))
  show wpAny _ _ (Builtin.SmallTypes.nextOf (.ref i2) >>= _) _ _ _
  refine wpAny_bind (S2.run _ _ _ (S2.keep _ _ p2 (fun o e => e3 _ o D.TOi2.symm (e2 _ o D.i12.symm (e1 _ o D.i2z e))) (fun o e => e3 _ o D.l2TO (e2 _ o D.l2i1 (e1 _ o D.l2z e)))) fun g4 p4 s4 => wpAny_pure ?_)
  have e4 := s4.extBut
  have to4 : IsPair g4 TO x b := e4 _ _ D.TOi2 to3
  refine wpAny_bind (wpAny_seqItems to4 rfl (wpAny_bind (wpAny_updateSeq_pair to4 fun g5 to5 s5 => ?_)))
  replace to5 : IsPair g5 TO x y := to5
  have e5 := s5.extBut
  refine wpAny_bind (wpAny_letGo (wpAny_pure (wpAny_pure (wpAny_bind (wpAny_seqItems to5 rfl (wpAny_bind (wpAny_newTuple ?_)))))))
  have sz : g5.objs.size = s.heap.objs.size := by rw [s5.1, s4.1, s3.1, s2.1, s1.1]
  have zip5 : IsZip g5 z TI TO .ellipsis := e5 _ _ D.TOz.symm (e4 _ _ D.i2z.symm (e3 _ _ D.TOz.symm (e2 _ _ D.i1z.symm z1)))
  have pass : ∀ c o, c ≠ z → c ≠ TO → c ≠ i1 → c ≠ i2 → s.heap.get? c = some o → g5.get? c = some o := fun c o c1 c2 c3 c4 e => e5 _ _ c2 (e4 _ _ c4 (e3 _ _ c2 (e2 _ _ c3 (e1 _ _ c1 e))))
  have f1 : P1' g5 := S1.keep' _ _ p2' (fun o e => e5 _ o D.TOi1.symm (e4 _ o D.i12 (e3 _ o D.TOi1.symm e))) (fun o e => e5 _ o D.l1TO (e4 _ o D.l1i2 (e3 _ o D.l1TO e)))
  have f2 : P2' g5 := S2.keep' _ _ p4 (fun o e => e5 _ o D.TOi2.symm e) (fun o e => e5 _ o D.l2TO e)
  have zlt : z < g5.objs.size := Heap.lt_size zip5
  show wpAny _ _ (Builtin.SmallTypes.ownedTupleHandOut (.ref z) (.ref g5.objs.size) >>= _) _ _ _
  refine wpAny_bind ?_
  unfold Builtin.SmallTypes.ownedTupleHandOut
  have zip6 : IsZip (g5.push { cls := .type "tuple", data := .seq #[x, y] }) z TI TO .ellipsis := Heap.get?_push_of_some _ zip5
  refine wpAny_bind (wpAny_setField_rec zip6 (by simp) fun g7 zip7 s7 => ?_)
  replace zip7 : IsZip g7 z TI TO (rawInt g5.objs.size) := zip7
  refine wpAny_setField_rec zip7 (by simp) fun g8 zip8 s8 => ?_
  replace zip8 : IsZip g8 z TI TO (rawInt g5.objs.size) := zip8
  have up : ∀ c o, c ≠ z → g5.get? c = some o → g8.get? c = some o := fun c o c1 e => s8.extBut _ _ c1 (s7.extBut _ _ c1 (Heap.get?_push_of_some _ e))
  have pair8 : IsPair g8 g5.objs.size x y := s8.extBut _ _ (Nat.ne_of_gt zlt) (s7.extBut _ _ (Nat.ne_of_gt zlt) (Heap.get?_push_size _ rfl))
  have size8 : g8.objs.size = g5.objs.size + 1 := by rw [s8.1, s7.1, Heap.size_push]
  rw [sz] at zip8 pair8 size8
  refine wpAny_pure ⟨_, rfl, ?_⟩
  show Q (.ref g5.objs.size) _
  rw [sz]
  exact hQ g8 zip8 (up _ _ D.TOz to5) (S1.keep' _ _ f1 (fun o e => up _ o D.i1z e) (fun o e => up _ o D.l1z e)) (S2.keep' _ _ f2 (fun o e => up _ o D.i2z e) (fun o e => up _ o D.l2z e)) pair8 size8 fun c o c1 c2 c3 c4 e => up c o c1 (pass c o c1 c2 c3 c4 e)
/-- the end, by the first one's end or by the second one's -/
theorem next_end {Q : Fin → Shared → Prop} (D : ZipApart z TI TO i1 i2 l1 l2) (hz : IsZip s.heap z TI TO .none) (hTI : IsPair s.heap TI (.ref i1) (.ref i2)) (hTO : IsPair s.heap TO a b)
    (h : (Stop prog w A i1 l1 P1 ∧ P1 s.heap) ∨ ∃ x, Stp prog w A i1 l1 x P1 P1' ∧ P1 s.heap ∧ Stop prog w A i2 l2 P2 ∧ P2 s.heap)
    (hE : ∀ h' e, (∀ c o, c ≠ z → c ≠ TO → c ≠ i1 → c ≠ i2 → s.heap.get? c = some o → h'.get? c = some o) → (∃ o, h'.get? e = some o ∧ o.cls = .type "StopIteration") → E (.ref e) { s with heap := h' }) :
    wpAny (model prog w) A (Builtin.«zip.__next__» ⟨[.ref z], []⟩) Q E s := by
  show wpAny _ _ (field (.ref z) 2 >>= _) _ _ _
  refine wpAny_bind (wpAny_field hz rfl (x := .bool false) rfl ?_)
  show wpAny _ _ (field (.ref z) 3 >>= _) _ _ _
  refine wpAny_bind (wpAny_field hz rfl (x := .ref TI) rfl (wpAny_bind (wpAny_seqItems hTI rfl ?_)))
  show wpAny _ _ (Builtin.SmallTypes.ownedTupleIsFree (.ref z) >>= _) _ _ _
  refine wpAny_bind ?_
  unfold Builtin.SmallTypes.ownedTupleIsFree
  refine wpAny_bind (wpAny_field hz rfl (x := .none) rfl (wpAny_pure ?_))
  simp only [if_true]
  refine wpAny_bind (wpAny_rule (wpAny_bind (wpAny_field hz rfl (x := .ref TO) rfl (wpAny_bind (wpAny_setField_rec hz (by simp) fun g1 z1 s1 => ?_)))))
  replace z1 : IsZip g1 z TI TO .ellipsis := z1
  refine wpAny_bind ?_
  simp only [List.zipIdx_cons, List.zipIdx_nil, List.forIn_cons, List.forIn_nil]
  have e1 := s1.extBut
  refine wpAny_bind (wpAny_bind (wpAny_onRaise ?_))
  show wpAny _ _ (Builtin.SmallTypes.nextOf (.ref i1) >>= _) _ _ _
  rcases h with ⟨T1, p1⟩ | ⟨x, S1, p1, T2, p2⟩
  · refine wpAny_bind (T1.run _ _ _ (T1.keep _ _ p1 (fun o e => e1 _ o D.i1z e) (fun o e => e1 _ o D.l1z e)) fun g2 e s2 he => ?_)
    obtain ⟨oe, h1, h2⟩ := he
    have z2 : IsZip g2 z TI TO .ellipsis := s2 _ _ D.i1z.symm z1
    have ne : e ≠ z := fun q => by subst q; rw [z2] at h1; cases h1; simp at h2
    exact wpAny_setField_rec z2 (by simp) fun g3 _ s3 => hE g3 e (fun c o c1 _ c3 _ q => s3.extBut _ _ c1 (s2 _ _ c3 (e1 _ _ c1 q))) ⟨oe, s3.extBut _ _ ne h1, h2⟩
  · refine wpAny_bind (S1.run _ _ _ (S1.keep _ _ p1 (fun o e => e1 _ o D.i1z e) (fun o e => e1 _ o D.l1z e)) fun g2 p2' s2 => wpAny_pure ?_)
    have e2 := s2.extBut
    have to2 : IsPair g2 TO a b := e2 _ _ D.TOi1 (e1 _ _ D.TOz hTO)
    refine wpAny_bind (wpAny_seqItems to2 rfl (wpAny_bind (wpAny_updateSeq_pair to2 fun g3 to3 s3 => ?_)))
    have e3 := s3.extBut
    refine wpAny_bind (wpAny_letGo (wpAny_pure (wpAny_bind (wpAny_bind (wpAny_onRaise ?_)))))
    show wpAny _ _ (Builtin.SmallTypes.nextOf (.ref i2) >>= _) _ _ _
    refine wpAny_bind (T2.run _ _ _ (T2.keep _ _ p2 (fun o e => e3 _ o D.TOi2.symm (e2 _ o D.i12.symm (e1 _ o D.i2z e))) (fun o e => e3 _ o D.l2TO (e2 _ o D.l2i1 (e1 _ o D.l2z e)))) fun g4 e s4 he => ?_)
    obtain ⟨oe, h1, h2⟩ := he
    have z4 : IsZip g4 z TI TO .ellipsis := s4 _ _ D.i2z.symm (e3 _ _ D.TOz.symm (e2 _ _ D.i1z.symm z1))
    have ne : e ≠ z := fun q => by subst q; rw [z4] at h1; cases h1; simp at h2
    exact wpAny_setField_rec z4 (by simp) fun g5 _ s5 => hE g5 e (fun c o c1 c2 c3 c4 q => s5.extBut _ _ c1 (s4 _ _ c4 (e3 _ _ c2 (e2 _ _ c3 (e1 _ _ c1 q))))) ⟨oe, s5.extBut _ _ ne h1, h2⟩
theorem py_item {Q : Option Value → Shared → Prop} (D : ZipApart z TI TO i1 i2 l1 l2) (hz : IsZip s.heap z TI TO .none) (hTI : IsPair s.heap TI (.ref i1) (.ref i2)) (hTO : IsPair s.heap TO a b)
    (S1 : Stp prog w A.in1 i1 l1 x P1 P1') (S2 : Stp prog w A.in1 i2 l2 y P2 P2') (p1 : P1 s.heap) (p2 : P2 s.heap) (q1 : ∃ o, s.heap.get? i1 = some o) (q2 : ∃ o, s.heap.get? i2 = some o)
    (hQ : ∀ h', IsZip h' z TI TO (rawInt s.heap.objs.size) → IsPair h' TO x y → P1' h' → P2' h' → IsPair h' s.heap.objs.size x y → h'.objs.size = s.heap.objs.size + 1 →
      (∀ c o, c ≠ z → c ≠ TO → c ≠ i1 → c ≠ i2 → s.heap.get? c = some o → h'.get? c = some o) → Q (some (.ref s.heap.objs.size)) { s with heap := h' }) :
    wpAny (model prog w) A (pyNext (.ref z)) Q E s := by
  have hT : s.TypeIs (.ref z) "zip" := ⟨_, hz, rfl⟩
  unfold pyNext
  exact wpAny_bind (wpAny_attempt (wpAny_callSpecial?_slot (name := Str.ofString "__next__") hT F.slot_zip_next
    (wpAny_call_entry F.slot_zip_next hT F.entry_zip_next (next_item D hz hTI hTO S1 S2 p1 p2 q1 q2 fun h' a1 a2 a3 a4 a5 a6 a7 => wpAny_pure (hQ h' a1 a2 a3 a4 a5 a6 a7)) (F.args_zip_next_1 _))))
theorem py_end {Q : Option Value → Shared → Prop} (D : ZipApart z TI TO i1 i2 l1 l2) (hz : IsZip s.heap z TI TO .none) (hTI : IsPair s.heap TI (.ref i1) (.ref i2)) (hTO : IsPair s.heap TO a b)
    (h : (Stop prog w A.in1 i1 l1 P1 ∧ P1 s.heap) ∨ ∃ x, Stp prog w A.in1 i1 l1 x P1 P1' ∧ P1 s.heap ∧ Stop prog w A.in1 i2 l2 P2 ∧ P2 s.heap)
    (hQ : ∀ h', (∀ c o, c ≠ z → c ≠ TO → c ≠ i1 → c ≠ i2 → s.heap.get? c = some o → h'.get? c = some o) → Q none { s with heap := h' }) : wpAny (model prog w) A (pyNext (.ref z)) Q E s := by
  have hT : s.TypeIs (.ref z) "zip" := ⟨_, hz, rfl⟩
  unfold pyNext
  refine wpAny_bind (wpAny_attempt (wpAny_callSpecial?_slot (name := Str.ofString "__next__") hT F.slot_zip_next
    (wpAny_call_entry F.slot_zip_next hT F.entry_zip_next (next_end D hz hTI hTO h fun h' e hk he => ?_) (F.args_zip_next_1 _))))
  obtain ⟨o, ho, hc⟩ := he
  exact wpAny_bind (wpAny_isInstance (T := "StopIteration") (b := true) ⟨o, ho, hc⟩ isSubtype_stop (wpAny_pure (hQ _ hk)))
/-! ### the two kinds -/
def It2 (k : Bool) (h : Heap) (i l : Addr) (n : Nat) : Prop := if k = true then h.IsListIter i l n else h.IsTupleIter i l n
def Sq2 (k : Bool) (h : Heap) (l : Addr) (xs : Array Value) : Prop := if k = true then h.IsList l xs else h.IsTuple l xs
theorem It2.at_ {k : Bool} {h h' : Heap} {i l : Addr} {n : Nat} (p : It2 k h i l n) (e : ∀ o, h.get? i = some o → h'.get? i = some o) : It2 k h' i l n := by
  cases k with
  | true => exact Heap.IsListIter.at (h := h) p e
  | false => exact Heap.IsTupleIter.at (h := h) p e
theorem Sq2.at_ {k : Bool} {h h' : Heap} {l : Addr} {xs : Array Value} (p : Sq2 k h l xs) (e : ∀ o, h.get? l = some o → h'.get? l = some o) : Sq2 k h' l xs := by
  cases k with
  | true => obtain ⟨o, ho, r⟩ := (show h.IsList l xs from p); exact (show h'.IsList l xs from ⟨o, e o ho, r⟩)
  | false => obtain ⟨o, ho, r⟩ := (show h.IsTuple l xs from p); exact (show h'.IsTuple l xs from ⟨o, e o ho, r⟩)
theorem It2.obj {k : Bool} {h : Heap} {i l : Addr} {n : Nat} (p : It2 k h i l n) : ∃ o, h.get? i = some o ∧ ∀ v, o.data ≠ .cell v := by
  cases k with
  | true => obtain ⟨o, ho, _, d⟩ := (show h.IsListIter i l n from p); exact ⟨o, ho, fun v q => by rw [d] at q; cases q⟩
  | false => obtain ⟨o, ho, _, d⟩ := (show h.IsTupleIter i l n from p); exact ⟨o, ho, fun v q => by rw [d] at q; cases q⟩
theorem Sq2.lt {k : Bool} {h : Heap} {l : Addr} {xs : Array Value} (p : Sq2 k h l xs) : l < h.objs.size := by
  cases k with
  | true => obtain ⟨o, ho, _⟩ := (show h.IsList l xs from p); exact Heap.lt_size ho
  | false => obtain ⟨o, ho, _⟩ := (show h.IsTuple l xs from p); exact Heap.lt_size ho
theorem Sq2.push {k : Bool} {h : Heap} {l : Addr} {xs : Array Value} (p : Sq2 k h l xs) (o : Obj) : Sq2 k (h.push o) l xs := p.at_ fun _ e => Heap.get?_push_of_some _ e
theorem stp2 {k : Bool} {i l : Addr} {n : Nat} {xs : Array Value} (hx : xs[n]? = some x) (ne : l ≠ i) : Stp prog w A i l x (fun h => It2 k h i l n ∧ Sq2 k h l xs) (fun h => It2 k h i l (n + 1) ∧ Sq2 k h l xs) := by
  refine ⟨fun h h' p e1 e2 => ⟨p.1.at_ e1, p.2.at_ e2⟩, fun h h' p e1 e2 => ⟨p.1.at_ e1, p.2.at_ e2⟩, fun s Q E p hQ => ?_⟩
  obtain ⟨p1, p2⟩ := p
  cases k with
  | true => exact wpAny_nextOf_list_item (show s.heap.IsListIter i l n from p1) (show s.heap.IsList l xs from p2) hx fun h' h1 sb => hQ h' ⟨h1, Sq2.at_ (k := true) p2 fun o e => sb.extBut _ o ne e⟩ sb
  | false => exact RZ.nextOf_tuple_item (show s.heap.IsTupleIter i l n from p1) (show s.heap.IsTuple l xs from p2) hx fun h' h1 sb => hQ h' ⟨h1, Sq2.at_ (k := false) p2 fun o e => sb.extBut _ o ne e⟩ sb
theorem stop2 {k : Bool} {i l : Addr} {n : Nat} {xs : Array Value} (hh : A.handled = none) (hx : xs[n]? = none) : Stop prog w A i l (fun h => It2 k h i l n ∧ Sq2 k h l xs) := by
  refine ⟨fun h h' p e1 e2 => ⟨p.1.at_ e1, p.2.at_ e2⟩, fun s Q E p hE => ?_⟩
  obtain ⟨p1, p2⟩ := p
  cases k with
  | true => exact wpAny_nextOf_list_end hh (show s.heap.IsListIter i l n from p1) (show s.heap.IsList l xs from p2) hx hE
  | false => exact RZ.nextOf_tuple_end hh (show s.heap.IsTupleIter i l n from p1) (show s.heap.IsTuple l xs from p2) hx hE
end

/-! ### the call -/
abbrev itObj (k : Bool) (l : Addr) : Obj := if k = true then { cls := .type "list_iterator", data := .fields #[.ref l, .int 0 0] } else { cls := .type "tuple_iterator", data := .fields #[.ref l, .int 0 0] }
abbrev zh1 (k : Bool) (h : Heap) (l : Addr) : Heap := h.push (itObj k l)
abbrev zh2 (k1 k2 : Bool) (h : Heap) (l1 l2 : Addr) : Heap := (zh1 k1 h l1).push (itObj k2 l2)
abbrev zh3 (k1 k2 : Bool) (h : Heap) (l1 l2 : Addr) : Heap := (zh2 k1 k2 h l1 l2).push { cls := .type "tuple", data := .seq #[.ref h.objs.size, .ref (zh1 k1 h l1).objs.size] }
abbrev zh4 (k1 k2 : Bool) (h : Heap) (l1 l2 : Addr) : Heap := (zh3 k1 k2 h l1 l2).push { cls := .type "tuple", data := .seq #[.none, .none] }
abbrev zh5 (k1 k2 : Bool) (h : Heap) (l1 l2 : Addr) : Heap := (zh4 k1 k2 h l1 l2).push { cls := .type "zip", data := .fields #[.none, .bool false, .bool false, .ref (zh2 k1 k2 h l1 l2).objs.size, .ref (zh3 k1 k2 h l1 l2).objs.size] }

theorem new_mk (k1 k2 : Bool) (l1 l2 : Addr) (xs ys : Array Value) : Meets (Builtin.«zip.__new__» ⟨[.type "zip", .ref l1, .ref l2], []⟩) (fun _ R s => Sq2 k1 s.heap l1 xs ∧ Sq2 k2 s.heap l2 ys ∧
      R (.ok (.ret (.ref (zh4 k1 k2 s.heap l1 l2).objs.size))) { s with heap := zh5 k1 k2 s.heap l1 l2 }) :=
  .of_wp fun prog w A R s h => by
    obtain ⟨hp, g, d, tk, os⟩ := s
    obtain ⟨p1, p2, h⟩ := h
    have hsub := sub_zip
    cases k1 <;> cases k2
    · have q1 : Heap.IsTuple (Shared.heap ⟨hp, g, d, tk, os⟩) l1 xs := p1
      have q2 : Heap.IsTuple (Shared.heap ⟨hp.push { cls := .type "tuple_iterator", data := .fields #[.ref l1, .int 0 0] }, g, d, tk, os⟩) l2 ys := Sq2.push (k := false) p2 _
      wp_walk using wpAny_pyIter_tuple q1, wpAny_pyIter_tuple q2
      exact ⟨_, rfl, h⟩
    · have q1 : Heap.IsTuple (Shared.heap ⟨hp, g, d, tk, os⟩) l1 xs := p1
      have q2 : Heap.IsList (Shared.heap ⟨hp.push { cls := .type "tuple_iterator", data := .fields #[.ref l1, .int 0 0] }, g, d, tk, os⟩) l2 ys := Sq2.push (k := true) p2 _
      wp_walk using wpAny_pyIter_tuple q1, wpAny_pyIter_list q2
      exact ⟨_, rfl, h⟩
    · have q1 : Heap.IsList (Shared.heap ⟨hp, g, d, tk, os⟩) l1 xs := p1
      have q2 : Heap.IsTuple (Shared.heap ⟨hp.push { cls := .type "list_iterator", data := .fields #[.ref l1, .int 0 0] }, g, d, tk, os⟩) l2 ys := Sq2.push (k := false) p2 _
      wp_walk using wpAny_pyIter_list q1, wpAny_pyIter_tuple q2
      exact ⟨_, rfl, h⟩
    · have q1 : Heap.IsList (Shared.heap ⟨hp, g, d, tk, os⟩) l1 xs := p1
      have q2 : Heap.IsList (Shared.heap ⟨hp.push { cls := .type "list_iterator", data := .fields #[.ref l1, .int 0 0] }, g, d, tk, os⟩) l2 ys := Sq2.push (k := true) p2 _
      wp_walk using wpAny_pyIter_list q1, wpAny_pyIter_list q2
      exact ⟨_, rfl, h⟩
theorem itObj_ok {k : Bool} {h : Heap} {i l : Addr} (e : h.get? i = some (itObj k l)) : It2 k h i l 0 := by
  cases k with
  | true => exact (show h.IsListIter i l 0 from ⟨_, e, rfl, rfl⟩)
  | false => exact (show h.IsTupleIter i l 0 from ⟨_, e, rfl, rfl⟩)
theorem itObj_free (k : Bool) (l : Addr) : (itObj k l).isFreed = false := by cases k <;> rfl
section
variable {prog : Program} {w : World} {A : Around} {E : Value → Shared → Prop} {s : Shared}
theorem call_zip {k1 k2 : Bool} {l1 l2 : Addr} {xs ys : Array Value} {Q : Value → Shared → Prop} (p1 : Sq2 k1 s.heap l1 xs) (p2 : Sq2 k2 s.heap l2 ys)
    (h : ∀ h', IsZip h' (s.heap.objs.size + 4) (s.heap.objs.size + 2) (s.heap.objs.size + 3) .none → IsPair h' (s.heap.objs.size + 2) (.ref s.heap.objs.size) (.ref (s.heap.objs.size + 1)) →
      IsPair h' (s.heap.objs.size + 3) .none .none → It2 k1 h' s.heap.objs.size l1 0 → It2 k2 h' (s.heap.objs.size + 1) l2 0 → h'.objs.size = s.heap.objs.size + 5 →
      (∀ c o, s.heap.get? c = some o → h'.get? c = some o) → Q (.ref (s.heap.objs.size + 4)) { s with heap := h' }) :
    wpAny (model prog w) A (call (.type "zip") [.ref l1, .ref l2]) Q E s := by
  refine callType_new F.called_zip (by decide) (F.typeCall_zip_2 _ _) (F.newCall_zip_2 _ _) (fun obj => F.args_object_init_3 obj _ _) F.entry_zip_new (new_mk k1 k2 l1 l2 xs ys) ⟨p1, p2, ?_⟩
  have z1 : (zh1 k1 s.heap l1).objs.size = s.heap.objs.size + 1 := Heap.size_push ..
  have z2 : (zh2 k1 k2 s.heap l1 l2).objs.size = s.heap.objs.size + 2 := by rw [Heap.size_push, z1]
  have z3 : (zh3 k1 k2 s.heap l1 l2).objs.size = s.heap.objs.size + 3 := by rw [Heap.size_push, z2]
  have z4 : (zh4 k1 k2 s.heap l1 l2).objs.size = s.heap.objs.size + 4 := by rw [Heap.size_push, z3]
  have z5 : (zh5 k1 k2 s.heap l1 l2).objs.size = s.heap.objs.size + 5 := by rw [Heap.size_push, z4]
  have up : ∀ {g : Heap} {c : Addr} {o u : Obj}, g.get? c = some o → (g.push u).get? c = some o := fun e => Heap.get?_push_of_some _ e
  have g5 : (zh5 k1 k2 s.heap l1 l2).get? (zh4 k1 k2 s.heap l1 l2).objs.size = some _ := Heap.get?_push_size _ rfl
  have g4 : (zh5 k1 k2 s.heap l1 l2).get? (zh3 k1 k2 s.heap l1 l2).objs.size = some _ := up (Heap.get?_push_size _ rfl)
  have g3 : (zh5 k1 k2 s.heap l1 l2).get? (zh2 k1 k2 s.heap l1 l2).objs.size = some _ := up (up (Heap.get?_push_size _ rfl))
  have g2 : (zh5 k1 k2 s.heap l1 l2).get? (zh1 k1 s.heap l1).objs.size = some (itObj k2 l2) := up (up (up (Heap.get?_push_size _ (itObj_free k2 l2))))
  have g1 : (zh5 k1 k2 s.heap l1 l2).get? s.heap.objs.size = some (itObj k1 l1) := up (up (up (up (Heap.get?_push_size _ (itObj_free k1 l1)))))
  show _ ∧ _
  rw [z2, z3, z4] at g5
  rw [z1, z2] at g3
  rw [z3] at g4
  rw [z1] at g2
  rw [z4]
  exact ⟨⟨_, g5, rfl⟩, h _ g5 g3 g4 (itObj_ok g1) (itObj_ok g2) z5 fun c o e => up (up (up (up (up e))))⟩
end
/-! ### in the hand layer -/
def SqK (k : Bool) (K : PySem.W.Frag) (H : Hp) (a : Addr) (xs : List V) : Prop := if k = true then SqL K H a xs else SqT K H a xs
/-- the sequences at a and b as they stand at each turn, the items in new pairs -/
def ItG (k1 k2 : Bool) (K : PySem.W.Frag) (a b : Addr) : It :=
  ⟨fun i H => ∃ (xs ys : List V) (x y : V), SqK k1 K H a xs ∧ SqK k2 K H b ys ∧ xs[i]? = some x ∧ ys[i]? = some y,
    fun i H v H' => ∃ T x y, v = .ref T ∧ H T = none ∧ H' = upd H T (.tup [x, y]) ∧ (∀ xs, SqK k1 K H a xs → xs[i]? = some x) ∧ ∀ ys, SqK k2 K H b ys → ys[i]? = some y,
    fun i H => ∃ xs ys : List V, SqK k1 K H a xs ∧ SqK k2 K H b ys ∧ (xs.length ≤ i ∨ ys.length ≤ i)⟩
section
variable {X : Cx} {pins : List (Addr × Obj)} {σ : L2.St} {H : Hp} {s : Shared} {k : Bool} {a : Addr} {xs ys : List V}
theorem sq_inv (I : Inv X pins σ H s) (h : SqK k X.K H a xs) : ∃ us, Vals xs us ∧ Sq2 k s.heap a us.toArray ∧ xs.length ≤ sizeLine := by
  cases k with
  | true =>
    obtain ⟨its, r, p, z⟩ := I.list (show SqL X.K H a xs from h)
    exact ⟨its, r, p.isList, z⟩
  | false =>
    obtain ⟨its, r, p, z⟩ := I.tuple (show SqT X.K H a xs from h)
    exact ⟨its, r, p, z⟩
theorem sq_inj (I : Inv X pins σ H s) (h : SqK k X.K H a xs) (h' : SqK k X.K H a ys) : xs = ys := by
  cases k with
  | true => exact I.list_inj (show SqL X.K H a xs from h) (show SqL X.K H a ys from h')
  | false => exact I.tuple_inj (show SqT X.K H a xs from h) (show SqT X.K H a ys from h')
end
theorem turn_zip {P : Program} {w : World} {K : PySem.W.Frag} {elts : List Expr} {kk : Nat} {tpos : Pos} {k1 k2 : Bool} {a b z TI TO i1 i2 : Addr} (D : ZipApart z TI TO i1 i2 a b) :
    Turn P w K (.Tuple elts kk tpos) (ItG k1 k2 K a b) [z, TI, TO, i1, i2] z (fun i h => IsZip h z TI TO .none ∧ IsPair h TI (.ref i1) (.ref i2) ∧ (∃ x y, IsPair h TO x y) ∧ It2 k1 h i1 a i ∧ It2 k2 h i2 b i) where
  mem := by simp
  obj := fun i h st c hc => by
    obtain ⟨hz, hTI, ⟨x, y, hTO⟩, h1, h2⟩ := st
    have hc : c = z ∨ c = TI ∨ c = TO ∨ c = i1 ∨ c = i2 := by simpa using hc
    rcases hc with rfl | rfl | rfl | rfl | rfl
    · exact ⟨_, hz, fun v q => nomatch q⟩
    · exact ⟨_, hTI, fun v q => nomatch q⟩
    · exact ⟨_, hTO, fun v q => nomatch q⟩
    · exact h1.obj
    · exact h2.obj
  keep := fun i h h' st kp => by
    obtain ⟨hz, hTI, ⟨x, y, hTO⟩, h1, h2⟩ := st
    exact ⟨kp z (by simp) _ hz, kp TI (by simp) _ hTI, ⟨x, y, kp TO (by simp) _ hTO⟩, h1.at_ fun o q => kp i1 (by simp) o q, h2.at_ fun o q => kp i2 (by simp) o q⟩
  item := by
    intro X hP hw hK hc i pins s σ H E I hf st hg
    subst hP hw hK
    obtain ⟨hz, hTI, ⟨x0, y0, hTO⟩, h1, h2⟩ := st
    obtain ⟨xs, ys, x, y, sx, sy, hx, hy⟩ := hg
    obtain ⟨us, rx, px, _⟩ := sq_inv I sx
    obtain ⟨vs, ry, py, _⟩ := sq_inv I sy
    obtain ⟨u, hu, ru⟩ := rx.get hx
    obtain ⟨v, hv, rv⟩ := ry.get hy
    have zl : z < s.heap.objs.size := Heap.lt_size hz
    refine py_item D hz hTI hTO (stp2 (k := k1) (x := u) (xs := us.toArray) (by simpa using hu) D.l1i1) (stp2 (k := k2) (x := v) (xs := vs.toArray) (by simpa using hv) D.l2i2) ⟨h1, px⟩ ⟨h2, py⟩ (let ⟨o, e, _⟩ := h1.obj; ⟨o, e⟩) (let ⟨o, e, _⟩ := h2.obj; ⟨o, e⟩) fun g zg to g1 g2 pr sz kp => ?_
    refine ⟨_, rfl, wpAny_letOwnedTupleGo_zip (s := { s with heap := g }) zg fun g' zg' sb => ?_⟩
    have pr' : g'.get? s.heap.objs.size = some { cls := .type "tuple", data := .seq #[u, v] } := (sb.2 _ (Nat.ne_of_gt zl)).trans pr
    have new : ObjOk X.prog X.w (upd H s.heap.objs.size (.tup [x, y])) g' s.heap.objs.size (.tup [x, y]) := ⟨by show 2 ≤ sizeLine; decide, [u, v], .cons ru (.cons rv .nil), ⟨_, pr', rfl, _, rfl⟩⟩
    have out : ∀ {c}, c ∉ [z, TI, TO, i1, i2] → c ≠ z ∧ c ≠ TO ∧ c ≠ i1 ∧ c ≠ i2 := fun {c} hc => by
      simp only [List.mem_cons, List.not_mem_nil, or_false, not_or] at hc
      exact ⟨hc.1, hc.2.2.1, hc.2.2.2.1, hc.2.2.2.2⟩
    have I1 : Inv X pins σ (upd H s.heap.objs.size (.tup [x, y])) { s with heap := g' } := I.turnedNew (t' := s.toks) (ch := [z, TI, TO, i1, i2]) (fun c o hb q => (sb.2 c (out hb).1).trans (kp c o (out hb).1 (out hb).2.1 (out hb).2.2.1 (out hb).2.2.2 q)) hf (Nat.le_refl _) new
    refine ⟨.ref s.heap.objs.size, _, I1, rfl, ⟨_, x, y, rfl, I.hok.fresh (Nat.le_refl _), rfl, fun l hl => by rw [sq_inj I hl sx]; exact hx, fun l hl => by rw [sq_inj I hl sy]; exact hy⟩, ⟨zg', ?_, ⟨u, v, ?_⟩, ?_, ?_⟩, fun c hcm => ?_⟩
    · exact (sb.2 _ D.TIz).trans (kp _ _ D.TIz D.TITO D.TIi1 D.TIi2 hTI)
    · exact (sb.2 _ D.TOz).trans to
    · exact g1.1.at_ fun o q => (sb.2 _ D.i1z).trans q
    · exact g2.1.at_ fun o q => (sb.2 _ D.i2z).trans q
    · have lt : c < s.heap.objs.size := by
        have hcm : c = z ∨ c = TI ∨ c = TO ∨ c = i1 ∨ c = i2 := by simpa using hcm
        rcases hcm with rfl | rfl | rfl | rfl | rfl
        · exact zl
        · exact Heap.lt_size hTI
        · exact Heap.lt_size hTO
        · obtain ⟨o, e, _⟩ := h1.obj; exact Heap.lt_size e
        · obtain ⟨o, e, _⟩ := h2.obj; exact Heap.lt_size e
      rw [upd_ne (Nat.ne_of_lt lt)]
      exact (hf c hcm).1
  done := by
    intro X hP hw hK hc i pins s σ H E I hf st hg
    subst hP hw hK
    obtain ⟨hz, hTI, ⟨x0, y0, hTO⟩, h1, h2⟩ := st
    obtain ⟨xs, ys, sx, sy, he⟩ := hg
    obtain ⟨us, rx, px, _⟩ := sq_inv I sx
    obtain ⟨vs, ry, py, _⟩ := sq_inv I sy
    have l1 := rx.length
    have l2 := ry.length
    have hh := I.ok.hd hc
    have out : ∀ {c}, c ∉ [z, TI, TO, i1, i2] → c ≠ z ∧ c ≠ TO ∧ c ≠ i1 ∧ c ≠ i2 := fun {c} hc => by
      simp only [List.mem_cons, List.not_mem_nil, or_false, not_or] at hc
      exact ⟨hc.1, hc.2.2.1, hc.2.2.2.1, hc.2.2.2.2⟩
    have fin : ∀ g, (∀ c o, c ≠ z → c ≠ TO → c ≠ i1 → c ≠ i2 → s.heap.get? c = some o → g.get? c = some o) → (none : Option Value) = none ∧ Inv X pins σ H { s with heap := g } := fun g kp =>
      ⟨rfl, I.turnedL (t' := s.toks) (ch := [z, TI, TO, i1, i2]) (fun c o hb q => kp c o (out hb).1 (out hb).2.1 (out hb).2.2.1 (out hb).2.2.2 q) hf⟩
    cases ex : us.toArray[i]? with
    | none => exact py_end (P1' := fun _ => True) (P2 := fun _ => True) D hz hTI hTO (.inl ⟨stop2 (k := k1) (n := i) hh ex, h1, px⟩) fin
    | some u =>
      have ey : vs.toArray[i]? = none := by
        have : i < us.length := by
          have := (Array.getElem?_eq_some_iff.mp ex).1
          simpa using this
        simp
        omega
      exact py_end D hz hTI hTO (.inr ⟨u, stp2 (k := k1) ex D.l1i1, ⟨h1, px⟩, stop2 (k := k2) (n := i) hh ey, ⟨h2, py⟩⟩) fin
  self := fun A i s Q E st h => wpAny_pyIter_zip st.1 h
def iZip (k1 k2 : Bool) (K : PySem.W.Frag) (ta : TA) : TI := fun σ H R => ta σ H fun vs H1 => ∃ a b xs ys, vs = [.ref a, .ref b] ∧ SqK k1 K H1 a xs ∧ SqK k2 K H1 b ys ∧ R (ItG k1 k2 K a b) H1
theorem pi_zip (k1 k2 : Bool) {X : Cx} {e e2 : Expr} {ta : TA} {p pos tpos : Pos} {elts : List Expr} {kk : Nat} (hg : Gl X "zip") (hm : X.mg "zip" = none) (ha : PA X [e, e2] ta)
    (hs : starEach [e, e2] X.env = (false, eval e X.env) :: starEach [e2] X.env := by rfl) (hpl : (backTo pos (starEach [e2] X.env)).any (·.1) = false := by rfl) :
    PI X (.Tuple elts kk tpos) (.Call (.Name "zip" p) [e, e2] [] pos) (iZip k1 k2 X.K ta) := by
  refine ⟨fun pins s σ H R I h => ?_⟩
  refine Call_ (ld_blt I hg hm PyProof.Rows.boot_zip (PyProof.Rows.callWith_type1 (thn (ha.run pos pins s σ H _ I h) fun us s1 ⟨vs, H1, I1, r1, q1⟩ => ?_) hs hpl))
  obtain ⟨a, b, xs, ys, ex, sx, sy, q⟩ := q1
  subst ex
  obtain ⟨u, v, rfl, ru, rv⟩ := Vals.two r1
  obtain rfl : u = Value.ref a := ru
  obtain rfl : v = Value.ref b := rv
  obtain ⟨us, rx, px, _⟩ := sq_inv I1 sx
  obtain ⟨vs, ry, py, _⟩ := sq_inv I1 sy
  refine call_zip px py fun h' hz hTI hTO h1 h2 hsz hk => wpAny_pyIter_zip hz ?_
  have I2 : Inv X pins σ H1 { s1 with heap := h' } := I1.kept (t' := s1.toks) hk
  refine ⟨s1.heap.objs.size + 4, [s1.heap.objs.size + 4, s1.heap.objs.size + 2, s1.heap.objs.size + 3, s1.heap.objs.size, s1.heap.objs.size + 1], _, _, H1, rfl, I2, turn_zip (PySem.W.ktu_apart s1.heap.objs.size a b px.lt py.lt), ⟨hz, hTI, ⟨_, _, hTO⟩, h1, h2⟩, fun c hcm => ?_, q⟩
  have hcm : c = s1.heap.objs.size + 4 ∨ c = s1.heap.objs.size + 2 ∨ c = s1.heap.objs.size + 3 ∨ c = s1.heap.objs.size ∨ c = s1.heap.objs.size + 1 := by simpa using hcm
  have hle : s1.heap.objs.size ≤ c := by
    rcases hcm with z | z | z | z | z
    · exact z ▸ Nat.le_add_right _ 4
    · exact z ▸ Nat.le_add_right _ 2
    · exact z ▸ Nat.le_add_right _ 3
    · exact z ▸ Nat.le_refl _
    · exact z ▸ Nat.le_add_right _ 1
  exact I1.fpOk hle (I1.hok.fresh hle)
end Zx
namespace Dx
open PySem PySem.Spec PyProof.Rows L2 Evl
open Zx (SqK ItG)
section
variable {K : PySem.W.Frag} {H0 H : Hp} {a b : Addr} {xs ys : List V} {ds es : List D}
theorem ex_k {k : Bool} (x : Ex H0 H) (h : SqK k K H0 a xs) : SqK k K H a xs := by
  cases k with
  | true => exact ex_l x h
  | false => exact ex_t x h
theorem walkD_zip {k1 k2 : Bool} (h1 : SqK k1 K H0 a xs) (h2 : SqK k2 K H0 b ys) (t1 : Dts K H0 xs ds) (t2 : Dts K H0 ys es) : WalkD K (ItG k1 k2 K a b) (zipD ds es) H0 := by
  have l1 := t1.length
  have l2 := t2.length
  refine ⟨fun i H hi e => ?_, fun H e => ?_, fun i H x H' d hd e y => ?_⟩
  · rw [zipD_len] at hi
    have i1 : i < xs.length := by omega
    have i2 : i < ys.length := by omega
    exact ⟨xs, ys, xs[i], ys[i], ex_k e h1, ex_k e h2, by simp [i1], by simp [i2]⟩
  · rw [zipD_len]
    exact ⟨xs, ys, ex_k e h1, ex_k e h2, by omega⟩
  · obtain ⟨d1, d2, e1, e2, rfl⟩ := zipD_get hd
    obtain ⟨T, u, v, rfl, hT, rfl, q1, q2⟩ := y
    obtain ⟨u', g1, r1⟩ := t1.get e1
    obtain ⟨v', g2, r2⟩ := t2.get e2
    rw [q1 xs (ex_k e h1)] at g1; cases g1
    rw [q2 ys (ex_k e h2)] at g2; cases g2
    exact .inr ⟨T, [u, v], [d1, d2], rfl, hT, rfl, rfl, .cons r1 (.cons r2 .nil)⟩
end
def isLst : D → Bool
  | .lst _ => true
  | .frl _ => true
  | _ => false
def gZip (ga : GA) : GI := fun δ => match ga δ with
  | some ([x, y], δ') => (match dItems x, dItems y with
    | some xs, some ys => some (zipD xs ys, δ')
    | _, _ => none)
  | _ => none
theorem dItems_k {K : PySem.W.Frag} {H : Hp} {v : V} {d : D} {ds : List D} (h : Dt K H v d) (e : dItems d = some ds) : ∃ k p xs, v = .ref p ∧ SqK k K H p xs ∧ Dts K H xs ds := by
  cases h <;> cases e
  · rename_i a xs h t
    exact ⟨true, a, xs, rfl, sq_of h, t⟩
  · rename_i a xs h t
    exact ⟨false, a, xs, rfl, h, t⟩
  · rename_i a xs h t
    exact ⟨true, a, xs, rfl, h, t⟩
theorem pdi_zip {X : Cx} {e e2 : Expr} {ga : GA} {p pos tpos : Pos} {elts : List Expr} {kk : Nat} (hm : X.mg "zip" = none) (ha : PDA X [e, e2] ga) (hg : Gl X "zip" := by rfl)
    (hs : starEach [e, e2] X.env = (false, eval e X.env) :: starEach [e2] X.env := by rfl) (hpl : (backTo pos (starEach [e2] X.env)).any (·.1) = false := by rfl) : PDI X (.Tuple elts kk tpos) (.Call (.Name "zip" p) [e, e2] [] pos) (gZip ga) := by
  obtain ⟨t, a1, a2⟩ := ha
  refine ⟨_, PI.or (PI.or (Zx.pi_zip true true hg hm a1 hs hpl) (Zx.pi_zip true false hg hm a1 hs hpl)) (PI.or (Zx.pi_zip false true hg hm a1 hs hpl) (Zx.pi_zip false false hg hm a1 hs hpl)), fun T δ zs δ' e H0 H σ S R q => ?_⟩
  unfold gZip at e
  split at e
  · rename_i x y δ1 e1
    split at e
    · rename_i xs ys e2 e3
      cases e
      have main : ∀ k1 k2 : Bool, isLst x = k1 → isLst y = k2 → Zx.iZip k1 k2 X.K t σ H R := fun k1 k2 w1 w2 => by
        refine a2 T δ _ δ' e1 H0 H σ S _ fun vs H01 H1 x1 S1 r => ?_
        obtain ⟨u, v, rfl, r1, r2⟩ := dts_two r
        have s1 : ∃ p us, u = .ref p ∧ SqK k1 X.K H01 p us ∧ Dts X.K H01 us xs := by
          subst w1
          cases r1 <;> cases e2
          · rename_i a us h t; exact ⟨a, us, rfl, sq_of h, t⟩
          · rename_i a us h t; exact ⟨a, us, rfl, h, t⟩
          · rename_i a us h t; exact ⟨a, us, rfl, h, t⟩
        have s2 : ∃ p us, v = .ref p ∧ SqK k2 X.K H01 p us ∧ Dts X.K H01 us ys := by
          subst w2
          cases r2 <;> cases e3
          · rename_i a us h t; exact ⟨a, us, rfl, sq_of h, t⟩
          · rename_i a us h t; exact ⟨a, us, rfl, h, t⟩
          · rename_i a us h t; exact ⟨a, us, rfl, h, t⟩
        obtain ⟨p1, us1, rfl, k1', t1⟩ := s1
        obtain ⟨p2, us2, rfl, k2', t2⟩ := s2
        exact ⟨p1, p2, us1, us2, rfl, ex_k S1.ex k1', ex_k S1.ex k2', q _ H01 H1 x1 S1 (walkD_zip k1' k2' t1 t2)⟩
      cases w1 : isLst x <;> cases w2 : isLst y
      · exact .inr (.inr (main false false w1 w2))
      · exact .inr (.inl (main false true w1 w2))
      · exact .inl (.inr (main true false w1 w2))
      · exact .inl (.inl (main true true w1 w2))
    · cases e
  · cases e
end Dx
set_option Elab.async false
set_option linter.all false
set_option maxRecDepth 100000
set_option maxHeartbeats 4000000
namespace Dx
open PySem PySem.Spec PyProof.Rows L2 Evl
/-- an unknown object that no name holds is written, and known from here on -/
theorem Sd.know {K : PySem.W.Frag} {T : Th} {H0 H : Hp} {σ : L2.St} {δ : Den} (S : Sd K T H0 H σ δ) {p : Addr} {o : HO} (h0 : H0 p = none) (hh : ¬ Held σ δ p) (hE : T.He p = none) (hi : p ∉ T.IN) : Sd K T (upd H0 p o) (upd H p o) σ δ := by
  have S1 := S.mutUn (o := o) h0 hh hE
  have x1 : Ex H0 (upd H0 p o) := Ex.new h0
  refine ⟨fun a u q => ?_, S1.len, fun j d' q => ?_, fun j l' ds' q => ?_, S1.ap, S1.fr, fun a u q => ?_, S1.e0.trans x1, fun q hq => ?_, S1.inH⟩
  · by_cases z : a = p
    · subst z; rw [upd_same] at q ⊢; exact q
    · rw [upd_ne z] at q; exact S1.ex a u q
  · obtain ⟨v, g1, g2⟩ := S1.pl j d' q
    exact ⟨v, g1, g2.mono x1⟩
  · obtain ⟨r, us, g1, g2, g3, g4, g5⟩ := S1.ow j l' ds' q
    have nr : r ≠ p := fun z => hh ⟨j, l', ds', q, by rw [← z]; exact g1⟩
    exact ⟨r, us, g1, by rw [upd_ne nr]; exact g2, g3, g4.mono x1, g5⟩
  · by_cases z : a = p
    · rw [z]; exact .inr hE
    · rw [upd_ne z] at q; exact S1.nw a u q
  · rw [upd_ne (fun z => hi (by rw [← z]; exact hq))]; exact S1.inn q hq
section
variable {X : Cx}
/-- {k: v} with one written text key -/
def gDct1 (k : Str) (g : GE) : GE := fun δ => match g δ with
  | some (d, δ') => some (.dct [(k, d)], δ')
  | none => none
theorem pd_dct1 {k : Str} {j : Nat} {v : Expr} {kp pos : Pos} {g : GE} (hv : PDE X v g) : PDE X (.Dict [some (.Constant (.str k) j kp)] [v] pos) (gDct1 k g) := by
  obtain ⟨t, a1, a2⟩ := hv
  refine ⟨_, pe_disp (pps_cons pe_str a1 pps_nil) rfl rfl (by simp) (by simp), fun T δ d δ' e H0 H σ S Q q => ?_⟩
  unfold gDct1 at e
  split at e
  · rename_i d0 δ1 e1
    cases e
    intro p hp
    have hE := S.freshE hp
    have hI : p ∉ T.IN := fun z => S.inH p z hp
    have S1 := S.layUn (o := .dK []) hp
    have hh : ¬ Held σ δ p := fun ⟨i, l, ds, e1, e2⟩ => by
      obtain ⟨q, us, h1, h2, h3, _⟩ := S.ow i l ds e1
      rw [e2] at h1; cases h1
      rw [hp] at h3; cases h3
    show t σ (upd H p (.dK [])) _
    refine a2 _ δ d0 δ' e1 H0 _ σ S1.re _ fun w H01 H1 x1 S2 r1 => ?_
    obtain ⟨k1, k2, k3⟩ := S2.keeps upd_same (S.fresh0 hp) hh hI
    have S3 := S1.back S2
    refine ⟨k1, [(.inr k, w)], rfl, by simp, ?_⟩
    have S4 := S3.know (o := .dK [(.inr k, w)]) k2 k3 hE hI
    have x4 : Ex H01 (upd H01 p (.dK [(.inr k, w)])) := Ex.new k2
    exact q _ _ _ (x1.trans x4) S4 (.dct (Or.inl upd_same) (.cons (r1.mono x4) .nil))
  · cases e
end
end Dx
set_option Elab.async false
set_option linter.all false
set_option maxRecDepth 100000
set_option maxHeartbeats 4000000
namespace Dx
open PySem PySem.Spec PyProof.Rows L2 Evl
theorem units_of {k : Nat} {A : Around} (r : Room k A) : A.units + 64 < cLine := by
  have := r.un
  omega
/-- a text that is no key of a written dict -/
theorem key_str {e : DictEntry} {x : Str} {i : Int} (h : He.keyOf e = some (x, i)) (z : Str) : e.key.isStr z = decide (x = z) ∧ e.refKey = false := by
  unfold He.keyOf at h
  split at h
  · rename_i y t q
    obtain ⟨h1, _⟩ := Prod.mk.inj (Option.some.inj h)
    subst h1
    refine ⟨?_, by unfold DictEntry.refKey; rw [q]⟩
    rw [q]
    show (y == z) = decide (y = z)
    by_cases c : y = z
    · subst c; simp
    · rw [decide_eq_false c]
      exact beq_eq_false_iff_ne.mpr c
  · cases h
theorem keys_miss {P : Params} {z : Str} : ∀ {l : List DictEntry} {ks : List Str}, l.map He.keyOf = He.keysIn P ks → z ∉ ks → l.find? (·.key.isStr z) = none ∧ l.any (·.refKey) = false
  | [], _, _, _ => ⟨rfl, rfl⟩
  | e :: r, [], h, _ => by cases h
  | e :: r, k :: ks, h, hz => by
    have h1 : He.keyOf e :: r.map He.keyOf = some (k, PyData.keyHash P k) :: He.keysIn P ks := h
    injection h1 with h2 h3
    obtain ⟨q1, q2⟩ := key_str h2 z
    obtain ⟨r1, r2⟩ := keys_miss h3 fun m => hz (List.mem_cons_of_mem _ m)
    have ne : k ≠ z := fun e => hz (e ▸ List.mem_cons_self)
    rw [decide_eq_false ne] at q1
    exact ⟨by rw [List.find?_cons, q1]; exact r1, by rw [List.any_cons, q2, r2]; rfl⟩
theorem dic_miss {K : PySem.W.Frag} {w : World} {a : Addr} {ks : List Str} {z : Str} (h : He.dicW K a = some (He.keysIn w.params ks)) (hz : z ∉ ks) : PySem.W.nsIn K a z = some none := by
  unfold He.dicW at h
  unfold PySem.W.nsIn
  split at h
  · rename_i c es n sl e
    split at h
    · obtain ⟨r1, r2⟩ := keys_miss (Option.some.inj h) hz
      rw [e]
      dsimp only
      rw [r1]
      dsimp only
      rw [r2]
      rfl
    · cases h
  · cases h
theorem tab_dic {fa : List He.Fa} {fn : List He.DefD} {ts : List He.Tab} {w : World} {K : PySem.W.Frag} (c : He.SaysT fa fn ts w K) (i : Nat) {t : He.Tab} (h : ts[i]? = some t := by rfl) : He.dicW K (t.1 K) = some (He.keysIn w.params t.2) := by
  have e : ts.map (fun t => He.dicW K (t.1 K)) = ts.map fun t => some (He.keysIn w.params t.2) := congrArg (fun z : He.AlT => z.2) c
  have e2 : (ts.map fun t => He.dicW K (t.1 K))[i]? = (ts.map fun t => some (He.keysIn w.params t.2))[i]? := by rw [e]
  rw [List.getElem?_map, List.getElem?_map, h] at e2
  exact Option.some.inj e2
/-- under the key k: a tuple of these -/
def dtB (K : PySem.W.Frag) (a : Addr) (k : Str) (vs : List He.Dv) : Bool := match PySem.W.nsIn K a k with
  | some (some (.ref T)) => (match K.lookup T with
    | some ⟨.type c, _, .seq its _, _⟩ => decide (c = "tuple") && (decide (its.size ≤ sizeLine) && He.relAll (vs.map (He.Dv.v K)) its.toList)
    | _ => false)
  | _ => false
theorem dtB_ok {K : PySem.W.Frag} {a : Addr} {k : Str} {vs : List He.Dv} (h : dtB K a k vs = true) : ∃ T, PySem.W.nsIn K a k = some (some (.ref T)) ∧ ∀ H, SqT K H T (vs.map (He.Dv.v K)) := by
  unfold dtB at h
  split at h
  · rename_i T e
    split at h
    · rename_i c od its n sl e2
      obtain ⟨h1, h2⟩ := He.ba h
      obtain ⟨h3, h4⟩ := He.ba h2
      exact ⟨T, e, fun H => .inr ⟨_, its, n, e2, congrArg Value.type (of_decide_eq_true h1), rfl, of_decide_eq_true h3, He.relAll_ok h4⟩⟩
    · cases h
  · cases h
theorem hit_tup {K : PySem.W.Frag} {a : Addr} {k : Str} {vs : List He.Dv} {zs : List Str} (h : dtB K a k vs = true) (e : vs = zs.map He.Dv.str) : ∃ u v, PySem.W.nsIn K a k = some (some u) ∧ RelV v u ∧ ∀ H, Dt K H v (.tup (zs.map D.str)) := by
  obtain ⟨T, h1, h2⟩ := dtB_ok h
  refine ⟨_, .ref T, h1, rfl, fun H => .tup (h2 H) ?_⟩
  subst e
  have : (zs.map He.Dv.str).map (He.Dv.v K) = zs.map V.str := by
    rw [List.map_map]; rfl
  rw [this]
  exact Dts.ofStrs zs
end Dx
set_option Elab.async false
set_option linter.all false
set_option maxRecDepth 100000
set_option maxHeartbeats 4000000
/-! zip in a loop whose target is a name: the pair that was handed out may still be alive -/
namespace Zx
open PySem PySem.Spec PyProof.Rows L2
abbrev ZipO (h : Heap) (z TI TO : Addr) (f0 : Value) (k : Bool) : Prop := h.get? z = some { cls := .type "zip", dict := none, data := .fields #[f0, .bool k, .bool false, .ref TI, .ref TO], slots := #[] }
/-- what field 0 may hold ahead of a turn -/
def Own0 (f0 : Value) : Prop := f0 = .none ∨ ∃ T : Nat, f0 = rawInt T
section
variable {prog : Program} {w : World} {A : Around} {E : Value → Shared → Prop} {s : Shared} {z TI TO i1 i2 l1 l2 : Addr} {x y a b f0 : Value} {P1 P1' P2 P2' : Heap → Prop} {kb : Bool}
theorem alive_any {M : Model} {a : Addr} {Q : Option Obj → Shared → Prop} (h : Q (s.heap.get? a) s) : wpAny M A (loadIfAlive a) Q E s := fun _ _ _ => h
/-- whether the owned pair may be used again -/
theorem isFree_any {Q : Bool → Shared → Prop} (hz : ZipO s.heap z TI TO f0 kb) (ho : Own0 f0) (h1 : Q true s) (h2 : ∀ g, ZipO g z TI TO f0 true → Heap.SameBut z s.heap g → Q false { s with heap := g }) :
    wpAny (model prog w) A (Builtin.SmallTypes.ownedTupleIsFree (.ref z)) Q E s := by
  unfold Builtin.SmallTypes.ownedTupleIsFree
  rcases ho with rfl | ⟨T, rfl⟩
  · exact wpAny_bind (wpAny_field hz rfl (x := .none) rfl (wpAny_pure h1))
  · refine wpAny_bind (wpAny_field hz rfl (x := rawInt T) rfl ?_)
    show wpAny _ _ (loadIfAlive (T : Int).toNat >>= _) _ _ _
    refine wpAny_bind (alive_any ?_)
    cases e : s.heap.get? (T : Int).toNat with
    | none =>
      simp only [Option.isNone_none, if_true]
      exact wpAny_pure h1
    | some o =>
      simp only [Option.isNone_some, Bool.false_eq_true, if_false]
      show wpAny _ _ (field (.ref z) 1 >>= _) _ _ _
      refine wpAny_bind (wpAny_field hz rfl (x := .bool kb) rfl ?_)
      cases kb with
      | true =>
        rw [if_neg (by decide)]
        exact wpAny_bind (wpAny_pure (wpAny_pure (h2 s.heap hz (Heap.SameBut.refl _ _))))
      | false =>
        rw [if_pos (by decide)]
        exact wpAny_bind (wpAny_setField_rec hz (by simp) fun g zg sb => wpAny_pure (h2 g zg sb))

theorem own_item {Q : Value → Shared → Prop} (D : ZipApart z TI TO i1 i2 l1 l2) (hz : ZipO s.heap z TI TO f0 kb) (ho : Own0 f0) (hTI : IsPair s.heap TI (.ref i1) (.ref i2)) (hTO : IsPair s.heap TO a b)
    (S1 : Stp prog w A i1 l1 x P1 P1') (S2 : Stp prog w A i2 l2 y P2 P2') (p1 : P1 s.heap) (p2 : P2 s.heap) (q1 : ∃ o, s.heap.get? i1 = some o) (q2 : ∃ o, s.heap.get? i2 = some o)
    (hQ : ∀ h' f1 k1 u v, ZipO h' z TI TO f1 k1 → Own0 f1 → IsPair h' TO u v → P1' h' → P2' h' → IsPair h' s.heap.objs.size x y → h'.objs.size = s.heap.objs.size + 1 →
      (∀ c o, c ≠ z → c ≠ TO → c ≠ i1 → c ≠ i2 → s.heap.get? c = some o → h'.get? c = some o) → Q (.ref s.heap.objs.size) { s with heap := h' }) :
    wpAny (model prog w) A (Builtin.«zip.__next__» ⟨[.ref z], []⟩) (fun fin s' => ∃ v, fin = .done (.ret v) ∧ Q v s') E s := by
  show wpAny _ _ (field (.ref z) 2 >>= _) _ _ _
  refine wpAny_bind (wpAny_field hz rfl (x := .bool false) rfl ?_)
  show wpAny _ _ (field (.ref z) 3 >>= _) _ _ _
  refine wpAny_bind (wpAny_field hz rfl (x := .ref TI) rfl (wpAny_bind (wpAny_seqItems hTI rfl ?_)))
  show wpAny _ _ (Builtin.SmallTypes.ownedTupleIsFree (.ref z) >>= _) _ _ _
  refine wpAny_bind (isFree_any hz ho ?_ fun g0 z0 s0 => ?_)
  · simp only [if_true]
    refine wpAny_bind (wpAny_rule (wpAny_bind (wpAny_field hz rfl (x := .ref TO) rfl (wpAny_bind (wpAny_setField_rec hz (by simp) fun g1 z1 s1 => ?_)))))
    replace z1 : ZipO g1 z TI TO .ellipsis kb := z1
    refine wpAny_bind ?_
    simp only [List.zipIdx_cons, List.zipIdx_nil, List.forIn_cons, List.forIn_nil]
    have e1 := s1.extBut
    refine wpAny_bind (wpAny_bind (wpAny_onRaise ?_))
    show wpAny _ _ (Builtin.SmallTypes.nextOf (.ref i1) >>= _) _ _ _
    refine wpAny_bind (S1.run _ _ _ (S1.keep _ _ p1 (fun o e => e1 _ o D.i1z e) (fun o e => e1 _ o D.l1z e)) fun g2 p2' s2 => wpAny_pure ?_)
    have e2 := s2.extBut
    have to2 : IsPair g2 TO a b := e2 _ _ D.TOi1 (e1 _ _ D.TOz hTO)
    refine wpAny_bind (wpAny_seqItems to2 rfl (wpAny_bind (wpAny_updateSeq_pair to2 fun g3 to3 s3 => ?_)))
    replace to3 : IsPair g3 TO x b := to3
    have e3 := s3.extBut
    refine wpAny_bind (wpAny_letGo (wpAny_pure ?_))
    refine wpAny_bind (wpAny_bind (wpAny_onRaise ?_))
    show wpAny _ _ (Builtin.SmallTypes.nextOf (.ref i2) >>= _) _ _ _
    refine wpAny_bind (S2.run _ _ _ (S2.keep _ _ p2 (fun o e => e3 _ o D.TOi2.symm (e2 _ o D.i12.symm (e1 _ o D.i2z e))) (fun o e => e3 _ o D.l2TO (e2 _ o D.l2i1 (e1 _ o D.l2z e)))) fun g4 p4 s4 => wpAny_pure ?_)
    have e4 := s4.extBut
    have to4 : IsPair g4 TO x b := e4 _ _ D.TOi2 to3
    refine wpAny_bind (wpAny_seqItems to4 rfl (wpAny_bind (wpAny_updateSeq_pair to4 fun g5 to5 s5 => ?_)))
    replace to5 : IsPair g5 TO x y := to5
    have e5 := s5.extBut
    refine wpAny_bind (wpAny_letGo (wpAny_pure (wpAny_pure (wpAny_bind (wpAny_seqItems to5 rfl (wpAny_bind (wpAny_newTuple ?_)))))))
    have sz : g5.objs.size = s.heap.objs.size := by rw [s5.1, s4.1, s3.1, s2.1, s1.1]
    have zip5 : ZipO g5 z TI TO .ellipsis kb := e5 _ _ D.TOz.symm (e4 _ _ D.i2z.symm (e3 _ _ D.TOz.symm (e2 _ _ D.i1z.symm z1)))
    have pass : ∀ c o, c ≠ z → c ≠ TO → c ≠ i1 → c ≠ i2 → s.heap.get? c = some o → g5.get? c = some o := fun c o c1 c2 c3 c4 e => e5 _ _ c2 (e4 _ _ c4 (e3 _ _ c2 (e2 _ _ c3 (e1 _ _ c1 e))))
    have f1 : P1' g5 := S1.keep' _ _ p2' (fun o e => e5 _ o D.TOi1.symm (e4 _ o D.i12 (e3 _ o D.TOi1.symm e))) (fun o e => e5 _ o D.l1TO (e4 _ o D.l1i2 (e3 _ o D.l1TO e)))
    have f2 : P2' g5 := S2.keep' _ _ p4 (fun o e => e5 _ o D.TOi2.symm e) (fun o e => e5 _ o D.l2TO e)
    have zlt : z < g5.objs.size := Heap.lt_size zip5
    show wpAny _ _ (Builtin.SmallTypes.ownedTupleHandOut (.ref z) (.ref g5.objs.size) >>= _) _ _ _
    refine wpAny_bind ?_
    unfold Builtin.SmallTypes.ownedTupleHandOut
    have zip6 : ZipO (g5.push { cls := .type "tuple", data := .seq #[x, y] }) z TI TO .ellipsis kb := Heap.get?_push_of_some _ zip5
    refine wpAny_bind (wpAny_setField_rec zip6 (by simp) fun g7 zip7 s7 => ?_)
    replace zip7 : ZipO g7 z TI TO (rawInt g5.objs.size) kb := zip7
    refine wpAny_setField_rec zip7 (by simp) fun g8 zip8 s8 => ?_
    replace zip8 : ZipO g8 z TI TO (rawInt g5.objs.size) false := zip8
    have up : ∀ c o, c ≠ z → g5.get? c = some o → g8.get? c = some o := fun c o c1 e => s8.extBut _ _ c1 (s7.extBut _ _ c1 (Heap.get?_push_of_some _ e))
    have pair8 : IsPair g8 g5.objs.size x y := s8.extBut _ _ (Nat.ne_of_gt zlt) (s7.extBut _ _ (Nat.ne_of_gt zlt) (Heap.get?_push_size _ rfl))
    have size8 : g8.objs.size = g5.objs.size + 1 := by rw [s8.1, s7.1, Heap.size_push]
    rw [sz] at zip8 pair8 size8
    refine wpAny_pure ⟨_, rfl, ?_⟩
    show Q (.ref g5.objs.size) _
    rw [sz]
    exact hQ g8 _ _ _ _ zip8 (.inr ⟨_, rfl⟩) (up _ _ D.TOz to5) (S1.keep' _ _ f1 (fun o e => up _ o D.i1z e) (fun o e => up _ o D.l1z e)) (S2.keep' _ _ f2 (fun o e => up _ o D.i2z e) (fun o e => up _ o D.l2z e)) pair8 size8 fun c o c1 c2 c3 c4 e => up c o c1 (pass c o c1 c2 c3 c4 e)
  · simp only [Bool.false_eq_true, if_false]
    have e0 := s0.extBut
    rw [← Array.forIn_toList]
    show wpAny _ _ (forIn [Value.ref i1, Value.ref i2] _ _ >>= _) _ _ _
    simp only [List.forIn_cons, List.forIn_nil]
    refine wpAny_bind (wpAny_bind (wpAny_bind (wpAny_holding ?_)))
    show wpAny _ _ (Builtin.SmallTypes.nextOf (.ref i1) >>= _) _ _ _
    refine wpAny_bind (S1.run _ _ _ (S1.keep _ _ p1 (fun o e => e0 _ o D.i1z e) (fun o e => e0 _ o D.l1z e)) fun g2 p2' s2 => wpAny_pure ?_)
    have e2 := s2.extBut
    refine wpAny_pure (wpAny_bind (wpAny_bind (wpAny_holding ?_)))
    show wpAny _ _ (Builtin.SmallTypes.nextOf (.ref i2) >>= _) _ _ _
    refine wpAny_bind (S2.run _ _ _ (S2.keep _ _ p2 (fun o e => e2 _ o D.i12.symm (e0 _ o D.i2z e)) (fun o e => e2 _ o D.l2i1 (e0 _ o D.l2z e))) fun g4 p4 s4 => wpAny_pure ?_)
    have e4 := s4.extBut
    refine wpAny_pure (wpAny_pure (wpAny_bind (wpAny_newTuple (wpAny_pure ⟨_, rfl, ?_⟩) (by show 2 ≤ sizeLine; decide))))
    have sz : g4.objs.size = s.heap.objs.size := by rw [s4.1, s2.1, s0.1]
    show Q (.ref g4.objs.size) _
    rw [sz]
    have pass : ∀ c o, c ≠ z → c ≠ i1 → c ≠ i2 → s.heap.get? c = some o → g4.get? c = some o := fun c o c1 c3 c4 e => e4 _ _ c4 (e2 _ _ c3 (e0 _ _ c1 e))
    have up : ∀ {c o}, g4.get? c = some o → (g4.push { cls := .type "tuple", data := .seq #[x, y] }).get? c = some o := fun e => Heap.get?_push_of_some _ e
    refine hQ _ f0 true a b (up (e4 _ _ D.i2z.symm (e2 _ _ D.i1z.symm z0))) ho (up (pass _ _ D.TOz D.TOi1 D.TOi2 hTO)) ?_ ?_ ?_ (by rw [Heap.size_push, sz]) fun c o c1 c2 c3 c4 e => up (pass c o c1 c3 c4 e)
    · exact S1.keep' _ _ p2' (fun o e => up (e4 _ o D.i12 e)) (fun o e => up (e4 _ o D.l1i2 e))
    · exact S2.keep' _ _ p4 (fun o e => up e) (fun o e => up e)
    · have z : (g4.push { cls := .type "tuple", data := .seq #[x, y] }).get? g4.objs.size = some { cls := .type "tuple", data := .seq #[x, y] } := Heap.get?_push_size _ rfl
      rw [sz] at z
      exact z
theorem own_end {Q : Fin → Shared → Prop} (D : ZipApart z TI TO i1 i2 l1 l2) (hz : ZipO s.heap z TI TO f0 kb) (ho : Own0 f0) (hTI : IsPair s.heap TI (.ref i1) (.ref i2)) (hTO : IsPair s.heap TO a b)
    (h : (Stop prog w A i1 l1 P1 ∧ P1 s.heap) ∨ ∃ x, Stp prog w A i1 l1 x P1 P1' ∧ P1 s.heap ∧ Stop prog w A i2 l2 P2 ∧ P2 s.heap)
    (hE : ∀ h' e, (∀ c o, c ≠ z → c ≠ TO → c ≠ i1 → c ≠ i2 → s.heap.get? c = some o → h'.get? c = some o) → (∃ o, h'.get? e = some o ∧ o.cls = .type "StopIteration") → E (.ref e) { s with heap := h' }) :
    wpAny (model prog w) A (Builtin.«zip.__next__» ⟨[.ref z], []⟩) Q E s := by
  show wpAny _ _ (field (.ref z) 2 >>= _) _ _ _
  refine wpAny_bind (wpAny_field hz rfl (x := .bool false) rfl ?_)
  show wpAny _ _ (field (.ref z) 3 >>= _) _ _ _
  refine wpAny_bind (wpAny_field hz rfl (x := .ref TI) rfl (wpAny_bind (wpAny_seqItems hTI rfl ?_)))
  show wpAny _ _ (Builtin.SmallTypes.ownedTupleIsFree (.ref z) >>= _) _ _ _
  refine wpAny_bind (isFree_any hz ho ?_ fun g0 z0 s0 => ?_)
  · simp only [if_true]
    refine wpAny_bind (wpAny_rule (wpAny_bind (wpAny_field hz rfl (x := .ref TO) rfl (wpAny_bind (wpAny_setField_rec hz (by simp) fun g1 z1 s1 => ?_)))))
    replace z1 : ZipO g1 z TI TO .ellipsis kb := z1
    refine wpAny_bind ?_
    simp only [List.zipIdx_cons, List.zipIdx_nil, List.forIn_cons, List.forIn_nil]
    have e1 := s1.extBut
    refine wpAny_bind (wpAny_bind (wpAny_onRaise ?_))
    show wpAny _ _ (Builtin.SmallTypes.nextOf (.ref i1) >>= _) _ _ _
    rcases h with ⟨T1, p1⟩ | ⟨x, S1, p1, T2, p2⟩
    · refine wpAny_bind (T1.run _ _ _ (T1.keep _ _ p1 (fun o e => e1 _ o D.i1z e) (fun o e => e1 _ o D.l1z e)) fun g2 e s2 he => ?_)
      obtain ⟨oe, h1, h2⟩ := he
      have z2 : ZipO g2 z TI TO .ellipsis kb := s2 _ _ D.i1z.symm z1
      have ne : e ≠ z := fun q => by subst q; rw [z2] at h1; cases h1; simp at h2
      exact wpAny_setField_rec z2 (by simp) fun g3 _ s3 => hE g3 e (fun c o c1 _ c3 _ q => s3.extBut _ _ c1 (s2 _ _ c3 (e1 _ _ c1 q))) ⟨oe, s3.extBut _ _ ne h1, h2⟩
    · refine wpAny_bind (S1.run _ _ _ (S1.keep _ _ p1 (fun o e => e1 _ o D.i1z e) (fun o e => e1 _ o D.l1z e)) fun g2 p2' s2 => wpAny_pure ?_)
      have e2 := s2.extBut
      have to2 : IsPair g2 TO a b := e2 _ _ D.TOi1 (e1 _ _ D.TOz hTO)
      refine wpAny_bind (wpAny_seqItems to2 rfl (wpAny_bind (wpAny_updateSeq_pair to2 fun g3 to3 s3 => ?_)))
      have e3 := s3.extBut
      refine wpAny_bind (wpAny_letGo (wpAny_pure (wpAny_bind (wpAny_bind (wpAny_onRaise ?_)))))
      show wpAny _ _ (Builtin.SmallTypes.nextOf (.ref i2) >>= _) _ _ _
      refine wpAny_bind (T2.run _ _ _ (T2.keep _ _ p2 (fun o e => e3 _ o D.TOi2.symm (e2 _ o D.i12.symm (e1 _ o D.i2z e))) (fun o e => e3 _ o D.l2TO (e2 _ o D.l2i1 (e1 _ o D.l2z e)))) fun g4 e s4 he => ?_)
      obtain ⟨oe, h1, h2⟩ := he
      have z4 : ZipO g4 z TI TO .ellipsis kb := s4 _ _ D.i2z.symm (e3 _ _ D.TOz.symm (e2 _ _ D.i1z.symm z1))
      have ne : e ≠ z := fun q => by subst q; rw [z4] at h1; cases h1; simp at h2
      exact wpAny_setField_rec z4 (by simp) fun g5 _ s5 => hE g5 e (fun c o c1 c2 c3 c4 q => s5.extBut _ _ c1 (s4 _ _ c4 (e3 _ _ c2 (e2 _ _ c3 (e1 _ _ c1 q))))) ⟨oe, s5.extBut _ _ ne h1, h2⟩
  · simp only [Bool.false_eq_true, if_false]
    have e0 := s0.extBut
    rw [← Array.forIn_toList]
    show wpAny _ _ (forIn [Value.ref i1, Value.ref i2] _ _ >>= _) _ _ _
    simp only [List.forIn_cons, List.forIn_nil]
    refine wpAny_bind (wpAny_bind (wpAny_bind (wpAny_holding ?_)))
    show wpAny _ _ (Builtin.SmallTypes.nextOf (.ref i1) >>= _) _ _ _
    rcases h with ⟨T1, p1⟩ | ⟨x, S1, p1, T2, p2⟩
    · exact wpAny_bind (T1.run _ _ _ (T1.keep _ _ p1 (fun o e => e0 _ o D.i1z e) (fun o e => e0 _ o D.l1z e)) fun g2 e s2 he => hE g2 e (fun c o c1 _ c3 _ q => s2 _ _ c3 (e0 _ _ c1 q)) he)
    · refine wpAny_bind (S1.run _ _ _ (S1.keep _ _ p1 (fun o e => e0 _ o D.i1z e) (fun o e => e0 _ o D.l1z e)) fun g2 p2' s2 => wpAny_pure ?_)
      have e2 := s2.extBut
      refine wpAny_pure (wpAny_bind (wpAny_bind (wpAny_holding ?_)))
      show wpAny _ _ (Builtin.SmallTypes.nextOf (.ref i2) >>= _) _ _ _
      exact wpAny_bind (T2.run _ _ _ (T2.keep _ _ p2 (fun o e => e2 _ o D.i12.symm (e0 _ o D.i2z e)) (fun o e => e2 _ o D.l2i1 (e0 _ o D.l2z e))) fun g4 e s4 he => hE g4 e (fun c o c1 _ c3 c4 q => s4 _ _ c4 (e2 _ _ c3 (e0 _ _ c1 q))) he)

theorem pyo_item {Q : Option Value → Shared → Prop} (D : ZipApart z TI TO i1 i2 l1 l2) (hz : ZipO s.heap z TI TO f0 kb) (ho : Own0 f0) (hTI : IsPair s.heap TI (.ref i1) (.ref i2)) (hTO : IsPair s.heap TO a b)
    (S1 : Stp prog w A.in1 i1 l1 x P1 P1') (S2 : Stp prog w A.in1 i2 l2 y P2 P2') (p1 : P1 s.heap) (p2 : P2 s.heap) (q1 : ∃ o, s.heap.get? i1 = some o) (q2 : ∃ o, s.heap.get? i2 = some o)
    (hQ : ∀ h' f1 k1 u v, ZipO h' z TI TO f1 k1 → Own0 f1 → IsPair h' TO u v → P1' h' → P2' h' → IsPair h' s.heap.objs.size x y → h'.objs.size = s.heap.objs.size + 1 →
      (∀ c o, c ≠ z → c ≠ TO → c ≠ i1 → c ≠ i2 → s.heap.get? c = some o → h'.get? c = some o) → Q (some (.ref s.heap.objs.size)) { s with heap := h' }) :
    wpAny (model prog w) A (pyNext (.ref z)) Q E s := by
  have hT : s.TypeIs (.ref z) "zip" := ⟨_, hz, rfl⟩
  unfold pyNext
  exact wpAny_bind (wpAny_attempt (wpAny_callSpecial?_slot (name := Str.ofString "__next__") hT F.slot_zip_next
    (wpAny_call_entry F.slot_zip_next hT F.entry_zip_next (own_item D hz ho hTI hTO S1 S2 p1 p2 q1 q2 fun h' f1 k1 u v a1 a0 a2 a3 a4 a5 a6 a7 => wpAny_pure (hQ h' f1 k1 u v a1 a0 a2 a3 a4 a5 a6 a7)) (F.args_zip_next_1 _))))
theorem pyo_end {Q : Option Value → Shared → Prop} (D : ZipApart z TI TO i1 i2 l1 l2) (hz : ZipO s.heap z TI TO f0 kb) (ho : Own0 f0) (hTI : IsPair s.heap TI (.ref i1) (.ref i2)) (hTO : IsPair s.heap TO a b)
    (h : (Stop prog w A.in1 i1 l1 P1 ∧ P1 s.heap) ∨ ∃ x, Stp prog w A.in1 i1 l1 x P1 P1' ∧ P1 s.heap ∧ Stop prog w A.in1 i2 l2 P2 ∧ P2 s.heap)
    (hQ : ∀ h', (∀ c o, c ≠ z → c ≠ TO → c ≠ i1 → c ≠ i2 → s.heap.get? c = some o → h'.get? c = some o) → Q none { s with heap := h' }) : wpAny (model prog w) A (pyNext (.ref z)) Q E s := by
  have hT : s.TypeIs (.ref z) "zip" := ⟨_, hz, rfl⟩
  unfold pyNext
  refine wpAny_bind (wpAny_attempt (wpAny_callSpecial?_slot (name := Str.ofString "__next__") hT F.slot_zip_next
    (wpAny_call_entry F.slot_zip_next hT F.entry_zip_next (own_end D hz ho hTI hTO h fun h' e hk he => ?_) (F.args_zip_next_1 _))))
  obtain ⟨o, ho, hc⟩ := he
  exact wpAny_bind (wpAny_isInstance (T := "StopIteration") (b := true) ⟨o, ho, hc⟩ isSubtype_stop (wpAny_pure (hQ _ hk)))
theorem iter_own {Q : Value → Shared → Prop} {f0 : Value} (hz : IsZip s.heap z TI TO f0) (h : Q (.ref z) s) : wpAny (model prog w) A (pyIter (.ref z)) Q E s := wpAny_pyIter_zip hz h
theorem iter_own2 {Q : Value → Shared → Prop} (hz : ZipO s.heap z TI TO f0 kb) (h : Q (.ref z) s) : wpAny (model prog w) A (pyIter (.ref z)) Q E s := by
  have hT : s.TypeIs (.ref z) "zip" := ⟨_, hz, rfl⟩
  refine wpAny_pyIter_slot hT F.slot_zip_iter (wpAny_call_entry F.slot_zip_iter hT F.entry_zip_iter ?_ (F.args_zip_iter_1 _))
  show wpAny _ _ (ret (.ref z)) _ _ s
  exact wpAny_pure ⟨_, rfl, "zip", _, hT, F.slot_zip_next.lookup, h⟩
end
theorem turn_zipN {P : Program} {w : World} {K : PySem.W.Frag} {nm : Str} {tpos : Pos} {k1 k2 : Bool} {a b z TI TO i1 i2 : Addr} (D : ZipApart z TI TO i1 i2 a b) :
    Turn P w K (.Name nm tpos) (ItG k1 k2 K a b) [z, TI, TO, i1, i2] z (fun i h => (∃ f0 kb, ZipO h z TI TO f0 kb ∧ Own0 f0) ∧ IsPair h TI (.ref i1) (.ref i2) ∧ (∃ x y, IsPair h TO x y) ∧ It2 k1 h i1 a i ∧ It2 k2 h i2 b i) where
  mem := by simp
  obj := fun i h st c hc => by
    obtain ⟨⟨f0, kb, hz, _⟩, hTI, ⟨x, y, hTO⟩, h1, h2⟩ := st
    have hc : c = z ∨ c = TI ∨ c = TO ∨ c = i1 ∨ c = i2 := by simpa using hc
    rcases hc with rfl | rfl | rfl | rfl | rfl
    · exact ⟨_, hz, fun v q => nomatch q⟩
    · exact ⟨_, hTI, fun v q => nomatch q⟩
    · exact ⟨_, hTO, fun v q => nomatch q⟩
    · exact h1.obj
    · exact h2.obj
  keep := fun i h h' st kp => by
    obtain ⟨⟨f0, kb, hz, ho⟩, hTI, ⟨x, y, hTO⟩, h1, h2⟩ := st
    exact ⟨⟨f0, kb, kp z (by simp) _ hz, ho⟩, kp TI (by simp) _ hTI, ⟨x, y, kp TO (by simp) _ hTO⟩, h1.at_ fun o q => kp i1 (by simp) o q, h2.at_ fun o q => kp i2 (by simp) o q⟩
  item := by
    intro X hP hw hK hc i pins s σ H E I hf st hg
    subst hP hw hK
    obtain ⟨⟨f0, kb, hz, ho⟩, hTI, ⟨x0, y0, hTO⟩, h1, h2⟩ := st
    obtain ⟨xs, ys, x, y, sx, sy, hx, hy⟩ := hg
    obtain ⟨us, rx, px, _⟩ := sq_inv I sx
    obtain ⟨vs, ry, py, _⟩ := sq_inv I sy
    obtain ⟨u, hu, ru⟩ := rx.get hx
    obtain ⟨v, hv, rv⟩ := ry.get hy
    have zl : z < s.heap.objs.size := Heap.lt_size hz
    refine pyo_item D hz ho hTI hTO (stp2 (k := k1) (x := u) (xs := us.toArray) (by simpa using hu) D.l1i1) (stp2 (k := k2) (x := v) (xs := vs.toArray) (by simpa using hv) D.l2i2) ⟨h1, px⟩ ⟨h2, py⟩ (let ⟨o, e, _⟩ := h1.obj; ⟨o, e⟩) (let ⟨o, e, _⟩ := h2.obj; ⟨o, e⟩) fun g f1 kb1 u1 v1 zg own to g1 g2 pr sz kp => ?_
    refine ⟨_, rfl, wpAny_pure ?_⟩
    have new : ObjOk X.prog X.w (upd H s.heap.objs.size (.tup [x, y])) g s.heap.objs.size (.tup [x, y]) := ⟨by show 2 ≤ sizeLine; decide, [u, v], .cons ru (.cons rv .nil), ⟨_, pr, rfl, _, rfl⟩⟩
    have out : ∀ {c}, c ∉ [z, TI, TO, i1, i2] → c ≠ z ∧ c ≠ TO ∧ c ≠ i1 ∧ c ≠ i2 := fun {c} hc => by
      simp only [List.mem_cons, List.not_mem_nil, or_false, not_or] at hc
      exact ⟨hc.1, hc.2.2.1, hc.2.2.2.1, hc.2.2.2.2⟩
    have I1 : Inv X pins σ (upd H s.heap.objs.size (.tup [x, y])) { s with heap := g } := I.turnedNew (t' := s.toks) (ch := [z, TI, TO, i1, i2]) (fun c o hb q => kp c o (out hb).1 (out hb).2.1 (out hb).2.2.1 (out hb).2.2.2 q) hf (Nat.le_refl _) new
    refine ⟨.ref s.heap.objs.size, _, I1, rfl, ⟨_, x, y, rfl, I.hok.fresh (Nat.le_refl _), rfl, fun l hl => by rw [sq_inj I hl sx]; exact hx, fun l hl => by rw [sq_inj I hl sy]; exact hy⟩, ⟨⟨f1, kb1, zg, own⟩, kp _ _ D.TIz D.TITO D.TIi1 D.TIi2 hTI, ⟨_, _, to⟩, g1.1, g2.1⟩, fun c hcm => ?_⟩
    have lt : c < s.heap.objs.size := by
      have hcm : c = z ∨ c = TI ∨ c = TO ∨ c = i1 ∨ c = i2 := by simpa using hcm
      rcases hcm with rfl | rfl | rfl | rfl | rfl
      · exact zl
      · exact Heap.lt_size hTI
      · exact Heap.lt_size hTO
      · obtain ⟨o, e, _⟩ := h1.obj; exact Heap.lt_size e
      · obtain ⟨o, e, _⟩ := h2.obj; exact Heap.lt_size e
    rw [upd_ne (Nat.ne_of_lt lt)]
    exact (hf c hcm).1
  done := by
    intro X hP hw hK hc i pins s σ H E I hf st hg
    subst hP hw hK
    obtain ⟨⟨f0, kb, hz, ho⟩, hTI, ⟨x0, y0, hTO⟩, h1, h2⟩ := st
    obtain ⟨xs, ys, sx, sy, he⟩ := hg
    obtain ⟨us, rx, px, _⟩ := sq_inv I sx
    obtain ⟨vs, ry, py, _⟩ := sq_inv I sy
    have l1 := rx.length
    have l2 := ry.length
    have hh := I.ok.hd hc
    have out : ∀ {c}, c ∉ [z, TI, TO, i1, i2] → c ≠ z ∧ c ≠ TO ∧ c ≠ i1 ∧ c ≠ i2 := fun {c} hc => by
      simp only [List.mem_cons, List.not_mem_nil, or_false, not_or] at hc
      exact ⟨hc.1, hc.2.2.1, hc.2.2.2.1, hc.2.2.2.2⟩
    have fin : ∀ g, (∀ c o, c ≠ z → c ≠ TO → c ≠ i1 → c ≠ i2 → s.heap.get? c = some o → g.get? c = some o) → (none : Option Value) = none ∧ Inv X pins σ H { s with heap := g } := fun g kp =>
      ⟨rfl, I.turnedL (t' := s.toks) (ch := [z, TI, TO, i1, i2]) (fun c o hb q => kp c o (out hb).1 (out hb).2.1 (out hb).2.2.1 (out hb).2.2.2 q) hf⟩
    cases ex : us.toArray[i]? with
    | none => exact pyo_end (P1' := fun _ => True) (P2 := fun _ => True) D hz ho hTI hTO (.inl ⟨stop2 (k := k1) (n := i) hh ex, h1, px⟩) fin
    | some u =>
      have ey : vs.toArray[i]? = none := by
        have : i < us.length := by
          have := (Array.getElem?_eq_some_iff.mp ex).1
          simpa using this
        simp
        omega
      exact pyo_end D hz ho hTI hTO (.inr ⟨u, stp2 (k := k1) ex D.l1i1, ⟨h1, px⟩, stop2 (k := k2) (n := i) hh ey, ⟨h2, py⟩⟩) fin
  self := fun A i s Q E st h => by
    obtain ⟨⟨f0, kb, hz, _⟩, _⟩ := st
    exact iter_own2 hz h
theorem pi_zipN (k1 k2 : Bool) {X : Cx} {e e2 : Expr} {ta : TA} {nm : Str} {p pos tpos : Pos} (hg : Gl X "zip") (hm : X.mg "zip" = none) (ha : PA X [e, e2] ta)
    (hs : starEach [e, e2] X.env = (false, eval e X.env) :: starEach [e2] X.env := by rfl) (hpl : (backTo pos (starEach [e2] X.env)).any (·.1) = false := by rfl) :
    PI X (.Name nm tpos) (.Call (.Name "zip" p) [e, e2] [] pos) (iZip k1 k2 X.K ta) := by
  refine ⟨fun pins s σ H R I h => ?_⟩
  refine Call_ (ld_blt I hg hm PyProof.Rows.boot_zip (PyProof.Rows.callWith_type1 (thn (ha.run pos pins s σ H _ I h) fun us s1 ⟨vs, H1, I1, r1, q1⟩ => ?_) hs hpl))
  obtain ⟨a, b, xs, ys, ex, sx, sy, q⟩ := q1
  subst ex
  obtain ⟨u, v, rfl, ru, rv⟩ := Vals.two r1
  obtain rfl : u = Value.ref a := ru
  obtain rfl : v = Value.ref b := rv
  obtain ⟨us, rx, px, _⟩ := sq_inv I1 sx
  obtain ⟨vs, ry, py, _⟩ := sq_inv I1 sy
  refine call_zip px py fun h' hz hTI hTO h1 h2 hsz hk => wpAny_pyIter_zip hz ?_
  have I2 : Inv X pins σ H1 { s1 with heap := h' } := I1.kept (t' := s1.toks) hk
  refine ⟨s1.heap.objs.size + 4, [s1.heap.objs.size + 4, s1.heap.objs.size + 2, s1.heap.objs.size + 3, s1.heap.objs.size, s1.heap.objs.size + 1], _, _, H1, rfl, I2, turn_zipN (PySem.W.ktu_apart s1.heap.objs.size a b px.lt py.lt), ⟨⟨_, _, hz, .inl rfl⟩, hTI, ⟨_, _, hTO⟩, h1, h2⟩, fun c hcm => ?_, q⟩
  have hcm : c = s1.heap.objs.size + 4 ∨ c = s1.heap.objs.size + 2 ∨ c = s1.heap.objs.size + 3 ∨ c = s1.heap.objs.size ∨ c = s1.heap.objs.size + 1 := by simpa using hcm
  have hle : s1.heap.objs.size ≤ c := by
    rcases hcm with z | z | z | z | z
    · exact z ▸ Nat.le_add_right _ 4
    · exact z ▸ Nat.le_add_right _ 2
    · exact z ▸ Nat.le_add_right _ 3
    · exact z ▸ Nat.le_refl _
    · exact z ▸ Nat.le_add_right _ 1
  exact I1.fpOk hle (I1.hok.fresh hle)
end Zx
namespace Dx
open PySem PySem.Spec PyProof.Rows L2 Evl
open Zx (SqK ItG)
theorem div_zip {K : PySem.W.Frag} {t : TA} {ga : GA} (ht : DAv K t ga) : DIv K (fun σ H R => (Zx.iZip true true K t σ H R ∨ Zx.iZip true false K t σ H R) ∨ (Zx.iZip false true K t σ H R ∨ Zx.iZip false false K t σ H R)) (gZip ga) := fun T δ zs δ' e H0 H σ S R q => by
  unfold gZip at e
  split at e
  · rename_i x y δ1 e1
    split at e
    · rename_i xs ys e2 e3
      cases e
      have main : ∀ k1 k2 : Bool, isLst x = k1 → isLst y = k2 → Zx.iZip k1 k2 K t σ H R := fun k1 k2 w1 w2 => by
        refine ht T δ _ δ' e1 H0 H σ S _ fun vs H01 H1 x1 S1 r => ?_
        obtain ⟨u, v, rfl, r1, r2⟩ := dts_two r
        have s1 : ∃ p us, u = .ref p ∧ SqK k1 K H01 p us ∧ Dts K H01 us xs := by
          subst w1
          cases r1 <;> cases e2
          · rename_i a us h t; exact ⟨a, us, rfl, sq_of h, t⟩
          · rename_i a us h t; exact ⟨a, us, rfl, h, t⟩
          · rename_i a us h t; exact ⟨a, us, rfl, h, t⟩
        have s2 : ∃ p us, v = .ref p ∧ SqK k2 K H01 p us ∧ Dts K H01 us ys := by
          subst w2
          cases r2 <;> cases e3
          · rename_i a us h t; exact ⟨a, us, rfl, sq_of h, t⟩
          · rename_i a us h t; exact ⟨a, us, rfl, h, t⟩
          · rename_i a us h t; exact ⟨a, us, rfl, h, t⟩
        obtain ⟨p1, us1, rfl, k1', t1⟩ := s1
        obtain ⟨p2, us2, rfl, k2', t2⟩ := s2
        exact ⟨p1, p2, us1, us2, rfl, ex_k S1.ex k1', ex_k S1.ex k2', q _ H01 H1 x1 S1 (walkD_zip k1' k2' t1 t2)⟩
      cases w1 : isLst x <;> cases w2 : isLst y
      · exact .inr (.inr (main false false w1 w2))
      · exact .inr (.inl (main false true w1 w2))
      · exact .inl (.inr (main true false w1 w2))
      · exact .inl (.inl (main true true w1 w2))
    · cases e
  · cases e
theorem pdi_zipN {X : Cx} {e e2 : Expr} {ga : GA} {nm : Str} {p pos tpos : Pos} (hm : X.mg "zip" = none) (ha : PDA X [e, e2] ga) (hg : Gl X "zip" := by rfl)
    (hs : starEach [e, e2] X.env = (false, eval e X.env) :: starEach [e2] X.env := by rfl) (hpl : (backTo pos (starEach [e2] X.env)).any (·.1) = false := by rfl) : PDI X (.Name nm tpos) (.Call (.Name "zip" p) [e, e2] [] pos) (gZip ga) := by
  obtain ⟨t, a1, a2⟩ := ha
  exact ⟨_, PI.or (PI.or (Zx.pi_zipN true true hg hm a1 hs hpl) (Zx.pi_zipN true false hg hm a1 hs hpl)) (PI.or (Zx.pi_zipN false true hg hm a1 hs hpl) (Zx.pi_zipN false false hg hm a1 hs hpl)), div_zip a2⟩
end Dx
set_option Elab.async false
set_option linter.all false
set_option maxRecDepth 100000
set_option maxHeartbeats 4000000
namespace P57
open PySem PySem.Spec PyProof.Rows L2 Dx
structure Wd (w : World) (K : PySem.W.Frag) (mg : Str → Option Value) (base : Heap) : Prop where
  kin : K.In base
  ns : base.Ns mainGlobals mg
  says : Gh.SaysM fa fn ts ex w K
def kv_ITEMS : List (Str × List Str) := [("tick", ["house"]), ("write", ["house", "cell", "text"]), ("carry", ["count"]), ("drop", ["count"]), ("double", ["count"]), ("stop", ["house", "count"]), ("cut", ["house", "count"]), ("rise", ["house"])]
def tb_ITEMS : List (Str × D) := kv_ITEMS.map fun p => (p.1, .tup (p.2.map D.str))
theorem Wd.exOk {w : World} {K : PySem.W.Frag} {mg : Str → Option Value} {base : Heap} (W : Wd w K mg base) {b : Bool} (h : b ∈ exs K) : b = true := by
  have := W.says.more
  unfold ex at this
  exact List.all_eq_true.mp this b h
theorem Wd.tab_ITEMS {w : World} {K : PySem.W.Frag} {mg : Str → Option Value} {base : Heap} (W : Wd w K mg base) : TabD K w (He.ga K "ITEMS") tb_ITEMS := by
  refine ⟨W.says.t.tab 0, fun k dd h => ?_, fun k h => ?_⟩
  · have dt : ∀ p ∈ kv_ITEMS, Dx.dtB K (He.ga K "ITEMS") p.1 (p.2.map He.Dv.str) = true := fun p hp => by
      have hp : p ∈ ([("tick", ["house"]), ("write", ["house", "cell", "text"]), ("carry", ["count"]), ("drop", ["count"]), ("double", ["count"]), ("stop", ["house", "count"]), ("cut", ["house", "count"]), ("rise", ["house"])] : List (Str × List Str)) := hp
      simp only [List.mem_cons, List.not_mem_nil, or_false] at hp
      have at_ : ∀ (i : Nat) (b : Bool), (exs K)[i]? = some b → b = true := fun i b e => W.exOk (List.mem_of_getElem? e)
      rcases hp with rfl | rfl | rfl | rfl | rfl | rfl | rfl | rfl
      · exact at_ 0 _ rfl
      · exact at_ 1 _ rfl
      · exact at_ 2 _ rfl
      · exact at_ 3 _ rfl
      · exact at_ 4 _ rfl
      · exact at_ 5 _ rfl
      · exact at_ 6 _ rfl
      · exact at_ 7 _ rfl
    have hm : (k, dd) ∈ tb_ITEMS := PySem.mem_of_lookup h
    obtain ⟨p, hp, e⟩ := List.mem_map.mp hm
    obtain ⟨rfl, rfl⟩ := Prod.mk.inj e
    exact hit_tup (dt p hp) rfl
  · refine dic_miss (tab_dic W.says.t 0) fun hk => ?_
    have hk : k ∈ (["tick", "write", "carry", "drop", "double", "stop", "cut", "rise"] : List Str) := hk
    simp only [List.mem_cons, List.not_mem_nil, or_false] at hk
    rcases hk with rfl | rfl | rfl | rfl | rfl | rfl | rfl | rfl <;> exact absurd h (by decide +kernel)

def gs_is_integer : GS := (gsCons (gsRet (gAndV (gIsi "int" (gV 0)) (gNotV (gIsi "bool" (gV 0)))))
  gsNil)
theorem ok_is_integer {P : Program} {w : World} {K : PySem.W.Frag} {mg : Str → Option Value} {base : Heap} (W : Wd w K mg base)  {fd : FuncData} (F : FunD K d_is_integer.name d_is_integer.qual d_is_integer.params d_is_integer.body d_is_integer.scope (d_is_integer.dvs K) (d_is_integer.kws K) (He.fAd K d_is_integer.at_) fd) :
    FnOk P w K mg base CX0 1 (He.fAd K d_is_integer.at_) fd ["value"] (spP K 1 (gOf 1 gs_is_integer)) := by
  have S : FnScope ["value"] ["value"] (defScope s_is_integer) := ⟨rfl, rfl, rfl, by decide +kernel, rfl, by decide +kernel, by decide +kernel⟩
  have m_isinstance := He.free_ok W.kin W.ns (W.says.t.d.fact 45 (f := .free "isinstance") rfl)
  have m_bool := He.free_ok W.kin W.ns (W.says.t.d.fact 43 (f := .free "bool") rfl)
  have m_int := He.free_ok W.kin W.ns (W.says.t.d.fact 44 (f := .free "int") rfl)
  refine fnP F S fun cdv A outer s H E hr => ?_
  exact (pdss_cons (pds_ret (pd_and (pd_isi (C := "int") (by decide) m_isinstance m_int rfl (pd_var 0)) (pd_one (pd_not (pd_isi (C := "bool") (by decide) m_isinstance m_bool rfl (pd_var 0))))))
  pdss_nil)
def L_is_integer_1 : List D → Option D := gOf 1 gs_is_integer
theorem cal_is_integer_1 {P : Program} {w : World} {K : PySem.W.Frag} {mg : Str → Option Value} {base : Heap} (W : Wd w K mg base)  : CalP P w K mg base 1 "is_integer" (spP K 1 L_is_integer_1) := by
  obtain ⟨fd, F⟩ := W.says.t.d.def_ 2 (d := d_is_integer) rfl
  have m := He.glo_ok W.kin W.ns (W.says.t.d.fact 0 (f := .glo "is_integer") rfl)
  have b : Binds K fd ["value"] [] := FunD.bindsN F fun _ _ _ _ _ _ us hl => match us, hl with | [_], _ => rfl
  exact (CalP.of m F.kp (ok_is_integer W  F) b .nil).imp fun vs H Q E h => by rw [List.append_nil]; exact h
def gs_is_count : GS := (gsCons (gsRet (gAndV (gCal L_is_integer_1 1 (Dx.gCons (gV 0) Dx.gNil)) (gB dGe (gV 0) (gC (.int 0)))))
  gsNil)
theorem ok_is_count {P : Program} {w : World} {K : PySem.W.Frag} {mg : Str → Option Value} {base : Heap} (W : Wd w K mg base) (c_is_integer_1 : CalP P w K mg base 1 "is_integer" (spP K 1 L_is_integer_1)) {fd : FuncData} (F : FunD K d_is_count.name d_is_count.qual d_is_count.params d_is_count.body d_is_count.scope (d_is_count.dvs K) (d_is_count.kws K) (He.fAd K d_is_count.at_) fd) :
    FnOk P w K mg base CX0 2 (He.fAd K d_is_count.at_) fd ["value"] (spP K 1 (gOf 1 gs_is_count)) := by
  have S : FnScope ["value"] ["value"] (defScope s_is_count) := ⟨rfl, rfl, rfl, by decide +kernel, rfl, by decide +kernel, by decide +kernel⟩
  refine fnP F S fun cdv A outer s H E hr => ?_
  exact (pdss_cons (pds_ret (pd_and (pd_cal (c_is_integer_1.mono (by decide)) hr (pda_cons (pd_var 0) pda_nil)) (pd_one (pd_cmp opd_ge (pd_var 0) pd_int))))
  pdss_nil)
def L_is_count_1 : List D → Option D := gOf 1 gs_is_count
theorem cal_is_count_1 {P : Program} {w : World} {K : PySem.W.Frag} {mg : Str → Option Value} {base : Heap} (W : Wd w K mg base) (c_is_integer_1 : CalP P w K mg base 1 "is_integer" (spP K 1 L_is_integer_1)) : CalP P w K mg base 2 "is_count" (spP K 1 L_is_count_1) := by
  obtain ⟨fd, F⟩ := W.says.t.d.def_ 3 (d := d_is_count) rfl
  have m := He.glo_ok W.kin W.ns (W.says.t.d.fact 1 (f := .glo "is_count") rfl)
  have b : Binds K fd ["value"] [] := FunD.bindsN F fun _ _ _ _ _ _ us hl => match us, hl with | [_], _ => rfl
  exact (CalP.of m F.kp (ok_is_count W c_is_integer_1 F) b .nil).imp fun vs H Q E h => by rw [List.append_nil]; exact h
def gs_is_signs : GS := (gsCons (gsIf (gOrT (gNotT (gTru (gIsi "str" (gV 0)))) (gAndT (gTst (gB dIsNot (gV 1) (gC .non))) (gTst (gB dGt (gCall (on1 dLen1) (Dx.gCons (gV 0) Dx.gNil)) (gV 1))))) (gsCons (gsRet (gC (.bl false)))
  gsNil) gsNil)
  (gsCons (gsRet (gCall (on1 dAll) (Dx.gCons (gLc (gIt (gV 0)) (gNm 2) gYes (gCh dLe dLe (gC (.str " ")) (gV 2) (gC (.str "~"))) [2]) Dx.gNil)))
  gsNil))
theorem ok_is_signs {P : Program} {w : World} {K : PySem.W.Frag} {mg : Str → Option Value} {base : Heap} (W : Wd w K mg base)  {fd : FuncData} (F : FunD K d_is_signs.name d_is_signs.qual d_is_signs.params d_is_signs.body d_is_signs.scope (d_is_signs.dvs K) (d_is_signs.kws K) (He.fAd K d_is_signs.at_) fd) :
    FnOk P w K mg base CX0 1 (He.fAd K d_is_signs.at_) fd ["value", "most"] (spP K 2 (gOf 3 gs_is_signs)) := by
  have S : FnScope ["value", "most", "sign"] ["value", "most"] (defScope s_is_signs) := ⟨rfl, rfl, rfl, by decide +kernel, rfl, by decide +kernel, by decide +kernel⟩
  have m_len := He.free_ok W.kin W.ns (W.says.t.d.fact 46 (f := .free "len") rfl)
  have m_isinstance := He.free_ok W.kin W.ns (W.says.t.d.fact 45 (f := .free "isinstance") rfl)
  have m_str := He.free_ok W.kin W.ns (W.says.t.d.fact 52 (f := .free "str") rfl)
  have m_all := He.free_ok W.kin W.ns (W.says.t.d.fact 42 (f := .free "all") rfl)
  refine fnP F S fun cdv A outer s H E hr => ?_
  exact (pdss_cons (pds_if (pdt_w (pdw_or (pdt_not (pdt_truth (pd_isi (C := "str") (by decide) m_isinstance m_str rfl (pd_var 0)))) (pdw_or1 (pdt_w (pdw_and (pdt_cmp opd_isNot (pd_var 1) pd_non) (pdw_and1 (pdt_cmp opd_gt (pd_cb cd_len m_len rfl (pda_cons (pd_var 0) pda_nil)) (pd_var 1)))))))) (pdss_cons (pds_ret pd_bl)
  pdss_nil) pdss_nil)
  (pdss_cons (pds_ret (pd_cb (cd_all rfl) m_all rfl (pda_cons (pd_lc [("sign", 2)] rfl S.nd (pdi_val (pd_var 0)) (fun _ _ _ _ _ => (pdg_name 2 S.nd)) (fun _ _ _ _ _ => pdts_nil) (fun _ _ _ _ _ => (pd_chain opd_le opd_le pd_str (pd_var 2) pd_str))) pda_nil)))
  pdss_nil))
def L_is_signs_2 : List D → Option D := gOf 3 gs_is_signs
theorem cal_is_signs_2 {P : Program} {w : World} {K : PySem.W.Frag} {mg : Str → Option Value} {base : Heap} (W : Wd w K mg base)  : CalP P w K mg base 1 "is_signs" (spP K 2 L_is_signs_2) := by
  obtain ⟨fd, F⟩ := W.says.t.d.def_ 4 (d := d_is_signs) rfl
  have m := He.glo_ok W.kin W.ns (W.says.t.d.fact 2 (f := .glo "is_signs") rfl)
  obtain ⟨ds, hd, b⟩ := FunD.binds1 (ps := ["value", "most"]) F 2 1 (show ([.non] : List V) ≠ [] from fun h => nomatch h) rfl fun _ _ _ _ _ _ _ us its hl hi => match us, its, hl, hi with | [_, _], [_], _, _ => ⟨_, rfl, rfl⟩
  exact (CalP.of m F.kp (ok_is_signs W  F) b hd).imp fun vs H Q E h => (show spP K 2 L_is_signs_2 (vs ++ []) H Q E from by rw [List.append_nil]; exact h)
def gs_count_in : GS := (gsCons (gsIf (gOrT (gTst (gB dEq (gV 0) (gC (.str "")))) (gNotT (gTru (gCall (on1 dAll) (Dx.gCons (gLc (gIt (gV 0)) (gNm 1) gYes (gB dIn (gV 1) (gC (.str "0123456789"))) [1]) Dx.gNil))))) (gsCons (gsRet (gC .non))
  gsNil) gsNil)
  (gsCons (gsRet (gIf (gOrT (gTst (gB dEq (gV 0) (gC (.str "0")))) (gTst (gB dNe (gIxN 0 (gC (.int 0))) (gC (.str "0"))))) (gCall (on1 dInt) (Dx.gCons (gV 0) Dx.gNil)) (gC .non)))
  gsNil))
theorem ok_count_in {P : Program} {w : World} {K : PySem.W.Frag} {mg : Str → Option Value} {base : Heap} (W : Wd w K mg base)  {fd : FuncData} (F : FunD K d_count_in.name d_count_in.qual d_count_in.params d_count_in.body d_count_in.scope (d_count_in.dvs K) (d_count_in.kws K) (He.fAd K d_count_in.at_) fd) :
    FnOk P w K mg base CX0 1 (He.fAd K d_count_in.at_) fd ["word"] (spP K 1 (gOf 2 gs_count_in)) := by
  have S : FnScope ["word", "sign"] ["word"] (defScope s_count_in) := ⟨rfl, rfl, rfl, by decide +kernel, rfl, by decide +kernel, by decide +kernel⟩
  have m_all := He.free_ok W.kin W.ns (W.says.t.d.fact 42 (f := .free "all") rfl)
  have m_DIGITS := He.str_ok W.kin W.ns (W.says.t.d.fact 36 (f := .str "DIGITS" "0123456789") rfl)
  have m_int := He.free_ok W.kin W.ns (W.says.t.d.fact 44 (f := .free "int") rfl)
  refine fnP F S fun cdv A outer s H E hr => ?_
  have hu := units_of hr
  exact (pdss_cons (pds_if (pdt_w (pdw_or (pdt_cmp (opd_eq hu) (pd_var 0) pd_str) (pdw_or1 (pdt_not (pdt_truth (pd_cb (cd_all rfl) m_all rfl (pda_cons (pd_lc [("sign", 1)] rfl S.nd (pdi_val (pd_var 0)) (fun _ _ _ _ _ => (pdg_name 1 S.nd)) (fun _ _ _ _ _ => pdts_nil) (fun _ _ _ _ _ => (pd_cmp opd_in (pd_var 1) (pd_gs m_DIGITS)))) pda_nil))))))) (pdss_cons (pds_ret pd_non)
  pdss_nil) pdss_nil)
  (pdss_cons (pds_ret (pd_if (pdt_w (pdw_or (pdt_cmp (opd_eq hu) (pd_var 0) pd_str) (pdw_or1 (pdt_cmp (opd_ne hu) (pd_ixN 0 pd_int) pd_str)))) (pd_ct cd_int m_int rfl (pda_cons (pd_var 0) pda_nil)) pd_non))
  pdss_nil))
def L_count_in_1 : List D → Option D := gOf 2 gs_count_in
theorem cal_count_in_1 {P : Program} {w : World} {K : PySem.W.Frag} {mg : Str → Option Value} {base : Heap} (W : Wd w K mg base)  : CalP P w K mg base 1 "count_in" (spP K 1 L_count_in_1) := by
  obtain ⟨fd, F⟩ := W.says.t.d.def_ 5 (d := d_count_in) rfl
  have m := He.glo_ok W.kin W.ns (W.says.t.d.fact 3 (f := .glo "count_in") rfl)
  have b : Binds K fd ["word"] [] := FunD.bindsN F fun _ _ _ _ _ _ us hl => match us, hl with | [_], _ => rfl
  exact (CalP.of m F.kp (ok_count_in W  F) b .nil).imp fun vs H Q E h => by rw [List.append_nil]; exact h
def gs_is_cell : GS := (gsCons (gsIf (gOrT (gNotT (gTru (gIsi "str" (gV 0)))) (gNotT (gTst (gCh dLe dLe (gC (.int 1)) (gCall (on1 dLen1) (Dx.gCons (gV 0) Dx.gNil)) (gC (.int 8)))))) (gsCons (gsRet (gC (.bl false)))
  gsNil) gsNil)
  (gsCons (gsRet (gCall (on1 dAll) (Dx.gCons (gLc (gIt (gV 0)) (gNm 1) gYes (gCh dLe dLe (gC (.str "a")) (gV 1) (gC (.str "z"))) [1]) Dx.gNil)))
  gsNil))
theorem ok_is_cell {P : Program} {w : World} {K : PySem.W.Frag} {mg : Str → Option Value} {base : Heap} (W : Wd w K mg base)  {fd : FuncData} (F : FunD K d_is_cell.name d_is_cell.qual d_is_cell.params d_is_cell.body d_is_cell.scope (d_is_cell.dvs K) (d_is_cell.kws K) (He.fAd K d_is_cell.at_) fd) :
    FnOk P w K mg base CX0 1 (He.fAd K d_is_cell.at_) fd ["value"] (spP K 1 (gOf 2 gs_is_cell)) := by
  have S : FnScope ["value", "letter"] ["value"] (defScope s_is_cell) := ⟨rfl, rfl, rfl, by decide +kernel, rfl, by decide +kernel, by decide +kernel⟩
  have m_len := He.free_ok W.kin W.ns (W.says.t.d.fact 46 (f := .free "len") rfl)
  have m_MOST_LETTERS := He.int_ok W.kin W.ns (W.says.t.d.fact 37 (f := .int "MOST_LETTERS" 8) rfl)
  have m_isinstance := He.free_ok W.kin W.ns (W.says.t.d.fact 45 (f := .free "isinstance") rfl)
  have m_str := He.free_ok W.kin W.ns (W.says.t.d.fact 52 (f := .free "str") rfl)
  have m_all := He.free_ok W.kin W.ns (W.says.t.d.fact 42 (f := .free "all") rfl)
  refine fnP F S fun cdv A outer s H E hr => ?_
  exact (pdss_cons (pds_if (pdt_w (pdw_or (pdt_not (pdt_truth (pd_isi (C := "str") (by decide) m_isinstance m_str rfl (pd_var 0)))) (pdw_or1 (pdt_not (pdt_chain opd_le opd_le pd_int (pd_cb cd_len m_len rfl (pda_cons (pd_var 0) pda_nil)) (pd_gi m_MOST_LETTERS)))))) (pdss_cons (pds_ret pd_bl)
  pdss_nil) pdss_nil)
  (pdss_cons (pds_ret (pd_cb (cd_all rfl) m_all rfl (pda_cons (pd_lc [("letter", 1)] rfl S.nd (pdi_val (pd_var 0)) (fun _ _ _ _ _ => (pdg_name 1 S.nd)) (fun _ _ _ _ _ => pdts_nil) (fun _ _ _ _ _ => (pd_chain opd_le opd_le pd_str (pd_var 1) pd_str))) pda_nil)))
  pdss_nil))
def L_is_cell_1 : List D → Option D := gOf 2 gs_is_cell
theorem cal_is_cell_1 {P : Program} {w : World} {K : PySem.W.Frag} {mg : Str → Option Value} {base : Heap} (W : Wd w K mg base)  : CalP P w K mg base 1 "is_cell" (spP K 1 L_is_cell_1) := by
  obtain ⟨fd, F⟩ := W.says.t.d.def_ 6 (d := d_is_cell) rfl
  have m := He.glo_ok W.kin W.ns (W.says.t.d.fact 4 (f := .glo "is_cell") rfl)
  have b : Binds K fd ["value"] [] := FunD.bindsN F fun _ _ _ _ _ _ us hl => match us, hl with | [_], _ => rfl
  exact (CalP.of m F.kp (ok_is_cell W  F) b .nil).imp fun vs H Q E h => by rw [List.append_nil]; exact h
def gs_is_text : GS := (gsCons (gsRet (gCal L_is_signs_2 2 (Dx.gCons (gV 0) (Dx.gCons (gC (.int 40)) Dx.gNil))))
  gsNil)
theorem ok_is_text {P : Program} {w : World} {K : PySem.W.Frag} {mg : Str → Option Value} {base : Heap} (W : Wd w K mg base) (c_is_signs_2 : CalP P w K mg base 1 "is_signs" (spP K 2 L_is_signs_2)) {fd : FuncData} (F : FunD K d_is_text.name d_is_text.qual d_is_text.params d_is_text.body d_is_text.scope (d_is_text.dvs K) (d_is_text.kws K) (He.fAd K d_is_text.at_) fd) :
    FnOk P w K mg base CX0 2 (He.fAd K d_is_text.at_) fd ["value"] (spP K 1 (gOf 1 gs_is_text)) := by
  have S : FnScope ["value"] ["value"] (defScope s_is_text) := ⟨rfl, rfl, rfl, by decide +kernel, rfl, by decide +kernel, by decide +kernel⟩
  have m_MOST_SIGNS := He.int_ok W.kin W.ns (W.says.t.d.fact 38 (f := .int "MOST_SIGNS" 40) rfl)
  refine fnP F S fun cdv A outer s H E hr => ?_
  exact (pdss_cons (pds_ret (pd_cal (c_is_signs_2.mono (by decide)) hr (pda_cons (pd_var 0) (pda_cons (pd_gi m_MOST_SIGNS) pda_nil))))
  pdss_nil)
def L_is_text_1 : List D → Option D := gOf 1 gs_is_text
theorem cal_is_text_1 {P : Program} {w : World} {K : PySem.W.Frag} {mg : Str → Option Value} {base : Heap} (W : Wd w K mg base) (c_is_signs_2 : CalP P w K mg base 1 "is_signs" (spP K 2 L_is_signs_2)) : CalP P w K mg base 2 "is_text" (spP K 1 L_is_text_1) := by
  obtain ⟨fd, F⟩ := W.says.t.d.def_ 7 (d := d_is_text) rfl
  have m := He.glo_ok W.kin W.ns (W.says.t.d.fact 5 (f := .glo "is_text") rfl)
  have b : Binds K fd ["value"] [] := FunD.bindsN F fun _ _ _ _ _ _ us hl => match us, hl with | [_], _ => rfl
  exact (CalP.of m F.kp (ok_is_text W c_is_signs_2 F) b .nil).imp fun vs H Q E h => by rw [List.append_nil]; exact h
def gs_is_item : GS := (gsCons (gsIf (gTst (gB dEq (gV 1) (gC (.str "cell")))) (gsCons (gsRet (gCal L_is_cell_1 1 (Dx.gCons (gV 0) Dx.gNil)))
  gsNil) gsNil)
  (gsCons (gsIf (gTst (gB dEq (gV 1) (gC (.str "text")))) (gsCons (gsRet (gCal L_is_text_1 1 (Dx.gCons (gV 0) Dx.gNil)))
  gsNil) gsNil)
  (gsCons (gsRet (gAndV (gCal L_is_count_1 1 (Dx.gCons (gV 0) Dx.gNil)) (gOrV (gB dNe (gV 1) (gC (.str "house"))) (gOrV (gB dIs (gV 2) (gC .non)) (gB dLt (gV 0) (gV 2))))))
  gsNil)))
theorem ok_is_item {P : Program} {w : World} {K : PySem.W.Frag} {mg : Str → Option Value} {base : Heap} (W : Wd w K mg base) (c_is_cell_1 : CalP P w K mg base 1 "is_cell" (spP K 1 L_is_cell_1)) (c_is_count_1 : CalP P w K mg base 2 "is_count" (spP K 1 L_is_count_1)) (c_is_text_1 : CalP P w K mg base 2 "is_text" (spP K 1 L_is_text_1)) {fd : FuncData} (F : FunD K d_is_item.name d_is_item.qual d_is_item.params d_is_item.body d_is_item.scope (d_is_item.dvs K) (d_is_item.kws K) (He.fAd K d_is_item.at_) fd) :
    FnOk P w K mg base CX0 3 (He.fAd K d_is_item.at_) fd ["value", "sort", "houses"] (spP K 3 (gOf 3 gs_is_item)) := by
  have S : FnScope ["value", "sort", "houses"] ["value", "sort", "houses"] (defScope s_is_item) := ⟨rfl, rfl, rfl, by decide +kernel, rfl, by decide +kernel, by decide +kernel⟩
  refine fnP F S fun cdv A outer s H E hr => ?_
  have hu := units_of hr
  exact (pdss_cons (pds_if (pdt_cmp (opd_eq hu) (pd_var 1) pd_str) (pdss_cons (pds_ret (pd_cal (c_is_cell_1.mono (by decide)) hr (pda_cons (pd_var 0) pda_nil)))
  pdss_nil) pdss_nil)
  (pdss_cons (pds_if (pdt_cmp (opd_eq hu) (pd_var 1) pd_str) (pdss_cons (pds_ret (pd_cal (c_is_text_1.mono (by decide)) hr (pda_cons (pd_var 0) pda_nil)))
  pdss_nil) pdss_nil)
  (pdss_cons (pds_ret (pd_and (pd_cal (c_is_count_1.mono (by decide)) hr (pda_cons (pd_var 0) pda_nil)) (pd_one (pd_or (pd_cmp (opd_ne hu) (pd_var 1) pd_str) (pd_or (pd_cmp opd_is (pd_var 2) pd_non) (pd_one (pd_cmp opd_lt (pd_var 0) (pd_var 2))))))))
  pdss_nil)))
def L_is_item_3 : List D → Option D := gOf 3 gs_is_item
theorem cal_is_item_3 {P : Program} {w : World} {K : PySem.W.Frag} {mg : Str → Option Value} {base : Heap} (W : Wd w K mg base) (c_is_cell_1 : CalP P w K mg base 1 "is_cell" (spP K 1 L_is_cell_1)) (c_is_count_1 : CalP P w K mg base 2 "is_count" (spP K 1 L_is_count_1)) (c_is_text_1 : CalP P w K mg base 2 "is_text" (spP K 1 L_is_text_1)) : CalP P w K mg base 3 "is_item" (spP K 3 L_is_item_3) := by
  obtain ⟨fd, F⟩ := W.says.t.d.def_ 8 (d := d_is_item) rfl
  have m := He.glo_ok W.kin W.ns (W.says.t.d.fact 6 (f := .glo "is_item") rfl)
  have b : Binds K fd ["value", "sort", "houses"] [] := FunD.bindsN F fun _ _ _ _ _ _ us hl => match us, hl with | [_, _, _], _ => rfl
  exact (CalP.of m F.kp (ok_is_item W c_is_cell_1 c_is_count_1 c_is_text_1 F) b .nil).imp fun vs H Q E h => by rw [List.append_nil]; exact h
def gs_is_act : GS := (gsCons (gsIf (gOrT (gNotT (gTru (gIsi "tuple" (gV 0)))) (gOrT (gTst (gB dLt (gCall (on1 dLen1) (Dx.gCons (gV 0) Dx.gNil)) (gC (.int 2)))) (gNotT (gTru (gIsi "str" (gIxN 0 (gC (.int 0)))))))) (gsCons (gsRet (gC (.bl false)))
  gsNil) gsNil)
  (gsCons (gsAsg (gKGet tb_ITEMS (gIxN 0 (gC (.int 0))) (gTup Dx.gNil)) (gNm 2))
  (gsCons (gsRet (gAndV (gB dEq (gCall (on1 dLen1) (Dx.gCons (gV 2) Dx.gNil)) (gB dSub (gCall (on1 dLen1) (Dx.gCons (gV 0) Dx.gNil)) (gC (.int 1)))) (gCall (on1 dAll) (Dx.gCons (gLc (gZip (Dx.gCons (gSl (gV 0) (gSo (gC (.int 1))) gNo) (Dx.gCons (gV 2) Dx.gNil))) (gNm 3) gYes (gCal L_is_item_3 3 (gStar (gV 3) (Dx.gCons (gV 1) Dx.gNil))) [3]) Dx.gNil))))
  gsNil)))
theorem ok_is_act {P : Program} {w : World} {K : PySem.W.Frag} {mg : Str → Option Value} {base : Heap} (W : Wd w K mg base) (c_is_item_3 : CalP P w K mg base 3 "is_item" (spP K 3 L_is_item_3)) {fd : FuncData} (F : FunD K d_is_act.name d_is_act.qual d_is_act.params d_is_act.body d_is_act.scope (d_is_act.dvs K) (d_is_act.kws K) (He.fAd K d_is_act.at_) fd) :
    FnOk P w K mg base CX0 4 (He.fAd K d_is_act.at_) fd ["value", "houses"] (spP K 2 (gOf 4 gs_is_act)) := by
  have S : FnScope ["value", "houses", "sorts", "pair"] ["value", "houses"] (defScope s_is_act) := ⟨rfl, rfl, rfl, by decide +kernel, rfl, by decide +kernel, by decide +kernel⟩
  have m_isinstance := He.free_ok W.kin W.ns (W.says.t.d.fact 45 (f := .free "isinstance") rfl)
  have m_str := He.free_ok W.kin W.ns (W.says.t.d.fact 52 (f := .free "str") rfl)
  have m_len := He.free_ok W.kin W.ns (W.says.t.d.fact 46 (f := .free "len") rfl)
  have m_tuple := He.free_ok W.kin W.ns (W.says.t.d.fact 54 (f := .free "tuple") rfl)
  have m_ITEMS := He.glo_ok W.kin W.ns (W.says.t.d.fact 39 (f := .glo "ITEMS") rfl)
  have t_ITEMS := W.tab_ITEMS
  have m_all := He.free_ok W.kin W.ns (W.says.t.d.fact 42 (f := .free "all") rfl)
  have m_zip := He.free_ok W.kin W.ns (W.says.t.d.fact 55 (f := .free "zip") rfl)
  refine fnP F S fun cdv A outer s H E hr => ?_
  have hu := units_of hr
  exact (pdss_cons (pds_if (pdt_w (pdw_or (pdt_not (pdt_truth (pd_isi (C := "tuple") (by decide) m_isinstance m_tuple rfl (pd_var 0)))) (pdw_or (pdt_cmp opd_lt (pd_cb cd_len m_len rfl (pda_cons (pd_var 0) pda_nil)) pd_int) (pdw_or1 (pdt_not (pdt_truth (pd_isi (C := "str") (by decide) m_isinstance m_str rfl (pd_ixN 0 pd_int)))))))) (pdss_cons (pds_ret pd_bl)
  pdss_nil) pdss_nil)
  (pdss_cons (pds_set 2 S.nd (pd_kget t_ITEMS m_ITEMS (pd_ixN 0 pd_int) (pd_tup pda_nil)))
  (pdss_cons (pds_ret (pd_and (pd_cmp (opd_eq hu) (pd_cb cd_len m_len rfl (pda_cons (pd_var 2) pda_nil)) (pd_bin opd_sub (pd_cb cd_len m_len rfl (pda_cons (pd_var 0) pda_nil)) pd_int)) (pd_one (pd_cb (cd_all rfl) m_all rfl (pda_cons (pd_lc [("pair", 3)] rfl S.nd (pdi_zipN m_zip (pda_cons (pd_sl (pd_var 0) (pdo_some pd_int) pdo_none) (pda_cons (pd_var 2) pda_nil))) (fun _ _ _ _ _ => (pdg_name 3 S.nd)) (fun _ _ _ _ _ => pdts_nil) (fun _ _ _ _ _ => (pd_calS (c_is_item_3.mono (by decide)) hr (pda_star (pd_var 3) (pda_cons (pd_var 1) pda_nil))))) pda_nil)))))
  pdss_nil)))
def L_is_act_1 : List D → Option D := fun ds => gOf 4 gs_is_act (ds ++ [.non])
theorem cal_is_act_1 {P : Program} {w : World} {K : PySem.W.Frag} {mg : Str → Option Value} {base : Heap} (W : Wd w K mg base) (c_is_item_3 : CalP P w K mg base 3 "is_item" (spP K 3 L_is_item_3)) : CalP P w K mg base 4 "is_act" (spP K 1 L_is_act_1) := by
  obtain ⟨fd, F⟩ := W.says.t.d.def_ 9 (d := d_is_act) rfl
  have m := He.glo_ok W.kin W.ns (W.says.t.d.fact 7 (f := .glo "is_act") rfl)
  obtain ⟨ds, hd, b⟩ := FunD.binds1 (ps := ["value", "houses"]) F 1 0 (show ([.non] : List V) ≠ [] from fun h => nomatch h) rfl fun _ _ _ _ _ _ _ us its hl hi => match us, its, hl, hi with | [_], [_], _, _ => ⟨_, rfl, rfl⟩
  exact (CalP.of m F.kp (ok_is_act W c_is_item_3 F) b hd).imp (spP_dfl (dds := [.non]) (fun _ => (.cons .non .nil)) rfl)
def gs_act_in : GS := (gsCons (gsIf (gNotT (gTru (gIsi "str" (gV 0)))) (gsCons (gsRet (gC .non))
  gsNil) gsNil)
  (gsCons (gsAsg (gKGet tb_ITEMS (gB dIx (gMA dSplitK (gV 0) (Dx.gCons (gC (.str " ")) (Dx.gCons (gC (.int 1)) Dx.gNil))) (gC (.int 0))) (gTup Dx.gNil)) (gNm 1))
  (gsCons (gsAsg (gMA dSplitK (gV 0) (Dx.gCons (gC (.str " ")) (Dx.gCons (gCall (on1 dLen1) (Dx.gCons (gV 1) Dx.gNil)) Dx.gNil))) (gTgStar 2 1 (gTgCons (gNm 2) (gTgCons (gNm 3) gTgNil))))
  (gsCons (gsAsg (gLc (gZip (Dx.gCons (gV 3) (Dx.gCons (gV 1) Dx.gNil))) (gTgTup 2 (gTgCons (gNm 5) (gTgCons (gNm 6) gTgNil))) gYes (gIf (gTst (gB dIn (gV 6) (gTup (Dx.gCons (gC (.str "cell")) (Dx.gCons (gC (.str "text")) Dx.gNil))))) (gV 5) (gCal L_count_in_1 1 (Dx.gCons (gV 5) Dx.gNil))) [5, 6]) (gNm 4))
  (gsCons (gsAsg (gTup (Dx.gCons (gV 2) (gStar (gV 4) Dx.gNil))) (gNm 7))
  (gsCons (gsRet (gIf (gTru (gCal L_is_act_1 1 (Dx.gCons (gV 7) Dx.gNil))) (gV 7) (gC .non)))
  gsNil))))))
theorem ok_act_in {P : Program} {w : World} {K : PySem.W.Frag} {mg : Str → Option Value} {base : Heap} (W : Wd w K mg base) (c_count_in_1 : CalP P w K mg base 1 "count_in" (spP K 1 L_count_in_1)) (c_is_act_1 : CalP P w K mg base 4 "is_act" (spP K 1 L_is_act_1)) {fd : FuncData} (F : FunD K d_act_in.name d_act_in.qual d_act_in.params d_act_in.body d_act_in.scope (d_act_in.dvs K) (d_act_in.kws K) (He.fAd K d_act_in.at_) fd) :
    FnOk P w K mg base CX0 5 (He.fAd K d_act_in.at_) fd ["line"] (spP K 1 (gOf 8 gs_act_in)) := by
  have S : FnScope ["line", "sorts", "kind", "words", "items", "word", "sort", "act"] ["line"] (defScope s_act_in) := ⟨rfl, rfl, rfl, by decide +kernel, rfl, by decide +kernel, by decide +kernel⟩
  have m_isinstance := He.free_ok W.kin W.ns (W.says.t.d.fact 45 (f := .free "isinstance") rfl)
  have m_str := He.free_ok W.kin W.ns (W.says.t.d.fact 52 (f := .free "str") rfl)
  have m_ITEMS := He.glo_ok W.kin W.ns (W.says.t.d.fact 39 (f := .glo "ITEMS") rfl)
  have t_ITEMS := W.tab_ITEMS
  have m_len := He.free_ok W.kin W.ns (W.says.t.d.fact 46 (f := .free "len") rfl)
  have m_zip := He.free_ok W.kin W.ns (W.says.t.d.fact 55 (f := .free "zip") rfl)
  refine fnP F S fun cdv A outer s H E hr => ?_
  exact (pdss_cons (pds_if (pdt_not (pdt_truth (pd_isi (C := "str") (by decide) m_isinstance m_str rfl (pd_var 0)))) (pdss_cons (pds_ret pd_non)
  pdss_nil) pdss_nil)
  (pdss_cons (pds_set 1 S.nd (pd_kget t_ITEMS m_ITEMS (pd_ix (pd_splitK (pd_var 0) (pda_cons pd_str (pda_cons pd_int pda_nil))) pd_int) (pd_tup pda_nil)))
  (pdss_cons (pds_asg (pd_splitK (pd_var 0) (pda_cons pd_str (pda_cons (pd_cb cd_len m_len rfl (pda_cons (pd_var 1) pda_nil)) pda_nil))) (pdg_star 2 1 rfl (pdgs_cons (pdg_name 2 S.nd) (pdgs_star (pdg_name 3 S.nd) pdgs_nil))))
  (pdss_cons (pds_setLc 4 [("word", 5), ("sort", 6)] rfl S.nd (pdi_zip m_zip (pda_cons (pd_var 3) (pda_cons (pd_var 1) pda_nil))) (fun _ _ _ _ _ => (pdg_tup (n := 2) rfl (pdgs_cons (pdg_name 5 S.nd) (pdgs_cons (pdg_name 6 S.nd) pdgs_nil)))) (fun _ _ _ _ _ => pdts_nil) (fun _ _ _ _ _ => (pd_if (pdt_cmp opd_in (pd_var 6) (pd_tup (pda_cons pd_str (pda_cons pd_str pda_nil)))) (pd_var 5) (pd_cal (c_count_in_1.mono (by decide)) hr (pda_cons (pd_var 5) pda_nil)))))
  (pdss_cons (pds_set 7 S.nd (pd_tup (pda_cons (pd_var 2) (pda_star (pd_var 4) pda_nil))))
  (pdss_cons (pds_ret (pd_if (pdt_truth (pd_cal (c_is_act_1.mono (by decide)) hr (pda_cons (pd_var 7) pda_nil))) (pd_var 7) pd_non))
  pdss_nil))))))
def L_act_in_1 : List D → Option D := gOf 8 gs_act_in
theorem cal_act_in_1 {P : Program} {w : World} {K : PySem.W.Frag} {mg : Str → Option Value} {base : Heap} (W : Wd w K mg base) (c_count_in_1 : CalP P w K mg base 1 "count_in" (spP K 1 L_count_in_1)) (c_is_act_1 : CalP P w K mg base 4 "is_act" (spP K 1 L_is_act_1)) : CalP P w K mg base 5 "act_in" (spP K 1 L_act_in_1) := by
  obtain ⟨fd, F⟩ := W.says.t.d.def_ 11 (d := d_act_in) rfl
  have m := He.glo_ok W.kin W.ns (W.says.t.d.fact 9 (f := .glo "act_in") rfl)
  have b : Binds K fd ["line"] [] := FunD.bindsN F fun _ _ _ _ _ _ us hl => match us, hl with | [_], _ => rfl
  exact (CalP.of m F.kp (ok_act_in W c_count_in_1 c_is_act_1 F) b .nil).imp fun vs H Q E h => by rw [List.append_nil]; exact h
def gs__law_cell : GS := (gsCons (gsRet (gIf (gTst (gB dLt (gV 1) (gCall (on1 dLen1) (Dx.gCons (gV 0) Dx.gNil)))) (gIxN 0 (gV 1)) (gB dAdd (gB dMulS (gC (.int 6043)) (gV 1)) (gB dMod (gCall (on1 dSum) (Dx.gCons (gSl (gV 0) gNo (gSo (gC (.int 1)))) Dx.gNil)) (gC (.int 1000033))))))
  gsNil)
theorem ok__law_cell {P : Program} {w : World} {K : PySem.W.Frag} {mg : Str → Option Value} {base : Heap} (W : Wd w K mg base)  {fd : FuncData} (F : FunD K d__law_cell.name d__law_cell.qual d__law_cell.params d__law_cell.body d__law_cell.scope (d__law_cell.dvs K) (d__law_cell.kws K) (He.fAd K d__law_cell.at_) fd) :
    FnOk P w K mg base CX0 1 (He.fAd K d__law_cell.at_) fd ["_law_script", "_law_k"] (spP K 2 (gOf 2 gs__law_cell)) := by
  have S : FnScope ["_law_script", "_law_k"] ["_law_script", "_law_k"] (defScope s__law_cell) := ⟨rfl, rfl, rfl, by decide +kernel, rfl, by decide +kernel, by decide +kernel⟩
  have m_len := He.free_ok W.kin W.ns (W.says.t.d.fact 46 (f := .free "len") rfl)
  have m_sum := He.free_ok W.kin W.ns (W.says.t.d.fact 53 (f := .free "sum") rfl)
  refine fnP F S fun cdv A outer s H E hr => ?_
  exact (pdss_cons (pds_ret (pd_if (pdt_cmp opd_lt (pd_var 1) (pd_cb cd_len m_len rfl (pda_cons (pd_var 0) pda_nil))) (pd_ixN 0 (pd_var 1)) (pd_bin opd_add (pd_bin opd_mulS pd_int (pd_var 1)) (pd_bin opd_mod (pd_cb (cd_sum rfl) m_sum rfl (pda_cons (pd_sl (pd_var 0) pdo_none (pdo_some pd_int)) pda_nil)) pd_int))))
  pdss_nil)
def L__law_cell_2 : List D → Option D := gOf 2 gs__law_cell
theorem cal__law_cell_2 {P : Program} {w : World} {K : PySem.W.Frag} {mg : Str → Option Value} {base : Heap} (W : Wd w K mg base)  : CalP P w K mg base 1 "_law_cell" (spP K 2 L__law_cell_2) := by
  obtain ⟨fd, F⟩ := W.says.t.d.def_ 13 (d := d__law_cell) rfl
  have m := He.glo_ok W.kin W.ns (W.says.t.d.fact 11 (f := .glo "_law_cell") rfl)
  have b : Binds K fd ["_law_script", "_law_k"] [] := FunD.bindsN F fun _ _ _ _ _ _ us hl => match us, hl with | [_, _], _ => rfl
  exact (CalP.of m F.kp (ok__law_cell W  F) b .nil).imp fun vs H Q E h => by rw [List.append_nil]; exact h
def gs__law_take : GS := (gsCons (gsIf (gAndT (gTru (gIxN 0 (gC (.int 1)))) (gTst (gB dGt (gIxN 0 (gC (.int 0))) (gC (.int 0))))) (gsCons (gsAsg (gB dMod (gCall (on1 dInt) (Dx.gCons (gIxN 0 (gC (.int 0))) Dx.gNil)) (gV 1)) (gNm 2))
  (gsCons (gsSetIx 0 (gB dDiv (gIxN 0 (gC (.int 0))) (gV 1)) (gC (.int 0)))
  (gsCons (gsRet (gV 2))
  gsNil))) gsNil)
  (gsCons (gsSetIx 0 (gB dAdd (gIxN 0 (gC (.int 3))) (gC (.int 1))) (gC (.int 3)))
  (gsCons (gsAsg (gB dMod (gCall (on1 dInt) (Dx.gCons (gB dPow (gB dAdd (gB dAdd (gIxN 0 (gC (.int 2))) (gB dMulS (gC (.int 15485957)) (gIxN 0 (gC (.int 3))))) (gC (.int 179424757))) (gC (.int 5))) Dx.gNil)) (gC (.int 2147483647))) (gNm 3))
  (gsCons (gsRet (gB dMod (gB dDiv (gB dMod (gCall (on1 dInt) (Dx.gCons (gB dPow (gB dAdd (gB dMulS (gV 3) (gC (.int 48271))) (gB dMulS (gC (.int 104779)) (gIxN 0 (gC (.int 3))))) (gC (.int 3))) Dx.gNil)) (gC (.int 2147483587))) (gC (.int 64))) (gV 1)))
  gsNil))))
theorem ok__law_take {P : Program} {w : World} {K : PySem.W.Frag} {mg : Str → Option Value} {base : Heap} (W : Wd w K mg base)  {fd : FuncData} (F : FunD K d__law_take.name d__law_take.qual d__law_take.params d__law_take.body d__law_take.scope (d__law_take.dvs K) (d__law_take.kws K) (He.fAd K d__law_take.at_) fd) :
    FnOk P w K mg base CX0 1 (He.fAd K d__law_take.at_) fd ["_law_box_here", "_law_many"] (spB K 2 (gOfB 4 gs__law_take)) := by
  have S : FnScope ["_law_box_here", "_law_many", "_law_digit", "_law_mixed"] ["_law_box_here", "_law_many"] (defScope s__law_take) := ⟨rfl, rfl, rfl, by decide +kernel, rfl, by decide +kernel, by decide +kernel⟩
  have m_int := He.free_ok W.kin W.ns (W.says.t.d.fact 44 (f := .free "int") rfl)
  refine fnB F S fun cdv A outer s H E hr => ?_
  exact (pdss_cons (pds_if (pdt_w (pdw_and (pdt_truth (pd_ixN 0 pd_int)) (pdw_and1 (pdt_cmp opd_gt (pd_ixN 0 pd_int) pd_int)))) (pdss_cons (pds_set 2 S.nd (pd_bin opd_mod (pd_ct cd_int m_int rfl (pda_cons (pd_ixN 0 pd_int) pda_nil)) (pd_var 1)))
  (pdss_cons (pds_setIx 0 (pd_bin opd_div (pd_ixN 0 pd_int) (pd_var 1)) pd_int)
  (pdss_cons (pds_ret (pd_var 2))
  pdss_nil))) pdss_nil)
  (pdss_cons (pds_setIx 0 (pd_bin opd_add (pd_ixN 0 pd_int) pd_int) pd_int)
  (pdss_cons (pds_set 3 S.nd (pd_bin opd_mod (pd_ct cd_int m_int rfl (pda_cons (pd_bin opd_pow (pd_bin opd_add (pd_bin opd_add (pd_ixN 0 pd_int) (pd_bin opd_mulS pd_int (pd_ixN 0 pd_int))) pd_int) pd_int) pda_nil)) pd_int))
  (pdss_cons (pds_ret (pd_bin opd_mod (pd_bin opd_div (pd_bin opd_mod (pd_ct cd_int m_int rfl (pda_cons (pd_bin opd_pow (pd_bin opd_add (pd_bin opd_mulS (pd_var 3) pd_int) (pd_bin opd_mulS pd_int (pd_ixN 0 pd_int))) pd_int) pda_nil)) pd_int) pd_int) (pd_var 1)))
  pdss_nil))))
def L__law_take_2 : List D → List D → Option (D × List D) := gOfB 4 gs__law_take
theorem cal__law_take_2 {P : Program} {w : World} {K : PySem.W.Frag} {mg : Str → Option Value} {base : Heap} (W : Wd w K mg base)  : CalP P w K mg base 1 "_law_take" (spB K 2 L__law_take_2) := by
  obtain ⟨fd, F⟩ := W.says.t.d.def_ 15 (d := d__law_take) rfl
  have m := He.glo_ok W.kin W.ns (W.says.t.d.fact 13 (f := .glo "_law_take") rfl)
  have b : Binds K fd ["_law_box_here", "_law_many"] [] := FunD.bindsN F fun _ _ _ _ _ _ us hl => match us, hl with | [_, _], _ => rfl
  exact (CalP.of m F.kp (ok__law_take W  F) b .nil).imp fun vs H Q E h => by rw [List.append_nil]; exact h
def gs__law_kinds : GS := (gsCons (gsIf (gTst (gB dEq (gV 0) (gC (.str "write")))) (gsCons (gsRet (gLst (Dx.gCons (gC (.str "number")) (Dx.gCons (gC (.str "cell")) (Dx.gCons (gC (.str "text")) Dx.gNil)))))
  gsNil) gsNil)
  (gsCons (gsIf (gTst (gB dIn (gV 0) (gLst (Dx.gCons (gC (.str "stop")) (Dx.gCons (gC (.str "cut")) Dx.gNil))))) (gsCons (gsRet (gLst (Dx.gCons (gC (.str "number")) (Dx.gCons (gC (.str "number")) Dx.gNil))))
  gsNil) gsNil)
  (gsCons (gsRet (gIf (gTst (gB dIn (gV 0) (gLst (Dx.gCons (gC (.str "tick")) (Dx.gCons (gC (.str "carry")) (Dx.gCons (gC (.str "drop")) (Dx.gCons (gC (.str "double")) (Dx.gCons (gC (.str "rise")) Dx.gNil)))))))) (gLst (Dx.gCons (gC (.str "number")) Dx.gNil)) (gLst Dx.gNil)))
  gsNil)))
theorem ok__law_kinds {P : Program} {w : World} {K : PySem.W.Frag} {mg : Str → Option Value} {base : Heap} (W : Wd w K mg base)  {fd : FuncData} (F : FunD K d__law_kinds.name d__law_kinds.qual d__law_kinds.params d__law_kinds.body d__law_kinds.scope (d__law_kinds.dvs K) (d__law_kinds.kws K) (He.fAd K d__law_kinds.at_) fd) :
    FnOk P w K mg base CX0 1 (He.fAd K d__law_kinds.at_) fd ["_law_kind"] (spP K 1 (gOf 1 gs__law_kinds)) := by
  have S : FnScope ["_law_kind"] ["_law_kind"] (defScope s__law_kinds) := ⟨rfl, rfl, rfl, by decide +kernel, rfl, by decide +kernel, by decide +kernel⟩
  refine fnP F S fun cdv A outer s H E hr => ?_
  have hu := units_of hr
  exact (pdss_cons (pds_if (pdt_cmp (opd_eq hu) (pd_var 0) pd_str) (pdss_cons (pds_ret (pd_lst (pda_cons pd_str (pda_cons pd_str (pda_cons pd_str pda_nil)))))
  pdss_nil) pdss_nil)
  (pdss_cons (pds_if (pdt_cmp opd_in (pd_var 0) (pd_lst (pda_cons pd_str (pda_cons pd_str pda_nil)))) (pdss_cons (pds_ret (pd_lst (pda_cons pd_str (pda_cons pd_str pda_nil))))
  pdss_nil) pdss_nil)
  (pdss_cons (pds_ret (pd_if (pdt_cmp opd_in (pd_var 0) (pd_lst (pda_cons pd_str (pda_cons pd_str (pda_cons pd_str (pda_cons pd_str (pda_cons pd_str pda_nil))))))) (pd_lst (pda_cons pd_str pda_nil)) (pd_lst pda_nil)))
  pdss_nil)))
def L__law_kinds_1 : List D → Option D := gOf 1 gs__law_kinds
theorem cal__law_kinds_1 {P : Program} {w : World} {K : PySem.W.Frag} {mg : Str → Option Value} {base : Heap} (W : Wd w K mg base)  : CalP P w K mg base 1 "_law_kinds" (spP K 1 L__law_kinds_1) := by
  obtain ⟨fd, F⟩ := W.says.t.d.def_ 16 (d := d__law_kinds) rfl
  have m := He.glo_ok W.kin W.ns (W.says.t.d.fact 14 (f := .glo "_law_kinds") rfl)
  have b : Binds K fd ["_law_kind"] [] := FunD.bindsN F fun _ _ _ _ _ _ us hl => match us, hl with | [_], _ => rfl
  exact (CalP.of m F.kp (ok__law_kinds W  F) b .nil).imp fun vs H Q E h => by rw [List.append_nil]; exact h
def gs__law_signs : GS := (gsCons (gsRet (gC (.str " !\"#$&'()*+,-./0123456789:;<=>?@ABCDEFGHIJKLMNOPQRSTUVWXYZ[\\]^_`abcdefghijklmnopqrstuvwxyz{|}~")))
  gsNil)
theorem ok__law_signs {P : Program} {w : World} {K : PySem.W.Frag} {mg : Str → Option Value} {base : Heap} (W : Wd w K mg base)  {fd : FuncData} (F : FunD K d__law_signs.name d__law_signs.qual d__law_signs.params d__law_signs.body d__law_signs.scope (d__law_signs.dvs K) (d__law_signs.kws K) (He.fAd K d__law_signs.at_) fd) :
    FnOk P w K mg base CX0 1 (He.fAd K d__law_signs.at_) fd [] (spP K 0 (gOf 0 gs__law_signs)) := by
  have S : FnScope [] [] (defScope s__law_signs) := ⟨rfl, rfl, rfl, by decide +kernel, rfl, by decide +kernel, by decide +kernel⟩
  refine fnP F S fun cdv A outer s H E hr => ?_
  exact (pdss_cons (pds_ret pd_str)
  pdss_nil)
def L__law_signs_0 : List D → Option D := gOf 0 gs__law_signs
theorem cal__law_signs_0 {P : Program} {w : World} {K : PySem.W.Frag} {mg : Str → Option Value} {base : Heap} (W : Wd w K mg base)  : CalP P w K mg base 1 "_law_signs" (spP K 0 L__law_signs_0) := by
  obtain ⟨fd, F⟩ := W.says.t.d.def_ 17 (d := d__law_signs) rfl
  have m := He.glo_ok W.kin W.ns (W.says.t.d.fact 15 (f := .glo "_law_signs") rfl)
  have b : Binds K fd [] [] := FunD.bindsN F fun _ _ _ _ _ _ us hl => match us, hl with | [], _ => rfl
  exact (CalP.of m F.kp (ok__law_signs W  F) b .nil).imp fun vs H Q E h => by rw [List.append_nil]; exact h
def gs__law_item : GS := (gsCons (gsAsg (gTup (Dx.gCons (gC (.str "abcdefghijklmnopqrstuvwxyz")) (Dx.gCons (gCal L__law_signs_0 0 Dx.gNil) Dx.gNil))) (gTgTup 2 (gTgCons (gNm 2) (gTgCons (gNm 3) gTgNil))))
  (gsCons (gsIf (gTst (gB dEq (gV 1) (gC (.str "number")))) (gsCons (gsAsg (gB dIx (gLst (Dx.gCons (gC (.int 16)) (Dx.gCons (gC (.int 10)) (Dx.gCons (gC (.int 100)) (Dx.gCons (gC (.int 3)) (Dx.gCons (gC (.int 1000)) (Dx.gCons (gB dPow (gC (.int 10)) (gC (.int 9))) (Dx.gCons (gC (.int 12)) (Dx.gCons (gB dPow (gC (.int 10)) (gC (.int 7))) Dx.gNil))))))))) (gCalB L__law_take_2 2 0 (Dx.gCons (gC (.int 8)) Dx.gNil))) (gNm 4))
  (gsCons (gsRet (gCalB L__law_take_2 2 0 (Dx.gCons (gV 4) Dx.gNil)))
  gsNil)) gsNil)
  (gsCons (gsIf (gTst (gB dEq (gV 1) (gC (.str "cell")))) (gsCons (gsRet (gM1 dJoin (gC (.str "")) (gLc (gRg1 (Dx.gCons (gB dAdd (gC (.int 1)) (gCalB L__law_take_2 2 0 (Dx.gCons (gC (.int 8)) Dx.gNil))) Dx.gNil)) (gNm 5) gYes (gIxN 2 (gCalB L__law_take_2 2 0 (Dx.gCons (gC (.int 26)) Dx.gNil))) [5])))
  gsNil) gsNil)
  (gsCons (gsAsg (gB dIx (gLst (Dx.gCons (gC (.int 0)) (Dx.gCons (gC (.int 1)) (Dx.gCons (gC (.int 40)) (Dx.gCons (gC (.int 5)) (Dx.gCons (gC (.int 13)) (Dx.gCons (gC (.int 2)) (Dx.gCons (gC (.int 39)) (Dx.gCons (gC (.int 8)) Dx.gNil))))))))) (gCalB L__law_take_2 2 0 (Dx.gCons (gC (.int 8)) Dx.gNil))) (gNm 6))
  (gsCons (gsAsg (gM1 dJoin (gC (.str "")) (gLc (gRg1 (Dx.gCons (gV 6) Dx.gNil)) (gNm 5) gYes (gIxN 3 (gCalB L__law_take_2 2 0 (Dx.gCons (gCall (on1 dLen1) (Dx.gCons (gV 3) Dx.gNil)) Dx.gNil))) [5])) (gNm 7))
  (gsCons (gsAsg (gCalB L__law_take_2 2 0 (Dx.gCons (gC (.int 6)) Dx.gNil)) (gNm 8))
  (gsCons (gsRet (gB dIx (gLst (Dx.gCons (gB dAdd (gC (.str " ")) (gSl (gV 7) gNo (gSo (gC (.int 39))))) (Dx.gCons (gB dAdd (gSl (gV 7) gNo (gSo (gC (.int 39)))) (gC (.str " "))) (Dx.gCons (gB dAdd (gC (.str "7 a ")) (gSl (gV 7) gNo (gSo (gC (.int 30))))) (Dx.gCons (gV 7) (Dx.gCons (gV 7) (Dx.gCons (gV 7) Dx.gNil))))))) (gV 8)))
  gsNil)))))))
theorem ok__law_item {P : Program} {w : World} {K : PySem.W.Frag} {mg : Str → Option Value} {base : Heap} (W : Wd w K mg base) (c__law_signs_0 : CalP P w K mg base 1 "_law_signs" (spP K 0 L__law_signs_0)) (c__law_take_2 : CalP P w K mg base 1 "_law_take" (spB K 2 L__law_take_2)) {fd : FuncData} (F : FunD K d__law_item.name d__law_item.qual d__law_item.params d__law_item.body d__law_item.scope (d__law_item.dvs K) (d__law_item.kws K) (He.fAd K d__law_item.at_) fd) :
    FnOk P w K mg base CX0 2 (He.fAd K d__law_item.at_) fd ["_law_box_here", "_law_sort"] (spB K 2 (gOfB 9 gs__law_item)) := by
  have S : FnScope ["_law_box_here", "_law_sort", "_law_letters", "_law_signs_here", "_law_most", "_law_k", "_law_many", "_law_text", "_law_ends"] ["_law_box_here", "_law_sort"] (defScope s__law_item) := ⟨rfl, rfl, rfl, by decide +kernel, rfl, by decide +kernel, by decide +kernel⟩
  have m_range := He.free_ok W.kin W.ns (W.says.t.d.fact 50 (f := .free "range") rfl)
  have m_len := He.free_ok W.kin W.ns (W.says.t.d.fact 46 (f := .free "len") rfl)
  refine fnB F S fun cdv A outer s H E hr => ?_
  have hu := units_of hr
  exact (pdss_cons (pds_asg (pd_tup (pda_cons pd_str (pda_cons (pd_cal0 (c__law_signs_0.mono (by decide)) hr) pda_nil))) (pdg_tup (n := 2) rfl (pdgs_cons (pdg_name 2 S.nd) (pdgs_cons (pdg_name 3 S.nd) pdgs_nil))))
  (pdss_cons (pds_if (pdt_cmp (opd_eq hu) (pd_var 1) pd_str) (pdss_cons (pds_set 4 S.nd (pd_ix (pd_lst (pda_cons pd_int (pda_cons pd_int (pda_cons pd_int (pda_cons pd_int (pda_cons pd_int (pda_cons (pd_bin opd_pow pd_int pd_int) (pda_cons pd_int (pda_cons (pd_bin opd_pow pd_int pd_int) pda_nil))))))))) (pd_calB 0 (c__law_take_2.mono (by decide)) hr (pda_cons pd_int pda_nil))))
  (pdss_cons (pds_ret (pd_calB 0 (c__law_take_2.mono (by decide)) hr (pda_cons (pd_var 4) pda_nil)))
  pdss_nil)) pdss_nil)
  (pdss_cons (pds_if (pdt_cmp (opd_eq hu) (pd_var 1) pd_str) (pdss_cons (pds_ret (pd_join pd_str (pd_lc [("_law_k", 5)] rfl S.nd (pdi_rng1 m_range (pda_cons (pd_bin opd_add pd_int (pd_calB 0 (c__law_take_2.mono (by decide)) hr (pda_cons pd_int pda_nil))) pda_nil)) (fun _ _ _ _ _ => (pdg_name 5 S.nd)) (fun _ _ _ _ _ => pdts_nil) (fun _ _ _ _ _ => (pd_ixN 2 (pd_calB 0 (c__law_take_2.mono (by decide)) hr (pda_cons pd_int pda_nil)))))))
  pdss_nil) pdss_nil)
  (pdss_cons (pds_set 6 S.nd (pd_ix (pd_lst (pda_cons pd_int (pda_cons pd_int (pda_cons pd_int (pda_cons pd_int (pda_cons pd_int (pda_cons pd_int (pda_cons pd_int (pda_cons pd_int pda_nil))))))))) (pd_calB 0 (c__law_take_2.mono (by decide)) hr (pda_cons pd_int pda_nil))))
  (pdss_cons (pds_set 7 S.nd (pd_join pd_str (pd_lc [("_law_k", 5)] rfl S.nd (pdi_rng1 m_range (pda_cons (pd_var 6) pda_nil)) (fun _ _ _ _ _ => (pdg_name 5 S.nd)) (fun _ _ _ _ _ => pdts_nil) (fun _ _ _ _ _ => (pd_ixN 3 (pd_calB 0 (c__law_take_2.mono (by decide)) hr (pda_cons (pd_cb cd_len m_len rfl (pda_cons (pd_var 3) pda_nil)) pda_nil)))))))
  (pdss_cons (pds_set 8 S.nd (pd_calB 0 (c__law_take_2.mono (by decide)) hr (pda_cons pd_int pda_nil)))
  (pdss_cons (pds_ret (pd_ix (pd_lst (pda_cons (pd_bin opd_add pd_str (pd_sl (pd_var 7) pdo_none (pdo_some pd_int))) (pda_cons (pd_bin opd_add (pd_sl (pd_var 7) pdo_none (pdo_some pd_int)) pd_str) (pda_cons (pd_bin opd_add pd_str (pd_sl (pd_var 7) pdo_none (pdo_some pd_int))) (pda_cons (pd_var 7) (pda_cons (pd_var 7) (pda_cons (pd_var 7) pda_nil))))))) (pd_var 8)))
  pdss_nil)))))))
def L__law_item_2 : List D → List D → Option (D × List D) := gOfB 9 gs__law_item
theorem cal__law_item_2 {P : Program} {w : World} {K : PySem.W.Frag} {mg : Str → Option Value} {base : Heap} (W : Wd w K mg base) (c__law_signs_0 : CalP P w K mg base 1 "_law_signs" (spP K 0 L__law_signs_0)) (c__law_take_2 : CalP P w K mg base 1 "_law_take" (spB K 2 L__law_take_2)) : CalP P w K mg base 2 "_law_item" (spB K 2 L__law_item_2) := by
  obtain ⟨fd, F⟩ := W.says.t.d.def_ 18 (d := d__law_item) rfl
  have m := He.glo_ok W.kin W.ns (W.says.t.d.fact 16 (f := .glo "_law_item") rfl)
  have b : Binds K fd ["_law_box_here", "_law_sort"] [] := FunD.bindsN F fun _ _ _ _ _ _ us hl => match us, hl with | [_, _], _ => rfl
  exact (CalP.of m F.kp (ok__law_item W c__law_signs_0 c__law_take_2 F) b .nil).imp fun vs H Q E h => by rw [List.append_nil]; exact h
def gs__law_act : GS := (gsCons (gsAsg (gLst (Dx.gCons (gC (.str "tick")) (Dx.gCons (gC (.str "write")) (Dx.gCons (gC (.str "carry")) (Dx.gCons (gC (.str "drop")) (Dx.gCons (gC (.str "double")) (Dx.gCons (gC (.str "stop")) (Dx.gCons (gC (.str "cut")) (Dx.gCons (gC (.str "rise")) (Dx.gCons (gC (.str "write")) (Dx.gCons (gC (.str "write")) (Dx.gCons (gC (.str "stop")) (Dx.gCons (gC (.str "cut")) Dx.gNil))))))))))))) (gNm 1))
  (gsCons (gsAsg (gIxN 1 (gCalB L__law_take_2 2 0 (Dx.gCons (gC (.int 12)) Dx.gNil))) (gNm 2))
  (gsCons (gsRet (gCall (on1 dTuple) (Dx.gCons (gB dAdd (gLst (Dx.gCons (gV 2) Dx.gNil)) (gLc (gIt (gCal L__law_kinds_1 1 (Dx.gCons (gV 2) Dx.gNil))) (gNm 3) gYes (gCalB L__law_item_2 2 0 (Dx.gCons (gV 3) Dx.gNil)) [3])) Dx.gNil)))
  gsNil)))
theorem ok__law_act {P : Program} {w : World} {K : PySem.W.Frag} {mg : Str → Option Value} {base : Heap} (W : Wd w K mg base) (c__law_item_2 : CalP P w K mg base 2 "_law_item" (spB K 2 L__law_item_2)) (c__law_kinds_1 : CalP P w K mg base 1 "_law_kinds" (spP K 1 L__law_kinds_1)) (c__law_take_2 : CalP P w K mg base 1 "_law_take" (spB K 2 L__law_take_2)) {fd : FuncData} (F : FunD K d__law_act.name d__law_act.qual d__law_act.params d__law_act.body d__law_act.scope (d__law_act.dvs K) (d__law_act.kws K) (He.fAd K d__law_act.at_) fd) :
    FnOk P w K mg base CX0 3 (He.fAd K d__law_act.at_) fd ["_law_box_here"] (spB K 1 (gOfB 4 gs__law_act)) := by
  have S : FnScope ["_law_box_here", "_law_kinds_here", "_law_kind", "_law_sort"] ["_law_box_here"] (defScope s__law_act) := ⟨rfl, rfl, rfl, by decide +kernel, rfl, by decide +kernel, by decide +kernel⟩
  have m_tuple := He.free_ok W.kin W.ns (W.says.t.d.fact 54 (f := .free "tuple") rfl)
  refine fnB F S fun cdv A outer s H E hr => ?_
  exact (pdss_cons (pds_set 1 S.nd (pd_lst (pda_cons pd_str (pda_cons pd_str (pda_cons pd_str (pda_cons pd_str (pda_cons pd_str (pda_cons pd_str (pda_cons pd_str (pda_cons pd_str (pda_cons pd_str (pda_cons pd_str (pda_cons pd_str (pda_cons pd_str pda_nil))))))))))))))
  (pdss_cons (pds_set 2 S.nd (pd_ixN 1 (pd_calB 0 (c__law_take_2.mono (by decide)) hr (pda_cons pd_int pda_nil))))
  (pdss_cons (pds_ret (pd_ct cd_tuple m_tuple rfl (pda_cons (pd_bin opd_add (pd_lst (pda_cons (pd_var 2) pda_nil)) (pd_lc [("_law_sort", 3)] rfl S.nd (pdi_val (pd_cal (c__law_kinds_1.mono (by decide)) hr (pda_cons (pd_var 2) pda_nil))) (fun _ _ _ _ _ => (pdg_name 3 S.nd)) (fun _ _ _ _ _ => pdts_nil) (fun _ _ _ _ _ => (pd_calB 0 (c__law_item_2.mono (by decide)) hr (pda_cons (pd_var 3) pda_nil))))) pda_nil)))
  pdss_nil)))
def L__law_act_1 : List D → List D → Option (D × List D) := gOfB 4 gs__law_act
theorem cal__law_act_1 {P : Program} {w : World} {K : PySem.W.Frag} {mg : Str → Option Value} {base : Heap} (W : Wd w K mg base) (c__law_item_2 : CalP P w K mg base 2 "_law_item" (spB K 2 L__law_item_2)) (c__law_kinds_1 : CalP P w K mg base 1 "_law_kinds" (spP K 1 L__law_kinds_1)) (c__law_take_2 : CalP P w K mg base 1 "_law_take" (spB K 2 L__law_take_2)) : CalP P w K mg base 3 "_law_act" (spB K 1 L__law_act_1) := by
  obtain ⟨fd, F⟩ := W.says.t.d.def_ 19 (d := d__law_act) rfl
  have m := He.glo_ok W.kin W.ns (W.says.t.d.fact 17 (f := .glo "_law_act") rfl)
  have b : Binds K fd ["_law_box_here"] [] := FunD.bindsN F fun _ _ _ _ _ _ us hl => match us, hl with | [_], _ => rfl
  exact (CalP.of m F.kp (ok__law_act W c__law_item_2 c__law_kinds_1 c__law_take_2 F) b .nil).imp fun vs H Q E h => by rw [List.append_nil]; exact h
def gs__law_is_number : GS := (gsCons (gsRet (gAndV (gIsi "int" (gV 0)) (gAndV (gNotV (gIsi "bool" (gV 0))) (gB dGe (gV 0) (gC (.int 0))))))
  gsNil)
theorem ok__law_is_number {P : Program} {w : World} {K : PySem.W.Frag} {mg : Str → Option Value} {base : Heap} (W : Wd w K mg base)  {fd : FuncData} (F : FunD K d__law_is_number.name d__law_is_number.qual d__law_is_number.params d__law_is_number.body d__law_is_number.scope (d__law_is_number.dvs K) (d__law_is_number.kws K) (He.fAd K d__law_is_number.at_) fd) :
    FnOk P w K mg base CX0 1 (He.fAd K d__law_is_number.at_) fd ["_law_value"] (spP K 1 (gOf 1 gs__law_is_number)) := by
  have S : FnScope ["_law_value"] ["_law_value"] (defScope s__law_is_number) := ⟨rfl, rfl, rfl, by decide +kernel, rfl, by decide +kernel, by decide +kernel⟩
  have m_isinstance := He.free_ok W.kin W.ns (W.says.t.d.fact 45 (f := .free "isinstance") rfl)
  have m_bool := He.free_ok W.kin W.ns (W.says.t.d.fact 43 (f := .free "bool") rfl)
  have m_int := He.free_ok W.kin W.ns (W.says.t.d.fact 44 (f := .free "int") rfl)
  refine fnP F S fun cdv A outer s H E hr => ?_
  exact (pdss_cons (pds_ret (pd_and (pd_isi (C := "int") (by decide) m_isinstance m_int rfl (pd_var 0)) (pd_and (pd_not (pd_isi (C := "bool") (by decide) m_isinstance m_bool rfl (pd_var 0))) (pd_one (pd_cmp opd_ge (pd_var 0) pd_int)))))
  pdss_nil)
def L__law_is_number_1 : List D → Option D := gOf 1 gs__law_is_number
theorem cal__law_is_number_1 {P : Program} {w : World} {K : PySem.W.Frag} {mg : Str → Option Value} {base : Heap} (W : Wd w K mg base)  : CalP P w K mg base 1 "_law_is_number" (spP K 1 L__law_is_number_1) := by
  obtain ⟨fd, F⟩ := W.says.t.d.def_ 20 (d := d__law_is_number) rfl
  have m := He.glo_ok W.kin W.ns (W.says.t.d.fact 18 (f := .glo "_law_is_number") rfl)
  have b : Binds K fd ["_law_value"] [] := FunD.bindsN F fun _ _ _ _ _ _ us hl => match us, hl with | [_], _ => rfl
  exact (CalP.of m F.kp (ok__law_is_number W  F) b .nil).imp fun vs H Q E h => by rw [List.append_nil]; exact h
def gs__law_is_cell : GS := (gsCons (gsIf (gOrT (gNotT (gTru (gIsi "str" (gV 0)))) (gTst (gInR true (gCall (on1 dLen1) (Dx.gCons (gV 0) Dx.gNil)) (Dx.gCons (gC (.int 1)) (Dx.gCons (gC (.int 9)) Dx.gNil))))) (gsCons (gsRet (gC (.bl false)))
  gsNil) gsNil)
  (gsCons (gsRet (gB dEq (gLc (gIt (gV 0)) (gNm 1) (gTst (gB dNotIn (gV 1) (gC (.str "abcdefghijklmnopqrstuvwxyz")))) (gV 1) [1]) (gLst Dx.gNil)))
  gsNil))
theorem ok__law_is_cell {P : Program} {w : World} {K : PySem.W.Frag} {mg : Str → Option Value} {base : Heap} (W : Wd w K mg base)  {fd : FuncData} (F : FunD K d__law_is_cell.name d__law_is_cell.qual d__law_is_cell.params d__law_is_cell.body d__law_is_cell.scope (d__law_is_cell.dvs K) (d__law_is_cell.kws K) (He.fAd K d__law_is_cell.at_) fd) :
    FnOk P w K mg base CX0 1 (He.fAd K d__law_is_cell.at_) fd ["_law_value"] (spP K 1 (gOf 2 gs__law_is_cell)) := by
  have S : FnScope ["_law_value", "_law_letter"] ["_law_value"] (defScope s__law_is_cell) := ⟨rfl, rfl, rfl, by decide +kernel, rfl, by decide +kernel, by decide +kernel⟩
  have m_range := He.free_ok W.kin W.ns (W.says.t.d.fact 50 (f := .free "range") rfl)
  have m_len := He.free_ok W.kin W.ns (W.says.t.d.fact 46 (f := .free "len") rfl)
  have m_isinstance := He.free_ok W.kin W.ns (W.says.t.d.fact 45 (f := .free "isinstance") rfl)
  have m_str := He.free_ok W.kin W.ns (W.says.t.d.fact 52 (f := .free "str") rfl)
  refine fnP F S fun cdv A outer s H E hr => ?_
  have hu := units_of hr
  exact (pdss_cons (pds_if (pdt_w (pdw_or (pdt_not (pdt_truth (pd_isi (C := "str") (by decide) m_isinstance m_str rfl (pd_var 0)))) (pdw_or1 (pdt_notInR m_range (pd_cb cd_len m_len rfl (pda_cons (pd_var 0) pda_nil)) (pda_cons pd_int (pda_cons pd_int pda_nil)))))) (pdss_cons (pds_ret pd_bl)
  pdss_nil) pdss_nil)
  (pdss_cons (pds_ret (pd_cmp (opd_eq hu) (pd_lc [("_law_letter", 1)] rfl S.nd (pdi_val (pd_var 0)) (fun _ _ _ _ _ => (pdg_name 1 S.nd)) (fun _ _ _ _ _ => (pdts_one (pdt_cmp opd_notIn (pd_var 1) pd_str))) (fun _ _ _ _ _ => (pd_var 1))) (pd_lst pda_nil)))
  pdss_nil))
def L__law_is_cell_1 : List D → Option D := gOf 2 gs__law_is_cell
theorem cal__law_is_cell_1 {P : Program} {w : World} {K : PySem.W.Frag} {mg : Str → Option Value} {base : Heap} (W : Wd w K mg base)  : CalP P w K mg base 1 "_law_is_cell" (spP K 1 L__law_is_cell_1) := by
  obtain ⟨fd, F⟩ := W.says.t.d.def_ 21 (d := d__law_is_cell) rfl
  have m := He.glo_ok W.kin W.ns (W.says.t.d.fact 19 (f := .glo "_law_is_cell") rfl)
  have b : Binds K fd ["_law_value"] [] := FunD.bindsN F fun _ _ _ _ _ _ us hl => match us, hl with | [_], _ => rfl
  exact (CalP.of m F.kp (ok__law_is_cell W  F) b .nil).imp fun vs H Q E h => by rw [List.append_nil]; exact h
def gs__law_is_text : GS := (gsCons (gsIf (gOrT (gNotT (gTru (gIsi "str" (gV 0)))) (gTst (gB dGt (gCall (on1 dLen1) (Dx.gCons (gV 0) Dx.gNil)) (gC (.int 40))))) (gsCons (gsRet (gC (.bl false)))
  gsNil) gsNil)
  (gsCons (gsRet (gB dEq (gLc (gIt (gV 0)) (gNm 1) (gNotT (gTst (gCh dLe dLe (gC (.str " ")) (gV 1) (gC (.str "~"))))) (gV 1) [1]) (gLst Dx.gNil)))
  gsNil))
theorem ok__law_is_text {P : Program} {w : World} {K : PySem.W.Frag} {mg : Str → Option Value} {base : Heap} (W : Wd w K mg base)  {fd : FuncData} (F : FunD K d__law_is_text.name d__law_is_text.qual d__law_is_text.params d__law_is_text.body d__law_is_text.scope (d__law_is_text.dvs K) (d__law_is_text.kws K) (He.fAd K d__law_is_text.at_) fd) :
    FnOk P w K mg base CX0 1 (He.fAd K d__law_is_text.at_) fd ["_law_value"] (spP K 1 (gOf 2 gs__law_is_text)) := by
  have S : FnScope ["_law_value", "_law_sign"] ["_law_value"] (defScope s__law_is_text) := ⟨rfl, rfl, rfl, by decide +kernel, rfl, by decide +kernel, by decide +kernel⟩
  have m_len := He.free_ok W.kin W.ns (W.says.t.d.fact 46 (f := .free "len") rfl)
  have m_isinstance := He.free_ok W.kin W.ns (W.says.t.d.fact 45 (f := .free "isinstance") rfl)
  have m_str := He.free_ok W.kin W.ns (W.says.t.d.fact 52 (f := .free "str") rfl)
  refine fnP F S fun cdv A outer s H E hr => ?_
  have hu := units_of hr
  exact (pdss_cons (pds_if (pdt_w (pdw_or (pdt_not (pdt_truth (pd_isi (C := "str") (by decide) m_isinstance m_str rfl (pd_var 0)))) (pdw_or1 (pdt_cmp opd_gt (pd_cb cd_len m_len rfl (pda_cons (pd_var 0) pda_nil)) pd_int)))) (pdss_cons (pds_ret pd_bl)
  pdss_nil) pdss_nil)
  (pdss_cons (pds_ret (pd_cmp (opd_eq hu) (pd_lc [("_law_sign", 1)] rfl S.nd (pdi_val (pd_var 0)) (fun _ _ _ _ _ => (pdg_name 1 S.nd)) (fun _ _ _ _ _ => (pdts_one (pdt_not (pdt_chain opd_le opd_le pd_str (pd_var 1) pd_str)))) (fun _ _ _ _ _ => (pd_var 1))) (pd_lst pda_nil)))
  pdss_nil))
def L__law_is_text_1 : List D → Option D := gOf 2 gs__law_is_text
theorem cal__law_is_text_1 {P : Program} {w : World} {K : PySem.W.Frag} {mg : Str → Option Value} {base : Heap} (W : Wd w K mg base)  : CalP P w K mg base 1 "_law_is_text" (spP K 1 L__law_is_text_1) := by
  obtain ⟨fd, F⟩ := W.says.t.d.def_ 22 (d := d__law_is_text) rfl
  have m := He.glo_ok W.kin W.ns (W.says.t.d.fact 20 (f := .glo "_law_is_text") rfl)
  have b : Binds K fd ["_law_value"] [] := FunD.bindsN F fun _ _ _ _ _ _ us hl => match us, hl with | [_], _ => rfl
  exact (CalP.of m F.kp (ok__law_is_text W  F) b .nil).imp fun vs H Q E h => by rw [List.append_nil]; exact h
def gs__law_is_act : GS := (gsCons (gsIf (gOrT (gNotT (gTru (gIsi "tuple" (gV 0)))) (gOrT (gTst (gB dLt (gCall (on1 dLen1) (Dx.gCons (gV 0) Dx.gNil)) (gC (.int 2)))) (gNotT (gTru (gIsi "str" (gIxN 0 (gC (.int 0)))))))) (gsCons (gsRet (gC (.bl false)))
  gsNil) gsNil)
  (gsCons (gsAsg (gCal L__law_kinds_1 1 (Dx.gCons (gIxN 0 (gC (.int 0))) Dx.gNil)) (gNm 1))
  (gsCons (gsIf (gTst (gB dNe (gCall (on1 dLen1) (Dx.gCons (gV 1) Dx.gNil)) (gB dSub (gCall (on1 dLen1) (Dx.gCons (gV 0) Dx.gNil)) (gC (.int 1))))) (gsCons (gsRet (gC (.bl false)))
  gsNil) gsNil)
  (gsCons (gsFor (gRg1 (Dx.gCons (gCall (on1 dLen1) (Dx.gCons (gV 1) Dx.gNil)) Dx.gNil)) (gNm 2) (gsCons (gsAsg (gIxN 0 (gB dAdd (gV 2) (gC (.int 1)))) (gNm 3))
  (gsCons (gsIf (gOrT (gAndT (gTst (gB dEq (gIxN 1 (gV 2)) (gC (.str "number")))) (gNotT (gTru (gCal L__law_is_number_1 1 (Dx.gCons (gV 3) Dx.gNil))))) (gAndT (gTst (gB dEq (gIxN 1 (gV 2)) (gC (.str "cell")))) (gNotT (gTru (gCal L__law_is_cell_1 1 (Dx.gCons (gV 3) Dx.gNil)))))) (gsCons (gsRet (gC (.bl false)))
  gsNil) gsNil)
  (gsCons (gsIf (gAndT (gTst (gB dEq (gIxN 1 (gV 2)) (gC (.str "text")))) (gNotT (gTru (gCal L__law_is_text_1 1 (Dx.gCons (gV 3) Dx.gNil))))) (gsCons (gsRet (gC (.bl false)))
  gsNil) gsNil)
  gsNil))))
  (gsCons (gsRet (gC (.bl true)))
  gsNil)))))
theorem ok__law_is_act {P : Program} {w : World} {K : PySem.W.Frag} {mg : Str → Option Value} {base : Heap} (W : Wd w K mg base) (c__law_is_cell_1 : CalP P w K mg base 1 "_law_is_cell" (spP K 1 L__law_is_cell_1)) (c__law_is_number_1 : CalP P w K mg base 1 "_law_is_number" (spP K 1 L__law_is_number_1)) (c__law_is_text_1 : CalP P w K mg base 1 "_law_is_text" (spP K 1 L__law_is_text_1)) (c__law_kinds_1 : CalP P w K mg base 1 "_law_kinds" (spP K 1 L__law_kinds_1)) {fd : FuncData} (F : FunD K d__law_is_act.name d__law_is_act.qual d__law_is_act.params d__law_is_act.body d__law_is_act.scope (d__law_is_act.dvs K) (d__law_is_act.kws K) (He.fAd K d__law_is_act.at_) fd) :
    FnOk P w K mg base CX0 2 (He.fAd K d__law_is_act.at_) fd ["_law_value"] (spP K 1 (gOf 4 gs__law_is_act)) := by
  have S : FnScope ["_law_value", "_law_sorts", "_law_k", "_law_item_here"] ["_law_value"] (defScope s__law_is_act) := ⟨rfl, rfl, rfl, by decide +kernel, rfl, by decide +kernel, by decide +kernel⟩
  have m_isinstance := He.free_ok W.kin W.ns (W.says.t.d.fact 45 (f := .free "isinstance") rfl)
  have m_str := He.free_ok W.kin W.ns (W.says.t.d.fact 52 (f := .free "str") rfl)
  have m_len := He.free_ok W.kin W.ns (W.says.t.d.fact 46 (f := .free "len") rfl)
  have m_tuple := He.free_ok W.kin W.ns (W.says.t.d.fact 54 (f := .free "tuple") rfl)
  have m_range := He.free_ok W.kin W.ns (W.says.t.d.fact 50 (f := .free "range") rfl)
  refine fnP F S fun cdv A outer s H E hr => ?_
  have hu := units_of hr
  exact (pdss_cons (pds_if (pdt_w (pdw_or (pdt_not (pdt_truth (pd_isi (C := "tuple") (by decide) m_isinstance m_tuple rfl (pd_var 0)))) (pdw_or (pdt_cmp opd_lt (pd_cb cd_len m_len rfl (pda_cons (pd_var 0) pda_nil)) pd_int) (pdw_or1 (pdt_not (pdt_truth (pd_isi (C := "str") (by decide) m_isinstance m_str rfl (pd_ixN 0 pd_int)))))))) (pdss_cons (pds_ret pd_bl)
  pdss_nil) pdss_nil)
  (pdss_cons (pds_set 1 S.nd (pd_cal (c__law_kinds_1.mono (by decide)) hr (pda_cons (pd_ixN 0 pd_int) pda_nil)))
  (pdss_cons (pds_if (pdt_cmp (opd_ne hu) (pd_cb cd_len m_len rfl (pda_cons (pd_var 1) pda_nil)) (pd_bin opd_sub (pd_cb cd_len m_len rfl (pda_cons (pd_var 0) pda_nil)) pd_int)) (pdss_cons (pds_ret pd_bl)
  pdss_nil) pdss_nil)
  (pdss_cons (pds_for PassesOwn.never rfl (pdi_rng1 m_range (pda_cons (pd_cb cd_len m_len rfl (pda_cons (pd_var 1) pda_nil)) pda_nil)) (pdg_name 2 S.nd) (pdss_cons (pds_set 3 S.nd (pd_ixN 0 (pd_bin opd_add (pd_var 2) pd_int)))
  (pdss_cons (pds_if (pdt_w (pdw_or (pdt_w (pdw_and (pdt_cmp (opd_eq hu) (pd_ixN 1 (pd_var 2)) pd_str) (pdw_and1 (pdt_not (pdt_truth (pd_cal (c__law_is_number_1.mono (by decide)) hr (pda_cons (pd_var 3) pda_nil))))))) (pdw_or1 (pdt_w (pdw_and (pdt_cmp (opd_eq hu) (pd_ixN 1 (pd_var 2)) pd_str) (pdw_and1 (pdt_not (pdt_truth (pd_cal (c__law_is_cell_1.mono (by decide)) hr (pda_cons (pd_var 3) pda_nil)))))))))) (pdss_cons (pds_ret pd_bl)
  pdss_nil) pdss_nil)
  (pdss_cons (pds_if (pdt_w (pdw_and (pdt_cmp (opd_eq hu) (pd_ixN 1 (pd_var 2)) pd_str) (pdw_and1 (pdt_not (pdt_truth (pd_cal (c__law_is_text_1.mono (by decide)) hr (pda_cons (pd_var 3) pda_nil))))))) (pdss_cons (pds_ret pd_bl)
  pdss_nil) pdss_nil)
  pdss_nil))))
  (pdss_cons (pds_ret pd_bl)
  pdss_nil)))))
def L__law_is_act_1 : List D → Option D := gOf 4 gs__law_is_act
theorem cal__law_is_act_1 {P : Program} {w : World} {K : PySem.W.Frag} {mg : Str → Option Value} {base : Heap} (W : Wd w K mg base) (c__law_is_cell_1 : CalP P w K mg base 1 "_law_is_cell" (spP K 1 L__law_is_cell_1)) (c__law_is_number_1 : CalP P w K mg base 1 "_law_is_number" (spP K 1 L__law_is_number_1)) (c__law_is_text_1 : CalP P w K mg base 1 "_law_is_text" (spP K 1 L__law_is_text_1)) (c__law_kinds_1 : CalP P w K mg base 1 "_law_kinds" (spP K 1 L__law_kinds_1)) : CalP P w K mg base 2 "_law_is_act" (spP K 1 L__law_is_act_1) := by
  obtain ⟨fd, F⟩ := W.says.t.d.def_ 23 (d := d__law_is_act) rfl
  have m := He.glo_ok W.kin W.ns (W.says.t.d.fact 21 (f := .glo "_law_is_act") rfl)
  have b : Binds K fd ["_law_value"] [] := FunD.bindsN F fun _ _ _ _ _ _ us hl => match us, hl with | [_], _ => rfl
  exact (CalP.of m F.kp (ok__law_is_act W c__law_is_cell_1 c__law_is_number_1 c__law_is_text_1 c__law_kinds_1 F) b .nil).imp fun vs H Q E h => by rw [List.append_nil]; exact h
def gs__law_written : GS := (gsCons (gsAsg (gIxN 0 (gC (.int 0))) (gNm 1))
  (gsCons (gsFor (gIt (gSl (gV 0) (gSo (gC (.int 1))) gNo)) (gNm 2) (gsCons (gsAsg (gB dAdd (gB dAdd (gV 1) (gC (.str " "))) (gIf (gTru (gIsi "str" (gV 2))) (gV 2) (gCall (on1 dStr) (Dx.gCons (gV 2) Dx.gNil)))) (gNm 1))
  gsNil))
  (gsCons (gsRet (gV 1))
  gsNil)))
theorem ok__law_written {P : Program} {w : World} {K : PySem.W.Frag} {mg : Str → Option Value} {base : Heap} (W : Wd w K mg base)  {fd : FuncData} (F : FunD K d__law_written.name d__law_written.qual d__law_written.params d__law_written.body d__law_written.scope (d__law_written.dvs K) (d__law_written.kws K) (He.fAd K d__law_written.at_) fd) :
    FnOk P w K mg base CX0 1 (He.fAd K d__law_written.at_) fd ["_law_act_here"] (spP K 1 (gOf 3 gs__law_written)) := by
  have S : FnScope ["_law_act_here", "_law_line_here", "_law_item_here"] ["_law_act_here"] (defScope s__law_written) := ⟨rfl, rfl, rfl, by decide +kernel, rfl, by decide +kernel, by decide +kernel⟩
  have m_isinstance := He.free_ok W.kin W.ns (W.says.t.d.fact 45 (f := .free "isinstance") rfl)
  have m_str := He.free_ok W.kin W.ns (W.says.t.d.fact 52 (f := .free "str") rfl)
  refine fnP F S fun cdv A outer s H E hr => ?_
  exact (pdss_cons (pds_set 1 S.nd (pd_ixN 0 pd_int))
  (pdss_cons (pds_for PassesOwn.never rfl (pdi_val (pd_sl (pd_var 0) (pdo_some pd_int) pdo_none)) (pdg_name 2 S.nd) (pdss_cons (pds_set 1 S.nd (pd_bin opd_add (pd_bin opd_add (pd_var 1) pd_str) (pd_if (pdt_truth (pd_isi (C := "str") (by decide) m_isinstance m_str rfl (pd_var 2))) (pd_var 2) (pd_ct cd_str m_str rfl (pda_cons (pd_var 2) pda_nil)))))
  pdss_nil))
  (pdss_cons (pds_ret (pd_var 1))
  pdss_nil)))
def L__law_written_1 : List D → Option D := gOf 3 gs__law_written
theorem cal__law_written_1 {P : Program} {w : World} {K : PySem.W.Frag} {mg : Str → Option Value} {base : Heap} (W : Wd w K mg base)  : CalP P w K mg base 1 "_law_written" (spP K 1 L__law_written_1) := by
  obtain ⟨fd, F⟩ := W.says.t.d.def_ 24 (d := d__law_written) rfl
  have m := He.glo_ok W.kin W.ns (W.says.t.d.fact 22 (f := .glo "_law_written") rfl)
  have b : Binds K fd ["_law_act_here"] [] := FunD.bindsN F fun _ _ _ _ _ _ us hl => match us, hl with | [_], _ => rfl
  exact (CalP.of m F.kp (ok__law_written W  F) b .nil).imp fun vs H Q E h => by rw [List.append_nil]; exact h
def gs__law_number : GS := (gsCons (gsIf (gOrT (gTst (gB dEq (gV 0) (gC (.str "")))) (gOrT (gTst (gB dNe (gLc (gIt (gV 0)) (gNm 1) (gTst (gB dNotIn (gV 1) (gC (.str "0123456789")))) (gV 1) [1]) (gLst Dx.gNil))) (gAndT (gTst (gB dEq (gIxN 0 (gC (.int 0))) (gC (.str "0")))) (gTst (gB dNe (gV 0) (gC (.str "0"))))))) (gsCons (gsRet (gC .non))
  gsNil) gsNil)
  (gsCons (gsRet (gCall (on1 dInt) (Dx.gCons (gV 0) Dx.gNil)))
  gsNil))
theorem ok__law_number {P : Program} {w : World} {K : PySem.W.Frag} {mg : Str → Option Value} {base : Heap} (W : Wd w K mg base)  {fd : FuncData} (F : FunD K d__law_number.name d__law_number.qual d__law_number.params d__law_number.body d__law_number.scope (d__law_number.dvs K) (d__law_number.kws K) (He.fAd K d__law_number.at_) fd) :
    FnOk P w K mg base CX0 1 (He.fAd K d__law_number.at_) fd ["_law_word"] (spP K 1 (gOf 2 gs__law_number)) := by
  have S : FnScope ["_law_word", "_law_sign"] ["_law_word"] (defScope s__law_number) := ⟨rfl, rfl, rfl, by decide +kernel, rfl, by decide +kernel, by decide +kernel⟩
  have m_int := He.free_ok W.kin W.ns (W.says.t.d.fact 44 (f := .free "int") rfl)
  refine fnP F S fun cdv A outer s H E hr => ?_
  have hu := units_of hr
  exact (pdss_cons (pds_if (pdt_w (pdw_or (pdt_cmp (opd_eq hu) (pd_var 0) pd_str) (pdw_or (pdt_cmp (opd_ne hu) (pd_lc [("_law_sign", 1)] rfl S.nd (pdi_val (pd_var 0)) (fun _ _ _ _ _ => (pdg_name 1 S.nd)) (fun _ _ _ _ _ => (pdts_one (pdt_cmp opd_notIn (pd_var 1) pd_str))) (fun _ _ _ _ _ => (pd_var 1))) (pd_lst pda_nil)) (pdw_or1 (pdt_w (pdw_and (pdt_cmp (opd_eq hu) (pd_ixN 0 pd_int) pd_str) (pdw_and1 (pdt_cmp (opd_ne hu) (pd_var 0) pd_str)))))))) (pdss_cons (pds_ret pd_non)
  pdss_nil) pdss_nil)
  (pdss_cons (pds_ret (pd_ct cd_int m_int rfl (pda_cons (pd_var 0) pda_nil)))
  pdss_nil))
def L__law_number_1 : List D → Option D := gOf 2 gs__law_number
theorem cal__law_number_1 {P : Program} {w : World} {K : PySem.W.Frag} {mg : Str → Option Value} {base : Heap} (W : Wd w K mg base)  : CalP P w K mg base 1 "_law_number" (spP K 1 L__law_number_1) := by
  obtain ⟨fd, F⟩ := W.says.t.d.def_ 25 (d := d__law_number) rfl
  have m := He.glo_ok W.kin W.ns (W.says.t.d.fact 23 (f := .glo "_law_number") rfl)
  have b : Binds K fd ["_law_word"] [] := FunD.bindsN F fun _ _ _ _ _ _ us hl => match us, hl with | [_], _ => rfl
  exact (CalP.of m F.kp (ok__law_number W  F) b .nil).imp fun vs H Q E h => by rw [List.append_nil]; exact h
def gs__law_read : GS := (gsCons (gsAsg (gM1 dSplit (gV 0) (gC (.str " "))) (gNm 1))
  (gsCons (gsAsg (gCal L__law_kinds_1 1 (Dx.gCons (gIxN 1 (gC (.int 0))) Dx.gNil)) (gNm 2))
  (gsCons (gsIf (gAndT (gTst (gB dEq (gIxN 1 (gC (.int 0))) (gC (.str "write")))) (gTst (gB dGt (gCall (on1 dLen1) (Dx.gCons (gV 1) Dx.gNil)) (gC (.int 3))))) (gsCons (gsAsg (gB dAdd (gSl (gV 1) gNo (gSo (gC (.int 3)))) (gLst (Dx.gCons (gM1 dJoin (gC (.str " ")) (gSl (gV 1) (gSo (gC (.int 3))) gNo)) Dx.gNil))) (gNm 1))
  gsNil) gsNil)
  (gsCons (gsIf (gOrT (gTst (gB dEq (gV 2) (gLst Dx.gNil))) (gTst (gB dNe (gCall (on1 dLen1) (Dx.gCons (gV 1) Dx.gNil)) (gB dAdd (gCall (on1 dLen1) (Dx.gCons (gV 2) Dx.gNil)) (gC (.int 1)))))) (gsCons (gsRet (gC .non))
  gsNil) gsNil)
  (gsCons (gsAsg (gLc (gRg1 (Dx.gCons (gCall (on1 dLen1) (Dx.gCons (gV 2) Dx.gNil)) Dx.gNil)) (gNm 4) gYes (gIf (gTst (gB dNe (gIxN 2 (gV 4)) (gC (.str "number")))) (gIxN 1 (gB dAdd (gV 4) (gC (.int 1)))) (gCal L__law_number_1 1 (Dx.gCons (gIxN 1 (gB dAdd (gV 4) (gC (.int 1)))) Dx.gNil))) [4]) (gNm 3))
  (gsCons (gsAsg (gCall (on1 dTuple) (Dx.gCons (gB dAdd (gSl (gV 1) gNo (gSo (gC (.int 1)))) (gV 3)) Dx.gNil)) (gNm 5))
  (gsCons (gsRet (gIf (gTru (gCal L__law_is_act_1 1 (Dx.gCons (gV 5) Dx.gNil))) (gV 5) (gC .non)))
  gsNil)))))))
theorem ok__law_read {P : Program} {w : World} {K : PySem.W.Frag} {mg : Str → Option Value} {base : Heap} (W : Wd w K mg base) (c__law_is_act_1 : CalP P w K mg base 2 "_law_is_act" (spP K 1 L__law_is_act_1)) (c__law_kinds_1 : CalP P w K mg base 1 "_law_kinds" (spP K 1 L__law_kinds_1)) (c__law_number_1 : CalP P w K mg base 1 "_law_number" (spP K 1 L__law_number_1)) {fd : FuncData} (F : FunD K d__law_read.name d__law_read.qual d__law_read.params d__law_read.body d__law_read.scope (d__law_read.dvs K) (d__law_read.kws K) (He.fAd K d__law_read.at_) fd) :
    FnOk P w K mg base CX0 3 (He.fAd K d__law_read.at_) fd ["_law_line_here"] (spP K 1 (gOf 6 gs__law_read)) := by
  have S : FnScope ["_law_line_here", "_law_words", "_law_sorts", "_law_items", "_law_k", "_law_act_here"] ["_law_line_here"] (defScope s__law_read) := ⟨rfl, rfl, rfl, by decide +kernel, rfl, by decide +kernel, by decide +kernel⟩
  have m_len := He.free_ok W.kin W.ns (W.says.t.d.fact 46 (f := .free "len") rfl)
  have m_range := He.free_ok W.kin W.ns (W.says.t.d.fact 50 (f := .free "range") rfl)
  have m_tuple := He.free_ok W.kin W.ns (W.says.t.d.fact 54 (f := .free "tuple") rfl)
  refine fnP F S fun cdv A outer s H E hr => ?_
  have hu := units_of hr
  exact (pdss_cons (pds_set 1 S.nd (pd_split (pd_var 0) pd_str))
  (pdss_cons (pds_set 2 S.nd (pd_cal (c__law_kinds_1.mono (by decide)) hr (pda_cons (pd_ixN 1 pd_int) pda_nil)))
  (pdss_cons (pds_if (pdt_w (pdw_and (pdt_cmp (opd_eq hu) (pd_ixN 1 pd_int) pd_str) (pdw_and1 (pdt_cmp opd_gt (pd_cb cd_len m_len rfl (pda_cons (pd_var 1) pda_nil)) pd_int)))) (pdss_cons (pds_set 1 S.nd (pd_bin opd_add (pd_sl (pd_var 1) pdo_none (pdo_some pd_int)) (pd_lst (pda_cons (pd_join pd_str (pd_sl (pd_var 1) (pdo_some pd_int) pdo_none)) pda_nil))))
  pdss_nil) pdss_nil)
  (pdss_cons (pds_if (pdt_w (pdw_or (pdt_cmp (opd_eq hu) (pd_var 2) (pd_lst pda_nil)) (pdw_or1 (pdt_cmp (opd_ne hu) (pd_cb cd_len m_len rfl (pda_cons (pd_var 1) pda_nil)) (pd_bin opd_add (pd_cb cd_len m_len rfl (pda_cons (pd_var 2) pda_nil)) pd_int))))) (pdss_cons (pds_ret pd_non)
  pdss_nil) pdss_nil)
  (pdss_cons (pds_setLc 3 [("_law_k", 4)] rfl S.nd (pdi_rng1 m_range (pda_cons (pd_cb cd_len m_len rfl (pda_cons (pd_var 2) pda_nil)) pda_nil)) (fun _ _ _ _ _ => (pdg_name 4 S.nd)) (fun _ _ _ _ _ => pdts_nil) (fun _ _ _ _ _ => (pd_if (pdt_cmp (opd_ne hu) (pd_ixN 2 (pd_var 4)) pd_str) (pd_ixN 1 (pd_bin opd_add (pd_var 4) pd_int)) (pd_cal (c__law_number_1.mono (by decide)) hr (pda_cons (pd_ixN 1 (pd_bin opd_add (pd_var 4) pd_int)) pda_nil)))))
  (pdss_cons (pds_set 5 S.nd (pd_ct cd_tuple m_tuple rfl (pda_cons (pd_bin opd_add (pd_sl (pd_var 1) pdo_none (pdo_some pd_int)) (pd_var 3)) pda_nil)))
  (pdss_cons (pds_ret (pd_if (pdt_truth (pd_cal (c__law_is_act_1.mono (by decide)) hr (pda_cons (pd_var 5) pda_nil))) (pd_var 5) pd_non))
  pdss_nil)))))))
def L__law_read_1 : List D → Option D := gOf 6 gs__law_read
theorem cal__law_read_1 {P : Program} {w : World} {K : PySem.W.Frag} {mg : Str → Option Value} {base : Heap} (W : Wd w K mg base) (c__law_is_act_1 : CalP P w K mg base 2 "_law_is_act" (spP K 1 L__law_is_act_1)) (c__law_kinds_1 : CalP P w K mg base 1 "_law_kinds" (spP K 1 L__law_kinds_1)) (c__law_number_1 : CalP P w K mg base 1 "_law_number" (spP K 1 L__law_number_1)) : CalP P w K mg base 3 "_law_read" (spP K 1 L__law_read_1) := by
  obtain ⟨fd, F⟩ := W.says.t.d.def_ 26 (d := d__law_read) rfl
  have m := He.glo_ok W.kin W.ns (W.says.t.d.fact 24 (f := .glo "_law_read") rfl)
  have b : Binds K fd ["_law_line_here"] [] := FunD.bindsN F fun _ _ _ _ _ _ us hl => match us, hl with | [_], _ => rfl
  exact (CalP.of m F.kp (ok__law_read W c__law_is_act_1 c__law_kinds_1 c__law_number_1 F) b .nil).imp fun vs H Q E h => by rw [List.append_nil]; exact h
def gs__law_spoilt_line : GS := (gsCons (gsPar3 2 3 4 (Dx.gCons (gCalB L__law_take_2 2 0 (Dx.gCons (gC (.int 10)) Dx.gNil)) (Dx.gCons (gCalB L__law_take_2 2 0 (Dx.gCons (gCall (on1 dLen1) (Dx.gCons (gV 1) Dx.gNil)) Dx.gNil)) (Dx.gCons (gCal L__law_signs_0 0 Dx.gNil) Dx.gNil))))
  (gsCons (gsAsg (gB dIx (gLst (Dx.gCons (gIxN 4 (gCalB L__law_take_2 2 0 (Dx.gCons (gCall (on1 dLen1) (Dx.gCons (gV 4) Dx.gNil)) Dx.gNil))) (Dx.gCons (gC (.str " ")) (Dx.gCons (gC (.str "0")) (Dx.gCons (gC (.str "-")) (Dx.gCons (gC (.str "a")) (Dx.gCons (gC (.str "Z")) (Dx.gCons (gC (.str "\n")) (Dx.gCons (gC (.str "\t")) Dx.gNil))))))))) (gCalB L__law_take_2 2 0 (Dx.gCons (gC (.int 8)) Dx.gNil))) (gNm 5))
  (gsCons (gsAsg (gM1 dSplit (gV 1) (gC (.str " "))) (gNm 6))
  (gsCons (gsIf (gTst (gB dLt (gV 2) (gC (.int 3)))) (gsCons (gsRet (gB dAdd (gB dAdd (gSl (gV 1) gNo (gSo (gV 3))) (gV 5)) (gSl (gV 1) (gSo (gV 3)) gNo)))
  gsNil) gsNil)
  (gsCons (gsIf (gTst (gB dLt (gV 2) (gC (.int 5)))) (gsCons (gsRet (gB dAdd (gSl (gV 1) gNo (gSo (gV 3))) (gSl (gV 1) (gSo (gB dAdd (gV 3) (gC (.int 1)))) gNo)))
  gsNil) gsNil)
  (gsCons (gsIf (gTst (gB dLt (gV 2) (gC (.int 7)))) (gsCons (gsRet (gB dAdd (gB dAdd (gSl (gV 1) gNo (gSo (gV 3))) (gV 5)) (gSl (gV 1) (gSo (gB dAdd (gV 3) (gC (.int 1)))) gNo)))
  gsNil) gsNil)
  (gsCons (gsIf (gTst (gB dEq (gV 2) (gC (.int 7)))) (gsCons (gsRet (gB dAdd (gB dAdd (gB dAdd (gSl (gV 1) gNo (gSo (gV 3))) (gSl (gV 1) (gSo (gB dAdd (gV 3) (gC (.int 1)))) (gSo (gB dAdd (gV 3) (gC (.int 2)))))) (gSl (gV 1) (gSo (gV 3)) (gSo (gB dAdd (gV 3) (gC (.int 1)))))) (gSl (gV 1) (gSo (gB dAdd (gV 3) (gC (.int 2)))) gNo)))
  gsNil) gsNil)
  (gsCons (gsIf (gTst (gB dEq (gV 2) (gC (.int 8)))) (gsCons (gsRet (gIf (gTst (gB dEq (gB dMod (gV 3) (gC (.int 2))) (gC (.int 0)))) (gM1 dJoin (gC (.str " ")) (gSl (gV 6) gNo (gSo (gNeg (gC (.int 1)))))) (gB dAdd (gB dAdd (gV 1) (gC (.str " "))) (gIxN 6 (gNeg (gC (.int 1)))))))
  gsNil) gsNil)
  (gsCons (gsRet (gB dIx (gLst (Dx.gCons (gM0 dUpper (gV 1)) (Dx.gCons (gB dAdd (gB dAdd (gIxN 6 (gC (.int 0))) (gC (.str " 0"))) (gSl (gV 1) (gSo (gB dAdd (gCall (on1 dLen1) (Dx.gCons (gIxN 6 (gC (.int 0))) Dx.gNil)) (gC (.int 1)))) gNo)) (Dx.gCons (gB dAdd (gV 1) (gC (.str " "))) (Dx.gCons (gB dAdd (gC (.str " ")) (gV 1)) (Dx.gCons (gB dAdd (gV 1) (gC (.str "\n"))) (Dx.gCons (gB dAdd (gC (.str "\n")) (gV 1)) Dx.gNil))))))) (gB dMod (gV 3) (gC (.int 6)))))
  gsNil)))))))))
theorem ok__law_spoilt_line {P : Program} {w : World} {K : PySem.W.Frag} {mg : Str → Option Value} {base : Heap} (W : Wd w K mg base) (c__law_signs_0 : CalP P w K mg base 1 "_law_signs" (spP K 0 L__law_signs_0)) (c__law_take_2 : CalP P w K mg base 1 "_law_take" (spB K 2 L__law_take_2)) {fd : FuncData} (F : FunD K d__law_spoilt_line.name d__law_spoilt_line.qual d__law_spoilt_line.params d__law_spoilt_line.body d__law_spoilt_line.scope (d__law_spoilt_line.dvs K) (d__law_spoilt_line.kws K) (He.fAd K d__law_spoilt_line.at_) fd) :
    FnOk P w K mg base CX0 2 (He.fAd K d__law_spoilt_line.at_) fd ["_law_box_here", "_law_line_here"] (spB K 2 (gOfB 7 gs__law_spoilt_line)) := by
  have S : FnScope ["_law_box_here", "_law_line_here", "_law_kind", "_law_at", "_law_signs_here", "_law_sign", "_law_words"] ["_law_box_here", "_law_line_here"] (defScope s__law_spoilt_line) := ⟨rfl, rfl, rfl, by decide +kernel, rfl, by decide +kernel, by decide +kernel⟩
  have m_len := He.free_ok W.kin W.ns (W.says.t.d.fact 46 (f := .free "len") rfl)
  refine fnB F S fun cdv A outer s H E hr => ?_
  have hu := units_of hr
  exact (pdss_cons (pds_par3 2 3 4 rfl S.nd (pda_cons (pd_calB 0 (c__law_take_2.mono (by decide)) hr (pda_cons pd_int pda_nil)) (pda_cons (pd_calB 0 (c__law_take_2.mono (by decide)) hr (pda_cons (pd_cb cd_len m_len rfl (pda_cons (pd_var 1) pda_nil)) pda_nil)) (pda_cons (pd_cal0 (c__law_signs_0.mono (by decide)) hr) pda_nil))))
  (pdss_cons (pds_set 5 S.nd (pd_ix (pd_lst (pda_cons (pd_ixN 4 (pd_calB 0 (c__law_take_2.mono (by decide)) hr (pda_cons (pd_cb cd_len m_len rfl (pda_cons (pd_var 4) pda_nil)) pda_nil))) (pda_cons pd_str (pda_cons pd_str (pda_cons pd_str (pda_cons pd_str (pda_cons pd_str (pda_cons pd_str (pda_cons pd_str pda_nil))))))))) (pd_calB 0 (c__law_take_2.mono (by decide)) hr (pda_cons pd_int pda_nil))))
  (pdss_cons (pds_set 6 S.nd (pd_split (pd_var 1) pd_str))
  (pdss_cons (pds_if (pdt_cmp opd_lt (pd_var 2) pd_int) (pdss_cons (pds_ret (pd_bin opd_add (pd_bin opd_add (pd_sl (pd_var 1) pdo_none (pdo_some (pd_var 3))) (pd_var 5)) (pd_sl (pd_var 1) (pdo_some (pd_var 3)) pdo_none)))
  pdss_nil) pdss_nil)
  (pdss_cons (pds_if (pdt_cmp opd_lt (pd_var 2) pd_int) (pdss_cons (pds_ret (pd_bin opd_add (pd_sl (pd_var 1) pdo_none (pdo_some (pd_var 3))) (pd_sl (pd_var 1) (pdo_some (pd_bin opd_add (pd_var 3) pd_int)) pdo_none)))
  pdss_nil) pdss_nil)
  (pdss_cons (pds_if (pdt_cmp opd_lt (pd_var 2) pd_int) (pdss_cons (pds_ret (pd_bin opd_add (pd_bin opd_add (pd_sl (pd_var 1) pdo_none (pdo_some (pd_var 3))) (pd_var 5)) (pd_sl (pd_var 1) (pdo_some (pd_bin opd_add (pd_var 3) pd_int)) pdo_none)))
  pdss_nil) pdss_nil)
  (pdss_cons (pds_if (pdt_cmp (opd_eq hu) (pd_var 2) pd_int) (pdss_cons (pds_ret (pd_bin opd_add (pd_bin opd_add (pd_bin opd_add (pd_sl (pd_var 1) pdo_none (pdo_some (pd_var 3))) (pd_sl (pd_var 1) (pdo_some (pd_bin opd_add (pd_var 3) pd_int)) (pdo_some (pd_bin opd_add (pd_var 3) pd_int)))) (pd_sl (pd_var 1) (pdo_some (pd_var 3)) (pdo_some (pd_bin opd_add (pd_var 3) pd_int)))) (pd_sl (pd_var 1) (pdo_some (pd_bin opd_add (pd_var 3) pd_int)) pdo_none)))
  pdss_nil) pdss_nil)
  (pdss_cons (pds_if (pdt_cmp (opd_eq hu) (pd_var 2) pd_int) (pdss_cons (pds_ret (pd_if (pdt_cmp (opd_eq hu) (pd_bin opd_mod (pd_var 3) pd_int) pd_int) (pd_join pd_str (pd_sl (pd_var 6) pdo_none (pdo_some (pd_neg pd_int)))) (pd_bin opd_add (pd_bin opd_add (pd_var 1) pd_str) (pd_ixN 6 (pd_neg pd_int)))))
  pdss_nil) pdss_nil)
  (pdss_cons (pds_ret (pd_ix (pd_lst (pda_cons (pd_upper (pd_var 1)) (pda_cons (pd_bin opd_add (pd_bin opd_add (pd_ixN 6 pd_int) pd_str) (pd_sl (pd_var 1) (pdo_some (pd_bin opd_add (pd_cb cd_len m_len rfl (pda_cons (pd_ixN 6 pd_int) pda_nil)) pd_int)) pdo_none)) (pda_cons (pd_bin opd_add (pd_var 1) pd_str) (pda_cons (pd_bin opd_add pd_str (pd_var 1)) (pda_cons (pd_bin opd_add (pd_var 1) pd_str) (pda_cons (pd_bin opd_add pd_str (pd_var 1)) pda_nil))))))) (pd_bin opd_mod (pd_var 3) pd_int)))
  pdss_nil)))))))))
def L__law_spoilt_line_2 : List D → List D → Option (D × List D) := gOfB 7 gs__law_spoilt_line
theorem cal__law_spoilt_line_2 {P : Program} {w : World} {K : PySem.W.Frag} {mg : Str → Option Value} {base : Heap} (W : Wd w K mg base) (c__law_signs_0 : CalP P w K mg base 1 "_law_signs" (spP K 0 L__law_signs_0)) (c__law_take_2 : CalP P w K mg base 1 "_law_take" (spB K 2 L__law_take_2)) : CalP P w K mg base 2 "_law_spoilt_line" (spB K 2 L__law_spoilt_line_2) := by
  obtain ⟨fd, F⟩ := W.says.t.d.def_ 29 (d := d__law_spoilt_line) rfl
  have m := He.glo_ok W.kin W.ns (W.says.t.d.fact 27 (f := .glo "_law_spoilt_line") rfl)
  have b : Binds K fd ["_law_box_here", "_law_line_here"] [] := FunD.bindsN F fun _ _ _ _ _ _ us hl => match us, hl with | [_, _], _ => rfl
  exact (CalP.of m F.kp (ok__law_spoilt_line W c__law_signs_0 c__law_take_2 F) b .nil).imp fun vs H Q E h => by rw [List.append_nil]; exact h
def gs__law_spoilt_act : GS := (gsCons (gsPar3 2 3 4 (Dx.gCons (gCalB L__law_take_2 2 0 (Dx.gCons (gC (.int 6)) Dx.gNil)) (Dx.gCons (gCalB L__law_take_2 2 0 (Dx.gCons (gCall (on1 dLen1) (Dx.gCons (gV 1) Dx.gNil)) Dx.gNil)) (Dx.gCons (gCalB L__law_take_2 2 0 (Dx.gCons (gC (.int 14)) Dx.gNil)) Dx.gNil))))
  (gsCons (gsAsg (gB dIx (gLst (Dx.gCons (gC (.bl true)) (Dx.gCons (gC (.bl false)) (Dx.gCons (gC .non) (Dx.gCons (gNeg (gC (.int 1))) (Dx.gCons (gC (.str "0")) (Dx.gCons (gC (.str "")) (Dx.gCons (gLst (Dx.gCons (gC (.int 0)) Dx.gNil)) (Dx.gCons (gTup (Dx.gCons (gC (.int 0)) Dx.gNil)) (Dx.gCons (gDct1 "a" (gC (.int 0))) (Dx.gCons (gC (.str "ab\n")) (Dx.gCons (gC (.str "A")) (Dx.gCons (gC (.str "abcdefghi")) (Dx.gCons (gB dPow (gC (.int 10)) (gC (.int 19))) (Dx.gCons (gB dMulS (gC (.str "~")) (gC (.int 41))) Dx.gNil))))))))))))))) (gV 4)) (gNm 5))
  (gsCons (gsIf (gTst (gB dLt (gV 2) (gC (.int 3)))) (gsCons (gsRet (gB dAdd (gB dAdd (gSl (gV 1) gNo (gSo (gV 3))) (gTup (Dx.gCons (gV 5) Dx.gNil))) (gSl (gV 1) (gSo (gB dAdd (gV 3) (gC (.int 1)))) gNo)))
  gsNil) gsNil)
  (gsCons (gsIf (gTst (gB dEq (gV 2) (gC (.int 3)))) (gsCons (gsRet (gB dAdd (gSl (gV 1) gNo (gSo (gV 3))) (gSl (gV 1) (gSo (gB dAdd (gV 3) (gC (.int 1)))) gNo)))
  gsNil) gsNil)
  (gsCons (gsRet (gIf (gTst (gB dEq (gV 2) (gC (.int 4)))) (gB dAdd (gV 1) (gTup (Dx.gCons (gV 5) Dx.gNil))) (gCall (on1 dList) (Dx.gCons (gV 1) Dx.gNil))))
  gsNil)))))
theorem ok__law_spoilt_act {P : Program} {w : World} {K : PySem.W.Frag} {mg : Str → Option Value} {base : Heap} (W : Wd w K mg base) (c__law_take_2 : CalP P w K mg base 1 "_law_take" (spB K 2 L__law_take_2)) {fd : FuncData} (F : FunD K d__law_spoilt_act.name d__law_spoilt_act.qual d__law_spoilt_act.params d__law_spoilt_act.body d__law_spoilt_act.scope (d__law_spoilt_act.dvs K) (d__law_spoilt_act.kws K) (He.fAd K d__law_spoilt_act.at_) fd) :
    FnOk P w K mg base CX0 2 (He.fAd K d__law_spoilt_act.at_) fd ["_law_box_here", "_law_act_here"] (spB K 2 (gOfB 6 gs__law_spoilt_act)) := by
  have S : FnScope ["_law_box_here", "_law_act_here", "_law_kind", "_law_at", "_law_which", "_law_odd_here"] ["_law_box_here", "_law_act_here"] (defScope s__law_spoilt_act) := ⟨rfl, rfl, rfl, by decide +kernel, rfl, by decide +kernel, by decide +kernel⟩
  have m_len := He.free_ok W.kin W.ns (W.says.t.d.fact 46 (f := .free "len") rfl)
  have m_list := He.free_ok W.kin W.ns (W.says.t.d.fact 47 (f := .free "list") rfl)
  refine fnB F S fun cdv A outer s H E hr => ?_
  have hu := units_of hr
  exact (pdss_cons (pds_par3 2 3 4 rfl S.nd (pda_cons (pd_calB 0 (c__law_take_2.mono (by decide)) hr (pda_cons pd_int pda_nil)) (pda_cons (pd_calB 0 (c__law_take_2.mono (by decide)) hr (pda_cons (pd_cb cd_len m_len rfl (pda_cons (pd_var 1) pda_nil)) pda_nil)) (pda_cons (pd_calB 0 (c__law_take_2.mono (by decide)) hr (pda_cons pd_int pda_nil)) pda_nil))))
  (pdss_cons (pds_set 5 S.nd (pd_ix (pd_lst (pda_cons pd_bl (pda_cons pd_bl (pda_cons pd_non (pda_cons (pd_neg pd_int) (pda_cons pd_str (pda_cons pd_str (pda_cons (pd_lst (pda_cons pd_int pda_nil)) (pda_cons (pd_tup (pda_cons pd_int pda_nil)) (pda_cons (pd_dct1 pd_int) (pda_cons pd_str (pda_cons pd_str (pda_cons pd_str (pda_cons (pd_bin opd_pow pd_int pd_int) (pda_cons (pd_bin opd_mulS pd_str pd_int) pda_nil))))))))))))))) (pd_var 4)))
  (pdss_cons (pds_if (pdt_cmp opd_lt (pd_var 2) pd_int) (pdss_cons (pds_ret (pd_bin opd_add (pd_bin opd_add (pd_sl (pd_var 1) pdo_none (pdo_some (pd_var 3))) (pd_tup (pda_cons (pd_var 5) pda_nil))) (pd_sl (pd_var 1) (pdo_some (pd_bin opd_add (pd_var 3) pd_int)) pdo_none)))
  pdss_nil) pdss_nil)
  (pdss_cons (pds_if (pdt_cmp (opd_eq hu) (pd_var 2) pd_int) (pdss_cons (pds_ret (pd_bin opd_add (pd_sl (pd_var 1) pdo_none (pdo_some (pd_var 3))) (pd_sl (pd_var 1) (pdo_some (pd_bin opd_add (pd_var 3) pd_int)) pdo_none)))
  pdss_nil) pdss_nil)
  (pdss_cons (pds_ret (pd_if (pdt_cmp (opd_eq hu) (pd_var 2) pd_int) (pd_bin opd_add (pd_var 1) (pd_tup (pda_cons (pd_var 5) pda_nil))) (pd_ct cd_list m_list rfl (pda_cons (pd_var 1) pda_nil))))
  pdss_nil)))))
def L__law_spoilt_act_2 : List D → List D → Option (D × List D) := gOfB 6 gs__law_spoilt_act
theorem cal__law_spoilt_act_2 {P : Program} {w : World} {K : PySem.W.Frag} {mg : Str → Option Value} {base : Heap} (W : Wd w K mg base) (c__law_take_2 : CalP P w K mg base 1 "_law_take" (spB K 2 L__law_take_2)) : CalP P w K mg base 2 "_law_spoilt_act" (spB K 2 L__law_spoilt_act_2) := by
  obtain ⟨fd, F⟩ := W.says.t.d.def_ 30 (d := d__law_spoilt_act) rfl
  have m := He.glo_ok W.kin W.ns (W.says.t.d.fact 28 (f := .glo "_law_spoilt_act") rfl)
  have b : Binds K fd ["_law_box_here", "_law_act_here"] [] := FunD.bindsN F fun _ _ _ _ _ _ us hl => match us, hl with | [_, _], _ => rfl
  exact (CalP.of m F.kp (ok__law_spoilt_act W c__law_take_2 F) b .nil).imp fun vs H Q E h => by rw [List.append_nil]; exact h
def gs__law_odd : GS := (gsCons (gsRet (gB dIx (gLst (Dx.gCons (gC .non) (Dx.gCons (gC (.bl true)) (Dx.gCons (gC (.int 0)) (Dx.gCons (gLst (Dx.gCons (gV 0) Dx.gNil)) (Dx.gCons (gTup (Dx.gCons (gV 0) Dx.gNil)) (Dx.gCons (gDct1 "line" (gC (.int 0))) (Dx.gCons (gV 1) (Dx.gCons (gLst Dx.gNil) (Dx.gCons (gC (.str "")) (Dx.gCons (gC (.str " ")) (Dx.gCons (gC (.str "tick")) (Dx.gCons (gC (.str "write 0 a")) Dx.gNil))))))))))))) (gV 2)))
  gsNil)
theorem ok__law_odd {P : Program} {w : World} {K : PySem.W.Frag} {mg : Str → Option Value} {base : Heap} (W : Wd w K mg base)  {fd : FuncData} (F : FunD K d__law_odd.name d__law_odd.qual d__law_odd.params d__law_odd.body d__law_odd.scope (d__law_odd.dvs K) (d__law_odd.kws K) (He.fAd K d__law_odd.at_) fd) :
    FnOk P w K mg base CX0 1 (He.fAd K d__law_odd.at_) fd ["_law_line_here", "_law_act_here", "_law_which"] (spP K 3 (gOf 3 gs__law_odd)) := by
  have S : FnScope ["_law_line_here", "_law_act_here", "_law_which"] ["_law_line_here", "_law_act_here", "_law_which"] (defScope s__law_odd) := ⟨rfl, rfl, rfl, by decide +kernel, rfl, by decide +kernel, by decide +kernel⟩
  refine fnP F S fun cdv A outer s H E hr => ?_
  exact (pdss_cons (pds_ret (pd_ix (pd_lst (pda_cons pd_non (pda_cons pd_bl (pda_cons pd_int (pda_cons (pd_lst (pda_cons (pd_var 0) pda_nil)) (pda_cons (pd_tup (pda_cons (pd_var 0) pda_nil)) (pda_cons (pd_dct1 pd_int) (pda_cons (pd_var 1) (pda_cons (pd_lst pda_nil) (pda_cons pd_str (pda_cons pd_str (pda_cons pd_str (pda_cons pd_str pda_nil))))))))))))) (pd_var 2)))
  pdss_nil)
def L__law_odd_3 : List D → Option D := gOf 3 gs__law_odd
theorem cal__law_odd_3 {P : Program} {w : World} {K : PySem.W.Frag} {mg : Str → Option Value} {base : Heap} (W : Wd w K mg base)  : CalP P w K mg base 1 "_law_odd" (spP K 3 L__law_odd_3) := by
  obtain ⟨fd, F⟩ := W.says.t.d.def_ 31 (d := d__law_odd) rfl
  have m := He.glo_ok W.kin W.ns (W.says.t.d.fact 29 (f := .glo "_law_odd") rfl)
  have b : Binds K fd ["_law_line_here", "_law_act_here", "_law_which"] [] := FunD.bindsN F fun _ _ _ _ _ _ us hl => match us, hl with | [_, _, _], _ => rfl
  exact (CalP.of m F.kp (ok__law_odd W  F) b .nil).imp fun vs H Q E h => by rw [List.append_nil]; exact h
end P57
set_option Elab.async false
set_option linter.all false
set_option maxRecDepth 100000
set_option maxHeartbeats 4000000
namespace Dx
open PySem PySem.Spec PyProof.Rows L2
theorem bindsK {K : PySem.W.Frag} {x qual : Str} {params : Arguments} {body : List Stmt} {scope : Scope} {kws : List (Str × V)} {f : Addr} {fd : FuncData} {ps : List Str} (F : FunD K x qual params body scope [] kws f fd)
    (h : ∀ (kV doc pm : Value) (an : Option Addr) (cdv ct : Value) (us : List Value), us.length = ps.length → bindArgs (PySem.W.fnOf x qual params body scope .none kV doc pm an cdv ct) ⟨[], ps.zip us⟩ = pure (ps.zip us)) (s : Shared) (us : List Value) (hl : us.length = ps.length) :
    BindsTo s fd ⟨[], ps.zip us⟩ (ps.zip us) := by
  obtain ⟨oc, od, dV, kV, doc, pm, an, cdv, ct, osl, rfl, lk, hcd, hD, hK⟩ := F.ex
  rcases hD with ⟨_, rfl⟩ | ⟨e, _⟩
  · exact .of_eq (h kV doc pm an cdv ct us hl)
  · exact absurd rfl e
theorem takesW0 {X : Cx} : Takes X.nox W0 := fun u s' ⟨a, B, sI, pins, σ, H, cls, d, e, I, nb, up, sky, na, os, ag, w⟩ => w
end Dx
namespace P57
open PySem PySem.Spec PyProof.Rows L2 Dx
section
variable {P : Program} {w : World} {K : PySem.W.Frag} {mg : Str → Option Value} {base : Heap}
theorem Wd.at_ (W : Wd w K mg base) (i : Nat) {b : Bool} (e : (exs K)[i]? = some b) : b = true := W.exOk (List.mem_of_getElem? e)
theorem mk_InvalidLine (W : Wd w K mg base) : XMk P w K mg base 1 "InvalidLine" "given" := by
  obtain ⟨fd, F⟩ := W.says.t.d.def_ 0 (d := d_InvalidLine_init) rfl
  have c : Gh.Xc K "InvalidLine" "given" := Gh.xcB_ok (W.at_ 9 rfl)
  have u : Gh.Up K "UnsaidError" := Gh.upB_ok (W.at_ 8 rfl)
  have mU : mg "UnsaidError" = some (.ref (He.ga K "UnsaidError")) := He.glo_ok W.kin W.ns (W.says.t.d.fact 33 (f := .glo "UnsaidError") rfl)
  have m : mg "InvalidLine" = some (.ref (He.ga K "InvalidLine")) := He.glo_ok W.kin W.ns (W.says.t.d.fact 34 (f := .glo "InvalidLine") rfl)
  have S : FnScope ["self", "given"] ["self", "given"] (defScope s_InvalidLine_init) := ⟨rfl, rfl, rfl, by decide +kernel, rfl, by decide +kernel, by decide +kernel⟩
  have b : Binds K fd ["self", "given"] [] := FunD.bindsN F fun _ _ _ _ _ _ us hl => match us, hl with | [_, _], _ => rfl
  refine ⟨c, m, fd, ["self", "given"], ?_, b⟩
  refine F.ok S (fun vs H Q E h => ?_) fun cdv A outer s H vs Q E hr h => ?_
  · obtain ⟨a, v, rfl, _⟩ := h
    rfl
  · exact ⟨_, PSs.nox (pss_cons (ps_expr (pe_upinit u mU (pa_cons (pv 0) (pa_cons pe_str pa_nil)))) (pss_one (ps_ost (pv 0) (pv 1)))), init_reads c.oex c.no h⟩
theorem mk_InvalidAct (W : Wd w K mg base) : XMk P w K mg base 1 "InvalidAct" "given" := by
  obtain ⟨fd, F⟩ := W.says.t.d.def_ 1 (d := d_InvalidAct_init) rfl
  have c : Gh.Xc K "InvalidAct" "given" := Gh.xcB_ok (W.at_ 10 rfl)
  have u : Gh.Up K "UnsaidError" := Gh.upB_ok (W.at_ 8 rfl)
  have mU : mg "UnsaidError" = some (.ref (He.ga K "UnsaidError")) := He.glo_ok W.kin W.ns (W.says.t.d.fact 33 (f := .glo "UnsaidError") rfl)
  have m : mg "InvalidAct" = some (.ref (He.ga K "InvalidAct")) := He.glo_ok W.kin W.ns (W.says.t.d.fact 35 (f := .glo "InvalidAct") rfl)
  have S : FnScope ["self", "given"] ["self", "given"] (defScope s_InvalidAct_init) := ⟨rfl, rfl, rfl, by decide +kernel, rfl, by decide +kernel, by decide +kernel⟩
  have b : Binds K fd ["self", "given"] [] := FunD.bindsN F fun _ _ _ _ _ _ us hl => match us, hl with | [_, _], _ => rfl
  refine ⟨c, m, fd, ["self", "given"], ?_, b⟩
  refine F.ok S (fun vs H Q E h => ?_) fun cdv A outer s H vs Q E hr h => ?_
  · obtain ⟨a, v, rfl, _⟩ := h
    rfl
  · exact ⟨_, PSs.nox (pss_cons (ps_expr (pe_upinit u mU (pa_cons (pv 0) (pa_cons pe_str pa_nil)))) (pss_one (ps_ost (pv 0) (pv 1)))), init_reads c.oex c.no h⟩
def gs_act_line : GS := gsCons (gsIf (gNotT (gTru (gCal L_is_act_1 1 (Dx.gCons (gV 0) Dx.gNil)))) (gsCons (gsRaise "InvalidAct" "given" (gV 0)) gsNil) gsNil)
  (gsCons (gsRet (gM1 dJoin (gC (.str " ")) (gLc (gIt (gV 0)) (gNm 1) gYes (gCall (on1 dStr) (Dx.gCons (gV 1) Dx.gNil)) [1]))) gsNil)
def LX_act_line : List D → Option Res := gOfX 2 gs_act_line
theorem calx_act_line (W : Wd w K mg base) (c_is_act_1 : CalP P w K mg base 4 "is_act" (spP K 1 L_is_act_1)) : CalX P w K mg base 5 "act_line" ["act"] (spX K 1 LX_act_line) := by
  obtain ⟨fd, F⟩ := W.says.t.d.def_ 10 (d := d_act_line) rfl
  have m : mg "act_line" = some (.ref (He.ga K "act_line")) := He.glo_ok W.kin W.ns (W.says.t.d.fact 8 (f := .glo "act_line") rfl)
  have m_str : mg "str" = none := He.free_ok W.kin W.ns (W.says.t.d.fact 52 (f := .free "str") rfl)
  have x := mk_InvalidAct (P := P) W
  have S : FnScope ["act", "item"] ["act"] (defScope s_act_line) := ⟨rfl, rfl, rfl, by decide +kernel, rfl, by decide +kernel, by decide +kernel⟩
  have b : Binds K fd ["act"] [] := FunD.bindsN F fun _ _ _ _ _ _ us hl => match us, hl with | [_], _ => rfl
  refine ⟨_, fd, m, F.kp, ?_, b, bindsK F fun _ _ _ _ _ _ us hl => match us, hl with | [_], _ => rfl⟩
  refine fnX F S fun cdv A outer s H E hr tk => ?_
  exact (pdss_cons (pds_if (pdt_not (pdt_truth (pd_cal (c_is_act_1.mono (by decide)) hr (pda_cons (pd_var 0) pda_nil)))) (pdss_cons (pds_raise rfl tk x (hr.mono (by decide)) (pd_var 0)) pdss_nil) pdss_nil)
    (pdss_cons (pds_ret (pd_join pd_str (pd_lc [("item", 1)] rfl S.nd (pdi_val (pd_var 0)) (fun _ _ _ _ _ => pdg_name 1 S.nd) (fun _ _ _ _ _ => pdts_nil) (fun _ _ _ _ _ => pd_ct cd_str m_str rfl (pda_cons (pd_var 1) pda_nil))))) pdss_nil))
def gs_read_act : GS := gsCons (gsAsg (gCal L_act_in_1 1 (Dx.gCons (gV 0) Dx.gNil)) (gNm 1))
  (gsCons (gsIf (gTst (gB dIs (gV 1) (gC .non))) (gsCons (gsRaise "InvalidLine" "given" (gV 0)) gsNil) gsNil) (gsCons (gsRet (gV 1)) gsNil))
def LX_read_act : List D → Option Res := gOfX 2 gs_read_act
theorem calx_read_act (W : Wd w K mg base) (c_act_in_1 : CalP P w K mg base 5 "act_in" (spP K 1 L_act_in_1)) : CalX P w K mg base 6 "read_act" ["line"] (spX K 1 LX_read_act) := by
  obtain ⟨fd, F⟩ := W.says.t.d.def_ 12 (d := d_read_act) rfl
  have m : mg "read_act" = some (.ref (He.ga K "read_act")) := He.glo_ok W.kin W.ns (W.says.t.d.fact 10 (f := .glo "read_act") rfl)
  have x := mk_InvalidLine (P := P) W
  have S : FnScope ["line", "act"] ["line"] (defScope s_read_act) := ⟨rfl, rfl, rfl, by decide +kernel, rfl, by decide +kernel, by decide +kernel⟩
  have b : Binds K fd ["line"] [] := FunD.bindsN F fun _ _ _ _ _ _ us hl => match us, hl with | [_], _ => rfl
  refine ⟨_, fd, m, F.kp, ?_, b, bindsK F fun _ _ _ _ _ _ us hl => match us, hl with | [_], _ => rfl⟩
  refine fnX F S fun cdv A outer s H E hr tk => ?_
  exact (pdss_cons (pds_set 1 S.nd (pd_cal (c_act_in_1.mono (by decide)) hr (pda_cons (pd_var 0) pda_nil)))
    (pdss_cons (pds_if (pdt_cmp opd_is (pd_var 1) pd_non) (pdss_cons (pds_raise rfl tk x (hr.mono (by decide)) (pd_var 0)) pdss_nil) pdss_nil) (pdss_cons (pds_ret (pd_var 1)) pdss_nil)))
/-- ['act', f(v) if turn == 0 else f(k=v)] -/
def gl_told (s : Str) (L : List D → Option Res) : GE := gLst (Dx.gCons (gC (.str s)) (Dx.gCons (gIf (gTst (gB dEq (gV 1) (gC (.int 0)))) (gCalO L 1 (Dx.gCons (gV 0) Dx.gNil)) (gCalO L 1 (Dx.gCons (gV 0) Dx.gNil))) Dx.gNil))
def gx_told (s : Str) (L : List D → Option Res) : GX := gxCons (gC (.str s)) gxNo (gxCons (gIf (gTst (gB dEq (gV 1) (gC (.int 0)))) (gCalO L 1 (Dx.gCons (gV 0) Dx.gNil)) (gCalO L 1 (Dx.gCons (gV 0) Dx.gNil)))
  (gxIf (gTst (gB dEq (gV 1) (gC (.int 0)))) (gCalE L 1 (Dx.gCons (gV 0) Dx.gNil)) (gCalE L 1 (Dx.gCons (gV 0) Dx.gNil))) gxNo)
def gs__law_told : GS := gsCons (gsTry "InvalidLine" "given" "no line" 2 (gsCons (gsX (gx_told "act" LX_read_act) (gsRet (gl_told "act" LX_read_act))) gsNil)) gsNil
def gs__law_line : GS := gsCons (gsTry "InvalidAct" "given" "no act" 2 (gsCons (gsX (gx_told "line" LX_act_line) (gsRet (gl_told "line" LX_act_line))) gsNil)) gsNil
def L__law_told_2 : List D → Option D := gOf 3 gs__law_told
def L__law_line_2 : List D → Option D := gOf 3 gs__law_line
theorem cal__law_told_2 (W : Wd w K mg base) (cx : CalX P w K mg base 6 "read_act" ["line"] (spX K 1 LX_read_act)) : CalP P w K mg base 7 "_law_told" (spP K 2 L__law_told_2) := by
  obtain ⟨fd, F⟩ := W.says.t.d.def_ 27 (d := d__law_told) rfl
  have m : mg "_law_told" = some (.ref (He.ga K "_law_told")) := He.glo_ok W.kin W.ns (W.says.t.d.fact 25 (f := .glo "_law_told") rfl)
  have c : Gh.Xc K "InvalidLine" "given" := Gh.xcB_ok (W.at_ 9 rfl)
  have mx : mg "InvalidLine" = some (.ref (He.ga K "InvalidLine")) := He.glo_ok W.kin W.ns (W.says.t.d.fact 34 (f := .glo "InvalidLine") rfl)
  have S : FnScope ["_law_line_here", "_law_turn", "e"] ["_law_line_here", "_law_turn"] (defScope s__law_told) := ⟨rfl, rfl, rfl, by decide +kernel, rfl, by decide +kernel, by decide +kernel⟩
  have b : Binds K fd ["_law_line_here", "_law_turn"] [] := FunD.bindsN F fun _ _ _ _ _ _ us hl => match us, hl with | [_, _], _ => rfl
  have H : FnOk P w K mg base CX0 7 (He.fAd K d__law_told.at_) fd ["_law_line_here", "_law_turn"] (spP K 2 L__law_told_2) := by
    refine fnP F S fun cdv A outer s H E hr => ?_
    have hu := units_of hr
    exact (pdss_cons (pds_try 2 S.nd takesW0 c mx (fun W' pn xe tk => pdss_cons (pds_retx (pdx_lst (pdxa_cons (pdx_of pd_str) (pdxa_cons (pdx_if (pdt_cmp (opd_eq hu) (pd_var 1) pd_int) (pdx_cal (cx.mono (by decide)) hr tk (pda_cons (pd_var 0) pda_nil)) (pdx_calk (cx.mono (by decide)) hr tk (pd_var 0))) pdxa_nil)))) pdss_nil)) pdss_nil)
  exact (CalP.of m F.kp H b .nil).imp fun vs H Q E h => by rw [List.append_nil]; exact h
theorem cal__law_line_2 (W : Wd w K mg base) (cx : CalX P w K mg base 5 "act_line" ["act"] (spX K 1 LX_act_line)) : CalP P w K mg base 6 "_law_line" (spP K 2 L__law_line_2) := by
  obtain ⟨fd, F⟩ := W.says.t.d.def_ 28 (d := d__law_line) rfl
  have m : mg "_law_line" = some (.ref (He.ga K "_law_line")) := He.glo_ok W.kin W.ns (W.says.t.d.fact 26 (f := .glo "_law_line") rfl)
  have c : Gh.Xc K "InvalidAct" "given" := Gh.xcB_ok (W.at_ 10 rfl)
  have mx : mg "InvalidAct" = some (.ref (He.ga K "InvalidAct")) := He.glo_ok W.kin W.ns (W.says.t.d.fact 35 (f := .glo "InvalidAct") rfl)
  have S : FnScope ["_law_act_here", "_law_turn", "e"] ["_law_act_here", "_law_turn"] (defScope s__law_line) := ⟨rfl, rfl, rfl, by decide +kernel, rfl, by decide +kernel, by decide +kernel⟩
  have b : Binds K fd ["_law_act_here", "_law_turn"] [] := FunD.bindsN F fun _ _ _ _ _ _ us hl => match us, hl with | [_, _], _ => rfl
  have H : FnOk P w K mg base CX0 6 (He.fAd K d__law_line.at_) fd ["_law_act_here", "_law_turn"] (spP K 2 L__law_line_2) := by
    refine fnP F S fun cdv A outer s H E hr => ?_
    have hu := units_of hr
    exact (pdss_cons (pds_try 2 S.nd takesW0 c mx (fun W' pn xe tk => pdss_cons (pds_retx (pdx_lst (pdxa_cons (pdx_of pd_str) (pdxa_cons (pdx_if (pdt_cmp (opd_eq hu) (pd_var 1) pd_int) (pdx_cal (cx.mono (by decide)) hr tk (pda_cons (pd_var 0) pda_nil)) (pdx_calk (cx.mono (by decide)) hr tk (pd_var 0))) pdxa_nil)))) pdss_nil)) pdss_nil)
  exact (CalP.of m F.kp H b .nil).imp fun vs H Q E h => by rw [List.append_nil]; exact h
end
end P57
set_option Elab.async false
set_option linter.all false
set_option maxRecDepth 100000
set_option maxHeartbeats 4000000
/-! repr of data; defs that want the guards -/
namespace Dx
open PySem PySem.Spec PyProof.Rows L2 Evl
def SysD (K : PySem.W.Frag) : Prop := ∃ o, K.lookup sysModules = some o ∧ o.cls = .type "dict"
section
variable {X : Cx} {pins : List (Addr × Obj)} {σ : L2.St} {H : Hp} {s : Shared}
theorem sys_ne (I : Inv X pins σ H s) (hs : SysD X.K) {a : Addr} {o : Obj} {T : String} (h : s.heap.get? a = some o) (hc : o.cls = .type T) (hT : T ≠ "dict") : sysModules ≠ a := fun e => by
  obtain ⟨os, h1, h2⟩ := hs
  have := I.kIn _ _ h1
  rw [e, h] at this
  cases this
  rw [hc] at h2
  cases h2
  exact hT rfl
mutual
theorem Dt.reads (I : Inv X pins σ H s) (hs : SysD X.K) : ∀ {v : V} {d : D}, Dt X.K H v d → ∀ {u : Value}, RelV v u → ∃ as, Reads s.heap u (toP d) as ∧ sysModules ∉ as
  | _, _, .non, _, r => by cases r; exact ⟨_, .none, by simp⟩
  | _, _, .bl b, _, r => by cases r; exact ⟨_, .bool b, by simp⟩
  | _, _, .int i, _, r => by obtain ⟨t, rfl⟩ := r; exact ⟨_, .int i t, by simp⟩
  | _, _, .str x, _, r => by obtain ⟨t, rfl⟩ := r; exact ⟨_, .str x t, by simp⟩
  | _, _, .lst h t, _, r => by
    cases r
    obtain ⟨its, rv, ⟨o, n, ho, hc, _, hd⟩, _⟩ := I.list (sq_of h)
    obtain ⟨as, hr, hn⟩ := Dts.reads I hs t rv
    refine ⟨_, .list ho hc hd (by simpa using hr), ?_⟩
    simp only [List.mem_cons, not_or]
    exact ⟨sys_ne I hs ho hc (by decide), hn⟩
  | _, _, .lid h t, _, r => by
    cases r
    obtain ⟨its, rv, ⟨o, n, ho, hc, _, hd⟩, _⟩ := I.list (sq_of h)
    obtain ⟨as, hr, hn⟩ := Dts.reads I hs t rv
    refine ⟨_, .list ho hc hd (by simpa using hr), ?_⟩
    simp only [List.mem_cons, not_or]
    exact ⟨sys_ne I hs ho hc (by decide), hn⟩
  | _, _, .frl h t, _, r => by
    cases r
    obtain ⟨its, rv, ⟨o, n, ho, hc, _, hd⟩, _⟩ := I.list h
    obtain ⟨as, hr, hn⟩ := Dts.reads I hs t rv
    refine ⟨_, .list ho hc hd (by simpa using hr), ?_⟩
    simp only [List.mem_cons, not_or]
    exact ⟨sys_ne I hs ho hc (by decide), hn⟩
  | _, _, .tup h t, _, r => by
    cases r
    obtain ⟨its, rv, ⟨o, ho, hc, n, hd⟩, _⟩ := I.tuple h
    obtain ⟨as, hr, hn⟩ := Dts.reads I hs t rv
    exact ⟨_, .tuple ho hc hd (by simpa using hr), hn⟩
  | _, _, .dct h t, _, r => by
    cases r
    obtain ⟨_, lo, vs, rel, o, es, ep, ho, ⟨hc, _, _⟩, hd, _, pr, _⟩ := dk_rd I.hok h
    obtain ⟨as, bs, h1, h2, n1, n2⟩ := Dks.reads I hs t rel pr
    refine ⟨_, .dict ho hc hd h1 h2, ?_⟩
    simp only [List.cons_append, List.mem_cons, List.mem_append, not_or]
    exact ⟨fun e => by rw [← e] at lo; simp at lo, n1, n2⟩
theorem Dts.reads (I : Inv X pins σ H s) (hs : SysD X.K) : ∀ {vs : List V} {ds : List D}, Dts X.K H vs ds → ∀ {us : List Value}, Vals vs us → ∃ as, ReadsAll s.heap us (toPs ds) as ∧ sysModules ∉ as
  | _, _, .nil, _, r => by cases r; exact ⟨_, .nil, by simp⟩
  | _, _, .cons h t, _, r => by
    cases r with
    | cons r1 r2 =>
      obtain ⟨as, q1, n1⟩ := Dt.reads I hs h r1
      obtain ⟨bs, q2, n2⟩ := Dts.reads I hs t r2
      exact ⟨_, .cons q1 q2, by simp [n1, n2]⟩
theorem Dks.reads (I : Inv X pins σ H s) (hs : SysD X.K) : ∀ {kvs : List (Key × V)} {ds : List (Str × D)}, Dks X.K H kvs ds → ∀ {vs : List (Key × Value)} {es : List DictEntry}, KV kvs vs → Pairs (mixKind X.prog X.w) es vs →
    ∃ as bs, ReadsAll s.heap (es.map (·.key)) ((toPk ds).map (·.1)) as ∧ ReadsAll s.heap (es.map (·.val)) ((toPk ds).map (·.2)) bs ∧ sysModules ∉ as ∧ sysModules ∉ bs
  | _, _, .nil, _, _, r, p => by
    cases r
    cases p
    exact ⟨_, _, .nil, .nil, by simp, by simp⟩
  | _, _, .cons (k := k) h t, _, _, r, p => by
    cases r with
    | cons r1 r2 =>
      cases p with
      | cons k1 k2 k3 =>
        obtain ⟨as, bs, q1, q2, n1, n2⟩ := Dks.reads I hs t r2 k3
        obtain ⟨cs, q3, n3⟩ := Dt.reads I hs h r1.2
        rw [← k2] at q3
        rcases keyIs_shape k1 with ⟨i, tk, e1, e2⟩ | ⟨x, tk, e1, e2⟩
        · have := r1.1.trans e1
          cases this
        · have e3 := r1.1.trans e1
          obtain rfl := Sum.inr.inj e3
          refine ⟨[] ++ as, cs ++ bs, .cons ?_ q1, .cons q3 q2, by simpa using n1, by simp [n3, n2]⟩
          have q4 : Reads s.heap (Value.str k tk) (PyData.str k) [] := .str k tk
          rw [← e2] at q4
          exact q4
end
/-- what repr can be asked -/
def reprOk (d : D) : Bool := (toP d).showable && ((toP d).leavesShort 1000 && (decide ((toP d).weight ≤ 10000) && decide ((toP d).depth ≤ 40)))
def dRepr (d : D) : Option D := match d with
  | .lst _ | .tup _ | .dct _ | .lid _ _ | .frl _ => if reprOk d = true then some (.str (toP d).shown) else none
  | _ => none
theorem cr_repr (hg : X.A.guards = some []) (hu : X.A.units + 64 < cLine) (hs : SysD X.K) : CallR X (.builtin "repr") (fun xs H Q => ∃ a d, xs = [V.ref a] ∧ Dt X.K H (.ref a) d ∧ reprOk d = true ∧ Q (.str (toP d).shown) H) := by
  intro pins s σ H xs us Q I rx h
  obtain ⟨a, d, rfl, hd, ok, q⟩ := h
  obtain ⟨u, rfl, ru⟩ := rx.one
  obtain rfl : u = Value.ref a := ru
  obtain ⟨as, hr, hn⟩ := hd.reads I hs (u := Value.ref a) rfl
  obtain ⟨o1, ok⟩ := Bool.and_eq_true_iff.mp ok
  obtain ⟨o2, ok⟩ := Bool.and_eq_true_iff.mp ok
  obtain ⟨o3, o4⟩ := Bool.and_eq_true_iff.mp ok
  have o3 := of_decide_eq_true o3
  have o4 := of_decide_eq_true o4
  have hl := PyData.shown_le 1000 (by decide) (toP d) o2
  have hz : (toP d).shown.length ≤ sizeLine := by
    rw [sizeLine_eq]
    have : (1000 + 2) * (toP d).weight ≤ 1002 * 10000 := Nat.mul_le_mul (by decide) o3
    omega
  exact repr_of_reads' hr o1 (fun _ => hn) hg (by omega) (fun b o e => e) (fun h' u tk k => ⟨.str _, H, I.kept k, ⟨_, rfl⟩, q⟩) hz
theorem cd_repr (hg : X.A.guards = some []) (hu : X.A.units + 64 < cLine) (hs : SysD X.K) : CallD X (.builtin "repr") (on1 dRepr) := ⟨_, cr_repr hg hu hs, fun T H0 H σ δ S xs ds d rx e Q q => by
  replace e := on1_some e
  obtain ⟨a, rfl, e⟩ := e
  obtain ⟨v, rfl, r⟩ := dts_one rx
  have key : ∀ p, v = .ref p → (if reprOk a = true then some (D.str (toP a).shown) else none) = some d → ∃ a d, [v] = [V.ref a] ∧ Dt X.K H (.ref a) d ∧ reprOk d = true ∧ Q (.str (toP d).shown) H := fun p ep e => by
    obtain ⟨c, e⟩ := ite_some e
    cases e
    subst ep
    exact ⟨p, a, rfl, r.mono S.ex, c, q _ H0 H (Ex.refl _) S (.str _)⟩
  cases a with
  | lst ds => cases r; exact key _ rfl e
  | tup ds => cases r; exact key _ rfl e
  | dct ds => cases r; exact key _ rfl e
  | lid p ds => cases r; exact key _ rfl e
  | frl ds => cases r; exact key _ rfl e
  | _ => cases e⟩
end
end Dx
set_option Elab.async false
set_option linter.all false
set_option maxRecDepth 100000
set_option maxHeartbeats 4000000
/-! promises of defs that ask repr: no guard stands ahead of the call -/
namespace Dx
open PySem PySem.Spec PyProof.Rows L2 Evl
structure FnG (P : Program) (w : World) (K : PySem.W.Frag) (mg : Str → Option Value) (base : Heap) (k : Nat) (f : Addr) (fd : FuncData) (ps : List Str) (sp : Sp) : Prop where
  len : ∀ vs H Q E, sp vs H Q E → vs.length = ps.length
  run : ∀ (A : Around) (outer : List Env) (s : Shared) (H : Hp) (args : Args) (us : List Value) (vs : List V) (Q : VK), Room k A → A.guards = some [] → Env0 P w K mg base A outer s H → BindsTo s fd args (ps.zip us) → Vals vs us → sp vs H Q E0 →
    codeAny (model P w) A (.call (.ref f) args) (CR CX0 outer P w H s Q E0) s
theorem FnG.mono {P : Program} {w : World} {K : PySem.W.Frag} {mg : Str → Option Value} {base : Heap} {j k : Nat} {f : Addr} {fd : FuncData} {ps : List Str} {sp : Sp} (F : FnG P w K mg base j f fd ps sp) (h : j ≤ k) : FnG P w K mg base k f fd ps sp :=
  ⟨F.len, fun A outer s H args us vs Q hr => F.run A outer s H args us vs Q (hr.mono h)⟩
section
variable {P : Program} {w : World} {K : PySem.W.Frag} {mg : Str → Option Value} {base : Heap} {x qual : Str} {params : Arguments} {body : List Stmt} {scope : Scope} {dvs : List V} {kws : List (Str × V)} {f : Addr} {fd : FuncData} {N ps : List Str} {k : Nat} {sp : Sp}
theorem okG (F : FunD K x qual params body scope dvs kws f fd) (S : FnScope N ps scope) (len : ∀ vs H Q E, sp vs H Q E → vs.length = ps.length)
    (hbody : ∀ (cdv : Value) (A : Around) (outer : List Env) (s : Shared) (H : Hp) (vs : List V) (Q : VK), Room k (A.deeper (envOfC qual scope s.heap.objs.size f cdv)) → (A.deeper (envOfC qual scope s.heap.objs.size f cdv)).guards = some [] → sp vs H Q E0 →
      ∃ t, PSs (cxOf CX0 P w K mg base N qual scope f cdv A outer s H E0) body t ∧ t { nx := fun _ H' => Q .non H', rt := Q } (L2.start N vs) H) : FnG P w K mg base (k + 1) f fd ps sp := by
  obtain ⟨oc, od, dV, kV, doc, pm, an, cdv, ct, osl, rfl, lk, hcd, _, _⟩ := F.ex
  refine ⟨len, fun A outer s H args us vs Q hr hg e0 hb r hsp => ?_⟩
  have hl := len _ _ _ _ hsp
  have KX : K.In s.heap := e0.mod.kin.keeps fun b o e => (e0.bs b o e).1
  have lim : s.heap.NoLimit := e0.mod.nolimit.keeps fun b o e => (e0.bs b o e).1
  have kinds : ∀ y ∈ ps.zip us, scope.names.lookup y.1 = some .local ∨ (scope.names.lookup y.1 = some .cell ∧ ((cellsFrom (s.heap.objs.size + 1) scope.names []).lookup y.1).isSome = true) := fun y hy => by
    obtain ⟨n, v⟩ := y
    exact (S.par n (List.of_mem_zip hy).1).imp (fun q => q) fun q => ⟨q, PySem.W.cellsFrom_some _ _ _ (.inl q)⟩
  refine codeAny_call_function hr.depth (KX _ _ lk) rfl S.co S.gen rfl (PySem.W.codeRec_of KX hcd) (hb _ _ _ _ ?_)
  refine wpAny_newFunctionEnv_cells S.kind kinds fun env he s1 x => ?_
  subst he
  refine ⟨lim.keeps x.toInCall.keep, codeAny_func ?_⟩
  obtain ⟨t, ht, hq⟩ := hbody cdv A outer s H vs Q (hr.deeper _) hg hsp
  have I : Inv (cxOf CX0 P w K mg base N qual scope f cdv A outer s H E0) [] (L2.start N vs) H s1 := inv_start S hr.hd e0 hl r x
  refine wpAny_mono (ht.run [] s1 (L2.start N vs) H _ I hq) (fun fl s' hs => ?_) fun e s' hs => hs
  cases fl with
  | ret u =>
    obtain ⟨v, σ', H', J, rv, q⟩ := hs
    exact ⟨v, H', J.os, J.bare, J.base, J.hok, rv, q⟩
  | next =>
    obtain ⟨σ', H', J, q⟩ := hs
    exact ⟨.non, H', J.os, J.bare, J.base, J.hok, rfl, q⟩
  | brk => obtain ⟨_, _, _, q⟩ := hs; exact False.elim q
  | cont => obtain ⟨_, _, _, q⟩ := hs; exact False.elim q
end
/-- such a def, called by its name -/
structure CalG (P : Program) (w : World) (K : PySem.W.Frag) (mg : Str → Option Value) (base : Heap) (k : Nat) (x : Str) (sp : Sp) : Prop where
  ex : ∃ f fd ps, mg x = some (.ref f) ∧ PySem.W.keepIn K (.ref f) = true ∧ FnG P w K mg base k f fd ps sp ∧ Binds K fd ps []
theorem CalG.mono {P : Program} {w : World} {K : PySem.W.Frag} {mg : Str → Option Value} {base : Heap} {j k : Nat} {x : Str} {sp : Sp} (c : CalG P w K mg base j x sp) (h : j ≤ k) : CalG P w K mg base k x sp := by
  obtain ⟨f, fd, ps, h1, h2, F, b⟩ := c.ex
  exact ⟨f, fd, ps, h1, h2, F.mono h, b⟩
theorem pe_calG {X : Cx} {k : Nat} {x : Str} {sp : Sp} {t : TA} {e : Expr} {es : List Expr} {p pos : Pos} (c : CalG X.prog X.w X.K X.mg X.base k x sp) (hr : Room k X.A) (hgd : X.A.guards = some []) (ha : PA X (e :: es) t) (hg : Gl X x := by rfl) (hdb : (x == ("__debug__" : Str)) = false := by decide)
    (he : starEach (e :: es) X.env = (false, eval e X.env) :: starEach es X.env := by rfl) (hpl : (backTo pos (starEach es X.env)).any (·.1) = false := by rfl) : PE X (.Call (.Name x p) (e :: es) [] pos) (tCal sp t) := by
  obtain ⟨f, fd, ps, hm, hk, F, hb⟩ := c.ex
  refine ⟨fun pins s σ H Q I h => ?_⟩
  refine wpAny_Call_Name_kw (ld_glob I hg hm ?_ hdb)
  refine PySem.W.callWith_K (h₀ := X.base) I.ok.mod.kin hk (thn (ha.run pos pins s σ H _ I h) fun us s1 ⟨vs, H1, I1, r, q⟩ => ⟨I1.kIn, ?_⟩) he hpl
  have hl : us.length = ps.length := by rw [← r.length]; exact F.len _ _ _ _ q
  have b := hb s1 us I1.kIn (by rw [List.append_nil]; exact hl)
  rw [List.append_nil] at b
  refine wpAny_call (codeAny_mono (F.run X.A X.stack s1 H1 ⟨us, []⟩ us vs Q hr hgd I1.env0 b r q) fun r s' hq => ?_)
  cases r with
  | error e => exact hq.elim
  | ok fl =>
    cases fl with
    | ret u => exact I1.after hq
    | next => exact False.elim hq
    | brk => exact False.elim hq
    | cont => exact False.elim hq

/-! ### the law's own def at the top's end -/
theorem law_callG {P : Program} {w : World} {K : PySem.W.Frag} {mg mb : Str → Option Value} {k : Nat} {fa a : Addr} {fd : FuncData} {x : Str} {sp : Sp} {s1 : Shared} {vs : List Value} {ns : List Int}
    (KX : K.In s1.heap) (hns : s1.heap.Ns mainGlobals mg) (hb : s1.heap.Ns builtinsNs mb) (hbb : ∀ x : Str, x ≠ "__name__" → mb x = bootBuiltins x) (hlim : s1.heap.NoLimit) (hg : s1.gens = #[])
    (ha : s1.heap.get? a = some { cls := .type "list", data := .seq vs.toArray }) (hi : IntsAre vs ns) (hl : ns.length ≤ sizeLine) (hr : Room k callerA)
    (F : ∀ base : Heap, K.In base → base.Ns mainGlobals mg → FnG P w K mg base k fa fd [x] sp) (hbind : ∀ (s : Shared) (u : Value), BindsTo s fd ⟨[u], []⟩ [(x, u)])
    (hsp : ∀ H : Hp, L2.Only H → SqL K H a (ns.map V.int) → sp [.ref a] H (fun v _ => v = .bl true) E0) :
    codeAny (model P w) callerA (.call (.ref fa) ⟨[.ref a], []⟩) (fun r s' => r = .ok (.ret (.bool true)) ∧ OldK s1.heap s'.heap ∧ s'.os = s1.os ∧ AllBare s'.gens) s1 := by
  have rv := vals_ints hi
  have lenV := hi.length
  have core : ∀ H : Hp, L2.Only H → SqL K H a (ns.map V.int) → HOk P w H s1.heap → (∀ b, H b ≠ none → b = a) → (H a ≠ none → K.lookup a = none) →
      codeAny (model P w) callerA (.call (.ref fa) ⟨[.ref a], []⟩) (fun r s' => r = .ok (.ret (.bool true)) ∧ OldK s1.heap s'.heap ∧ s'.os = s1.os ∧ AllBare s'.gens) s1 := by
    intro H hO hS hok hA hK
    have dn : ∀ {b : Addr} {o : Obj} {es : Array DictEntry} {ep : Nat}, s1.heap.get? b = some o → o.data = .dict es ep → H b = none := fun {b o es ep} e d => by
      cases q : H b with
      | none => rfl
      | some u =>
        obtain rfl : b = a := hA b (by rw [q]; simp)
        rw [ha] at e; cases e
        cases (show Data.seq vs.toArray _ = Data.dict es ep from d)
    have ns_ : ∀ {b : Addr} {m : Str → Option Value}, s1.heap.Ns b m → (hidT s1.heap H).Ns b m := fun {b m} ⟨o, es, ep, e, d, r⟩ => ⟨o, es, ep, hidT_get e (dn e d), d, r⟩
    have hKb : K.In (hidT s1.heap H) := fun b o e => hidT_get (KX b o e) (by
      cases q : H b with
      | none => rfl
      | some u =>
        obtain rfl : b = a := hA b (by rw [q]; simp)
        rw [hK (by rw [q]; simp)] at e; cases e)
    obtain ⟨mc, lim1, lim2⟩ := hlim
    have hM : Mod K mg (hidT s1.heap H) := ⟨hKb, ns_ hns, ⟨mb, ns_ hb, hbb⟩, mc, ns_ lim1, lim2⟩
    have e0 : Env0 P w K mg (hidT s1.heap H) callerA [] s1 H := ⟨rfl, hM, fun b o e => of_hidT e, Nat.le_of_eq (hidT_size _ _), trivial, (fun b hb => by cases hb), hok, .of_eq hg⟩
    refine codeAny_mono ((F _ hKb (ns_ hns)).run callerA [] s1 H ⟨[.ref a], []⟩ [.ref a] [.ref a] _ hr rfl e0 (hbind s1 (.ref a)) (.cons rfl .nil) (hsp H hO hS)) fun r s' h => ?_
    cases r with
    | error e => exact h.elim
    | ok fl =>
      cases fl with
      | next => exact False.elim h
      | brk => exact False.elim h
      | cont => exact False.elim h
      | ret u =>
        obtain ⟨v, H', os, bare, un, hok', r', q⟩ := h
        obtain rfl : v = .bl true := q
        obtain rfl : u = Value.bool true := r'
        refine ⟨rfl, OldK.of_keep fun b o e => ?_, os, bare⟩
        cases q : H b with
        | none => exact un.keep b o e q (by intro z; cases z) (by simp)
        | some u =>
          rcases hO b with z | ⟨ob, xs, z⟩
          · rw [q] at z; cases z
          · obtain ⟨e1, _⟩ := hok b _ z
            obtain ⟨e2, _⟩ := hok' b _ (un.frzs b ob _ z)
            rw [e] at e1; cases e1
            exact e2
  cases hk : K.lookup a with
  | some o =>
    have e := KX a o hk
    rw [ha] at e
    cases e
    exact core (fun _ => none) (fun _ => .inl rfl) (.inr ⟨_, vs.toArray, _, hk, rfl, rfl, rfl, by rw [List.size_toArray, lenV]; exact hl, by simpa using rv⟩) (fun b u z => by cases (show (none : Option HO) = some u from z)) (fun b z => absurd rfl z) fun z => absurd rfl z
  | none =>
    refine core (fun b => if b = a then some (.frz { cls := .type "list", data := .seq vs.toArray } (.lst (ns.map V.int))) else none) (fun b => ?_) (.inl (.inr ⟨{ cls := .type "list", data := .seq vs.toArray }, if_pos rfl⟩)) (fun b u z => ?_) (fun b z => ?_) fun _ => hk
    · by_cases hb : b = a
      · exact .inr ⟨_, _, if_pos hb⟩
      · exact .inl (if_neg hb)
    · by_cases hb : b = a
      · have z' := (if_pos hb).symm.trans z
        cases z'
        subst hb
        exact ⟨ha, by rw [List.length_map]; exact hl, vs, _, rv, ha⟩
      · have z' := (if_neg hb).symm.trans z
        cases z'
    · by_cases hb : b = a
      · exact hb
      · exact absurd (if_neg hb) z
theorem walk_ofG {l : PySem.W.OpenLaw} {n k : Nat} {q : Program} {loose : List Str} {XP : (Str → Option Value) → Heap → Prop} {YP : World → Heap → Prop} {d : DefRec} {x : Str}
    (hn : l.most = some n) (hn2 : n ≤ sizeLine) (hdf : d.params.defaults = []) (hr : Room k callerA)
    (F : ∀ (w : World) (mg : Str → Option Value) (fa : Addr) (h : Heap), YP w h → h.Ns mainGlobals mg → mg d.name = some (.ref fa) →
      ∃ (K : PySem.W.Frag) (fd : FuncData) (sp : Sp), K.In h ∧ (∀ (s : Shared) (u : Value), BindsTo s fd ⟨[u], []⟩ [(x, u)]) ∧
        (∀ (H : Hp) (a : Addr) (ns : List Int), ns.length ≤ n → (∀ z ∈ ns, Builtin.Int.intBits z ≤ 1048576) → L2.Only H → SqL K H a (ns.map V.int) → sp [.ref a] H (fun v _ => v = .bl true) E0) ∧
        ∀ base : Heap, K.In base → base.Ns mainGlobals mg → FnG l.prog w K mg base k fa fd [x] sp) :
    PySem.W.WalkO q loose XP YP l.row.toRowW d [] (fun f vs => PySem.call f vs) := by
  refine Att.attach_callB hn hdf fun w s0 s1 mg mb fa o pm cd doc a vs ns G Y ho hd hcd hmg hobj hints hlen hbits hg => ?_
  obtain ⟨K, fd, sp, KX, hb, hsp, hF⟩ := F w mg fa _ Y G.T.g hmg
  exact law_callG KX G.T.g G.T.b G.T.builtins G.T.nolimit hg hobj hints (Nat.le_trans hlen hn2) hr hF hb fun H hO hS => hsp H a ns hlen hbits hO hS
end Dx
set_option Elab.async false
set_option linter.all false
set_option maxRecDepth 100000
set_option maxHeartbeats 4000000
/-! plain lemmas on the combinators -/
namespace Dx
open PySem PySem.Spec PyProof.Rows L2
/-- a comprehension whose turns leave the names alone -/
theorem goD_all {gt : GG} {gc : GT} {ge : GE} {vs : List Nat} {δ : Den} (f : D → Option D) : ∀ (xs : List D) (acc : List D), (∀ x ∈ xs, ∀ acc : List D, acc.length < sizeLine → turnD gt gc ge vs x (δ, acc) = some (δ, match f x with | some y => acc ++ [y] | none => acc)) →
    acc.length + xs.length ≤ sizeLine → goD gt gc ge vs xs (δ, acc) = some (δ, acc ++ xs.filterMap f)
  | [], acc, _, _ => by simp [goD]
  | x :: xs, acc, h, hl => by
    have h1 := h x (List.mem_cons_self ..) acc (by rw [List.length_cons] at hl; omega)
    unfold goD
    rw [h1]
    show goD gt gc ge vs xs (δ, _) = _
    rw [goD_all f xs _ (fun y hy => h y (List.mem_cons_of_mem _ hy)) ?_]
    · cases e : f x with
      | none => simp [e]
      | some y => simp [e]
    · rw [List.length_cons] at hl
      cases f x with
      | none => show acc.length + _ ≤ _; omega
      | some y => show (acc ++ [y]).length + _ ≤ _; rw [List.length_append, List.length_singleton]; omega
/-- the whole comprehension -/
theorem gLc_all {gi : GI} {gt : GG} {gc : GT} {ge : GE} {vs : List Nat} {δ δ1 : Den} {xs : List D} (f : D → Option D) (hi : gi δ = some (xs, δ1)) (hn : notOw δ1 vs = true)
    (h : ∀ x ∈ xs, ∀ acc : List D, acc.length < sizeLine → turnD gt gc ge vs x (wipeD δ1 vs, acc) = some (wipeD δ1 vs, match f x with | some y => acc ++ [y] | none => acc)) (hl : xs.length ≤ sizeLine) (hb : backD δ1 (wipeD δ1 vs) vs = δ1) :
    gLc gi gt gc ge vs δ = some (.lst (xs.filterMap f), δ1) := by
  unfold gLc
  rw [hi]
  simp only [hn, if_true]
  rw [goD_all f xs [] h (by simpa using hl)]
  simp only [List.nil_append, hb]
theorem size_big : 10000000 ≤ sizeLine := by decide
end Dx
set_option Elab.async false
set_option linter.all false
set_option maxRecDepth 100000
set_option maxHeartbeats 4000000
/-! reckoning with the combinators, step by step -/
namespace Dx
open PySem PySem.Spec PyProof.Rows L2
section
variable {δ δ1 δ2 δ3 : Den} {a b c d : D} {ds : List D} {ga gb gc ge : GE} {gs hs : GA} {t u : GT} {k l : Bool} {i n : Nat}
theorem x_c : gC d δ = some (d, δ) := rfl
theorem x_v (h : δ[i]? = some (.pl d)) : gV i δ = some (d, δ) := by unfold gV; rw [h]
theorem x_b {g : D → D → Option D} (ha : ga δ = some (a, δ1)) (hb : gb δ1 = some (b, δ2)) (hg : g a b = some c) : gB g ga gb δ = some (c, δ2) := by
  unfold gB; simp only [ha, hb, hg]
theorem x_nil : Dx.gNil δ = some ([], δ) := rfl
theorem x_cons (ha : ga δ = some (a, δ1)) (hb : gs δ1 = some (ds, δ2)) : Dx.gCons ga gs δ = some (a :: ds, δ2) := by
  unfold Dx.gCons; simp only [ha, hb]
theorem x_one (ha : ga δ = some (a, δ1)) : Dx.gCons ga Dx.gNil δ = some ([a], δ1) := x_cons ha x_nil
theorem x_star {xs : List D} (ha : ga δ = some (a, δ1)) (hi : dItems a = some xs) (hb : gs δ1 = some (ds, δ2)) : gStar ga gs δ = some (xs ++ ds, δ2) := by
  unfold gStar; simp only [ha, hi, hb]
theorem x_call {g : List D → Option D} (h : gs δ = some (ds, δ1)) (hg : g ds = some d) : gCall g gs δ = some (d, δ1) := by
  unfold gCall; simp only [h, hg]
theorem x_cal {g : List D → Option D} (h : gs δ = some (ds, δ1)) (hl : ds.length = n) (hg : g ds = some d) : gCal g n gs δ = some (d, δ1) := by
  unfold gCal; simp only [h, hl, hg, if_true]
theorem x_calB {g : List D → List D → Option (D × List D)} {o : Bool} {bs bs' : List D} (h0 : isOw δ i = true) (h : gs δ = some (ds, δ1)) (hi : δ1[i]? = some (.ow o bs)) (hl : ds.length + 1 = n) (hg : g bs ds = some (d, bs')) : gCalB g n i gs δ = some (d, δ1.set i (.ow o bs')) := by
  unfold gCalB; simp only [h0, h, hi, hl, hg, if_true]
theorem x_isi {cn : String} (h : ge δ = some (d, δ1)) : gIsi cn ge δ = some (.bl (isiB d cn), δ1) := by
  unfold gIsi; simp only [h]
theorem x_tst (h : ge δ = some (.bl k, δ1)) : gTst ge δ = some (k, δ1) := by
  unfold gTst; simp only [h]
theorem x_tru (h : ge δ = some (d, δ1)) (hd : dTru d = some k) : gTru ge δ = some (k, δ1) := by
  unfold gTru; simp only [h, hd]
theorem x_isT {cn : String} (h : ge δ = some (d, δ1)) : gTru (gIsi cn ge) δ = some (isiB d cn, δ1) := x_tru (x_isi h) rfl
theorem x_not (h : t δ = some (k, δ1)) : gNotT t δ = some (!k, δ1) := by
  unfold gNotT; simp only [h]
theorem x_andT (h : t δ = some (k, δ1)) (h2 : k = true → u δ1 = some (l, δ1)) : gAndT t u δ = some (k && l, δ1) := by
  unfold gAndT; simp only [h]
  cases k with
  | true => simp only [h2 rfl, Bool.true_and]
  | false => rfl
theorem x_orT (h : t δ = some (k, δ1)) (h2 : k = false → u δ1 = some (l, δ1)) : gOrT t u δ = some (k || l, δ1) := by
  unfold gOrT; simp only [h]
  cases k with
  | false => simp only [h2 rfl, Bool.false_or]
  | true => rfl
theorem x_andV (h : ga δ = some (.bl k, δ1)) (h2 : k = true → gb δ1 = some (.bl l, δ1)) : gAndV ga gb δ = some (.bl (k && l), δ1) := by
  unfold gAndV; simp only [h]
  cases k with
  | true => simp only [h2 rfl, Bool.true_and]
  | false => rfl
theorem x_orV (h : ga δ = some (.bl k, δ1)) (h2 : k = false → gb δ1 = some (.bl l, δ1)) : gOrV ga gb δ = some (.bl (k || l), δ1) := by
  unfold gOrV; simp only [h]
  cases k with
  | false => simp only [h2 rfl, Bool.false_or]
  | true => rfl
theorem x_notV (h : ga δ = some (.bl k, δ1)) : gNotV ga δ = some (.bl (!k), δ1) := by
  unfold gNotV; simp only [h]
theorem x_neg {z : Int} (h : ga δ = some (.int z, δ1)) : gNeg ga δ = some (.int (-z), δ1) := by
  unfold gNeg; simp only [h]
theorem x_if {r : Option (D × Den)} (h : t δ = some (k, δ1)) (h1 : k = true → ga δ1 = r) (h2 : k = false → gb δ1 = r) : gIf t ga gb δ = r := by
  unfold gIf; simp only [h]
  cases k with
  | true => exact h1 rfl
  | false => exact h2 rfl
theorem x_ch {g g' : D → D → Option D} (ha : ga δ = some (a, δ1)) (hb : gb δ1 = some (b, δ2)) (hg : g a b = some (.bl k)) (hc : k = true → gc δ2 = some (c, δ2)) (hg' : k = true → g' b c = some (.bl l)) : gCh g g' ga gb gc δ = some (.bl (k && l), δ2) := by
  unfold gCh; simp only [ha, hb, hg]
  cases k with
  | true => simp only [hc rfl, hg' rfl, Bool.true_and]
  | false => rfl
theorem x_tup (h : gs δ = some (ds, δ1)) (hl : ds.length ≤ sizeLine) : gTup gs δ = some (.tup ds, δ1) := by
  unfold gTup; simp only [h, hl, if_true]
theorem x_lst (h : gs δ = some (ds, δ1)) (hl : ds.length ≤ sizeLine) : gLst gs δ = some (.lst ds, δ1) := by
  unfold gLst; simp only [h, hl, if_true]
theorem x_dct1 {kk : Str} (h : ge δ = some (d, δ1)) : gDct1 kk ge δ = some (.dct [(kk, d)], δ1) := by
  unfold gDct1; simp only [h]
theorem x_ixN (h : gb δ = some (b, δ1)) (h0 : hasV δ i = true) (hi : δ1[i]? = some (.pl a)) (hg : dIx a b = some c) : gIxN i gb δ = some (c, δ1) := by
  unfold gIxN; simp only [h0, h, hi, hg, if_true]
theorem x_ixO {o : Bool} {bs : List D} (h : gb δ = some (b, δ1)) (h0 : hasV δ i = true) (hi : δ1[i]? = some (.ow o bs)) (hg : dIx (.lst bs) b = some c) : gIxN i gb δ = some (c, δ1) := by
  unfold gIxN; simp only [h0, h, hi, hg, if_true]
theorem x_so {z : Int} (h : ge δ = some (.int z, δ1)) : gSo ge δ = some (some z, δ1) := by
  unfold gSo; simp only [h]
theorem x_no : gNo δ = some (none, δ) := rfl
theorem x_sl {gl gh : GO} {lo hi : Option Int} (h : ga δ = some (a, δ1)) (h1 : gl δ1 = some (lo, δ2)) (h2 : gh δ2 = some (hi, δ3)) (hg : dSl a lo hi = some c) : gSl ga gl gh δ = some (c, δ3) := by
  unfold gSl; simp only [h, h1, h2, hg]
theorem x_it {xs : List D} (h : ge δ = some (d, δ1)) (hw : dWalk d = some xs) : gIt ge δ = some (xs, δ1) := by
  unfold gIt; simp only [h, hw]
theorem x_rg1 {j : Int} (h : gs δ = some ([.int j], δ1)) (hj : small j = true) : gRg1 gs δ = some (rngD 0 j.toNat, δ1) := by
  unfold gRg1; simp only [h, hj, if_true]
theorem x_zip {x y : D} {xs ys : List D} (h : gs δ = some ([x, y], δ1)) (hx : dItems x = some xs) (hy : dItems y = some ys) : gZip gs δ = some (zipD xs ys, δ1) := by
  unfold gZip; simp only [h, hx, hy]
theorem x_m0 {f : Str → Option D} {z : Str} (h : ga δ = some (.str z, δ1)) (hf : f z = some d) : gM0 f ga δ = some (d, δ1) := by
  unfold gM0; simp only [h, hf]
theorem x_m1 {f : Str → D → Option D} {z : Str} (h : ga δ = some (.str z, δ1)) (h2 : gb δ1 = some (b, δ2)) (hf : f z b = some d) : gM1 f ga gb δ = some (d, δ2) := by
  unfold gM1; simp only [h, h2, hf]
theorem x_ma {f : Str → List D → Option D} {z : Str} (h : ga δ = some (.str z, δ1)) (h2 : gs δ1 = some (ds, δ2)) (hf : f z ds = some d) : gMA f ga gs δ = some (d, δ2) := by
  unfold gMA; simp only [h, h2, hf]
theorem x_kget {tb : List (Str × D)} {z : Str} (h : ga δ = some (.str z, δ1)) (h2 : gb δ1 = some (b, δ2)) : gKGet tb ga gb δ = some ((tb.lookup z).getD b, δ2) := by
  unfold gKGet; simp only [h, h2]
theorem x_inR {neg : Bool} {z lo hi : Int} (h : ga δ = some (.int z, δ1)) (h2 : gs δ1 = some ([.int lo, .int hi], δ2)) : gInR neg ga gs δ = some (.bl (if neg then !decide (lo ≤ z ∧ z < hi) else decide (lo ≤ z ∧ z < hi)), δ2) := by
  unfold gInR; simp only [h, h2]
/-! statements -/
variable {g h : GS} {o : Out}
theorem x_sn : gsNil δ = some (.nx δ) := rfl
theorem x_sc (h1 : g δ = some (.nx δ1)) (h2 : h δ1 = some o) : gsCons g h δ = some o := by
  unfold gsCons; simp only [h1, h2]
theorem x_scr (h1 : g δ = some (.rt d δ1)) : gsCons g h δ = some (.rt d δ1) := by
  unfold gsCons; simp only [h1]
theorem x_sce {cn f : Str} (h1 : g δ = some (.ex cn f d δ1)) : gsCons g h δ = some (.ex cn f d δ1) := by
  unfold gsCons; simp only [h1]
theorem x_ret (h1 : ge δ = some (d, δ1)) : gsRet ge δ = some (.rt d δ1) := by
  unfold gsRet; simp only [h1]
theorem x_retL (h1 : ge δ = some (d, δ1)) : gsCons (gsRet ge) h δ = some (.rt d δ1) := x_scr (x_ret h1)
theorem x_sif (h0 : t δ = some (k, δ1)) (h1 : k = true → g δ1 = some o) (h2 : k = false → h δ1 = some o) : gsIf t g h δ = some o := by
  unfold gsIf; simp only [h0]
  cases k with
  | true => exact h1 rfl
  | false => exact h2 rfl
/-- if t: return .. -/
theorem x_grd {j : GS} (h0 : t δ = some (k, δ1)) (h1 : k = true → g δ1 = some o) (h2 : k = false → h δ1 = some o) (hr : k = true → ∃ e δ', o = .rt e δ') : gsCons (gsIf t g gsNil) h δ = some o := by
  cases k with
  | true =>
    obtain ⟨e, δ', rfl⟩ := hr rfl
    exact x_scr (x_sif h0 (fun _ => h1 rfl) fun z => by cases z)
  | false => exact x_sc (x_sif h0 (fun z => by cases z) fun _ => x_sn) (h2 rfl)
theorem x_asg {gt : GG} (h1 : ge δ = some (d, δ1)) (h2 : gt d δ1 = some δ2) : gsAsg ge gt δ = some (.nx δ2) := by
  unfold gsAsg; simp only [h1, h2]
theorem x_set (h1 : ge δ = some (d, δ1)) : gsAsg ge (gNm i) δ = some (.nx (δ1.set i (.pl d))) := x_asg h1 rfl
theorem x_par {j : Nat} (h1 : gs δ = some ([a, b], δ1)) : gsPar i j gs δ = some (.nx ((δ1.set i (.pl a)).set j (.pl b))) := by
  unfold gsPar; simp only [h1]
theorem x_par3 {j m : Nat} (h1 : gs δ = some ([a, b, c], δ1)) : gsPar3 i j m gs δ = some (.nx (((δ1.set i (.pl a)).set j (.pl b)).set m (.pl c))) := by
  unfold gsPar3; simp only [h1]
theorem x_setIx {o : Bool} {bs : List D} {z : Int} {j : Nat} (h1 : ge δ = some (d, δ1)) (h0 : hasV δ1 i = true) (h2 : gb δ1 = some (.int z, δ2)) (hi : δ2[i]? = some (.ow o bs)) (hj : ixN bs.length z = some j) : gsSetIx i ge gb δ = some (.nx (δ2.set i (.ow o (bs.set j d)))) := by
  unfold gsSetIx; simp only [h1, h2, hi, hj, h0, if_true]
theorem x_for {gi : GI} {gt : GG} {gb : GS} {xs : List D} (h1 : gi δ = some (xs, δ1)) (h2 : forD gt gb xs δ1 = some o) : gsFor gi gt gb δ = some o := by
  unfold gsFor; simp only [h1, h2]
end
end Dx
set_option Elab.async false
set_option linter.all false
set_option maxRecDepth 100000
set_option maxHeartbeats 4000000
/-! split by one sign, in plain lists -/
namespace Dx
open PySem PySem.Spec PyProof.Rows L2
open PySem.Builtin.Str PySem.StrLaws
/-- at most k cuts at c -/
def spl (c : Nat) : Nat → List Nat → List (List Nat)
  | 0, l => [l]
  | _ + 1, [] => [[]]
  | k + 1, x :: r => if x = c then [] :: spl c k r else match spl c (k + 1) r with
    | p :: q => (x :: p) :: q
    | [] => [[x]]
theorem spl_0 (c : Nat) (l : List Nat) : spl c 0 l = [l] := by rw [spl]
theorem spl_ne (c k : Nat) (l : List Nat) : spl c k l ≠ [] := by
  cases k with
  | zero => simp [spl]
  | succ k =>
    cases l with
    | nil => simp [spl]
    | cons x r =>
      unfold spl
      split
      · simp
      · split <;> simp
/-- the places of the cuts -/
def cutsAt (c : Nat) : Nat → Nat → List Nat → List Nat
  | 0, _, _ => []
  | _ + 1, _, [] => []
  | k + 1, i, x :: r => if x = c then i :: cutsAt c k (i + 1) r else cutsAt c (k + 1) (i + 1) r
theorem cutsAt_0 (c i : Nat) (l : List Nat) : cutsAt c 0 i l = [] := by rw [cutsAt]
theorem cutsAt_nil (c k i : Nat) : cutsAt c k i [] = [] := by cases k <;> rfl
def sgn1 (c : Nat) : Str := ⟨#[c]⟩
theorem subAt_one (x : Str) (c i : Nat) : subAt x (sgn1 c) i = (x.cps.toList[i]? == some c) := by
  rw [subAt_eq]
  show (((x.cps.toList.drop i).take 1) == [c]) = _
  cases h : x.cps.toList.drop i with
  | nil =>
    have e : x.cps.toList[i]? = none := List.getElem?_eq_none (by have := List.drop_eq_nil_iff.mp h; exact this)
    rw [e]; rfl
  | cons a r =>
    have e : x.cps.toList[i]? = some a := by rw [← List.head?_drop, h]; rfl
    rw [e]
    show (([a] : List Nat) == [c]) = (some a == some c)
    by_cases q : a = c
    · subst q; simp
    · simp [q]
theorem occ_one (x : Str) (c lim : Nat) : ∀ (l : List Nat) (i : Nat) (st : Array Nat × Nat), x.cps.toList.drop i = l → st.2 ≤ i →
    ((forIn (List.range' i (l.length + 1)) st (occBody x (sgn1 c) x.length lim)).run.fst).toList = st.1.toList ++ cutsAt c (lim - st.1.size) i l
  | [], i, st, h, hf => by
    have hi : x.length ≤ i := List.drop_eq_nil_iff.mp h
    rw [cutsAt_nil, List.append_nil]
    rw [List.length_nil, List.range'_succ, List.forIn_cons]
    unfold occBody
    rw [if_neg]
    · rfl
    · intro hh
      have := hh.1.2
      simp [sgn1, Str.length] at this hi
      omega
  | a :: l, i, st, h, hf => by
    have hi : i < x.length := by
      have := congrArg List.length h
      rw [List.length_drop, List.length_cons] at this
      show i < x.cps.size
      rw [← Array.length_toList]; omega
    have ha : x.cps.toList[i]? = some a := by rw [← List.head?_drop, h]; rfl
    have h' : x.cps.toList.drop (i + 1) = l := by rw [← List.tail_drop, h]; rfl
    rw [List.length_cons, List.range'_succ, List.forIn_cons]
    unfold occBody
    have hs := subAt_one x c i
    rw [ha] at hs
    by_cases q : a = c
    · subst q
      by_cases q2 : st.1.size < lim
      · rw [if_pos ⟨⟨⟨q2, hf⟩, hi⟩, by rw [hs]; simp⟩]
        have := occ_one x a lim l (i + 1) (st.1.push i, i + 1) h' (Nat.le_refl _)
        refine Eq.trans this ?_
        obtain ⟨m, hm⟩ : ∃ m, lim - st.1.size = m + 1 := ⟨lim - st.1.size - 1, by omega⟩
        rw [hm]
        simp only [Array.size_push, cutsAt, if_true, Array.toList_push, List.append_assoc, List.singleton_append]
        rw [show lim - (st.1.size + 1) = m by omega]
      · rw [if_neg fun hh => q2 hh.1.1.1]
        have := occ_one x a lim l (i + 1) st h' (by omega)
        refine Eq.trans this ?_
        rw [show lim - st.1.size = 0 by omega, cutsAt_0, cutsAt_0]
    · rw [if_neg fun hh => by have := hh.2; rw [hs] at this; simp at this; exact q this]
      have := occ_one x c lim l (i + 1) st h' (by omega)
      refine Eq.trans this ?_
      cases lim - st.1.size with
      | zero => rw [cutsAt_0, cutsAt_0]
      | succ m => simp only [cutsAt, if_neg q]
theorem occ_sgn (x : Str) (c lim : Nat) : occurrences x (sgn1 c) 0 x.length lim = cutsAt c lim 0 x.cps.toList := by
  rw [occ_eq]
  have e := occ_one x c lim x.cps.toList 0 (#[], 0) rfl (Nat.le_refl _)
  rw [Array.length_toList] at e
  exact e
theorem parts_spl (x : Str) (c : Nat) : ∀ (k : Nat) (l : List Nat) (a i : Nat), x.cps.toList.drop i = l → a ≤ i → i ≤ x.length →
    (partsFrom x 1 a (cutsAt c k i l)).map (fun y => y.cps.toList) = (match spl c k l with
      | p :: q => ((x.cps.toList.drop a).take (i - a) ++ p) :: q
      | [] => [])
  | 0, l, a, i, h, ha, hi => by
    rw [cutsAt_0, spl_0]
    show [(strSub x a x.length).cps.toList] = [(x.cps.toList.drop a).take (i - a) ++ l]
    rw [strSub_toList]
    have hn : x.cps.toList.length = x.length := by simp [Str.length]
    congr 1
    rw [List.take_of_length_le (by rw [List.length_drop]; omega), ← h]
    have e5 : x.cps.toList.drop i = (x.cps.toList.drop a).drop (i - a) := by rw [List.drop_drop]; congr 1; omega
    rw [e5]
    exact (List.take_append_drop (i - a) _).symm
  | k + 1, [], a, i, h, ha, hi => by
    show [(strSub x a x.length).cps.toList] = [(x.cps.toList.drop a).take (i - a) ++ []]
    rw [strSub_toList, List.append_nil]
    have hn : x.cps.toList.length = x.length := by simp [Str.length]
    have := List.drop_eq_nil_iff.mp h
    rw [show i = x.length by omega]
  | k + 1, y :: r, a, i, h, ha, hi => by
    have hn : x.cps.toList.length = x.length := by simp [Str.length]
    have hi' : i < x.length := by
      have := congrArg List.length h
      rw [List.length_drop, List.length_cons] at this
      omega
    have h' : x.cps.toList.drop (i + 1) = r := by rw [← List.tail_drop, h]; rfl
    by_cases q : y = c
    · subst q
      simp only [cutsAt, spl, if_true]
      show (strSub x a i).cps.toList :: (partsFrom x 1 (i + 1) (cutsAt y k (i + 1) r)).map _ = _
      rw [parts_spl x y k r (i + 1) (i + 1) h' (Nat.le_refl _) hi', strSub_toList]
      rw [List.append_nil]
      congr 1
      rw [Nat.sub_self, List.take_zero]
      cases e : spl y k r with
      | nil => exact absurd e (spl_ne _ _ _)
      | cons p q => rfl
    · simp only [cutsAt, spl, if_neg q]
      rw [parts_spl x c (k + 1) r a (i + 1) h' (by omega) hi']
      cases e : spl c (k + 1) r with
      | nil => exact absurd e (spl_ne _ _ _)
      | cons p s =>
        simp only
        congr 1
        have e5 : (x.cps.toList.drop a).take (i + 1 - a) = (x.cps.toList.drop a).take (i - a) ++ [y] := by
          rw [show i + 1 - a = (i - a) + 1 by omega, List.take_add_one]
          congr 1
          rw [List.getElem?_drop, show a + (i - a) = i by omega, ← List.head?_drop, h]
          rfl
        rw [e5, List.append_assoc]
        rfl
def mkS (l : List Nat) : Str := ⟨l.toArray⟩
theorem mkS_toList (x : Str) : mkS x.cps.toList = x := rfl
theorem map_mkS (l : List Str) : (l.map fun y => y.cps.toList).map mkS = l := by
  rw [List.map_map]
  exact (List.map_congr_left fun y _ => mkS_toList y).trans (List.map_id _)
theorem kind_sgn (x : Str) (c : Nat) (hc : c < 256) : decide (Builtin.Str.strKind x < Builtin.Str.strKind (sgn1 c)) = false := by
  have : Builtin.Str.strKind (sgn1 c) = 1 := by simp [Builtin.Str.strKind, sgn1, hc]
  rw [this]
  apply decide_eq_false
  unfold Builtin.Str.strKind
  split
  · omega
  · split <;> omega
theorem parts_whole (x : Str) (c k : Nat) : (partsBetween x (cutsAt c k 0 x.cps.toList) 1) = (spl c k x.cps.toList).map mkS := by
  rw [partsBetween_eq, ← map_mkS (partsFrom x 1 0 _)]
  rw [parts_spl x c k x.cps.toList 0 0 rfl (Nat.le_refl _) (Nat.zero_le _)]
  congr 1
  cases e : spl c k x.cps.toList with
  | nil => exact absurd e (spl_ne _ _ _)
  | cons p q => rfl
theorem spl_nocut {c : Nat} : ∀ {k i : Nat} {l : List Nat}, cutsAt c k i l = [] → spl c k l = [l]
  | 0, _, _, _ => spl_0 ..
  | _ + 1, _, [], _ => rfl
  | k + 1, i, x :: r, h => by
    unfold cutsAt at h
    by_cases q : x = c
    · rw [if_pos q] at h; cases h
    · rw [if_neg q] at h
      unfold spl
      rw [if_neg q, spl_nocut h]
theorem cut_lenOne (x : Str) (c k : Nat) (h : x.length < (sgn1 c).length) : spl c k x.cps.toList = [x.cps.toList] := by
  have : x.cps.toList = [] := by
    have h2 : x.cps.size < 1 := h
    apply List.eq_nil_of_length_eq_zero
    rw [Array.length_toList]; omega
  rw [this]
  cases k <;> rfl
theorem split_sgn (x : Str) (c : Nat) (hc : c < 256) : Txt.split x (sgn1 c) = (spl c (x.length + 1) x.cps.toList).map mkS := by
  unfold Txt.split
  rw [kind_sgn x c hc, Bool.or_false, occ_sgn]
  by_cases h : x.length < (sgn1 c).length
  · rw [if_pos (decide_eq_true h), cut_lenOne x c _ h]; rfl
  · rw [if_neg (by simpa using h)]
    cases e : cutsAt c (x.length + 1) 0 x.cps.toList with
    | nil =>
      rw [spl_nocut e]; rfl
    | cons a r =>
      rw [if_neg (by simp), ← e]
      exact parts_whole x c _
theorem splitMax_sgn (x : Str) (c k : Nat) (hc : c < 256) : Txt.splitMax x (sgn1 c) (k : Int) = (spl c k x.cps.toList).map mkS := by
  unfold Txt.splitMax
  have hl : limitOf x (k : Int) = k := by unfold limitOf; rw [if_neg (by omega)]; rfl
  rw [kind_sgn x c hc, Bool.or_false, hl, occ_sgn]
  by_cases h : x.length < (sgn1 c).length
  · rw [if_pos (decide_eq_true h), cut_lenOne x c _ h]; rfl
  · rw [if_neg (by simpa using h)]
    cases e : cutsAt c k 0 x.cps.toList with
    | nil =>
      rw [spl_nocut e]; rfl
    | cons a r =>
      rw [if_neg (by simp), ← e]
      exact parts_whole x c _
/-! ### joins -/
def joinL (c : Nat) : List (List Nat) → List Nat
  | [] => []
  | [p] => p
  | p :: q => p ++ c :: joinL c q
theorem joinL_cons {c : Nat} {p : List Nat} {q : List (List Nat)} (h : q ≠ []) : joinL c (p :: q) = p ++ c :: joinL c q := by
  cases q with
  | nil => exact absurd rfl h
  | cons a r => rfl
theorem join_sgn (c : Nat) : ∀ l : List Str, (Txt.join (sgn1 c) l).cps.toList = joinL c (l.map fun y => y.cps.toList) := by
  intro l
  show (glued (sgn1 c) l).cps.toList = _
  rw [glued_eq_join]
  induction l with
  | nil => rfl
  | cons x r ih =>
    cases r with
    | nil => rfl
    | cons y r =>
      show (x ++ sgn1 c ++ Str.join (sgn1 c) (y :: r)).cps.toList = _
      rw [Str.cps_append, Str.cps_append, Array.toList_append, Array.toList_append, ih]
      show (x.cps.toList ++ [c]) ++ _ = x.cps.toList ++ c :: _
      rw [List.append_assoc]
      rfl
theorem joinL_spl (c : Nat) : ∀ (k : Nat) (l : List Nat), joinL c (spl c k l) = l
  | 0, _ => by rw [spl_0]; rfl
  | _ + 1, [] => rfl
  | k + 1, x :: r => by
    unfold spl
    by_cases q : x = c
    · rw [if_pos q, joinL_cons (spl_ne _ _ _), joinL_spl c k r, q]; rfl
    · rw [if_neg q]
      have ih := joinL_spl c (k + 1) r
      cases e : spl c (k + 1) r with
      | nil => exact absurd e (spl_ne _ _ _)
      | cons p s =>
        rw [e] at ih
        cases s with
        | nil => rw [← ih]; rfl
        | cons a s => rw [← ih]; rfl
/-- fewer cuts: the rest stays joined -/
theorem spl_less (c : Nat) : ∀ (k m : Nat) (l : List Nat), k ≤ m → spl c k l = (if (spl c m l).length ≤ k + 1 then spl c m l else (spl c m l).take k ++ [joinL c ((spl c m l).drop k)])
  | 0, m, l, _ => by
    have := joinL_spl c m l
    cases e : spl c m l with
    | nil => exact absurd e (spl_ne _ _ _)
    | cons p q =>
      rw [e] at this
      cases q with
      | nil => rw [if_pos (by simp)]; simp only [spl]; rw [← this]; rfl
      | cons a r => rw [if_neg (by simp)]; simp only [spl, List.take_zero, List.drop_zero, List.nil_append, this]
  | k + 1, 0, l, h => by omega
  | k + 1, m + 1, [], _ => rfl
  | k + 1, m + 1, x :: r, h => by
    by_cases q : x = c
    · have ih := spl_less c k m r (by omega)
      unfold spl
      rw [if_pos q, if_pos q, ih]
      by_cases g : (spl c m r).length ≤ k + 1
      · rw [if_pos g, if_pos (by simp; omega)]
      · rw [if_neg g, if_neg (by simp; omega)]; rfl
    · have ih := spl_less c (k + 1) (m + 1) r h
      rw [spl, if_neg q, spl, if_neg q, ih]
      cases e : spl c (m + 1) r with
      | nil => exact absurd e (spl_ne _ _ _)
      | cons p s =>
        simp only [List.length_cons]
        by_cases g : s.length + 1 ≤ k + 1 + 1
        · rw [if_pos g, if_pos g]
        · rw [if_neg g, if_neg g]
          show (match (p :: s.take k) ++ [joinL c (s.drop k)] with | p :: q => (x :: p) :: q | [] => [[x]]) = _
          rfl
theorem spl_no (c : Nat) : ∀ (k : Nat) (p : List Nat), c ∉ p → spl c k p = [p]
  | 0, _, _ => spl_0 ..
  | _ + 1, [], _ => rfl
  | k + 1, x :: r, h => by
    rw [List.mem_cons, not_or] at h
    unfold spl
    rw [if_neg (fun e => h.1 e.symm), spl_no c (k + 1) r h.2]
theorem spl_cons (c : Nat) : ∀ (k : Nat) (p l : List Nat), c ∉ p → spl c (k + 1) (p ++ c :: l) = p :: spl c k l
  | k, [], l, _ => by
    show (if c = c then _ else _) = _
    rw [if_pos rfl]
  | k, x :: r, l, h => by
    rw [List.mem_cons, not_or] at h
    rw [List.cons_append]
    rw [spl, if_neg (fun e => h.1 e.symm), spl_cons c k r l h.2]
/-- pieces without the sign, but for the last one -/
theorem spl_joinL (c : Nat) : ∀ (ps : List (List Nat)) (t : List Nat) (k : Nat), (∀ p ∈ ps, c ∉ p) → ps.length ≤ k → (k = ps.length ∨ c ∉ t) → spl c k (joinL c (ps ++ [t])) = ps ++ [t]
  | [], t, k, _, _, h => by
    show spl c k t = [t]
    rcases h with h | h
    · rw [h]; exact spl_0 ..
    · exact spl_no c k t h
  | p :: ps, t, k, h, hk, h2 => by
    rw [List.cons_append, joinL_cons (by simp)]
    cases k with
    | zero => simp at hk
    | succ k =>
      rw [spl_cons c k p _ (h p (List.mem_cons_self ..)), spl_joinL c ps t k (fun q hq => h q (List.mem_cons_of_mem _ hq)) (by simpa using hk) (h2.imp (fun e => by simpa using e) id)]
theorem spl_len (c : Nat) : ∀ (k : Nat) (l : List Nat), (spl c k l).length ≤ l.length + 1
  | 0, _ => by simp [spl]
  | _ + 1, [] => by simp [spl]
  | k + 1, x :: r => by
    unfold spl
    split
    · have := spl_len c k r; simp; omega
    · have := spl_len c (k + 1) r
      split <;> simp_all <;> omega
theorem spl_sub (c : Nat) : ∀ (k : Nat) (l : List Nat), ∀ p ∈ spl c k l, p.Sublist l
  | 0, l, p, h => by simp [spl] at h; subst h; exact List.Sublist.refl _
  | _ + 1, [], p, h => by simp [spl] at h; subst h; exact List.Sublist.refl _
  | k + 1, x :: r, p, h => by
    unfold spl at h
    split at h
    · rcases List.mem_cons.mp h with rfl | h
      · exact List.nil_sublist _
      · exact (spl_sub c k r p h).cons _
    · have ih := spl_sub c (k + 1) r
      split at h
      · rename_i q s e
        rw [e] at ih
        rcases List.mem_cons.mp h with rfl | h
        · exact (ih q (List.mem_cons_self ..)).cons₂ _
        · exact (ih p (List.mem_cons_of_mem _ h)).cons _
      · rename_i e; exact absurd e (spl_ne _ _ _)
end Dx
set_option Elab.async false
set_option linter.all false
set_option maxRecDepth 100000
set_option maxHeartbeats 4000000
/-! reckoning by steps: what follows is asked once the test is known -/
namespace Dx
open PySem PySem.Spec PyProof.Rows L2
section
variable {δ δ1 δ2 δ3 : Den} {a b c d : D} {ds : List D} {ga gb gc ge : GE} {gs hs : GA} {t u : GT} {k l : Bool} {i n : Nat}
theorem sz_le {n : Nat} (h : Nat.ble n 10000000 = true) : n ≤ sizeLine := Nat.le_trans (Nat.le_of_ble_eq_true h) size_big
theorem cond_t {α : Type} {x y r : α} (hb : k = true) (h : x = r) : (bif k then x else y) = r := by rw [hb]; exact h
theorem cond_f {α : Type} {x y r : α} (hb : k = false) (h : y = r) : (bif k then x else y) = r := by rw [hb]; exact h
theorem w_andT {r : Option (Bool × Den)} (h : t δ = some (k, δ1)) (h2 : (bif k then u δ1 else some (false, δ1)) = r) : gAndT t u δ = r := by
  unfold gAndT; simp only [h]; cases k <;> exact h2
theorem w_orT {r : Option (Bool × Den)} (h : t δ = some (k, δ1)) (h2 : (bif k then some (true, δ1) else u δ1) = r) : gOrT t u δ = r := by
  unfold gOrT; simp only [h]; cases k <;> exact h2
theorem w_andV {r : Option (D × Den)} (h : ga δ = some (.bl k, δ1)) (h2 : (bif k then gb δ1 else some (.bl false, δ1)) = r) : gAndV ga gb δ = r := by
  unfold gAndV; simp only [h]; cases k <;> exact h2
theorem w_orV {r : Option (D × Den)} (h : ga δ = some (.bl k, δ1)) (h2 : (bif k then some (.bl true, δ1) else gb δ1) = r) : gOrV ga gb δ = r := by
  unfold gOrV; simp only [h]; cases k <;> exact h2
theorem w_if {r : Option (D × Den)} (h : t δ = some (k, δ1)) (h2 : (bif k then ga δ1 else gb δ1) = r) : gIf t ga gb δ = r := by
  unfold gIf; simp only [h]; cases k <;> exact h2
theorem w_ch {g g' : D → D → Option D} {r : Option (D × Den)} (ha : ga δ = some (a, δ1)) (hb : gb δ1 = some (b, δ2)) (hg : g a b = some (.bl k)) (h2 : (bif k then gB g' (gC b) gc δ2 else some (.bl false, δ2)) = r) : gCh g g' ga gb gc δ = r := by
  unfold gCh; simp only [ha, hb, hg]
  cases k with
  | false => exact h2
  | true =>
    simp only [cond_true] at h2
    unfold gB gC at h2
    exact h2
variable {g h : GS} {o : Out} {r : Option Out}
theorem w_sif (h0 : t δ = some (k, δ1)) (h1 : (bif k then g δ1 else h δ1) = r) : gsIf t g h δ = r := by
  unfold gsIf; simp only [h0]; cases k <;> exact h1
def nxt (h : GS) : Out → Option Out
  | .nx δ => h δ
  | o => some o
theorem nxt_nx : nxt h (.nx δ) = h δ := rfl
theorem nxt_rt : nxt h (.rt d δ) = some (.rt d δ) := rfl
theorem w_sc (h1 : g δ = some o) (h2 : nxt h o = r) : gsCons g h δ = r := by
  unfold gsCons; simp only [h1]; cases o <;> exact h2
theorem w_for {gi : GI} {gt : GG} {gb : GS} {xs : List D} (h1 : gi δ = some (xs, δ1)) (h2 : forD gt gb xs δ1 = r) : gsFor gi gt gb δ = r := by
  unfold gsFor; simp only [h1, h2]
def nxl (k : Den → Option Out) : Out → Option Out
  | .nx δ => k δ
  | .ct δ => k δ
  | .bk δ => some (.nx δ)
  | o => some o
theorem nxl_nx {k : Den → Option Out} : nxl k (.nx δ) = k δ := rfl
theorem nxl_rt {k : Den → Option Out} : nxl k (.rt d δ) = some (.rt d δ) := rfl
theorem w_fornil {gt : GG} {gb : GS} : forD gt gb [] δ = some (.nx δ) := rfl
theorem w_forcons {gt : GG} {gb : GS} {x : D} {xs : List D} (h1 : gt x δ = some δ1) (h2 : gb δ1 = some o) (h3 : nxl (forD gt gb xs) o = r) : forD gt gb (x :: xs) δ = r := by
  show (match gt x δ with
    | some δ1 => _
    | none => none) = r
  simp only [h1, h2]
  cases o <;> exact h3
theorem of_rt {δ' : Den} (e : g (den0 n ds) = some (.rt d δ')) : gOf n g ds = some d := by
  unfold gOf; rw [e]
theorem of_rtB {δ' : Den} {bs bs' : List D} (e : g (denB n bs ds) = some (.rt d δ')) (e2 : box δ' = some bs') : gOfB n g bs ds = some (d, bs') := by
  unfold gOfB; rw [e]; simp only [e2, Option.map_some]
theorem w_nm : gNm i d δ = some (δ.set i (.pl d)) := rfl
theorem w_tgnil : gTgNil [] δ = some δ := rfl
theorem w_tgcons {gg : GG} {gh : GGs} {q : Option Den} (h1 : gg d δ = some δ1) (h2 : gh ds δ1 = q) : gTgCons gg gh (d :: ds) δ = q := by
  unfold gTgCons; simp only [h1, h2]
theorem w_tgtup {gh : GGs} {q : Option Den} (hl : ds.length = n) (h : gh ds δ = q) : gTgTup n gh (.tup ds) δ = q := by
  unfold gTgTup; simp only [hl, if_true, h]
theorem w_asg {gt : GG} (h1 : ge δ = some (d, δ1)) (h2 : gt d δ1 = some δ2) : gsAsg ge gt δ = some (.nx δ2) := x_asg h1 h2
theorem w_tru (h : ge δ = some (d, δ1)) (hd : dTru d = some k) : gTru ge δ = some (k, δ1) := x_tru h hd
/-! data -/
theorem eq_int (x y : Int) : dEq (.int x) (.int y) = some (.bl (decide (x = y))) := by
  unfold dEq
  rw [if_pos (show eqOk (.int x) (.int y) = true from rfl)]
  show some (D.bl (x == y)) = _
  rfl
theorem ne_int (x y : Int) : dNe (.int x) (.int y) = some (.bl (!decide (x = y))) := by
  unfold dNe
  rw [if_pos (show eqOk (.int x) (.int y) = true from rfl)]
  rfl
def okT (z : Str) : Bool := z.cps.toList.all (· < 128)
theorem str_shaped {z : Str} (h : okT z = true) : SeqAt.shaped (.str z) = true := by
  have h : (z.cps.toList.all (· < 128)) = true := h
  show ((PyData.str z).canLay0 && decide ((PyData.str z).depth ≤ 64)) = true
  rw [Bool.and_eq_true]
  refine ⟨?_, rfl⟩
  show z.cps.all _ = true
  rw [← Array.all_toList]
  rw [List.all_eq_true] at h ⊢
  intro c hc
  have := of_decide_eq_true (h c hc)
  exact decide_eq_true (by omega)
theorem eq_str {x y : Str} (hx : okT x = true) (hy : okT y = true) : dEq (.str x) (.str y) = some (.bl (x == y)) := by
  unfold dEq eqOk
  rw [show toP (.str x) = .str x from rfl, show toP (.str y) = .str y from rfl, str_shaped hx, str_shaped hy]
  rfl
theorem ne_str {x y : Str} (hx : okT x = true) (hy : okT y = true) : dNe (.str x) (.str y) = some (.bl (!(x == y))) := by
  unfold dNe eqOk
  rw [show toP (.str x) = .str x from rfl, show toP (.str y) = .str y from rfl, str_shaped hx, str_shaped hy]
  rfl
theorem len_str {z : Str} (h : z.length ≤ sizeLine) : dLen1 (.str z) = some (.int z.length) := if_pos h
end
end Dx
set_option Elab.async false
set_option linter.all false
set_option maxRecDepth 100000
set_option maxHeartbeats 4000000
namespace P57
open PySem PySem.Spec PyProof.Rows L2 Dx
def isInt : D → Bool
  | .int _ => true
  | _ => false
theorem l_is_integer (d : D) : L_is_integer_1 [d] = some (.bl (isInt d)) := by
  cases d <;> rfl
def isCount : D → Bool
  | .int i => decide (0 ≤ i)
  | _ => false
theorem l_is_count (d : D) : L_is_count_1 [d] = some (.bl (isCount d)) := by
  have h := l_is_integer d
  cases d <;> simp [L_is_count_1, gOf, gs_is_count, den0, gsCons, gsRet, gAndV, gCal, Dx.gCons, Dx.gNil, gV, h, isInt, isCount, gB, dGe, dLe, gC]
theorem l_is_number (d : D) : L__law_is_number_1 [d] = some (.bl (isCount d)) := by
  cases d <;> rfl
/-! ### texts -/
def okS (z : Str) : Prop := z.length ≤ 500 ∧ ∀ c ∈ z.cps.toList, c < 128
theorem okS.fit {z : Str} (h : okS z) : z.length ≤ sizeLine := Nat.le_trans h.1 (by decide)
theorem chs_len (z : Str) : (chs z).length = z.length := by simp [chs, Str.length]
/-- lo <= x <= hi of signs -/
def rng2 (lo hi c : Nat) : Bool := decide (lo ≤ c) && decide (c ≤ hi)
theorem dLe_one (a b : Nat) : dLe (.str ⟨#[a]⟩) (.str ⟨#[b]⟩) = some (.bl (decide (a ≤ b))) := by
  have e : decide (([b] : List Nat) < [a]) = decide (b < a) := by
    congr 1
    simp [List.cons_lt_cons_iff]
  show some (D.bl (!decide (([b] : List Nat) < [a]))) = _
  rw [e]
  by_cases h : a ≤ b
  · rw [decide_eq_true h, decide_eq_false (by omega)]; rfl
  · rw [decide_eq_false h, decide_eq_true (by omega)]; rfl
theorem turn_rng {d : D} (lo hi c : Nat) (acc : List D) (h : acc.length < sizeLine) :
    turnD (gNm 1) gYes (gCh dLe dLe (gC (.str ⟨#[lo]⟩)) (gV 1) (gC (.str ⟨#[hi]⟩))) [1] (.str ⟨#[c]⟩) ([.pl d, .no], acc) = some ([.pl d, .no], acc ++ [.bl (rng2 lo hi c)]) := by
  have e : gCh dLe dLe (gC (.str ⟨#[lo]⟩)) (gV 1) (gC (.str ⟨#[hi]⟩)) [.pl d, .pl (.str ⟨#[c]⟩)] = some (.bl (rng2 lo hi c), [.pl d, .pl (.str ⟨#[c]⟩)]) := by
    unfold gCh rng2
    show (match dLe (.str ⟨#[lo]⟩) (.str ⟨#[c]⟩) with
      | some (.bl true) => (match dLe (.str ⟨#[c]⟩) (.str ⟨#[hi]⟩) with
        | some w => some (w, [Ent.pl d, Ent.pl (.str ⟨#[c]⟩)])
        | none => none)
      | some (.bl false) => some (.bl false, [Ent.pl d, Ent.pl (.str ⟨#[c]⟩)])
      | _ => none) = _
    rw [dLe_one, dLe_one]
    by_cases h1 : lo ≤ c
    · rw [decide_eq_true h1]; rfl
    · rw [decide_eq_false h1]; rfl
  show (match gCh dLe dLe (gC (.str ⟨#[lo]⟩)) (gV 1) (gC (.str ⟨#[hi]⟩)) [.pl d, .pl (.str ⟨#[c]⟩)] with
      | some (d, δ3) => if acc.length < sizeLine then some (wipeD δ3 [1], acc ++ [d]) else none
      | none => none) = _
  rw [e]
  exact if_pos h
theorem fm_chs (z : Str) (f : Nat → D) : (chs z).filterMap (fun x => match x with
    | .str y => (match y.cps.toList with
      | [c] => some (f c)
      | _ => none)
    | _ => none) = z.cps.toList.map f := by
  unfold chs
  rw [List.filterMap_map]
  induction z.cps.toList with
  | nil => rfl
  | cons c r ih => rw [List.filterMap_cons]; exact congrArg (f c :: ·) ih
/-- [lo <= x <= hi for x in z] -/
theorem lc_rng {z : Str} (hz : z.length ≤ sizeLine) (lo hi : Nat) :
    gLc (gIt (gV 0)) (gNm 1) gYes (gCh dLe dLe (gC (.str ⟨#[lo]⟩)) (gV 1) (gC (.str ⟨#[hi]⟩))) [1] [.pl (.str z), .no] = some (.lst (z.cps.toList.map fun c => .bl (rng2 lo hi c)), [.pl (.str z), .no]) := by
  rw [← fm_chs z fun c => .bl (rng2 lo hi c)]
  refine gLc_all (δ1 := [.pl (.str z), .no]) (xs := chs z) _ rfl rfl (fun x hx acc ha => ?_) (by rw [chs_len]; exact hz) rfl
  obtain ⟨c, _, rfl⟩ := List.mem_map.mp hx
  exact turn_rng lo hi c acc ha
theorem bools_rng (l : List Nat) (p : Nat → Bool) : bools? (l.map fun c => D.bl (p c)) = some (l.map p) := by
  induction l with
  | nil => rfl
  | cons c r ih => simp only [List.map_cons, bools?, ih, Option.map_some]
theorem all_rng {z : Str} (hz : z.length ≤ sizeLine) (lo hi : Nat) : gCall (on1 dAll) (Dx.gCons (gLc (gIt (gV 0)) (gNm 1) gYes (gCh dLe dLe (gC (.str ⟨#[lo]⟩)) (gV 1) (gC (.str ⟨#[hi]⟩))) [1]) Dx.gNil) [.pl (.str z), .no] =
    some (.bl (z.cps.toList.all (rng2 lo hi)), [.pl (.str z), .no]) := by
  unfold gCall Dx.gCons
  rw [lc_rng hz]
  show (match (bools? (z.cps.toList.map fun c => .bl (rng2 lo hi c))).map (fun ns => D.bl (ns.all id)) with
    | some d => some (d, [Ent.pl (D.str z), Ent.no])
    | none => none) = _
  rw [bools_rng]
  show some (D.bl ((z.cps.toList.map (rng2 lo hi)).all id), _) = _
  rw [List.all_map]
  rfl
theorem okS.t {z : Str} (h : okS z) : okT z = true := List.all_eq_true.mpr fun c hc => decide_eq_true (h.2 c hc)
def isCellS (z : Str) : Bool := (decide (1 ≤ z.length) && decide (z.length ≤ 8)) && z.cps.toList.all (rng2 97 122)
def isCell : D → Bool
  | .str z => isCellS z
  | _ => false
theorem gC_a : ("a" : Str) = ⟨#[97]⟩ := by decide +kernel
theorem gC_z : ("z" : Str) = ⟨#[122]⟩ := by decide +kernel
theorem gC_sp : (" " : Str) = ⟨#[32]⟩ := by decide +kernel
theorem gC_ti : ("~" : Str) = ⟨#[126]⟩ := by decide +kernel
theorem l_is_cell (d : D) (h : ∀ z, d = .str z → okS z) : L_is_cell_1 [d] = some (.bl (isCell d)) := by
  cases d with
  | str z =>
    have hz := (h z rfl).fit
    have e := all_rng (z := z) hz 97 122
    rw [← gC_a, ← gC_z] at e
    have e2 := len_str hz
    show L_is_cell_1 _ = some (.bl (isCellS z))
    unfold isCellS
    refine of_rt (δ' := [.pl (.str z), .no]) ?_
    unfold gs_is_cell
    by_cases h1 : 1 ≤ z.length
    · have q1 : dLe (.int 1) (.int z.length) = some (.bl true) := congrArg (fun b => some (D.bl b)) (decide_eq_true (show (1 : Int) ≤ (z.length : Int) by omega))
      rw [decide_eq_true h1]
      by_cases h2 : z.length ≤ 8
      · have q2 : dLe (.int z.length) (.int 8) = some (.bl true) := congrArg (fun b => some (D.bl b)) (decide_eq_true (show (z.length : Int) ≤ 8 by omega))
        rw [decide_eq_true h2]
        repeat' (first
          | (exact e)
          | (exact e2)
          | (exact q1)
          | (exact q2)
          | (with_reducible exact x_c)
          | (with_reducible refine' x_v ?_)
          | (with_reducible exact x_nil)
          | (with_reducible exact x_no)
          | (with_reducible exact x_sn)
          | (with_reducible exact w_nm)
          | (with_reducible exact w_tgnil)
          | (with_reducible exact w_fornil)
          | (with_reducible refine' x_b ?_ ?_ ?_)
          | (with_reducible refine' x_cons ?_ ?_)
          | (with_reducible refine' x_star ?_ ?_ ?_)
          | (with_reducible refine' x_call ?_ ?_)
          | (with_reducible refine' x_cal ?_ ?_ ?_)
          | (with_reducible refine' x_isi ?_)
          | (with_reducible refine' x_tst ?_)
          | (with_reducible refine' w_tru ?_ ?_)
          | (with_reducible refine' x_not ?_)
          | (with_reducible refine' w_andT ?_ ?_)
          | (with_reducible refine' w_orT ?_ ?_)
          | (with_reducible refine' w_andV ?_ ?_)
          | (with_reducible refine' w_orV ?_ ?_)
          | (with_reducible refine' x_notV ?_)
          | (with_reducible refine' x_neg ?_)
          | (with_reducible refine' w_if ?_ ?_)
          | (with_reducible refine' w_ch ?_ ?_ ?_ ?_)
          | (with_reducible refine' x_tup ?_ ?_)
          | (with_reducible refine' x_lst ?_ ?_)
          | (with_reducible refine' x_dct1 ?_)
          | (with_reducible refine' x_ixN ?_ ?_ ?_ ?_)
          | (with_reducible refine' x_so ?_)
          | (with_reducible refine' x_sl ?_ ?_ ?_ ?_)
          | (with_reducible refine' x_it ?_ ?_)
          | (with_reducible refine' x_rg1 ?_ ?_)
          | (with_reducible refine' x_zip ?_ ?_ ?_)
          | (with_reducible refine' x_m0 ?_ ?_)
          | (with_reducible refine' x_m1 ?_ ?_ ?_)
          | (with_reducible refine' x_ma ?_ ?_ ?_)
          | (with_reducible refine' x_kget ?_ ?_)
          | (with_reducible refine' x_inR ?_ ?_)
          | (with_reducible refine' w_sc ?_ ?_)
          | (with_reducible refine' x_ret ?_)
          | (with_reducible refine' w_sif ?_ ?_)
          | (with_reducible refine' w_asg ?_ ?_)
          | (with_reducible refine' w_for ?_ ?_)
          | (with_reducible refine' w_forcons ?_ ?_ ?_)
          | (with_reducible refine' w_tgcons ?_ ?_)
          | (with_reducible refine' w_tgtup rfl ?_)
          | (with_reducible refine' x_calB ?_ ?_ ?_ ?_ ?_)
          | (with_reducible refine' x_par ?_)
          | (with_reducible refine' x_par3 ?_)
          | ((with_reducible refine' cond_t ?hb ?_); (case hb => exact rfl))
          | ((with_reducible refine' cond_t ?hb ?_); (case hb => exact e))
          | ((with_reducible refine' cond_t ?hb ?_); (case hb => exact e2))
          | ((with_reducible refine' cond_t ?hb ?_); (case hb => exact q1))
          | ((with_reducible refine' cond_t ?hb ?_); (case hb => exact q2))
          | ((with_reducible refine' cond_f ?hb ?_); (case hb => exact rfl))
          | ((with_reducible refine' cond_f ?hb ?_); (case hb => exact e))
          | ((with_reducible refine' cond_f ?hb ?_); (case hb => exact e2))
          | ((with_reducible refine' cond_f ?hb ?_); (case hb => exact q1))
          | ((with_reducible refine' cond_f ?hb ?_); (case hb => exact q2))
          | (with_reducible refine' Eq.trans nxt_nx ?_)
          | (with_reducible refine' Eq.trans nxt_rt ?_)
          | (with_reducible refine' Eq.trans nxl_nx ?_)
          | (with_reducible refine' Eq.trans nxl_rt ?_)
          | (exact sz_le rfl)
          | rfl)
      · have q2 : dLe (.int z.length) (.int 8) = some (.bl false) := congrArg (fun b => some (D.bl b)) (decide_eq_false (show ¬ (z.length : Int) ≤ 8 by omega))
        rw [decide_eq_false h2]
        repeat' (first
          | (exact e)
          | (exact e2)
          | (exact q1)
          | (exact q2)
          | (with_reducible exact x_c)
          | (with_reducible refine' x_v ?_)
          | (with_reducible exact x_nil)
          | (with_reducible exact x_no)
          | (with_reducible exact x_sn)
          | (with_reducible exact w_nm)
          | (with_reducible exact w_tgnil)
          | (with_reducible exact w_fornil)
          | (with_reducible refine' x_b ?_ ?_ ?_)
          | (with_reducible refine' x_cons ?_ ?_)
          | (with_reducible refine' x_star ?_ ?_ ?_)
          | (with_reducible refine' x_call ?_ ?_)
          | (with_reducible refine' x_cal ?_ ?_ ?_)
          | (with_reducible refine' x_isi ?_)
          | (with_reducible refine' x_tst ?_)
          | (with_reducible refine' w_tru ?_ ?_)
          | (with_reducible refine' x_not ?_)
          | (with_reducible refine' w_andT ?_ ?_)
          | (with_reducible refine' w_orT ?_ ?_)
          | (with_reducible refine' w_andV ?_ ?_)
          | (with_reducible refine' w_orV ?_ ?_)
          | (with_reducible refine' x_notV ?_)
          | (with_reducible refine' x_neg ?_)
          | (with_reducible refine' w_if ?_ ?_)
          | (with_reducible refine' w_ch ?_ ?_ ?_ ?_)
          | (with_reducible refine' x_tup ?_ ?_)
          | (with_reducible refine' x_lst ?_ ?_)
          | (with_reducible refine' x_dct1 ?_)
          | (with_reducible refine' x_ixN ?_ ?_ ?_ ?_)
          | (with_reducible refine' x_so ?_)
          | (with_reducible refine' x_sl ?_ ?_ ?_ ?_)
          | (with_reducible refine' x_it ?_ ?_)
          | (with_reducible refine' x_rg1 ?_ ?_)
          | (with_reducible refine' x_zip ?_ ?_ ?_)
          | (with_reducible refine' x_m0 ?_ ?_)
          | (with_reducible refine' x_m1 ?_ ?_ ?_)
          | (with_reducible refine' x_ma ?_ ?_ ?_)
          | (with_reducible refine' x_kget ?_ ?_)
          | (with_reducible refine' x_inR ?_ ?_)
          | (with_reducible refine' w_sc ?_ ?_)
          | (with_reducible refine' x_ret ?_)
          | (with_reducible refine' w_sif ?_ ?_)
          | (with_reducible refine' w_asg ?_ ?_)
          | (with_reducible refine' w_for ?_ ?_)
          | (with_reducible refine' w_forcons ?_ ?_ ?_)
          | (with_reducible refine' w_tgcons ?_ ?_)
          | (with_reducible refine' w_tgtup rfl ?_)
          | (with_reducible refine' x_calB ?_ ?_ ?_ ?_ ?_)
          | (with_reducible refine' x_par ?_)
          | (with_reducible refine' x_par3 ?_)
          | ((with_reducible refine' cond_t ?hb ?_); (case hb => exact rfl))
          | ((with_reducible refine' cond_t ?hb ?_); (case hb => exact e))
          | ((with_reducible refine' cond_t ?hb ?_); (case hb => exact e2))
          | ((with_reducible refine' cond_t ?hb ?_); (case hb => exact q1))
          | ((with_reducible refine' cond_t ?hb ?_); (case hb => exact q2))
          | ((with_reducible refine' cond_f ?hb ?_); (case hb => exact rfl))
          | ((with_reducible refine' cond_f ?hb ?_); (case hb => exact e))
          | ((with_reducible refine' cond_f ?hb ?_); (case hb => exact e2))
          | ((with_reducible refine' cond_f ?hb ?_); (case hb => exact q1))
          | ((with_reducible refine' cond_f ?hb ?_); (case hb => exact q2))
          | (with_reducible refine' Eq.trans nxt_nx ?_)
          | (with_reducible refine' Eq.trans nxt_rt ?_)
          | (with_reducible refine' Eq.trans nxl_nx ?_)
          | (with_reducible refine' Eq.trans nxl_rt ?_)
          | (exact sz_le rfl)
          | rfl)
    · have q1 : dLe (.int 1) (.int z.length) = some (.bl false) := congrArg (fun b => some (D.bl b)) (decide_eq_false (show ¬ (1 : Int) ≤ (z.length : Int) by omega))
      rw [decide_eq_false h1]
      repeat' (first
        | (exact e)
        | (exact e2)
        | (exact q1)
        | (with_reducible exact x_c)
        | (with_reducible refine' x_v ?_)
        | (with_reducible exact x_nil)
        | (with_reducible exact x_no)
        | (with_reducible exact x_sn)
        | (with_reducible exact w_nm)
        | (with_reducible exact w_tgnil)
        | (with_reducible exact w_fornil)
        | (with_reducible refine' x_b ?_ ?_ ?_)
        | (with_reducible refine' x_cons ?_ ?_)
        | (with_reducible refine' x_star ?_ ?_ ?_)
        | (with_reducible refine' x_call ?_ ?_)
        | (with_reducible refine' x_cal ?_ ?_ ?_)
        | (with_reducible refine' x_isi ?_)
        | (with_reducible refine' x_tst ?_)
        | (with_reducible refine' w_tru ?_ ?_)
        | (with_reducible refine' x_not ?_)
        | (with_reducible refine' w_andT ?_ ?_)
        | (with_reducible refine' w_orT ?_ ?_)
        | (with_reducible refine' w_andV ?_ ?_)
        | (with_reducible refine' w_orV ?_ ?_)
        | (with_reducible refine' x_notV ?_)
        | (with_reducible refine' x_neg ?_)
        | (with_reducible refine' w_if ?_ ?_)
        | (with_reducible refine' w_ch ?_ ?_ ?_ ?_)
        | (with_reducible refine' x_tup ?_ ?_)
        | (with_reducible refine' x_lst ?_ ?_)
        | (with_reducible refine' x_dct1 ?_)
        | (with_reducible refine' x_ixN ?_ ?_ ?_ ?_)
        | (with_reducible refine' x_so ?_)
        | (with_reducible refine' x_sl ?_ ?_ ?_ ?_)
        | (with_reducible refine' x_it ?_ ?_)
        | (with_reducible refine' x_rg1 ?_ ?_)
        | (with_reducible refine' x_zip ?_ ?_ ?_)
        | (with_reducible refine' x_m0 ?_ ?_)
        | (with_reducible refine' x_m1 ?_ ?_ ?_)
        | (with_reducible refine' x_ma ?_ ?_ ?_)
        | (with_reducible refine' x_kget ?_ ?_)
        | (with_reducible refine' x_inR ?_ ?_)
        | (with_reducible refine' w_sc ?_ ?_)
        | (with_reducible refine' x_ret ?_)
        | (with_reducible refine' w_sif ?_ ?_)
        | (with_reducible refine' w_asg ?_ ?_)
        | (with_reducible refine' w_for ?_ ?_)
        | (with_reducible refine' w_forcons ?_ ?_ ?_)
        | (with_reducible refine' w_tgcons ?_ ?_)
        | (with_reducible refine' w_tgtup rfl ?_)
        | (with_reducible refine' x_calB ?_ ?_ ?_ ?_ ?_)
        | (with_reducible refine' x_par ?_)
        | (with_reducible refine' x_par3 ?_)
        | ((with_reducible refine' cond_t ?hb ?_); (case hb => exact rfl))
        | ((with_reducible refine' cond_t ?hb ?_); (case hb => exact e))
        | ((with_reducible refine' cond_t ?hb ?_); (case hb => exact e2))
        | ((with_reducible refine' cond_t ?hb ?_); (case hb => exact q1))
        | ((with_reducible refine' cond_f ?hb ?_); (case hb => exact rfl))
        | ((with_reducible refine' cond_f ?hb ?_); (case hb => exact e))
        | ((with_reducible refine' cond_f ?hb ?_); (case hb => exact e2))
        | ((with_reducible refine' cond_f ?hb ?_); (case hb => exact q1))
        | (with_reducible refine' Eq.trans nxt_nx ?_)
        | (with_reducible refine' Eq.trans nxt_rt ?_)
        | (with_reducible refine' Eq.trans nxl_nx ?_)
        | (with_reducible refine' Eq.trans nxl_rt ?_)
        | (exact sz_le rfl)
        | rfl)
  | _ => rfl
end P57
set_option Elab.async false
set_option linter.all false
set_option maxRecDepth 100000
set_option maxHeartbeats 4000000
namespace P57
open PySem PySem.Spec PyProof.Rows L2 Dx
abbrev sg (c : Nat) : D := .str ⟨#[c]⟩
/-! comprehensions over the signs of a text -/
theorem lc_bl {δ : Den} {v : Nat} {z : Str} {ge : GE} (p : Nat → Bool) (hz : z.length ≤ sizeLine) (h0 : δ[0]? = some (.pl (.str z))) (hn : notOw δ [v] = true) (hw : wipeD δ [v] = δ) (hb : backD δ δ [v] = δ) (hs : ∀ x, wipeD (δ.set v x) [v] = δ)
    (hg : ∀ c ∈ z.cps.toList, ge (δ.set v (.pl (sg c))) = some (.bl (p c), δ.set v (.pl (sg c)))) : gLc (gIt (gV 0)) (gNm v) gYes ge [v] δ = some (.lst (z.cps.toList.map fun c => .bl (p c)), δ) := by
  rw [← fm_chs z fun c => .bl (p c)]
  refine gLc_all (δ1 := δ) (xs := chs z) _ (x_it (x_v h0) rfl) hn (fun x hx acc ha => ?_) (by rw [chs_len]; exact hz) (by rw [hw]; exact hb)
  obtain ⟨c, hc, rfl⟩ := List.mem_map.mp hx
  rw [hw]
  show (match ge (δ.set v (.pl (sg c))) with
      | some (d, δ3) => if acc.length < sizeLine then some (wipeD δ3 [v], acc ++ [d]) else none
      | none => none) = _
  rw [hg c hc]
  simp only [if_pos ha, hs]
theorem fm_flt (z : Str) (p : Nat → Bool) : (chs z).filterMap (fun x => match x with
    | .str y => (match y.cps.toList with
      | [c] => if p c = true then some (sg c) else none
      | _ => none)
    | _ => none) = (z.cps.toList.filter p).map sg := by
  unfold chs
  rw [List.filterMap_map]
  induction z.cps.toList with
  | nil => rfl
  | cons c r ih =>
    rw [List.filterMap_cons, List.filter_cons]
    rw [show (_ ∘ fun c => D.str ⟨#[c]⟩) c = (if p c = true then some (sg c) else none) from rfl]
    cases e : p c with
    | true => exact congrArg (sg c :: ·) ih
    | false => exact ih
theorem lc_fl {δ : Den} {v : Nat} {z : Str} {T : GT} (p : Nat → Bool) (hz : z.length ≤ sizeLine) (h0 : δ[0]? = some (.pl (.str z))) (hn : notOw δ [v] = true) (hw : wipeD δ [v] = δ) (hb : backD δ δ [v] = δ) (hs : ∀ x, wipeD (δ.set v x) [v] = δ) (hi : ∀ x, (δ.set v x)[v]? = some x)
    (hg : ∀ c ∈ z.cps.toList, T (δ.set v (.pl (sg c))) = some (p c, δ.set v (.pl (sg c)))) : gLc (gIt (gV 0)) (gNm v) T (gV v) [v] δ = some (.lst ((z.cps.toList.filter p).map sg), δ) := by
  rw [← fm_flt z p]
  refine gLc_all (δ1 := δ) (xs := chs z) _ (x_it (x_v h0) rfl) hn (fun x hx acc ha => ?_) (by rw [chs_len]; exact hz) (by rw [hw]; exact hb)
  obtain ⟨c, hc, rfl⟩ := List.mem_map.mp hx
  rw [hw]
  show (match T (δ.set v (.pl (sg c))) with
      | some (true, δ2) => (match gV v δ2 with
        | some (d, δ3) => if acc.length < sizeLine then some (wipeD δ3 [v], acc ++ [d]) else none
        | none => none)
      | some (false, δ2) => some (wipeD δ2 [v], acc)
      | none => none) = _
  rw [hg c hc]
  cases e : p c with
  | true =>
    simp only [x_v (hi (.pl (sg c))), if_pos ha, hs]
    simp [e]
  | false =>
    simp only [hs]
    simp [e]
theorem canLay_sgs : ∀ l : List Nat, (∀ c ∈ l, c < 128) → PyData.canLayAll0 (toPs (l.map sg)) = true ∧ PyData.depthAll (toPs (l.map sg)) = 0
  | [], _ => ⟨rfl, rfl⟩
  | c :: r, h => by
    obtain ⟨h1, h2⟩ := canLay_sgs r fun x hx => h x (List.mem_cons_of_mem _ hx)
    constructor
    · show (PyData.canLay0 (.str ⟨#[c]⟩) && PyData.canLayAll0 (toPs (r.map sg))) = true
      rw [h1, Bool.and_true]
      have := str_shaped (z := ⟨#[c]⟩) (by show ([c].all _) = true; simp; exact h c (List.mem_cons_self ..))
      exact (Bool.and_eq_true_iff.mp this).1
    · show max 0 (PyData.depthAll (toPs (r.map sg))) = 0
      rw [h2]; rfl
theorem noD_sgs : ∀ l : List Nat, noDcts (l.map sg) = true
  | [] => rfl
  | c :: r => by show (true && noDcts (r.map sg)) = true; rw [noD_sgs r]; rfl
theorem eqOk_sgs {l : List Nat} (h : ∀ c ∈ l, c < 128) : eqOk (.lst (l.map sg)) (.lst []) = true := by
  obtain ⟨h1, h2⟩ := canLay_sgs l h
  show (noDcts (l.map sg) && (true && ((PyData.canLayAll0 (toPs (l.map sg)) && decide (PyData.depthAll (toPs (l.map sg)) + 1 ≤ 64)) && true))) = true
  rw [noD_sgs, h1, h2]; rfl
theorem eqv_sgs (l : List Nat) : dEqB (.lst (l.map sg)) (.lst []) = l.isEmpty := by cases l <;> rfl
theorem eq_sgs {l : List Nat} (h : ∀ c ∈ l, c < 128) : dEq (.lst (l.map sg)) (.lst []) = some (.bl l.isEmpty) := by
  unfold dEq; rw [if_pos (eqOk_sgs h), eqv_sgs]
theorem ne_sgs {l : List Nat} (h : ∀ c ∈ l, c < 128) : dNe (.lst (l.map sg)) (.lst []) = some (.bl !l.isEmpty) := by
  unfold dNe; rw [if_pos (eqOk_sgs h), eqv_sgs]
theorem flt_empty (p : Nat → Bool) : ∀ l : List Nat, (l.filter fun c => !p c).isEmpty = l.all p
  | [] => rfl
  | c :: r => by
    rw [List.filter_cons, List.all_cons]
    cases e : p c with
    | true => simp [flt_empty p r]
    | false => simp
theorem all_bl {z : Str} (p : Nat → Bool) : on1 dAll [.lst (z.cps.toList.map fun c => .bl (p c))] = some (.bl (z.cps.toList.all p)) := by
  show (bools? (z.cps.toList.map fun c => .bl (p c))).map (fun ns => D.bl (ns.all id)) = _
  rw [bools_rng]
  show some (D.bl ((z.cps.toList.map p).all id)) = _
  rw [List.all_map]
  rfl
theorem g_rng {δ : Den} {v c : Nat} (lo hi : Nat) (h : δ[v]? = some (.pl (sg c))) : gCh dLe dLe (gC (sg lo)) (gV v) (gC (sg hi)) δ = some (.bl (rng2 lo hi c), δ) :=
  x_ch x_c (x_v h) (dLe_one lo c) (fun _ => x_c) (fun _ => dLe_one c hi)
/-! is_signs, is_text -/
def isTextS (z : Str) : Bool := decide (z.length ≤ 40) && z.cps.toList.all (rng2 32 126)
def isText : D → Bool
  | .str z => isTextS z
  | _ => false
theorem dGt_T {a b : Int} (h : b < a) : dGt (.int a) (.int b) = some (.bl true) := congrArg (fun b => some (D.bl b)) (decide_eq_true h)
theorem dGt_F {a b : Int} (h : ¬ b < a) : dGt (.int a) (.int b) = some (.bl false) := congrArg (fun b => some (D.bl b)) (decide_eq_false h)
theorem l_is_signs (d : D) (h : ∀ z, d = .str z → okS z) : L_is_signs_2 [d, .int 40] = some (.bl (isText d)) := by
  cases d with
  | str z =>
    have hz := (h z rfl).fit
    have e2 := len_str hz
    have e := lc_bl (δ := [.pl (.str z), .pl (.int 40), .no]) (v := 2) (rng2 32 126) hz rfl rfl rfl rfl (fun _ => rfl) (fun c hc => g_rng (v := 2) (c := c) 32 126 rfl)
    have e3 := all_bl (z := z) (rng2 32 126)
    rw [show sg 32 = .str " " from congrArg D.str gC_sp.symm, show sg 126 = .str "~" from congrArg D.str gC_ti.symm] at e
    show L_is_signs_2 _ = some (.bl (isTextS z))
    unfold isTextS
    refine of_rt (δ' := [.pl (.str z), .pl (.int 40), .no]) ?_
    unfold gs_is_signs
    by_cases h1 : z.length ≤ 40
    · have q1 := dGt_F (a := z.length) (b := 40) (by omega)
      rw [decide_eq_true h1]
      repeat' (first
        | (exact e)
        | (exact e3)
        | (exact e2)
        | (exact q1)
        | (with_reducible exact x_c)
        | (with_reducible refine' x_v ?_)
        | (with_reducible exact x_nil)
        | (with_reducible exact x_no)
        | (with_reducible exact x_sn)
        | (with_reducible exact w_nm)
        | (with_reducible exact w_tgnil)
        | (with_reducible exact w_fornil)
        | (with_reducible refine' x_b ?_ ?_ ?_)
        | (with_reducible refine' x_cons ?_ ?_)
        | (with_reducible refine' x_star ?_ ?_ ?_)
        | (with_reducible refine' x_call ?_ ?_)
        | (with_reducible refine' x_cal ?_ ?_ ?_)
        | (with_reducible refine' x_isi ?_)
        | (with_reducible refine' x_tst ?_)
        | (with_reducible refine' w_tru ?_ ?_)
        | (with_reducible refine' x_not ?_)
        | (with_reducible refine' w_andT ?_ ?_)
        | (with_reducible refine' w_orT ?_ ?_)
        | (with_reducible refine' w_andV ?_ ?_)
        | (with_reducible refine' w_orV ?_ ?_)
        | (with_reducible refine' x_notV ?_)
        | (with_reducible refine' x_neg ?_)
        | (with_reducible refine' w_if ?_ ?_)
        | (with_reducible refine' w_ch ?_ ?_ ?_ ?_)
        | (with_reducible refine' x_tup ?_ ?_)
        | (with_reducible refine' x_lst ?_ ?_)
        | (with_reducible refine' x_dct1 ?_)
        | (with_reducible refine' x_ixN ?_ ?_ ?_ ?_)
        | (with_reducible refine' x_so ?_)
        | (with_reducible refine' x_sl ?_ ?_ ?_ ?_)
        | (with_reducible refine' x_it ?_ ?_)
        | (with_reducible refine' x_rg1 ?_ ?_)
        | (with_reducible refine' x_zip ?_ ?_ ?_)
        | (with_reducible refine' x_m0 ?_ ?_)
        | (with_reducible refine' x_m1 ?_ ?_ ?_)
        | (with_reducible refine' x_ma ?_ ?_ ?_)
        | (with_reducible refine' x_kget ?_ ?_)
        | (with_reducible refine' x_inR ?_ ?_)
        | (with_reducible refine' w_sc ?_ ?_)
        | (with_reducible refine' x_ret ?_)
        | (with_reducible refine' w_sif ?_ ?_)
        | (with_reducible refine' w_asg ?_ ?_)
        | (with_reducible refine' w_for ?_ ?_)
        | (with_reducible refine' w_forcons ?_ ?_ ?_)
        | (with_reducible refine' w_tgcons ?_ ?_)
        | (with_reducible refine' w_tgtup rfl ?_)
        | (with_reducible refine' x_calB ?_ ?_ ?_ ?_ ?_)
        | (with_reducible refine' x_par ?_)
        | (with_reducible refine' x_par3 ?_)
        | ((with_reducible refine' cond_t ?hb ?_); (case hb => exact rfl))
        | ((with_reducible refine' cond_t ?hb ?_); (case hb => exact e))
        | ((with_reducible refine' cond_t ?hb ?_); (case hb => exact e3))
        | ((with_reducible refine' cond_t ?hb ?_); (case hb => exact e2))
        | ((with_reducible refine' cond_t ?hb ?_); (case hb => exact q1))
        | ((with_reducible refine' cond_f ?hb ?_); (case hb => exact rfl))
        | ((with_reducible refine' cond_f ?hb ?_); (case hb => exact e))
        | ((with_reducible refine' cond_f ?hb ?_); (case hb => exact e3))
        | ((with_reducible refine' cond_f ?hb ?_); (case hb => exact e2))
        | ((with_reducible refine' cond_f ?hb ?_); (case hb => exact q1))
        | (with_reducible refine' Eq.trans nxt_nx ?_)
        | (with_reducible refine' Eq.trans nxt_rt ?_)
        | (with_reducible refine' Eq.trans nxl_nx ?_)
        | (with_reducible refine' Eq.trans nxl_rt ?_)
        | (exact sz_le rfl)
        | rfl)
    · have q1 := dGt_T (a := z.length) (b := 40) (by omega)
      rw [decide_eq_false h1]
      repeat' (first
        | (exact e)
        | (exact e3)
        | (exact e2)
        | (exact q1)
        | (with_reducible exact x_c)
        | (with_reducible refine' x_v ?_)
        | (with_reducible exact x_nil)
        | (with_reducible exact x_no)
        | (with_reducible exact x_sn)
        | (with_reducible exact w_nm)
        | (with_reducible exact w_tgnil)
        | (with_reducible exact w_fornil)
        | (with_reducible refine' x_b ?_ ?_ ?_)
        | (with_reducible refine' x_cons ?_ ?_)
        | (with_reducible refine' x_star ?_ ?_ ?_)
        | (with_reducible refine' x_call ?_ ?_)
        | (with_reducible refine' x_cal ?_ ?_ ?_)
        | (with_reducible refine' x_isi ?_)
        | (with_reducible refine' x_tst ?_)
        | (with_reducible refine' w_tru ?_ ?_)
        | (with_reducible refine' x_not ?_)
        | (with_reducible refine' w_andT ?_ ?_)
        | (with_reducible refine' w_orT ?_ ?_)
        | (with_reducible refine' w_andV ?_ ?_)
        | (with_reducible refine' w_orV ?_ ?_)
        | (with_reducible refine' x_notV ?_)
        | (with_reducible refine' x_neg ?_)
        | (with_reducible refine' w_if ?_ ?_)
        | (with_reducible refine' w_ch ?_ ?_ ?_ ?_)
        | (with_reducible refine' x_tup ?_ ?_)
        | (with_reducible refine' x_lst ?_ ?_)
        | (with_reducible refine' x_dct1 ?_)
        | (with_reducible refine' x_ixN ?_ ?_ ?_ ?_)
        | (with_reducible refine' x_so ?_)
        | (with_reducible refine' x_sl ?_ ?_ ?_ ?_)
        | (with_reducible refine' x_it ?_ ?_)
        | (with_reducible refine' x_rg1 ?_ ?_)
        | (with_reducible refine' x_zip ?_ ?_ ?_)
        | (with_reducible refine' x_m0 ?_ ?_)
        | (with_reducible refine' x_m1 ?_ ?_ ?_)
        | (with_reducible refine' x_ma ?_ ?_ ?_)
        | (with_reducible refine' x_kget ?_ ?_)
        | (with_reducible refine' x_inR ?_ ?_)
        | (with_reducible refine' w_sc ?_ ?_)
        | (with_reducible refine' x_ret ?_)
        | (with_reducible refine' w_sif ?_ ?_)
        | (with_reducible refine' w_asg ?_ ?_)
        | (with_reducible refine' w_for ?_ ?_)
        | (with_reducible refine' w_forcons ?_ ?_ ?_)
        | (with_reducible refine' w_tgcons ?_ ?_)
        | (with_reducible refine' w_tgtup rfl ?_)
        | (with_reducible refine' x_calB ?_ ?_ ?_ ?_ ?_)
        | (with_reducible refine' x_par ?_)
        | (with_reducible refine' x_par3 ?_)
        | ((with_reducible refine' cond_t ?hb ?_); (case hb => exact rfl))
        | ((with_reducible refine' cond_t ?hb ?_); (case hb => exact e))
        | ((with_reducible refine' cond_t ?hb ?_); (case hb => exact e3))
        | ((with_reducible refine' cond_t ?hb ?_); (case hb => exact e2))
        | ((with_reducible refine' cond_t ?hb ?_); (case hb => exact q1))
        | ((with_reducible refine' cond_f ?hb ?_); (case hb => exact rfl))
        | ((with_reducible refine' cond_f ?hb ?_); (case hb => exact e))
        | ((with_reducible refine' cond_f ?hb ?_); (case hb => exact e3))
        | ((with_reducible refine' cond_f ?hb ?_); (case hb => exact e2))
        | ((with_reducible refine' cond_f ?hb ?_); (case hb => exact q1))
        | (with_reducible refine' Eq.trans nxt_nx ?_)
        | (with_reducible refine' Eq.trans nxt_rt ?_)
        | (with_reducible refine' Eq.trans nxl_nx ?_)
        | (with_reducible refine' Eq.trans nxl_rt ?_)
        | (exact sz_le rfl)
        | rfl)
  | _ => rfl
theorem l_is_text (d : D) (h : ∀ z, d = .str z → okS z) : L_is_text_1 [d] = some (.bl (isText d)) := by
  have e := l_is_signs d h
  refine of_rt (δ' := [.pl d]) ?_
  unfold gs_is_text
  repeat' (first
    | (exact e)
    | (with_reducible exact x_c)
    | (with_reducible refine' x_v ?_)
    | (with_reducible exact x_nil)
    | (with_reducible exact x_no)
    | (with_reducible exact x_sn)
    | (with_reducible exact w_nm)
    | (with_reducible exact w_tgnil)
    | (with_reducible exact w_fornil)
    | (with_reducible refine' x_b ?_ ?_ ?_)
    | (with_reducible refine' x_cons ?_ ?_)
    | (with_reducible refine' x_star ?_ ?_ ?_)
    | (with_reducible refine' x_call ?_ ?_)
    | (with_reducible refine' x_cal ?_ ?_ ?_)
    | (with_reducible refine' x_isi ?_)
    | (with_reducible refine' x_tst ?_)
    | (with_reducible refine' w_tru ?_ ?_)
    | (with_reducible refine' x_not ?_)
    | (with_reducible refine' w_andT ?_ ?_)
    | (with_reducible refine' w_orT ?_ ?_)
    | (with_reducible refine' w_andV ?_ ?_)
    | (with_reducible refine' w_orV ?_ ?_)
    | (with_reducible refine' x_notV ?_)
    | (with_reducible refine' x_neg ?_)
    | (with_reducible refine' w_if ?_ ?_)
    | (with_reducible refine' w_ch ?_ ?_ ?_ ?_)
    | (with_reducible refine' x_tup ?_ ?_)
    | (with_reducible refine' x_lst ?_ ?_)
    | (with_reducible refine' x_dct1 ?_)
    | (with_reducible refine' x_ixN ?_ ?_ ?_ ?_)
    | (with_reducible refine' x_so ?_)
    | (with_reducible refine' x_sl ?_ ?_ ?_ ?_)
    | (with_reducible refine' x_it ?_ ?_)
    | (with_reducible refine' x_rg1 ?_ ?_)
    | (with_reducible refine' x_zip ?_ ?_ ?_)
    | (with_reducible refine' x_m0 ?_ ?_)
    | (with_reducible refine' x_m1 ?_ ?_ ?_)
    | (with_reducible refine' x_ma ?_ ?_ ?_)
    | (with_reducible refine' x_kget ?_ ?_)
    | (with_reducible refine' x_inR ?_ ?_)
    | (with_reducible refine' w_sc ?_ ?_)
    | (with_reducible refine' x_ret ?_)
    | (with_reducible refine' w_sif ?_ ?_)
    | (with_reducible refine' w_asg ?_ ?_)
    | (with_reducible refine' w_for ?_ ?_)
    | (with_reducible refine' w_forcons ?_ ?_ ?_)
    | (with_reducible refine' w_tgcons ?_ ?_)
    | (with_reducible refine' w_tgtup rfl ?_)
    | (with_reducible refine' x_calB ?_ ?_ ?_ ?_ ?_)
    | (with_reducible refine' x_par ?_)
    | (with_reducible refine' x_par3 ?_)
    | ((with_reducible refine' cond_t ?hb ?_); (case hb => exact rfl))
    | ((with_reducible refine' cond_t ?hb ?_); (case hb => exact e))
    | ((with_reducible refine' cond_f ?hb ?_); (case hb => exact rfl))
    | ((with_reducible refine' cond_f ?hb ?_); (case hb => exact e))
    | (with_reducible refine' Eq.trans nxt_nx ?_)
    | (with_reducible refine' Eq.trans nxt_rt ?_)
    | (with_reducible refine' Eq.trans nxl_nx ?_)
    | (with_reducible refine' Eq.trans nxl_rt ?_)
    | (exact sz_le rfl)
    | rfl)
/-! the law's own judges -/
theorem alpha_in : ∀ c, c < 128 → decide (c ∈ ("abcdefghijklmnopqrstuvwxyz" : Str).cps.toList) = rng2 97 122 c := by decide +kernel
theorem digs_in : ∀ c, c < 128 → decide (c ∈ ("0123456789" : Str).cps.toList) = rng2 48 57 c := by decide +kernel
theorem notIn_one (c : Nat) (z : Str) : dNotIn (sg c) (.str z) = some (.bl !decide (c ∈ z.cps.toList)) := rfl
theorem in_one (c : Nat) (z : Str) : dIn (sg c) (.str z) = some (.bl (decide (c ∈ z.cps.toList))) := rfl
theorem inr_T {neg : Bool} {a lo hi : Int} (h : lo ≤ a ∧ a < hi) : decide (lo ≤ a ∧ a < hi) = true := decide_eq_true h
theorem l_law_is_cell (d : D) (h : ∀ z, d = .str z → okS z) : L__law_is_cell_1 [d] = some (.bl (isCell d)) := by
  cases d with
  | str z =>
    have hz := (h z rfl).fit
    have e2 := len_str hz
    have e := lc_fl (δ := [.pl (.str z), .no]) (v := 1) (T := gTst (gB dNotIn (gV 1) (gC (.str "abcdefghijklmnopqrstuvwxyz")))) (fun c => !rng2 97 122 c) hz rfl rfl rfl rfl (fun _ => rfl) (fun _ => rfl) (fun c hc => x_tst (x_b (x_v rfl) x_c (by rw [notIn_one, alpha_in c ((h z rfl).2 c hc)])))
    have e3 := eq_sgs (l := z.cps.toList.filter fun c => !rng2 97 122 c) (fun c hc => (h z rfl).2 c (List.mem_filter.mp hc).1)
    rw [flt_empty] at e3
    show L__law_is_cell_1 _ = some (.bl (isCellS z))
    unfold isCellS
    refine of_rt (δ' := [.pl (.str z), .no]) ?_
    unfold gs__law_is_cell
    by_cases h1 : (1 : Int) ≤ z.length ∧ (z.length : Int) < 9
    · have q1 : decide ((1 : Int) ≤ z.length ∧ (z.length : Int) < 9) = true := decide_eq_true h1
      rw [decide_eq_true (show 1 ≤ z.length by omega), decide_eq_true (show z.length ≤ 8 by omega)]
      have q2 : (if true = true then !decide ((1 : Int) ≤ z.length ∧ (z.length : Int) < 9) else decide ((1 : Int) ≤ z.length ∧ (z.length : Int) < 9)) = false := by rw [q1]; rfl
      repeat' (first
        | (exact e)
        | (exact e3)
        | (exact e2)
        | (exact q2)
        | (with_reducible exact x_c)
        | (with_reducible refine' x_v ?_)
        | (with_reducible exact x_nil)
        | (with_reducible exact x_no)
        | (with_reducible exact x_sn)
        | (with_reducible exact w_nm)
        | (with_reducible exact w_tgnil)
        | (with_reducible exact w_fornil)
        | (with_reducible refine' x_b ?_ ?_ ?_)
        | (with_reducible refine' x_cons ?_ ?_)
        | (with_reducible refine' x_star ?_ ?_ ?_)
        | (with_reducible refine' x_call ?_ ?_)
        | (with_reducible refine' x_cal ?_ ?_ ?_)
        | (with_reducible refine' x_isi ?_)
        | (with_reducible refine' x_tst ?_)
        | (with_reducible refine' w_tru ?_ ?_)
        | (with_reducible refine' x_not ?_)
        | (with_reducible refine' w_andT ?_ ?_)
        | (with_reducible refine' w_orT ?_ ?_)
        | (with_reducible refine' w_andV ?_ ?_)
        | (with_reducible refine' w_orV ?_ ?_)
        | (with_reducible refine' x_notV ?_)
        | (with_reducible refine' x_neg ?_)
        | (with_reducible refine' w_if ?_ ?_)
        | (with_reducible refine' w_ch ?_ ?_ ?_ ?_)
        | (with_reducible refine' x_tup ?_ ?_)
        | (with_reducible refine' x_lst ?_ ?_)
        | (with_reducible refine' x_dct1 ?_)
        | (with_reducible refine' x_ixN ?_ ?_ ?_ ?_)
        | (with_reducible refine' x_so ?_)
        | (with_reducible refine' x_sl ?_ ?_ ?_ ?_)
        | (with_reducible refine' x_it ?_ ?_)
        | (with_reducible refine' x_rg1 ?_ ?_)
        | (with_reducible refine' x_zip ?_ ?_ ?_)
        | (with_reducible refine' x_m0 ?_ ?_)
        | (with_reducible refine' x_m1 ?_ ?_ ?_)
        | (with_reducible refine' x_ma ?_ ?_ ?_)
        | (with_reducible refine' x_kget ?_ ?_)
        | (with_reducible refine' x_inR ?_ ?_)
        | (with_reducible refine' w_sc ?_ ?_)
        | (with_reducible refine' x_ret ?_)
        | (with_reducible refine' w_sif ?_ ?_)
        | (with_reducible refine' w_asg ?_ ?_)
        | (with_reducible refine' w_for ?_ ?_)
        | (with_reducible refine' w_forcons ?_ ?_ ?_)
        | (with_reducible refine' w_tgcons ?_ ?_)
        | (with_reducible refine' w_tgtup rfl ?_)
        | (with_reducible refine' x_calB ?_ ?_ ?_ ?_ ?_)
        | (with_reducible refine' x_par ?_)
        | (with_reducible refine' x_par3 ?_)
        | ((with_reducible refine' cond_t ?hb ?_); (case hb => exact rfl))
        | ((with_reducible refine' cond_t ?hb ?_); (case hb => exact e))
        | ((with_reducible refine' cond_t ?hb ?_); (case hb => exact e3))
        | ((with_reducible refine' cond_t ?hb ?_); (case hb => exact e2))
        | ((with_reducible refine' cond_t ?hb ?_); (case hb => exact q2))
        | ((with_reducible refine' cond_f ?hb ?_); (case hb => exact rfl))
        | ((with_reducible refine' cond_f ?hb ?_); (case hb => exact e))
        | ((with_reducible refine' cond_f ?hb ?_); (case hb => exact e3))
        | ((with_reducible refine' cond_f ?hb ?_); (case hb => exact e2))
        | ((with_reducible refine' cond_f ?hb ?_); (case hb => exact q2))
        | (with_reducible refine' Eq.trans nxt_nx ?_)
        | (with_reducible refine' Eq.trans nxt_rt ?_)
        | (with_reducible refine' Eq.trans nxl_nx ?_)
        | (with_reducible refine' Eq.trans nxl_rt ?_)
        | (exact sz_le rfl)
        | rfl)
    · have q1 : decide ((1 : Int) ≤ z.length ∧ (z.length : Int) < 9) = false := decide_eq_false h1
      have q2 : (if true = true then !decide ((1 : Int) ≤ z.length ∧ (z.length : Int) < 9) else decide ((1 : Int) ≤ z.length ∧ (z.length : Int) < 9)) = true := by rw [q1]; rfl
      have q3 : (decide (1 ≤ z.length) && decide (z.length ≤ 8)) = false := by
        by_cases g : 1 ≤ z.length
        · rw [decide_eq_false (show ¬ z.length ≤ 8 by omega), Bool.and_false]
        · rw [decide_eq_false g, Bool.false_and]
      rw [q3]
      repeat' (first
        | (exact e)
        | (exact e3)
        | (exact e2)
        | (exact q2)
        | (with_reducible exact x_c)
        | (with_reducible refine' x_v ?_)
        | (with_reducible exact x_nil)
        | (with_reducible exact x_no)
        | (with_reducible exact x_sn)
        | (with_reducible exact w_nm)
        | (with_reducible exact w_tgnil)
        | (with_reducible exact w_fornil)
        | (with_reducible refine' x_b ?_ ?_ ?_)
        | (with_reducible refine' x_cons ?_ ?_)
        | (with_reducible refine' x_star ?_ ?_ ?_)
        | (with_reducible refine' x_call ?_ ?_)
        | (with_reducible refine' x_cal ?_ ?_ ?_)
        | (with_reducible refine' x_isi ?_)
        | (with_reducible refine' x_tst ?_)
        | (with_reducible refine' w_tru ?_ ?_)
        | (with_reducible refine' x_not ?_)
        | (with_reducible refine' w_andT ?_ ?_)
        | (with_reducible refine' w_orT ?_ ?_)
        | (with_reducible refine' w_andV ?_ ?_)
        | (with_reducible refine' w_orV ?_ ?_)
        | (with_reducible refine' x_notV ?_)
        | (with_reducible refine' x_neg ?_)
        | (with_reducible refine' w_if ?_ ?_)
        | (with_reducible refine' w_ch ?_ ?_ ?_ ?_)
        | (with_reducible refine' x_tup ?_ ?_)
        | (with_reducible refine' x_lst ?_ ?_)
        | (with_reducible refine' x_dct1 ?_)
        | (with_reducible refine' x_ixN ?_ ?_ ?_ ?_)
        | (with_reducible refine' x_so ?_)
        | (with_reducible refine' x_sl ?_ ?_ ?_ ?_)
        | (with_reducible refine' x_it ?_ ?_)
        | (with_reducible refine' x_rg1 ?_ ?_)
        | (with_reducible refine' x_zip ?_ ?_ ?_)
        | (with_reducible refine' x_m0 ?_ ?_)
        | (with_reducible refine' x_m1 ?_ ?_ ?_)
        | (with_reducible refine' x_ma ?_ ?_ ?_)
        | (with_reducible refine' x_kget ?_ ?_)
        | (with_reducible refine' x_inR ?_ ?_)
        | (with_reducible refine' w_sc ?_ ?_)
        | (with_reducible refine' x_ret ?_)
        | (with_reducible refine' w_sif ?_ ?_)
        | (with_reducible refine' w_asg ?_ ?_)
        | (with_reducible refine' w_for ?_ ?_)
        | (with_reducible refine' w_forcons ?_ ?_ ?_)
        | (with_reducible refine' w_tgcons ?_ ?_)
        | (with_reducible refine' w_tgtup rfl ?_)
        | (with_reducible refine' x_calB ?_ ?_ ?_ ?_ ?_)
        | (with_reducible refine' x_par ?_)
        | (with_reducible refine' x_par3 ?_)
        | ((with_reducible refine' cond_t ?hb ?_); (case hb => exact rfl))
        | ((with_reducible refine' cond_t ?hb ?_); (case hb => exact e))
        | ((with_reducible refine' cond_t ?hb ?_); (case hb => exact e3))
        | ((with_reducible refine' cond_t ?hb ?_); (case hb => exact e2))
        | ((with_reducible refine' cond_t ?hb ?_); (case hb => exact q2))
        | ((with_reducible refine' cond_f ?hb ?_); (case hb => exact rfl))
        | ((with_reducible refine' cond_f ?hb ?_); (case hb => exact e))
        | ((with_reducible refine' cond_f ?hb ?_); (case hb => exact e3))
        | ((with_reducible refine' cond_f ?hb ?_); (case hb => exact e2))
        | ((with_reducible refine' cond_f ?hb ?_); (case hb => exact q2))
        | (with_reducible refine' Eq.trans nxt_nx ?_)
        | (with_reducible refine' Eq.trans nxt_rt ?_)
        | (with_reducible refine' Eq.trans nxl_nx ?_)
        | (with_reducible refine' Eq.trans nxl_rt ?_)
        | (exact sz_le rfl)
        | rfl)
  | _ => rfl
theorem l_law_is_text (d : D) (h : ∀ z, d = .str z → okS z) : L__law_is_text_1 [d] = some (.bl (isText d)) := by
  cases d with
  | str z =>
    have hz := (h z rfl).fit
    have e2 := len_str hz
    have e := lc_fl (δ := [.pl (.str z), .no]) (v := 1) (T := gNotT (gTst (gCh dLe dLe (gC (sg 32)) (gV 1) (gC (sg 126))))) (fun c => !rng2 32 126 c) hz rfl rfl rfl rfl (fun _ => rfl) (fun _ => rfl) (fun c hc => x_not (x_tst (g_rng (v := 1) (c := c) 32 126 rfl)))
    have e3 := eq_sgs (l := z.cps.toList.filter fun c => !rng2 32 126 c) (fun c hc => (h z rfl).2 c (List.mem_filter.mp hc).1)
    rw [show sg 32 = .str " " from congrArg D.str gC_sp.symm, show sg 126 = .str "~" from congrArg D.str gC_ti.symm] at e
    rw [flt_empty] at e3
    show L__law_is_text_1 _ = some (.bl (isTextS z))
    unfold isTextS
    refine of_rt (δ' := [.pl (.str z), .no]) ?_
    unfold gs__law_is_text
    by_cases h1 : z.length ≤ 40
    · have q1 := dGt_F (a := z.length) (b := 40) (by omega)
      rw [decide_eq_true h1]
      repeat' (first
        | (exact e)
        | (exact e3)
        | (exact e2)
        | (exact q1)
        | (with_reducible exact x_c)
        | (with_reducible refine' x_v ?_)
        | (with_reducible exact x_nil)
        | (with_reducible exact x_no)
        | (with_reducible exact x_sn)
        | (with_reducible exact w_nm)
        | (with_reducible exact w_tgnil)
        | (with_reducible exact w_fornil)
        | (with_reducible refine' x_b ?_ ?_ ?_)
        | (with_reducible refine' x_cons ?_ ?_)
        | (with_reducible refine' x_star ?_ ?_ ?_)
        | (with_reducible refine' x_call ?_ ?_)
        | (with_reducible refine' x_cal ?_ ?_ ?_)
        | (with_reducible refine' x_isi ?_)
        | (with_reducible refine' x_tst ?_)
        | (with_reducible refine' w_tru ?_ ?_)
        | (with_reducible refine' x_not ?_)
        | (with_reducible refine' w_andT ?_ ?_)
        | (with_reducible refine' w_orT ?_ ?_)
        | (with_reducible refine' w_andV ?_ ?_)
        | (with_reducible refine' w_orV ?_ ?_)
        | (with_reducible refine' x_notV ?_)
        | (with_reducible refine' x_neg ?_)
        | (with_reducible refine' w_if ?_ ?_)
        | (with_reducible refine' w_ch ?_ ?_ ?_ ?_)
        | (with_reducible refine' x_tup ?_ ?_)
        | (with_reducible refine' x_lst ?_ ?_)
        | (with_reducible refine' x_dct1 ?_)
        | (with_reducible refine' x_ixN ?_ ?_ ?_ ?_)
        | (with_reducible refine' x_so ?_)
        | (with_reducible refine' x_sl ?_ ?_ ?_ ?_)
        | (with_reducible refine' x_it ?_ ?_)
        | (with_reducible refine' x_rg1 ?_ ?_)
        | (with_reducible refine' x_zip ?_ ?_ ?_)
        | (with_reducible refine' x_m0 ?_ ?_)
        | (with_reducible refine' x_m1 ?_ ?_ ?_)
        | (with_reducible refine' x_ma ?_ ?_ ?_)
        | (with_reducible refine' x_kget ?_ ?_)
        | (with_reducible refine' x_inR ?_ ?_)
        | (with_reducible refine' w_sc ?_ ?_)
        | (with_reducible refine' x_ret ?_)
        | (with_reducible refine' w_sif ?_ ?_)
        | (with_reducible refine' w_asg ?_ ?_)
        | (with_reducible refine' w_for ?_ ?_)
        | (with_reducible refine' w_forcons ?_ ?_ ?_)
        | (with_reducible refine' w_tgcons ?_ ?_)
        | (with_reducible refine' w_tgtup rfl ?_)
        | (with_reducible refine' x_calB ?_ ?_ ?_ ?_ ?_)
        | (with_reducible refine' x_par ?_)
        | (with_reducible refine' x_par3 ?_)
        | ((with_reducible refine' cond_t ?hb ?_); (case hb => exact rfl))
        | ((with_reducible refine' cond_t ?hb ?_); (case hb => exact e))
        | ((with_reducible refine' cond_t ?hb ?_); (case hb => exact e3))
        | ((with_reducible refine' cond_t ?hb ?_); (case hb => exact e2))
        | ((with_reducible refine' cond_t ?hb ?_); (case hb => exact q1))
        | ((with_reducible refine' cond_f ?hb ?_); (case hb => exact rfl))
        | ((with_reducible refine' cond_f ?hb ?_); (case hb => exact e))
        | ((with_reducible refine' cond_f ?hb ?_); (case hb => exact e3))
        | ((with_reducible refine' cond_f ?hb ?_); (case hb => exact e2))
        | ((with_reducible refine' cond_f ?hb ?_); (case hb => exact q1))
        | (with_reducible refine' Eq.trans nxt_nx ?_)
        | (with_reducible refine' Eq.trans nxt_rt ?_)
        | (with_reducible refine' Eq.trans nxl_nx ?_)
        | (with_reducible refine' Eq.trans nxl_rt ?_)
        | (exact sz_le rfl)
        | rfl)
    · have q1 := dGt_T (a := z.length) (b := 40) (by omega)
      rw [decide_eq_false h1]
      repeat' (first
        | (exact e)
        | (exact e3)
        | (exact e2)
        | (exact q1)
        | (with_reducible exact x_c)
        | (with_reducible refine' x_v ?_)
        | (with_reducible exact x_nil)
        | (with_reducible exact x_no)
        | (with_reducible exact x_sn)
        | (with_reducible exact w_nm)
        | (with_reducible exact w_tgnil)
        | (with_reducible exact w_fornil)
        | (with_reducible refine' x_b ?_ ?_ ?_)
        | (with_reducible refine' x_cons ?_ ?_)
        | (with_reducible refine' x_star ?_ ?_ ?_)
        | (with_reducible refine' x_call ?_ ?_)
        | (with_reducible refine' x_cal ?_ ?_ ?_)
        | (with_reducible refine' x_isi ?_)
        | (with_reducible refine' x_tst ?_)
        | (with_reducible refine' w_tru ?_ ?_)
        | (with_reducible refine' x_not ?_)
        | (with_reducible refine' w_andT ?_ ?_)
        | (with_reducible refine' w_orT ?_ ?_)
        | (with_reducible refine' w_andV ?_ ?_)
        | (with_reducible refine' w_orV ?_ ?_)
        | (with_reducible refine' x_notV ?_)
        | (with_reducible refine' x_neg ?_)
        | (with_reducible refine' w_if ?_ ?_)
        | (with_reducible refine' w_ch ?_ ?_ ?_ ?_)
        | (with_reducible refine' x_tup ?_ ?_)
        | (with_reducible refine' x_lst ?_ ?_)
        | (with_reducible refine' x_dct1 ?_)
        | (with_reducible refine' x_ixN ?_ ?_ ?_ ?_)
        | (with_reducible refine' x_so ?_)
        | (with_reducible refine' x_sl ?_ ?_ ?_ ?_)
        | (with_reducible refine' x_it ?_ ?_)
        | (with_reducible refine' x_rg1 ?_ ?_)
        | (with_reducible refine' x_zip ?_ ?_ ?_)
        | (with_reducible refine' x_m0 ?_ ?_)
        | (with_reducible refine' x_m1 ?_ ?_ ?_)
        | (with_reducible refine' x_ma ?_ ?_ ?_)
        | (with_reducible refine' x_kget ?_ ?_)
        | (with_reducible refine' x_inR ?_ ?_)
        | (with_reducible refine' w_sc ?_ ?_)
        | (with_reducible refine' x_ret ?_)
        | (with_reducible refine' w_sif ?_ ?_)
        | (with_reducible refine' w_asg ?_ ?_)
        | (with_reducible refine' w_for ?_ ?_)
        | (with_reducible refine' w_forcons ?_ ?_ ?_)
        | (with_reducible refine' w_tgcons ?_ ?_)
        | (with_reducible refine' w_tgtup rfl ?_)
        | (with_reducible refine' x_calB ?_ ?_ ?_ ?_ ?_)
        | (with_reducible refine' x_par ?_)
        | (with_reducible refine' x_par3 ?_)
        | ((with_reducible refine' cond_t ?hb ?_); (case hb => exact rfl))
        | ((with_reducible refine' cond_t ?hb ?_); (case hb => exact e))
        | ((with_reducible refine' cond_t ?hb ?_); (case hb => exact e3))
        | ((with_reducible refine' cond_t ?hb ?_); (case hb => exact e2))
        | ((with_reducible refine' cond_t ?hb ?_); (case hb => exact q1))
        | ((with_reducible refine' cond_f ?hb ?_); (case hb => exact rfl))
        | ((with_reducible refine' cond_f ?hb ?_); (case hb => exact e))
        | ((with_reducible refine' cond_f ?hb ?_); (case hb => exact e3))
        | ((with_reducible refine' cond_f ?hb ?_); (case hb => exact e2))
        | ((with_reducible refine' cond_f ?hb ?_); (case hb => exact q1))
        | (with_reducible refine' Eq.trans nxt_nx ?_)
        | (with_reducible refine' Eq.trans nxt_rt ?_)
        | (with_reducible refine' Eq.trans nxl_nx ?_)
        | (with_reducible refine' Eq.trans nxl_rt ?_)
        | (exact sz_le rfl)
        | rfl)
  | _ => rfl
end P57
set_option Elab.async false
set_option linter.all false
set_option maxRecDepth 100000
set_option maxHeartbeats 4000000
namespace P57
open PySem PySem.Spec PyProof.Rows L2 Dx
/-! numbers in texts -/
def isDig (c : Nat) : Bool := rng2 48 57 c
def isNumL : List Nat → Bool
  | [] => false
  | c :: r => (c :: r).all (rng2 48 57) && (!(c == 48) || r.isEmpty)
theorem isNumL_cons (c : Nat) (r : List Nat) : isNumL (c :: r) = ((c :: r).all (rng2 48 57) && (!(c == 48) || r.isEmpty)) := rfl
def numD (z : Str) : D := if isNumL z.cps.toList = true then .int (NumText.digitsVal z.cps.toList : Nat) else .non
theorem rng2_iff {lo hi c : Nat} : rng2 lo hi c = true ↔ lo ≤ c ∧ c ≤ hi := by
  unfold rng2
  rw [Bool.and_eq_true, decide_eq_true_iff, decide_eq_true_iff]
theorem allDig {l : List Nat} (h : l.all (rng2 48 57) = true) : NumText.AllDigits l := fun c hc => rng2_iff.mp (List.all_eq_true.mp h c hc)
theorem dInt_digs {z : Str} (hz : okS z) (h : z.cps.toList.all (rng2 48 57) = true) (hn : z.cps.toList ≠ []) : dInt (.str z) = some (.int (NumText.digitsVal z.cps.toList : Nat)) := by
  show (if z.length ≤ 640 then (PySem.intText? z).map D.int else none) = _
  rw [if_pos (Nat.le_trans hz.1 (by decide)), intText_digits (allDig h) hn (Nat.le_trans hz.1 (by decide))]
  rfl
theorem str_of_nil {z : Str} (h : z.cps.toList = []) : z = ("" : Str) := by
  rw [← mkS_toList z, h]; rfl
theorem len_nil {z : Str} : z.length = z.cps.toList.length := by simp [Str.length]
theorem dIx_head {z : Str} {c : Nat} {r : List Nat} (hz : z.length ≤ sizeLine) (h : z.cps.toList = c :: r) : dIx (.str z) (.int 0) = some (sg c) := by
  show (if z.length ≤ sizeLine then (atI z.cps.toList 0).map fun c => D.str ⟨#[c]⟩ else none) = _
  rw [if_pos hz, h, show atI (c :: r) 0 = some c from atI_nat (j := 0) rfl]
  rfl
theorem zero_cps : ("0" : Str) = ⟨#[48]⟩ := by decide +kernel
theorem beq_mk {x y : Str} : (x == y) = decide (x.cps.toList = y.cps.toList) := by
  by_cases h : x = y
  · subst h; simp
  · rw [beq_eq_false_iff_ne.mpr h]
    symm
    apply decide_eq_false
    intro e
    apply h
    rw [← mkS_toList x, e]; rfl
theorem empty_not {z : Str} {c : Nat} {r : List Nat} (h : z.cps.toList = c :: r) : (z == ("" : Str)) = false := by
  rw [beq_mk, h]; rfl
theorem head_is {c : Nat} : ((⟨#[c]⟩ : Str) == ("0" : Str)) = (c == 48) := by
  rw [beq_mk, zero_cps]
  show decide ([c] = [48]) = (c == 48)
  by_cases h : c = 48
  · subst h; rfl
  · rw [decide_eq_false (by simpa using h)]; simp [h]
theorem zero_is {z : Str} {c : Nat} {r : List Nat} (h : z.cps.toList = c :: r) : (z == ("0" : Str)) = (c == 48 && r.isEmpty) := by
  rw [beq_mk, zero_cps, h]
  show decide (c :: r = [48]) = _
  by_cases g : c = 48
  · subst g
    cases r with
    | nil => rfl
    | cons a b => rfl
  · rw [decide_eq_false (by simp [g])]; simp [g]
theorem okT_sg {c : Nat} (h : c < 128) : okT ⟨#[c]⟩ = true := by
  show ([c].all _) = true
  simp [h]
theorem l_count_in {z : Str} (h : okS z) : L_count_in_1 [.str z] = some (numD z) := by
  have hz := h.fit
  have e := lc_bl (δ := [.pl (.str z), .no]) (v := 1) (ge := gB dIn (gV 1) (gC (.str "0123456789"))) (rng2 48 57) hz rfl rfl rfl rfl (fun _ => rfl) (fun c hc => x_b (x_v rfl) x_c (by rw [in_one, digs_in c (h.2 c hc)]))
  have e3 := all_bl (z := z) (rng2 48 57)
  have e1 := eq_str (x := z) (y := "") h.t (by decide +kernel)
  have e5 := eq_str (x := z) (y := "0") h.t (by decide +kernel)
  refine of_rt (δ' := [.pl (.str z), .no]) ?_
  unfold gs_count_in numD
  cases hl : z.cps.toList with
  | nil =>
    have e1' : dEq (.str z) (.str "") = some (.bl true) := by rw [e1, beq_mk, hl]; rfl
    repeat' (first
      | (exact e1')
      | (with_reducible exact x_c)
      | (with_reducible refine' x_v ?_)
      | (with_reducible exact x_nil)
      | (with_reducible exact x_no)
      | (with_reducible exact x_sn)
      | (with_reducible exact w_nm)
      | (with_reducible exact w_tgnil)
      | (with_reducible exact w_fornil)
      | (with_reducible refine' x_b ?_ ?_ ?_)
      | (with_reducible refine' x_cons ?_ ?_)
      | (with_reducible refine' x_star ?_ ?_ ?_)
      | (with_reducible refine' x_call ?_ ?_)
      | (with_reducible refine' x_cal ?_ ?_ ?_)
      | (with_reducible refine' x_isi ?_)
      | (with_reducible refine' x_tst ?_)
      | (with_reducible refine' w_tru ?_ ?_)
      | (with_reducible refine' x_not ?_)
      | (with_reducible refine' w_andT ?_ ?_)
      | (with_reducible refine' w_orT ?_ ?_)
      | (with_reducible refine' w_andV ?_ ?_)
      | (with_reducible refine' w_orV ?_ ?_)
      | (with_reducible refine' x_notV ?_)
      | (with_reducible refine' x_neg ?_)
      | (with_reducible refine' w_if ?_ ?_)
      | (with_reducible refine' w_ch ?_ ?_ ?_ ?_)
      | (with_reducible refine' x_tup ?_ ?_)
      | (with_reducible refine' x_lst ?_ ?_)
      | (with_reducible refine' x_dct1 ?_)
      | (with_reducible refine' x_ixN ?_ ?_ ?_ ?_)
      | (with_reducible refine' x_so ?_)
      | (with_reducible refine' x_sl ?_ ?_ ?_ ?_)
      | (with_reducible refine' x_it ?_ ?_)
      | (with_reducible refine' x_rg1 ?_ ?_)
      | (with_reducible refine' x_zip ?_ ?_ ?_)
      | (with_reducible refine' x_m0 ?_ ?_)
      | (with_reducible refine' x_m1 ?_ ?_ ?_)
      | (with_reducible refine' x_ma ?_ ?_ ?_)
      | (with_reducible refine' x_kget ?_ ?_)
      | (with_reducible refine' x_inR ?_ ?_)
      | (with_reducible refine' w_sc ?_ ?_)
      | (with_reducible refine' x_ret ?_)
      | (with_reducible refine' w_sif ?_ ?_)
      | (with_reducible refine' w_asg ?_ ?_)
      | (with_reducible refine' w_for ?_ ?_)
      | (with_reducible refine' w_forcons ?_ ?_ ?_)
      | (with_reducible refine' w_tgcons ?_ ?_)
      | (with_reducible refine' w_tgtup rfl ?_)
      | (with_reducible refine' x_calB ?_ ?_ ?_ ?_ ?_)
      | (with_reducible refine' x_par ?_)
      | (with_reducible refine' x_par3 ?_)
      | ((with_reducible refine' cond_t ?hb ?_); (case hb => exact rfl))
      | ((with_reducible refine' cond_t ?hb ?_); (case hb => exact e1'))
      | ((with_reducible refine' cond_f ?hb ?_); (case hb => exact rfl))
      | ((with_reducible refine' cond_f ?hb ?_); (case hb => exact e1'))
      | (with_reducible refine' Eq.trans nxt_nx ?_)
      | (with_reducible refine' Eq.trans nxt_rt ?_)
      | (with_reducible refine' Eq.trans nxl_nx ?_)
      | (with_reducible refine' Eq.trans nxl_rt ?_)
      | (exact sz_le rfl)
      | rfl)
  | cons c r =>
    have e1' : dEq (.str z) (.str "") = some (.bl false) := by rw [e1, empty_not hl]
    by_cases ha : z.cps.toList.all (rng2 48 57) = true
    · rw [ha] at e3
      have hc : c < 128 := h.2 c (by rw [hl]; exact List.mem_cons_self ..)
      have e4 := dIx_head hz hl
      have e6 := ne_str (x := ⟨#[c]⟩) (y := "0") (okT_sg hc) (by decide +kernel)
      rw [head_is] at e6
      rw [zero_is hl] at e5
      have e7 := dInt_digs h ha (by rw [hl]; exact fun z => by cases z)
      rw [hl] at e7 ha
      rw [isNumL_cons, ha]
      by_cases g : c = 48
      · have g1 : (c == 48) = true := by simp [g]
        cases r with
        | nil =>
          rw [g1] at e5 e6 ⊢
          repeat' (first
            | (exact e1')
            | (exact e)
            | (exact e3)
            | (exact e5)
            | (exact e7)
            | (with_reducible exact x_c)
            | (with_reducible refine' x_v ?_)
            | (with_reducible exact x_nil)
            | (with_reducible exact x_no)
            | (with_reducible exact x_sn)
            | (with_reducible exact w_nm)
            | (with_reducible exact w_tgnil)
            | (with_reducible exact w_fornil)
            | (with_reducible refine' x_b ?_ ?_ ?_)
            | (with_reducible refine' x_cons ?_ ?_)
            | (with_reducible refine' x_star ?_ ?_ ?_)
            | (with_reducible refine' x_call ?_ ?_)
            | (with_reducible refine' x_cal ?_ ?_ ?_)
            | (with_reducible refine' x_isi ?_)
            | (with_reducible refine' x_tst ?_)
            | (with_reducible refine' w_tru ?_ ?_)
            | (with_reducible refine' x_not ?_)
            | (with_reducible refine' w_andT ?_ ?_)
            | (with_reducible refine' w_orT ?_ ?_)
            | (with_reducible refine' w_andV ?_ ?_)
            | (with_reducible refine' w_orV ?_ ?_)
            | (with_reducible refine' x_notV ?_)
            | (with_reducible refine' x_neg ?_)
            | (with_reducible refine' w_if ?_ ?_)
            | (with_reducible refine' w_ch ?_ ?_ ?_ ?_)
            | (with_reducible refine' x_tup ?_ ?_)
            | (with_reducible refine' x_lst ?_ ?_)
            | (with_reducible refine' x_dct1 ?_)
            | (with_reducible refine' x_ixN ?_ ?_ ?_ ?_)
            | (with_reducible refine' x_so ?_)
            | (with_reducible refine' x_sl ?_ ?_ ?_ ?_)
            | (with_reducible refine' x_it ?_ ?_)
            | (with_reducible refine' x_rg1 ?_ ?_)
            | (with_reducible refine' x_zip ?_ ?_ ?_)
            | (with_reducible refine' x_m0 ?_ ?_)
            | (with_reducible refine' x_m1 ?_ ?_ ?_)
            | (with_reducible refine' x_ma ?_ ?_ ?_)
            | (with_reducible refine' x_kget ?_ ?_)
            | (with_reducible refine' x_inR ?_ ?_)
            | (with_reducible refine' w_sc ?_ ?_)
            | (with_reducible refine' x_ret ?_)
            | (with_reducible refine' w_sif ?_ ?_)
            | (with_reducible refine' w_asg ?_ ?_)
            | (with_reducible refine' w_for ?_ ?_)
            | (with_reducible refine' w_forcons ?_ ?_ ?_)
            | (with_reducible refine' w_tgcons ?_ ?_)
            | (with_reducible refine' w_tgtup rfl ?_)
            | (with_reducible refine' x_calB ?_ ?_ ?_ ?_ ?_)
            | (with_reducible refine' x_par ?_)
            | (with_reducible refine' x_par3 ?_)
            | ((with_reducible refine' cond_t ?hb ?_); (case hb => exact rfl))
            | ((with_reducible refine' cond_t ?hb ?_); (case hb => exact e1'))
            | ((with_reducible refine' cond_t ?hb ?_); (case hb => exact e))
            | ((with_reducible refine' cond_t ?hb ?_); (case hb => exact e3))
            | ((with_reducible refine' cond_t ?hb ?_); (case hb => exact e5))
            | ((with_reducible refine' cond_t ?hb ?_); (case hb => exact e7))
            | ((with_reducible refine' cond_f ?hb ?_); (case hb => exact rfl))
            | ((with_reducible refine' cond_f ?hb ?_); (case hb => exact e1'))
            | ((with_reducible refine' cond_f ?hb ?_); (case hb => exact e))
            | ((with_reducible refine' cond_f ?hb ?_); (case hb => exact e3))
            | ((with_reducible refine' cond_f ?hb ?_); (case hb => exact e5))
            | ((with_reducible refine' cond_f ?hb ?_); (case hb => exact e7))
            | (with_reducible refine' Eq.trans nxt_nx ?_)
            | (with_reducible refine' Eq.trans nxt_rt ?_)
            | (with_reducible refine' Eq.trans nxl_nx ?_)
            | (with_reducible refine' Eq.trans nxl_rt ?_)
            | (exact sz_le rfl)
            | rfl)
        | cons a b =>
          rw [g1] at e5 e6 ⊢
          repeat' (first
            | (exact e1')
            | (exact e)
            | (exact e3)
            | (exact e5)
            | (exact e4)
            | (exact e6)
            | (exact e7)
            | (with_reducible exact x_c)
            | (with_reducible refine' x_v ?_)
            | (with_reducible exact x_nil)
            | (with_reducible exact x_no)
            | (with_reducible exact x_sn)
            | (with_reducible exact w_nm)
            | (with_reducible exact w_tgnil)
            | (with_reducible exact w_fornil)
            | (with_reducible refine' x_b ?_ ?_ ?_)
            | (with_reducible refine' x_cons ?_ ?_)
            | (with_reducible refine' x_star ?_ ?_ ?_)
            | (with_reducible refine' x_call ?_ ?_)
            | (with_reducible refine' x_cal ?_ ?_ ?_)
            | (with_reducible refine' x_isi ?_)
            | (with_reducible refine' x_tst ?_)
            | (with_reducible refine' w_tru ?_ ?_)
            | (with_reducible refine' x_not ?_)
            | (with_reducible refine' w_andT ?_ ?_)
            | (with_reducible refine' w_orT ?_ ?_)
            | (with_reducible refine' w_andV ?_ ?_)
            | (with_reducible refine' w_orV ?_ ?_)
            | (with_reducible refine' x_notV ?_)
            | (with_reducible refine' x_neg ?_)
            | (with_reducible refine' w_if ?_ ?_)
            | (with_reducible refine' w_ch ?_ ?_ ?_ ?_)
            | (with_reducible refine' x_tup ?_ ?_)
            | (with_reducible refine' x_lst ?_ ?_)
            | (with_reducible refine' x_dct1 ?_)
            | (with_reducible refine' x_ixN ?_ ?_ ?_ ?_)
            | (with_reducible refine' x_so ?_)
            | (with_reducible refine' x_sl ?_ ?_ ?_ ?_)
            | (with_reducible refine' x_it ?_ ?_)
            | (with_reducible refine' x_rg1 ?_ ?_)
            | (with_reducible refine' x_zip ?_ ?_ ?_)
            | (with_reducible refine' x_m0 ?_ ?_)
            | (with_reducible refine' x_m1 ?_ ?_ ?_)
            | (with_reducible refine' x_ma ?_ ?_ ?_)
            | (with_reducible refine' x_kget ?_ ?_)
            | (with_reducible refine' x_inR ?_ ?_)
            | (with_reducible refine' w_sc ?_ ?_)
            | (with_reducible refine' x_ret ?_)
            | (with_reducible refine' w_sif ?_ ?_)
            | (with_reducible refine' w_asg ?_ ?_)
            | (with_reducible refine' w_for ?_ ?_)
            | (with_reducible refine' w_forcons ?_ ?_ ?_)
            | (with_reducible refine' w_tgcons ?_ ?_)
            | (with_reducible refine' w_tgtup rfl ?_)
            | (with_reducible refine' x_calB ?_ ?_ ?_ ?_ ?_)
            | (with_reducible refine' x_par ?_)
            | (with_reducible refine' x_par3 ?_)
            | ((with_reducible refine' cond_t ?hb ?_); (case hb => exact rfl))
            | ((with_reducible refine' cond_t ?hb ?_); (case hb => exact e1'))
            | ((with_reducible refine' cond_t ?hb ?_); (case hb => exact e))
            | ((with_reducible refine' cond_t ?hb ?_); (case hb => exact e3))
            | ((with_reducible refine' cond_t ?hb ?_); (case hb => exact e5))
            | ((with_reducible refine' cond_t ?hb ?_); (case hb => exact e4))
            | ((with_reducible refine' cond_t ?hb ?_); (case hb => exact e6))
            | ((with_reducible refine' cond_t ?hb ?_); (case hb => exact e7))
            | ((with_reducible refine' cond_f ?hb ?_); (case hb => exact rfl))
            | ((with_reducible refine' cond_f ?hb ?_); (case hb => exact e1'))
            | ((with_reducible refine' cond_f ?hb ?_); (case hb => exact e))
            | ((with_reducible refine' cond_f ?hb ?_); (case hb => exact e3))
            | ((with_reducible refine' cond_f ?hb ?_); (case hb => exact e5))
            | ((with_reducible refine' cond_f ?hb ?_); (case hb => exact e4))
            | ((with_reducible refine' cond_f ?hb ?_); (case hb => exact e6))
            | ((with_reducible refine' cond_f ?hb ?_); (case hb => exact e7))
            | (with_reducible refine' Eq.trans nxt_nx ?_)
            | (with_reducible refine' Eq.trans nxt_rt ?_)
            | (with_reducible refine' Eq.trans nxl_nx ?_)
            | (with_reducible refine' Eq.trans nxl_rt ?_)
            | (exact sz_le rfl)
            | rfl)
      · have g1 : (c == 48) = false := by simp [g]
        rw [g1] at e5 e6 ⊢
        repeat' (first
          | (exact e1')
          | (exact e)
          | (exact e3)
          | (exact e5)
          | (exact e4)
          | (exact e6)
          | (exact e7)
          | (with_reducible exact x_c)
          | (with_reducible refine' x_v ?_)
          | (with_reducible exact x_nil)
          | (with_reducible exact x_no)
          | (with_reducible exact x_sn)
          | (with_reducible exact w_nm)
          | (with_reducible exact w_tgnil)
          | (with_reducible exact w_fornil)
          | (with_reducible refine' x_b ?_ ?_ ?_)
          | (with_reducible refine' x_cons ?_ ?_)
          | (with_reducible refine' x_star ?_ ?_ ?_)
          | (with_reducible refine' x_call ?_ ?_)
          | (with_reducible refine' x_cal ?_ ?_ ?_)
          | (with_reducible refine' x_isi ?_)
          | (with_reducible refine' x_tst ?_)
          | (with_reducible refine' w_tru ?_ ?_)
          | (with_reducible refine' x_not ?_)
          | (with_reducible refine' w_andT ?_ ?_)
          | (with_reducible refine' w_orT ?_ ?_)
          | (with_reducible refine' w_andV ?_ ?_)
          | (with_reducible refine' w_orV ?_ ?_)
          | (with_reducible refine' x_notV ?_)
          | (with_reducible refine' x_neg ?_)
          | (with_reducible refine' w_if ?_ ?_)
          | (with_reducible refine' w_ch ?_ ?_ ?_ ?_)
          | (with_reducible refine' x_tup ?_ ?_)
          | (with_reducible refine' x_lst ?_ ?_)
          | (with_reducible refine' x_dct1 ?_)
          | (with_reducible refine' x_ixN ?_ ?_ ?_ ?_)
          | (with_reducible refine' x_so ?_)
          | (with_reducible refine' x_sl ?_ ?_ ?_ ?_)
          | (with_reducible refine' x_it ?_ ?_)
          | (with_reducible refine' x_rg1 ?_ ?_)
          | (with_reducible refine' x_zip ?_ ?_ ?_)
          | (with_reducible refine' x_m0 ?_ ?_)
          | (with_reducible refine' x_m1 ?_ ?_ ?_)
          | (with_reducible refine' x_ma ?_ ?_ ?_)
          | (with_reducible refine' x_kget ?_ ?_)
          | (with_reducible refine' x_inR ?_ ?_)
          | (with_reducible refine' w_sc ?_ ?_)
          | (with_reducible refine' x_ret ?_)
          | (with_reducible refine' w_sif ?_ ?_)
          | (with_reducible refine' w_asg ?_ ?_)
          | (with_reducible refine' w_for ?_ ?_)
          | (with_reducible refine' w_forcons ?_ ?_ ?_)
          | (with_reducible refine' w_tgcons ?_ ?_)
          | (with_reducible refine' w_tgtup rfl ?_)
          | (with_reducible refine' x_calB ?_ ?_ ?_ ?_ ?_)
          | (with_reducible refine' x_par ?_)
          | (with_reducible refine' x_par3 ?_)
          | ((with_reducible refine' cond_t ?hb ?_); (case hb => exact rfl))
          | ((with_reducible refine' cond_t ?hb ?_); (case hb => exact e1'))
          | ((with_reducible refine' cond_t ?hb ?_); (case hb => exact e))
          | ((with_reducible refine' cond_t ?hb ?_); (case hb => exact e3))
          | ((with_reducible refine' cond_t ?hb ?_); (case hb => exact e5))
          | ((with_reducible refine' cond_t ?hb ?_); (case hb => exact e4))
          | ((with_reducible refine' cond_t ?hb ?_); (case hb => exact e6))
          | ((with_reducible refine' cond_t ?hb ?_); (case hb => exact e7))
          | ((with_reducible refine' cond_f ?hb ?_); (case hb => exact rfl))
          | ((with_reducible refine' cond_f ?hb ?_); (case hb => exact e1'))
          | ((with_reducible refine' cond_f ?hb ?_); (case hb => exact e))
          | ((with_reducible refine' cond_f ?hb ?_); (case hb => exact e3))
          | ((with_reducible refine' cond_f ?hb ?_); (case hb => exact e5))
          | ((with_reducible refine' cond_f ?hb ?_); (case hb => exact e4))
          | ((with_reducible refine' cond_f ?hb ?_); (case hb => exact e6))
          | ((with_reducible refine' cond_f ?hb ?_); (case hb => exact e7))
          | (with_reducible refine' Eq.trans nxt_nx ?_)
          | (with_reducible refine' Eq.trans nxt_rt ?_)
          | (with_reducible refine' Eq.trans nxl_nx ?_)
          | (with_reducible refine' Eq.trans nxl_rt ?_)
          | (exact sz_le rfl)
          | rfl)
    · have ha := eq_false_of_ne_true ha
      rw [ha] at e3
      rw [hl] at ha
      rw [isNumL_cons, ha]
      repeat' (first
        | (exact e1')
        | (exact e)
        | (exact e3)
        | (with_reducible exact x_c)
        | (with_reducible refine' x_v ?_)
        | (with_reducible exact x_nil)
        | (with_reducible exact x_no)
        | (with_reducible exact x_sn)
        | (with_reducible exact w_nm)
        | (with_reducible exact w_tgnil)
        | (with_reducible exact w_fornil)
        | (with_reducible refine' x_b ?_ ?_ ?_)
        | (with_reducible refine' x_cons ?_ ?_)
        | (with_reducible refine' x_star ?_ ?_ ?_)
        | (with_reducible refine' x_call ?_ ?_)
        | (with_reducible refine' x_cal ?_ ?_ ?_)
        | (with_reducible refine' x_isi ?_)
        | (with_reducible refine' x_tst ?_)
        | (with_reducible refine' w_tru ?_ ?_)
        | (with_reducible refine' x_not ?_)
        | (with_reducible refine' w_andT ?_ ?_)
        | (with_reducible refine' w_orT ?_ ?_)
        | (with_reducible refine' w_andV ?_ ?_)
        | (with_reducible refine' w_orV ?_ ?_)
        | (with_reducible refine' x_notV ?_)
        | (with_reducible refine' x_neg ?_)
        | (with_reducible refine' w_if ?_ ?_)
        | (with_reducible refine' w_ch ?_ ?_ ?_ ?_)
        | (with_reducible refine' x_tup ?_ ?_)
        | (with_reducible refine' x_lst ?_ ?_)
        | (with_reducible refine' x_dct1 ?_)
        | (with_reducible refine' x_ixN ?_ ?_ ?_ ?_)
        | (with_reducible refine' x_so ?_)
        | (with_reducible refine' x_sl ?_ ?_ ?_ ?_)
        | (with_reducible refine' x_it ?_ ?_)
        | (with_reducible refine' x_rg1 ?_ ?_)
        | (with_reducible refine' x_zip ?_ ?_ ?_)
        | (with_reducible refine' x_m0 ?_ ?_)
        | (with_reducible refine' x_m1 ?_ ?_ ?_)
        | (with_reducible refine' x_ma ?_ ?_ ?_)
        | (with_reducible refine' x_kget ?_ ?_)
        | (with_reducible refine' x_inR ?_ ?_)
        | (with_reducible refine' w_sc ?_ ?_)
        | (with_reducible refine' x_ret ?_)
        | (with_reducible refine' w_sif ?_ ?_)
        | (with_reducible refine' w_asg ?_ ?_)
        | (with_reducible refine' w_for ?_ ?_)
        | (with_reducible refine' w_forcons ?_ ?_ ?_)
        | (with_reducible refine' w_tgcons ?_ ?_)
        | (with_reducible refine' w_tgtup rfl ?_)
        | (with_reducible refine' x_calB ?_ ?_ ?_ ?_ ?_)
        | (with_reducible refine' x_par ?_)
        | (with_reducible refine' x_par3 ?_)
        | ((with_reducible refine' cond_t ?hb ?_); (case hb => exact rfl))
        | ((with_reducible refine' cond_t ?hb ?_); (case hb => exact e1'))
        | ((with_reducible refine' cond_t ?hb ?_); (case hb => exact e))
        | ((with_reducible refine' cond_t ?hb ?_); (case hb => exact e3))
        | ((with_reducible refine' cond_f ?hb ?_); (case hb => exact rfl))
        | ((with_reducible refine' cond_f ?hb ?_); (case hb => exact e1'))
        | ((with_reducible refine' cond_f ?hb ?_); (case hb => exact e))
        | ((with_reducible refine' cond_f ?hb ?_); (case hb => exact e3))
        | (with_reducible refine' Eq.trans nxt_nx ?_)
        | (with_reducible refine' Eq.trans nxt_rt ?_)
        | (with_reducible refine' Eq.trans nxl_nx ?_)
        | (with_reducible refine' Eq.trans nxl_rt ?_)
        | (exact sz_le rfl)
        | rfl)
theorem l_law_number {z : Str} (h : okS z) : L__law_number_1 [.str z] = some (numD z) := by
  have hz := h.fit
  have e := lc_fl (δ := [.pl (.str z), .no]) (v := 1) (T := gTst (gB dNotIn (gV 1) (gC (.str "0123456789")))) (fun c => !rng2 48 57 c) hz rfl rfl rfl rfl (fun _ => rfl) (fun _ => rfl) (fun c hc => x_tst (x_b (x_v rfl) x_c (by rw [notIn_one, digs_in c (h.2 c hc)])))
  have e3 := ne_sgs (l := z.cps.toList.filter fun c => !rng2 48 57 c) (fun c hc => h.2 c (List.mem_filter.mp hc).1)
  rw [flt_empty] at e3
  have e1 := eq_str (x := z) (y := "") h.t (by decide +kernel)
  have e5 := ne_str (x := z) (y := "0") h.t (by decide +kernel)
  refine of_rt (δ' := [.pl (.str z), .no]) ?_
  unfold gs__law_number numD
  cases hl : z.cps.toList with
  | nil =>
    have e1' : dEq (.str z) (.str "") = some (.bl true) := by rw [e1, beq_mk, hl]; rfl
    repeat' (first
      | (exact e1')
      | (with_reducible exact x_c)
      | (with_reducible refine' x_v ?_)
      | (with_reducible exact x_nil)
      | (with_reducible exact x_no)
      | (with_reducible exact x_sn)
      | (with_reducible exact w_nm)
      | (with_reducible exact w_tgnil)
      | (with_reducible exact w_fornil)
      | (with_reducible refine' x_b ?_ ?_ ?_)
      | (with_reducible refine' x_cons ?_ ?_)
      | (with_reducible refine' x_star ?_ ?_ ?_)
      | (with_reducible refine' x_call ?_ ?_)
      | (with_reducible refine' x_cal ?_ ?_ ?_)
      | (with_reducible refine' x_isi ?_)
      | (with_reducible refine' x_tst ?_)
      | (with_reducible refine' w_tru ?_ ?_)
      | (with_reducible refine' x_not ?_)
      | (with_reducible refine' w_andT ?_ ?_)
      | (with_reducible refine' w_orT ?_ ?_)
      | (with_reducible refine' w_andV ?_ ?_)
      | (with_reducible refine' w_orV ?_ ?_)
      | (with_reducible refine' x_notV ?_)
      | (with_reducible refine' x_neg ?_)
      | (with_reducible refine' w_if ?_ ?_)
      | (with_reducible refine' w_ch ?_ ?_ ?_ ?_)
      | (with_reducible refine' x_tup ?_ ?_)
      | (with_reducible refine' x_lst ?_ ?_)
      | (with_reducible refine' x_dct1 ?_)
      | (with_reducible refine' x_ixN ?_ ?_ ?_ ?_)
      | (with_reducible refine' x_so ?_)
      | (with_reducible refine' x_sl ?_ ?_ ?_ ?_)
      | (with_reducible refine' x_it ?_ ?_)
      | (with_reducible refine' x_rg1 ?_ ?_)
      | (with_reducible refine' x_zip ?_ ?_ ?_)
      | (with_reducible refine' x_m0 ?_ ?_)
      | (with_reducible refine' x_m1 ?_ ?_ ?_)
      | (with_reducible refine' x_ma ?_ ?_ ?_)
      | (with_reducible refine' x_kget ?_ ?_)
      | (with_reducible refine' x_inR ?_ ?_)
      | (with_reducible refine' w_sc ?_ ?_)
      | (with_reducible refine' x_ret ?_)
      | (with_reducible refine' w_sif ?_ ?_)
      | (with_reducible refine' w_asg ?_ ?_)
      | (with_reducible refine' w_for ?_ ?_)
      | (with_reducible refine' w_forcons ?_ ?_ ?_)
      | (with_reducible refine' w_tgcons ?_ ?_)
      | (with_reducible refine' w_tgtup rfl ?_)
      | (with_reducible refine' x_calB ?_ ?_ ?_ ?_ ?_)
      | (with_reducible refine' x_par ?_)
      | (with_reducible refine' x_par3 ?_)
      | ((with_reducible refine' cond_t ?hb ?_); (case hb => exact rfl))
      | ((with_reducible refine' cond_t ?hb ?_); (case hb => exact e1'))
      | ((with_reducible refine' cond_f ?hb ?_); (case hb => exact rfl))
      | ((with_reducible refine' cond_f ?hb ?_); (case hb => exact e1'))
      | (with_reducible refine' Eq.trans nxt_nx ?_)
      | (with_reducible refine' Eq.trans nxt_rt ?_)
      | (with_reducible refine' Eq.trans nxl_nx ?_)
      | (with_reducible refine' Eq.trans nxl_rt ?_)
      | (exact sz_le rfl)
      | rfl)
  | cons c r =>
    have e1' : dEq (.str z) (.str "") = some (.bl false) := by rw [e1, empty_not hl]
    by_cases ha : z.cps.toList.all (rng2 48 57) = true
    · rw [ha] at e3
      have hc : c < 128 := h.2 c (by rw [hl]; exact List.mem_cons_self ..)
      have e4 := dIx_head hz hl
      have e6 := eq_str (x := ⟨#[c]⟩) (y := "0") (okT_sg hc) (by decide +kernel)
      rw [head_is] at e6
      rw [zero_is hl] at e5
      have e7 := dInt_digs h ha (by rw [hl]; exact fun z => by cases z)
      rw [hl] at e7 ha
      rw [isNumL_cons, ha]
      by_cases g : c = 48
      · have g1 : (c == 48) = true := by simp [g]
        cases r with
        | nil =>
          rw [g1] at e5 e6 ⊢
          repeat' (first
            | (exact e1')
            | (exact e)
            | (exact e3)
            | (exact e5)
            | (exact e4)
            | (exact e6)
            | (exact e7)
            | (with_reducible exact x_c)
            | (with_reducible refine' x_v ?_)
            | (with_reducible exact x_nil)
            | (with_reducible exact x_no)
            | (with_reducible exact x_sn)
            | (with_reducible exact w_nm)
            | (with_reducible exact w_tgnil)
            | (with_reducible exact w_fornil)
            | (with_reducible refine' x_b ?_ ?_ ?_)
            | (with_reducible refine' x_cons ?_ ?_)
            | (with_reducible refine' x_star ?_ ?_ ?_)
            | (with_reducible refine' x_call ?_ ?_)
            | (with_reducible refine' x_cal ?_ ?_ ?_)
            | (with_reducible refine' x_isi ?_)
            | (with_reducible refine' x_tst ?_)
            | (with_reducible refine' w_tru ?_ ?_)
            | (with_reducible refine' x_not ?_)
            | (with_reducible refine' w_andT ?_ ?_)
            | (with_reducible refine' w_orT ?_ ?_)
            | (with_reducible refine' w_andV ?_ ?_)
            | (with_reducible refine' w_orV ?_ ?_)
            | (with_reducible refine' x_notV ?_)
            | (with_reducible refine' x_neg ?_)
            | (with_reducible refine' w_if ?_ ?_)
            | (with_reducible refine' w_ch ?_ ?_ ?_ ?_)
            | (with_reducible refine' x_tup ?_ ?_)
            | (with_reducible refine' x_lst ?_ ?_)
            | (with_reducible refine' x_dct1 ?_)
            | (with_reducible refine' x_ixN ?_ ?_ ?_ ?_)
            | (with_reducible refine' x_so ?_)
            | (with_reducible refine' x_sl ?_ ?_ ?_ ?_)
            | (with_reducible refine' x_it ?_ ?_)
            | (with_reducible refine' x_rg1 ?_ ?_)
            | (with_reducible refine' x_zip ?_ ?_ ?_)
            | (with_reducible refine' x_m0 ?_ ?_)
            | (with_reducible refine' x_m1 ?_ ?_ ?_)
            | (with_reducible refine' x_ma ?_ ?_ ?_)
            | (with_reducible refine' x_kget ?_ ?_)
            | (with_reducible refine' x_inR ?_ ?_)
            | (with_reducible refine' w_sc ?_ ?_)
            | (with_reducible refine' x_ret ?_)
            | (with_reducible refine' w_sif ?_ ?_)
            | (with_reducible refine' w_asg ?_ ?_)
            | (with_reducible refine' w_for ?_ ?_)
            | (with_reducible refine' w_forcons ?_ ?_ ?_)
            | (with_reducible refine' w_tgcons ?_ ?_)
            | (with_reducible refine' w_tgtup rfl ?_)
            | (with_reducible refine' x_calB ?_ ?_ ?_ ?_ ?_)
            | (with_reducible refine' x_par ?_)
            | (with_reducible refine' x_par3 ?_)
            | ((with_reducible refine' cond_t ?hb ?_); (case hb => exact rfl))
            | ((with_reducible refine' cond_t ?hb ?_); (case hb => exact e1'))
            | ((with_reducible refine' cond_t ?hb ?_); (case hb => exact e))
            | ((with_reducible refine' cond_t ?hb ?_); (case hb => exact e3))
            | ((with_reducible refine' cond_t ?hb ?_); (case hb => exact e5))
            | ((with_reducible refine' cond_t ?hb ?_); (case hb => exact e4))
            | ((with_reducible refine' cond_t ?hb ?_); (case hb => exact e6))
            | ((with_reducible refine' cond_t ?hb ?_); (case hb => exact e7))
            | ((with_reducible refine' cond_f ?hb ?_); (case hb => exact rfl))
            | ((with_reducible refine' cond_f ?hb ?_); (case hb => exact e1'))
            | ((with_reducible refine' cond_f ?hb ?_); (case hb => exact e))
            | ((with_reducible refine' cond_f ?hb ?_); (case hb => exact e3))
            | ((with_reducible refine' cond_f ?hb ?_); (case hb => exact e5))
            | ((with_reducible refine' cond_f ?hb ?_); (case hb => exact e4))
            | ((with_reducible refine' cond_f ?hb ?_); (case hb => exact e6))
            | ((with_reducible refine' cond_f ?hb ?_); (case hb => exact e7))
            | (with_reducible refine' Eq.trans nxt_nx ?_)
            | (with_reducible refine' Eq.trans nxt_rt ?_)
            | (with_reducible refine' Eq.trans nxl_nx ?_)
            | (with_reducible refine' Eq.trans nxl_rt ?_)
            | (exact sz_le rfl)
            | rfl)
        | cons a b =>
          rw [g1] at e5 e6 ⊢
          repeat' (first
            | (exact e1')
            | (exact e)
            | (exact e3)
            | (exact e5)
            | (exact e4)
            | (exact e6)
            | (exact e7)
            | (with_reducible exact x_c)
            | (with_reducible refine' x_v ?_)
            | (with_reducible exact x_nil)
            | (with_reducible exact x_no)
            | (with_reducible exact x_sn)
            | (with_reducible exact w_nm)
            | (with_reducible exact w_tgnil)
            | (with_reducible exact w_fornil)
            | (with_reducible refine' x_b ?_ ?_ ?_)
            | (with_reducible refine' x_cons ?_ ?_)
            | (with_reducible refine' x_star ?_ ?_ ?_)
            | (with_reducible refine' x_call ?_ ?_)
            | (with_reducible refine' x_cal ?_ ?_ ?_)
            | (with_reducible refine' x_isi ?_)
            | (with_reducible refine' x_tst ?_)
            | (with_reducible refine' w_tru ?_ ?_)
            | (with_reducible refine' x_not ?_)
            | (with_reducible refine' w_andT ?_ ?_)
            | (with_reducible refine' w_orT ?_ ?_)
            | (with_reducible refine' w_andV ?_ ?_)
            | (with_reducible refine' w_orV ?_ ?_)
            | (with_reducible refine' x_notV ?_)
            | (with_reducible refine' x_neg ?_)
            | (with_reducible refine' w_if ?_ ?_)
            | (with_reducible refine' w_ch ?_ ?_ ?_ ?_)
            | (with_reducible refine' x_tup ?_ ?_)
            | (with_reducible refine' x_lst ?_ ?_)
            | (with_reducible refine' x_dct1 ?_)
            | (with_reducible refine' x_ixN ?_ ?_ ?_ ?_)
            | (with_reducible refine' x_so ?_)
            | (with_reducible refine' x_sl ?_ ?_ ?_ ?_)
            | (with_reducible refine' x_it ?_ ?_)
            | (with_reducible refine' x_rg1 ?_ ?_)
            | (with_reducible refine' x_zip ?_ ?_ ?_)
            | (with_reducible refine' x_m0 ?_ ?_)
            | (with_reducible refine' x_m1 ?_ ?_ ?_)
            | (with_reducible refine' x_ma ?_ ?_ ?_)
            | (with_reducible refine' x_kget ?_ ?_)
            | (with_reducible refine' x_inR ?_ ?_)
            | (with_reducible refine' w_sc ?_ ?_)
            | (with_reducible refine' x_ret ?_)
            | (with_reducible refine' w_sif ?_ ?_)
            | (with_reducible refine' w_asg ?_ ?_)
            | (with_reducible refine' w_for ?_ ?_)
            | (with_reducible refine' w_forcons ?_ ?_ ?_)
            | (with_reducible refine' w_tgcons ?_ ?_)
            | (with_reducible refine' w_tgtup rfl ?_)
            | (with_reducible refine' x_calB ?_ ?_ ?_ ?_ ?_)
            | (with_reducible refine' x_par ?_)
            | (with_reducible refine' x_par3 ?_)
            | ((with_reducible refine' cond_t ?hb ?_); (case hb => exact rfl))
            | ((with_reducible refine' cond_t ?hb ?_); (case hb => exact e1'))
            | ((with_reducible refine' cond_t ?hb ?_); (case hb => exact e))
            | ((with_reducible refine' cond_t ?hb ?_); (case hb => exact e3))
            | ((with_reducible refine' cond_t ?hb ?_); (case hb => exact e5))
            | ((with_reducible refine' cond_t ?hb ?_); (case hb => exact e4))
            | ((with_reducible refine' cond_t ?hb ?_); (case hb => exact e6))
            | ((with_reducible refine' cond_t ?hb ?_); (case hb => exact e7))
            | ((with_reducible refine' cond_f ?hb ?_); (case hb => exact rfl))
            | ((with_reducible refine' cond_f ?hb ?_); (case hb => exact e1'))
            | ((with_reducible refine' cond_f ?hb ?_); (case hb => exact e))
            | ((with_reducible refine' cond_f ?hb ?_); (case hb => exact e3))
            | ((with_reducible refine' cond_f ?hb ?_); (case hb => exact e5))
            | ((with_reducible refine' cond_f ?hb ?_); (case hb => exact e4))
            | ((with_reducible refine' cond_f ?hb ?_); (case hb => exact e6))
            | ((with_reducible refine' cond_f ?hb ?_); (case hb => exact e7))
            | (with_reducible refine' Eq.trans nxt_nx ?_)
            | (with_reducible refine' Eq.trans nxt_rt ?_)
            | (with_reducible refine' Eq.trans nxl_nx ?_)
            | (with_reducible refine' Eq.trans nxl_rt ?_)
            | (exact sz_le rfl)
            | rfl)
      · have g1 : (c == 48) = false := by simp [g]
        rw [g1] at e5 e6 ⊢
        repeat' (first
          | (exact e1')
          | (exact e)
          | (exact e3)
          | (exact e5)
          | (exact e4)
          | (exact e6)
          | (exact e7)
          | (with_reducible exact x_c)
          | (with_reducible refine' x_v ?_)
          | (with_reducible exact x_nil)
          | (with_reducible exact x_no)
          | (with_reducible exact x_sn)
          | (with_reducible exact w_nm)
          | (with_reducible exact w_tgnil)
          | (with_reducible exact w_fornil)
          | (with_reducible refine' x_b ?_ ?_ ?_)
          | (with_reducible refine' x_cons ?_ ?_)
          | (with_reducible refine' x_star ?_ ?_ ?_)
          | (with_reducible refine' x_call ?_ ?_)
          | (with_reducible refine' x_cal ?_ ?_ ?_)
          | (with_reducible refine' x_isi ?_)
          | (with_reducible refine' x_tst ?_)
          | (with_reducible refine' w_tru ?_ ?_)
          | (with_reducible refine' x_not ?_)
          | (with_reducible refine' w_andT ?_ ?_)
          | (with_reducible refine' w_orT ?_ ?_)
          | (with_reducible refine' w_andV ?_ ?_)
          | (with_reducible refine' w_orV ?_ ?_)
          | (with_reducible refine' x_notV ?_)
          | (with_reducible refine' x_neg ?_)
          | (with_reducible refine' w_if ?_ ?_)
          | (with_reducible refine' w_ch ?_ ?_ ?_ ?_)
          | (with_reducible refine' x_tup ?_ ?_)
          | (with_reducible refine' x_lst ?_ ?_)
          | (with_reducible refine' x_dct1 ?_)
          | (with_reducible refine' x_ixN ?_ ?_ ?_ ?_)
          | (with_reducible refine' x_so ?_)
          | (with_reducible refine' x_sl ?_ ?_ ?_ ?_)
          | (with_reducible refine' x_it ?_ ?_)
          | (with_reducible refine' x_rg1 ?_ ?_)
          | (with_reducible refine' x_zip ?_ ?_ ?_)
          | (with_reducible refine' x_m0 ?_ ?_)
          | (with_reducible refine' x_m1 ?_ ?_ ?_)
          | (with_reducible refine' x_ma ?_ ?_ ?_)
          | (with_reducible refine' x_kget ?_ ?_)
          | (with_reducible refine' x_inR ?_ ?_)
          | (with_reducible refine' w_sc ?_ ?_)
          | (with_reducible refine' x_ret ?_)
          | (with_reducible refine' w_sif ?_ ?_)
          | (with_reducible refine' w_asg ?_ ?_)
          | (with_reducible refine' w_for ?_ ?_)
          | (with_reducible refine' w_forcons ?_ ?_ ?_)
          | (with_reducible refine' w_tgcons ?_ ?_)
          | (with_reducible refine' w_tgtup rfl ?_)
          | (with_reducible refine' x_calB ?_ ?_ ?_ ?_ ?_)
          | (with_reducible refine' x_par ?_)
          | (with_reducible refine' x_par3 ?_)
          | ((with_reducible refine' cond_t ?hb ?_); (case hb => exact rfl))
          | ((with_reducible refine' cond_t ?hb ?_); (case hb => exact e1'))
          | ((with_reducible refine' cond_t ?hb ?_); (case hb => exact e))
          | ((with_reducible refine' cond_t ?hb ?_); (case hb => exact e3))
          | ((with_reducible refine' cond_t ?hb ?_); (case hb => exact e5))
          | ((with_reducible refine' cond_t ?hb ?_); (case hb => exact e4))
          | ((with_reducible refine' cond_t ?hb ?_); (case hb => exact e6))
          | ((with_reducible refine' cond_t ?hb ?_); (case hb => exact e7))
          | ((with_reducible refine' cond_f ?hb ?_); (case hb => exact rfl))
          | ((with_reducible refine' cond_f ?hb ?_); (case hb => exact e1'))
          | ((with_reducible refine' cond_f ?hb ?_); (case hb => exact e))
          | ((with_reducible refine' cond_f ?hb ?_); (case hb => exact e3))
          | ((with_reducible refine' cond_f ?hb ?_); (case hb => exact e5))
          | ((with_reducible refine' cond_f ?hb ?_); (case hb => exact e4))
          | ((with_reducible refine' cond_f ?hb ?_); (case hb => exact e6))
          | ((with_reducible refine' cond_f ?hb ?_); (case hb => exact e7))
          | (with_reducible refine' Eq.trans nxt_nx ?_)
          | (with_reducible refine' Eq.trans nxt_rt ?_)
          | (with_reducible refine' Eq.trans nxl_nx ?_)
          | (with_reducible refine' Eq.trans nxl_rt ?_)
          | (exact sz_le rfl)
          | rfl)
    · have ha := eq_false_of_ne_true ha
      rw [ha] at e3
      rw [hl] at ha
      rw [isNumL_cons, ha]
      repeat' (first
        | (exact e1')
        | (exact e)
        | (exact e3)
        | (with_reducible exact x_c)
        | (with_reducible refine' x_v ?_)
        | (with_reducible exact x_nil)
        | (with_reducible exact x_no)
        | (with_reducible exact x_sn)
        | (with_reducible exact w_nm)
        | (with_reducible exact w_tgnil)
        | (with_reducible exact w_fornil)
        | (with_reducible refine' x_b ?_ ?_ ?_)
        | (with_reducible refine' x_cons ?_ ?_)
        | (with_reducible refine' x_star ?_ ?_ ?_)
        | (with_reducible refine' x_call ?_ ?_)
        | (with_reducible refine' x_cal ?_ ?_ ?_)
        | (with_reducible refine' x_isi ?_)
        | (with_reducible refine' x_tst ?_)
        | (with_reducible refine' w_tru ?_ ?_)
        | (with_reducible refine' x_not ?_)
        | (with_reducible refine' w_andT ?_ ?_)
        | (with_reducible refine' w_orT ?_ ?_)
        | (with_reducible refine' w_andV ?_ ?_)
        | (with_reducible refine' w_orV ?_ ?_)
        | (with_reducible refine' x_notV ?_)
        | (with_reducible refine' x_neg ?_)
        | (with_reducible refine' w_if ?_ ?_)
        | (with_reducible refine' w_ch ?_ ?_ ?_ ?_)
        | (with_reducible refine' x_tup ?_ ?_)
        | (with_reducible refine' x_lst ?_ ?_)
        | (with_reducible refine' x_dct1 ?_)
        | (with_reducible refine' x_ixN ?_ ?_ ?_ ?_)
        | (with_reducible refine' x_so ?_)
        | (with_reducible refine' x_sl ?_ ?_ ?_ ?_)
        | (with_reducible refine' x_it ?_ ?_)
        | (with_reducible refine' x_rg1 ?_ ?_)
        | (with_reducible refine' x_zip ?_ ?_ ?_)
        | (with_reducible refine' x_m0 ?_ ?_)
        | (with_reducible refine' x_m1 ?_ ?_ ?_)
        | (with_reducible refine' x_ma ?_ ?_ ?_)
        | (with_reducible refine' x_kget ?_ ?_)
        | (with_reducible refine' x_inR ?_ ?_)
        | (with_reducible refine' w_sc ?_ ?_)
        | (with_reducible refine' x_ret ?_)
        | (with_reducible refine' w_sif ?_ ?_)
        | (with_reducible refine' w_asg ?_ ?_)
        | (with_reducible refine' w_for ?_ ?_)
        | (with_reducible refine' w_forcons ?_ ?_ ?_)
        | (with_reducible refine' w_tgcons ?_ ?_)
        | (with_reducible refine' w_tgtup rfl ?_)
        | (with_reducible refine' x_calB ?_ ?_ ?_ ?_ ?_)
        | (with_reducible refine' x_par ?_)
        | (with_reducible refine' x_par3 ?_)
        | ((with_reducible refine' cond_t ?hb ?_); (case hb => exact rfl))
        | ((with_reducible refine' cond_t ?hb ?_); (case hb => exact e1'))
        | ((with_reducible refine' cond_t ?hb ?_); (case hb => exact e))
        | ((with_reducible refine' cond_t ?hb ?_); (case hb => exact e3))
        | ((with_reducible refine' cond_f ?hb ?_); (case hb => exact rfl))
        | ((with_reducible refine' cond_f ?hb ?_); (case hb => exact e1'))
        | ((with_reducible refine' cond_f ?hb ?_); (case hb => exact e))
        | ((with_reducible refine' cond_f ?hb ?_); (case hb => exact e3))
        | (with_reducible refine' Eq.trans nxt_nx ?_)
        | (with_reducible refine' Eq.trans nxt_rt ?_)
        | (with_reducible refine' Eq.trans nxl_nx ?_)
        | (with_reducible refine' Eq.trans nxl_rt ?_)
        | (exact sz_le rfl)
        | rfl)
end P57
set_option Elab.async false
set_option linter.all false
set_option maxRecDepth 100000
set_option maxHeartbeats 4000000
namespace P57
open PySem PySem.Spec PyProof.Rows L2 Dx
/-! kinds of acts -/
inductive So where
  | num
  | cell
  | txt
def soName : So → Str
  | .num => "number"
  | .cell => "cell"
  | .txt => "text"
def kNames : List Str := ["tick", "write", "carry", "drop", "double", "stop", "cut", "rise"]
def kindOf (k : Str) : List So :=
  if k == ("write" : Str) then [.num, .cell, .txt] else if k == ("stop" : Str) || k == ("cut" : Str) then [.num, .num]
  else if k == ("tick" : Str) || (k == ("carry" : Str) || (k == ("drop" : Str) || (k == ("double" : Str) || k == ("rise" : Str)))) then [.num] else []
theorem k_cases (k : Str) : (k = "tick" ∨ k = "write" ∨ k = "carry" ∨ k = "drop" ∨ k = "double" ∨ k = "stop" ∨ k = "cut" ∨ k = "rise") ∨ ∀ n ∈ kNames, (k == n) = false := by
  by_cases h : k ∈ kNames
  · left
    simpa [kNames] using h
  · right
    intro n hn
    rw [beq_eq_false_iff_ne]
    intro e
    exact h (e ▸ hn)
/-- what the program's table has -/
def itemsOf (k : Str) : D := (tb_ITEMS.lookup k).getD (.tup [])
def soOf (s : Str) : So := if s == ("cell" : Str) then .cell else if s == ("text" : Str) then .txt else .num
theorem items_kind (k : Str) : ∃ ss : List Str, itemsOf k = .tup (ss.map D.str) ∧ (∀ s ∈ ss, s = "house" ∨ s = "count" ∨ s = "cell" ∨ s = "text") ∧ ss.map soOf = kindOf k ∧ ss.length ≤ 3 := by
  rcases k_cases k with h | h
  · rcases h with rfl | rfl | rfl | rfl | rfl | rfl | rfl | rfl
    · exact ⟨["house"], rfl, by simp, rfl, by decide⟩
    · exact ⟨["house", "cell", "text"], rfl, by simp, rfl, by decide⟩
    · exact ⟨["count"], rfl, by simp, rfl, by decide⟩
    · exact ⟨["count"], rfl, by simp, rfl, by decide⟩
    · exact ⟨["count"], rfl, by simp, rfl, by decide⟩
    · exact ⟨["house", "count"], rfl, by simp, rfl, by decide⟩
    · exact ⟨["house", "count"], rfl, by simp, rfl, by decide⟩
    · exact ⟨["house"], rfl, by simp, rfl, by decide⟩
  · have h : ∀ n ∈ kNames, (k == n) = false := h
    simp only [kNames, List.mem_cons, List.not_mem_nil, or_false, forall_eq_or_imp, forall_eq] at h
    obtain ⟨h1, h2, h3, h4, h5, h6, h7, h8⟩ := h
    refine ⟨[], ?_, by simp, ?_, by decide⟩
    · unfold itemsOf tb_ITEMS kv_ITEMS
      simp only [List.map_cons, List.map_nil, List.lookup, h1, h2, h3, h4, h5, h6, h7, h8, Option.getD_none]
    · unfold kindOf
      simp only [h1, h2, h3, h4, h5, h6, h7, h8, Bool.or_self, Bool.false_eq_true, if_false, List.map_nil]
theorem kind_len (k : Str) : (kindOf k).length ≤ 3 := by
  obtain ⟨ss, _, _, h, hl⟩ := items_kind k
  rw [← h, List.length_map]; exact hl
theorem eqV_str (x y : Str) : eqV (.str x) (.str y) = (x == y) := rfl
theorem in_strs2 (k : Str) (a b : Str) : dIn (.str k) (.lst [.str a, .str b]) = some (.bl (a == k || b == k)) := by
  show some (D.bl (inV (.str k) [.str a, .str b])) = _
  unfold inV
  simp only [List.any_cons, List.any_nil, Bool.or_false, eqV_str]
theorem in_strs5 (k : Str) (a b c d e : Str) : dIn (.str k) (.lst [.str a, .str b, .str c, .str d, .str e]) = some (.bl (a == k || (b == k || (c == k || (d == k || e == k))))) := by
  show some (D.bl (inV (.str k) [.str a, .str b, .str c, .str d, .str e])) = _
  unfold inV
  simp only [List.any_cons, List.any_nil, Bool.or_false, eqV_str]
theorem beq_sym (x y : Str) : (x == y) = (y == x) := by
  by_cases h : x = y
  · subst h; rfl
  · rw [beq_eq_false_iff_ne.mpr h, beq_eq_false_iff_ne.mpr fun e => h e.symm]
theorem l_kinds {k : Str} (h : okS k) : L__law_kinds_1 [.str k] = some (.lst ((kindOf k).map fun s => .str (soName s))) := by
  have e1 := eq_str (x := k) (y := "write") h.t (by decide +kernel)
  have e2 := in_strs2 k "stop" "cut"
  have e3 := in_strs5 k "tick" "carry" "drop" "double" "rise"
  rw [beq_sym "stop", beq_sym "cut"] at e2
  rw [beq_sym "tick", beq_sym "carry", beq_sym "drop", beq_sym "double", beq_sym "rise"] at e3
  refine of_rt (δ' := [.pl (.str k)]) ?_
  unfold gs__law_kinds kindOf
  cases h1 : (k == ("write" : Str)) with
  | true =>
    rw [h1] at e1
    repeat' (first
      | (exact e1)
      | (with_reducible exact x_c)
      | (with_reducible refine' x_v ?_)
      | (with_reducible exact x_nil)
      | (with_reducible exact x_no)
      | (with_reducible exact x_sn)
      | (with_reducible exact w_nm)
      | (with_reducible exact w_tgnil)
      | (with_reducible exact w_fornil)
      | (with_reducible refine' x_b ?_ ?_ ?_)
      | (with_reducible refine' x_cons ?_ ?_)
      | (with_reducible refine' x_star ?_ ?_ ?_)
      | (with_reducible refine' x_call ?_ ?_)
      | (with_reducible refine' x_cal ?_ ?_ ?_)
      | (with_reducible refine' x_isi ?_)
      | (with_reducible refine' x_tst ?_)
      | (with_reducible refine' w_tru ?_ ?_)
      | (with_reducible refine' x_not ?_)
      | (with_reducible refine' w_andT ?_ ?_)
      | (with_reducible refine' w_orT ?_ ?_)
      | (with_reducible refine' w_andV ?_ ?_)
      | (with_reducible refine' w_orV ?_ ?_)
      | (with_reducible refine' x_notV ?_)
      | (with_reducible refine' x_neg ?_)
      | (with_reducible refine' w_if ?_ ?_)
      | (with_reducible refine' w_ch ?_ ?_ ?_ ?_)
      | (with_reducible refine' x_tup ?_ ?_)
      | (with_reducible refine' x_lst ?_ ?_)
      | (with_reducible refine' x_dct1 ?_)
      | (with_reducible refine' x_ixN ?_ ?_ ?_ ?_)
      | (with_reducible refine' x_so ?_)
      | (with_reducible refine' x_sl ?_ ?_ ?_ ?_)
      | (with_reducible refine' x_it ?_ ?_)
      | (with_reducible refine' x_rg1 ?_ ?_)
      | (with_reducible refine' x_zip ?_ ?_ ?_)
      | (with_reducible refine' x_m0 ?_ ?_)
      | (with_reducible refine' x_m1 ?_ ?_ ?_)
      | (with_reducible refine' x_ma ?_ ?_ ?_)
      | (with_reducible refine' x_kget ?_ ?_)
      | (with_reducible refine' x_inR ?_ ?_)
      | (with_reducible refine' w_sc ?_ ?_)
      | (with_reducible refine' x_ret ?_)
      | (with_reducible refine' w_sif ?_ ?_)
      | (with_reducible refine' w_asg ?_ ?_)
      | (with_reducible refine' w_for ?_ ?_)
      | (with_reducible refine' w_forcons ?_ ?_ ?_)
      | (with_reducible refine' w_tgcons ?_ ?_)
      | (with_reducible refine' w_tgtup rfl ?_)
      | (with_reducible refine' x_calB ?_ ?_ ?_ ?_ ?_)
      | (with_reducible refine' x_par ?_)
      | (with_reducible refine' x_par3 ?_)
      | ((with_reducible refine' cond_t ?hb ?_); (case hb => exact rfl))
      | ((with_reducible refine' cond_t ?hb ?_); (case hb => exact e1))
      | ((with_reducible refine' cond_f ?hb ?_); (case hb => exact rfl))
      | ((with_reducible refine' cond_f ?hb ?_); (case hb => exact e1))
      | (with_reducible refine' Eq.trans nxt_nx ?_)
      | (with_reducible refine' Eq.trans nxt_rt ?_)
      | (with_reducible refine' Eq.trans nxl_nx ?_)
      | (with_reducible refine' Eq.trans nxl_rt ?_)
      | (exact sz_le rfl)
      | rfl)
  | false =>
    rw [h1] at e1
    cases h2 : (k == ("stop" : Str) || k == ("cut" : Str)) with
    | true =>
      rw [h2] at e2
      repeat' (first
        | (exact e1)
        | (exact e2)
        | (with_reducible exact x_c)
        | (with_reducible refine' x_v ?_)
        | (with_reducible exact x_nil)
        | (with_reducible exact x_no)
        | (with_reducible exact x_sn)
        | (with_reducible exact w_nm)
        | (with_reducible exact w_tgnil)
        | (with_reducible exact w_fornil)
        | (with_reducible refine' x_b ?_ ?_ ?_)
        | (with_reducible refine' x_cons ?_ ?_)
        | (with_reducible refine' x_star ?_ ?_ ?_)
        | (with_reducible refine' x_call ?_ ?_)
        | (with_reducible refine' x_cal ?_ ?_ ?_)
        | (with_reducible refine' x_isi ?_)
        | (with_reducible refine' x_tst ?_)
        | (with_reducible refine' w_tru ?_ ?_)
        | (with_reducible refine' x_not ?_)
        | (with_reducible refine' w_andT ?_ ?_)
        | (with_reducible refine' w_orT ?_ ?_)
        | (with_reducible refine' w_andV ?_ ?_)
        | (with_reducible refine' w_orV ?_ ?_)
        | (with_reducible refine' x_notV ?_)
        | (with_reducible refine' x_neg ?_)
        | (with_reducible refine' w_if ?_ ?_)
        | (with_reducible refine' w_ch ?_ ?_ ?_ ?_)
        | (with_reducible refine' x_tup ?_ ?_)
        | (with_reducible refine' x_lst ?_ ?_)
        | (with_reducible refine' x_dct1 ?_)
        | (with_reducible refine' x_ixN ?_ ?_ ?_ ?_)
        | (with_reducible refine' x_so ?_)
        | (with_reducible refine' x_sl ?_ ?_ ?_ ?_)
        | (with_reducible refine' x_it ?_ ?_)
        | (with_reducible refine' x_rg1 ?_ ?_)
        | (with_reducible refine' x_zip ?_ ?_ ?_)
        | (with_reducible refine' x_m0 ?_ ?_)
        | (with_reducible refine' x_m1 ?_ ?_ ?_)
        | (with_reducible refine' x_ma ?_ ?_ ?_)
        | (with_reducible refine' x_kget ?_ ?_)
        | (with_reducible refine' x_inR ?_ ?_)
        | (with_reducible refine' w_sc ?_ ?_)
        | (with_reducible refine' x_ret ?_)
        | (with_reducible refine' w_sif ?_ ?_)
        | (with_reducible refine' w_asg ?_ ?_)
        | (with_reducible refine' w_for ?_ ?_)
        | (with_reducible refine' w_forcons ?_ ?_ ?_)
        | (with_reducible refine' w_tgcons ?_ ?_)
        | (with_reducible refine' w_tgtup rfl ?_)
        | (with_reducible refine' x_calB ?_ ?_ ?_ ?_ ?_)
        | (with_reducible refine' x_par ?_)
        | (with_reducible refine' x_par3 ?_)
        | ((with_reducible refine' cond_t ?hb ?_); (case hb => exact rfl))
        | ((with_reducible refine' cond_t ?hb ?_); (case hb => exact e1))
        | ((with_reducible refine' cond_t ?hb ?_); (case hb => exact e2))
        | ((with_reducible refine' cond_f ?hb ?_); (case hb => exact rfl))
        | ((with_reducible refine' cond_f ?hb ?_); (case hb => exact e1))
        | ((with_reducible refine' cond_f ?hb ?_); (case hb => exact e2))
        | (with_reducible refine' Eq.trans nxt_nx ?_)
        | (with_reducible refine' Eq.trans nxt_rt ?_)
        | (with_reducible refine' Eq.trans nxl_nx ?_)
        | (with_reducible refine' Eq.trans nxl_rt ?_)
        | (exact sz_le rfl)
        | rfl)
    | false =>
      rw [h2] at e2
      cases h3 : (k == ("tick" : Str) || (k == ("carry" : Str) || (k == ("drop" : Str) || (k == ("double" : Str) || k == ("rise" : Str))))) with
      | true =>
        rw [h3] at e3
        repeat' (first
          | (exact e1)
          | (exact e2)
          | (exact e3)
          | (with_reducible exact x_c)
          | (with_reducible refine' x_v ?_)
          | (with_reducible exact x_nil)
          | (with_reducible exact x_no)
          | (with_reducible exact x_sn)
          | (with_reducible exact w_nm)
          | (with_reducible exact w_tgnil)
          | (with_reducible exact w_fornil)
          | (with_reducible refine' x_b ?_ ?_ ?_)
          | (with_reducible refine' x_cons ?_ ?_)
          | (with_reducible refine' x_star ?_ ?_ ?_)
          | (with_reducible refine' x_call ?_ ?_)
          | (with_reducible refine' x_cal ?_ ?_ ?_)
          | (with_reducible refine' x_isi ?_)
          | (with_reducible refine' x_tst ?_)
          | (with_reducible refine' w_tru ?_ ?_)
          | (with_reducible refine' x_not ?_)
          | (with_reducible refine' w_andT ?_ ?_)
          | (with_reducible refine' w_orT ?_ ?_)
          | (with_reducible refine' w_andV ?_ ?_)
          | (with_reducible refine' w_orV ?_ ?_)
          | (with_reducible refine' x_notV ?_)
          | (with_reducible refine' x_neg ?_)
          | (with_reducible refine' w_if ?_ ?_)
          | (with_reducible refine' w_ch ?_ ?_ ?_ ?_)
          | (with_reducible refine' x_tup ?_ ?_)
          | (with_reducible refine' x_lst ?_ ?_)
          | (with_reducible refine' x_dct1 ?_)
          | (with_reducible refine' x_ixN ?_ ?_ ?_ ?_)
          | (with_reducible refine' x_so ?_)
          | (with_reducible refine' x_sl ?_ ?_ ?_ ?_)
          | (with_reducible refine' x_it ?_ ?_)
          | (with_reducible refine' x_rg1 ?_ ?_)
          | (with_reducible refine' x_zip ?_ ?_ ?_)
          | (with_reducible refine' x_m0 ?_ ?_)
          | (with_reducible refine' x_m1 ?_ ?_ ?_)
          | (with_reducible refine' x_ma ?_ ?_ ?_)
          | (with_reducible refine' x_kget ?_ ?_)
          | (with_reducible refine' x_inR ?_ ?_)
          | (with_reducible refine' w_sc ?_ ?_)
          | (with_reducible refine' x_ret ?_)
          | (with_reducible refine' w_sif ?_ ?_)
          | (with_reducible refine' w_asg ?_ ?_)
          | (with_reducible refine' w_for ?_ ?_)
          | (with_reducible refine' w_forcons ?_ ?_ ?_)
          | (with_reducible refine' w_tgcons ?_ ?_)
          | (with_reducible refine' w_tgtup rfl ?_)
          | (with_reducible refine' x_calB ?_ ?_ ?_ ?_ ?_)
          | (with_reducible refine' x_par ?_)
          | (with_reducible refine' x_par3 ?_)
          | ((with_reducible refine' cond_t ?hb ?_); (case hb => exact rfl))
          | ((with_reducible refine' cond_t ?hb ?_); (case hb => exact e1))
          | ((with_reducible refine' cond_t ?hb ?_); (case hb => exact e2))
          | ((with_reducible refine' cond_t ?hb ?_); (case hb => exact e3))
          | ((with_reducible refine' cond_f ?hb ?_); (case hb => exact rfl))
          | ((with_reducible refine' cond_f ?hb ?_); (case hb => exact e1))
          | ((with_reducible refine' cond_f ?hb ?_); (case hb => exact e2))
          | ((with_reducible refine' cond_f ?hb ?_); (case hb => exact e3))
          | (with_reducible refine' Eq.trans nxt_nx ?_)
          | (with_reducible refine' Eq.trans nxt_rt ?_)
          | (with_reducible refine' Eq.trans nxl_nx ?_)
          | (with_reducible refine' Eq.trans nxl_rt ?_)
          | (exact sz_le rfl)
          | rfl)
      | false =>
        rw [h3] at e3
        repeat' (first
          | (exact e1)
          | (exact e2)
          | (exact e3)
          | (with_reducible exact x_c)
          | (with_reducible refine' x_v ?_)
          | (with_reducible exact x_nil)
          | (with_reducible exact x_no)
          | (with_reducible exact x_sn)
          | (with_reducible exact w_nm)
          | (with_reducible exact w_tgnil)
          | (with_reducible exact w_fornil)
          | (with_reducible refine' x_b ?_ ?_ ?_)
          | (with_reducible refine' x_cons ?_ ?_)
          | (with_reducible refine' x_star ?_ ?_ ?_)
          | (with_reducible refine' x_call ?_ ?_)
          | (with_reducible refine' x_cal ?_ ?_ ?_)
          | (with_reducible refine' x_isi ?_)
          | (with_reducible refine' x_tst ?_)
          | (with_reducible refine' w_tru ?_ ?_)
          | (with_reducible refine' x_not ?_)
          | (with_reducible refine' w_andT ?_ ?_)
          | (with_reducible refine' w_orT ?_ ?_)
          | (with_reducible refine' w_andV ?_ ?_)
          | (with_reducible refine' w_orV ?_ ?_)
          | (with_reducible refine' x_notV ?_)
          | (with_reducible refine' x_neg ?_)
          | (with_reducible refine' w_if ?_ ?_)
          | (with_reducible refine' w_ch ?_ ?_ ?_ ?_)
          | (with_reducible refine' x_tup ?_ ?_)
          | (with_reducible refine' x_lst ?_ ?_)
          | (with_reducible refine' x_dct1 ?_)
          | (with_reducible refine' x_ixN ?_ ?_ ?_ ?_)
          | (with_reducible refine' x_so ?_)
          | (with_reducible refine' x_sl ?_ ?_ ?_ ?_)
          | (with_reducible refine' x_it ?_ ?_)
          | (with_reducible refine' x_rg1 ?_ ?_)
          | (with_reducible refine' x_zip ?_ ?_ ?_)
          | (with_reducible refine' x_m0 ?_ ?_)
          | (with_reducible refine' x_m1 ?_ ?_ ?_)
          | (with_reducible refine' x_ma ?_ ?_ ?_)
          | (with_reducible refine' x_kget ?_ ?_)
          | (with_reducible refine' x_inR ?_ ?_)
          | (with_reducible refine' w_sc ?_ ?_)
          | (with_reducible refine' x_ret ?_)
          | (with_reducible refine' w_sif ?_ ?_)
          | (with_reducible refine' w_asg ?_ ?_)
          | (with_reducible refine' w_for ?_ ?_)
          | (with_reducible refine' w_forcons ?_ ?_ ?_)
          | (with_reducible refine' w_tgcons ?_ ?_)
          | (with_reducible refine' w_tgtup rfl ?_)
          | (with_reducible refine' x_calB ?_ ?_ ?_ ?_ ?_)
          | (with_reducible refine' x_par ?_)
          | (with_reducible refine' x_par3 ?_)
          | ((with_reducible refine' cond_t ?hb ?_); (case hb => exact rfl))
          | ((with_reducible refine' cond_t ?hb ?_); (case hb => exact e1))
          | ((with_reducible refine' cond_t ?hb ?_); (case hb => exact e2))
          | ((with_reducible refine' cond_t ?hb ?_); (case hb => exact e3))
          | ((with_reducible refine' cond_f ?hb ?_); (case hb => exact rfl))
          | ((with_reducible refine' cond_f ?hb ?_); (case hb => exact e1))
          | ((with_reducible refine' cond_f ?hb ?_); (case hb => exact e2))
          | ((with_reducible refine' cond_f ?hb ?_); (case hb => exact e3))
          | (with_reducible refine' Eq.trans nxt_nx ?_)
          | (with_reducible refine' Eq.trans nxt_rt ?_)
          | (with_reducible refine' Eq.trans nxl_nx ?_)
          | (with_reducible refine' Eq.trans nxl_rt ?_)
          | (exact sz_le rfl)
          | rfl)
theorem eqc {x y : Str} {b : Bool} (hx : okT x = true) (hy : okT y = true) (h : (x == y) = b) : dEq (.str x) (.str y) = some (.bl b) := by rw [eq_str hx hy, h]
theorem nec {x y : Str} {b : Bool} (hx : okT x = true) (hy : okT y = true) (h : (x == y) = b) : dNe (.str x) (.str y) = some (.bl !b) := by rw [ne_str hx hy, h]
/-! items -/
def itOk : So → D → Bool
  | .num, d => isCount d
  | .cell, d => isCell d
  | .txt, d => isText d
/-- all texts right in it are plain -/
def okI (d : D) : Prop := ∀ z, d = .str z → okS z
theorem l_is_item {d : D} (h : okI d) {s : Str} (hs : s = "house" ∨ s = "count" ∨ s = "cell" ∨ s = "text") : L_is_item_3 [d, .str s, .non] = some (.bl (itOk (soOf s) d)) := by
  have c1 := l_is_cell d h
  have c2 := l_is_text d h
  have c3 := l_is_count d
  have n1 : dEq (.str "house") (.str "cell") = some (.bl false) := eqc (by decide +kernel) (by decide +kernel) (by decide +kernel)
  have n2 : dEq (.str "count") (.str "cell") = some (.bl false) := eqc (by decide +kernel) (by decide +kernel) (by decide +kernel)
  have n3 : dEq (.str "text") (.str "cell") = some (.bl false) := eqc (by decide +kernel) (by decide +kernel) (by decide +kernel)
  have n4 : dEq (.str "house") (.str "text") = some (.bl false) := eqc (by decide +kernel) (by decide +kernel) (by decide +kernel)
  have n5 : dEq (.str "count") (.str "text") = some (.bl false) := eqc (by decide +kernel) (by decide +kernel) (by decide +kernel)
  have n6 : dNe (.str "house") (.str "house") = some (.bl false) := nec (b := true) (by decide +kernel) (by decide +kernel) (by decide +kernel)
  have n7 : dNe (.str "count") (.str "house") = some (.bl true) := nec (b := false) (by decide +kernel) (by decide +kernel) (by decide +kernel)
  have n8 : dEq (.str "cell") (.str "cell") = some (.bl true) := eqc (by decide +kernel) (by decide +kernel) (by decide +kernel)
  have n9 : dEq (.str "text") (.str "text") = some (.bl true) := eqc (by decide +kernel) (by decide +kernel) (by decide +kernel)
  refine of_rt (δ' := [.pl d, .pl (.str s), .pl .non]) ?_
  unfold gs_is_item
  rcases hs with rfl | rfl | rfl | rfl
  · show _ = some (Out.rt (.bl (isCount d)) _)
    cases g : isCount d with
    | true =>
      rw [g] at c3
      repeat' (first
        | (exact n1)
        | (exact n4)
        | (exact c3)
        | (exact n6)
        | (with_reducible exact x_c)
        | (with_reducible refine' x_v ?_)
        | (with_reducible exact x_nil)
        | (with_reducible exact x_no)
        | (with_reducible exact x_sn)
        | (with_reducible exact w_nm)
        | (with_reducible exact w_tgnil)
        | (with_reducible exact w_fornil)
        | (with_reducible refine' x_b ?_ ?_ ?_)
        | (with_reducible refine' x_cons ?_ ?_)
        | (with_reducible refine' x_star ?_ ?_ ?_)
        | (with_reducible refine' x_call ?_ ?_)
        | (with_reducible refine' x_cal ?_ ?_ ?_)
        | (with_reducible refine' x_isi ?_)
        | (with_reducible refine' x_tst ?_)
        | (with_reducible refine' w_tru ?_ ?_)
        | (with_reducible refine' x_not ?_)
        | (with_reducible refine' w_andT ?_ ?_)
        | (with_reducible refine' w_orT ?_ ?_)
        | (with_reducible refine' w_andV ?_ ?_)
        | (with_reducible refine' w_orV ?_ ?_)
        | (with_reducible refine' x_notV ?_)
        | (with_reducible refine' x_neg ?_)
        | (with_reducible refine' w_if ?_ ?_)
        | (with_reducible refine' w_ch ?_ ?_ ?_ ?_)
        | (with_reducible refine' x_tup ?_ ?_)
        | (with_reducible refine' x_lst ?_ ?_)
        | (with_reducible refine' x_dct1 ?_)
        | (with_reducible refine' x_ixN ?_ ?_ ?_ ?_)
        | (with_reducible refine' x_so ?_)
        | (with_reducible refine' x_sl ?_ ?_ ?_ ?_)
        | (with_reducible refine' x_it ?_ ?_)
        | (with_reducible refine' x_rg1 ?_ ?_)
        | (with_reducible refine' x_zip ?_ ?_ ?_)
        | (with_reducible refine' x_m0 ?_ ?_)
        | (with_reducible refine' x_m1 ?_ ?_ ?_)
        | (with_reducible refine' x_ma ?_ ?_ ?_)
        | (with_reducible refine' x_kget ?_ ?_)
        | (with_reducible refine' x_inR ?_ ?_)
        | (with_reducible refine' w_sc ?_ ?_)
        | (with_reducible refine' x_ret ?_)
        | (with_reducible refine' w_sif ?_ ?_)
        | (with_reducible refine' w_asg ?_ ?_)
        | (with_reducible refine' w_for ?_ ?_)
        | (with_reducible refine' w_forcons ?_ ?_ ?_)
        | (with_reducible refine' w_tgcons ?_ ?_)
        | (with_reducible refine' w_tgtup rfl ?_)
        | (with_reducible refine' x_calB ?_ ?_ ?_ ?_ ?_)
        | (with_reducible refine' x_par ?_)
        | (with_reducible refine' x_par3 ?_)
        | ((with_reducible refine' cond_t ?hb ?_); (case hb => exact rfl))
        | ((with_reducible refine' cond_t ?hb ?_); (case hb => exact n1))
        | ((with_reducible refine' cond_t ?hb ?_); (case hb => exact n4))
        | ((with_reducible refine' cond_t ?hb ?_); (case hb => exact c3))
        | ((with_reducible refine' cond_t ?hb ?_); (case hb => exact n6))
        | ((with_reducible refine' cond_f ?hb ?_); (case hb => exact rfl))
        | ((with_reducible refine' cond_f ?hb ?_); (case hb => exact n1))
        | ((with_reducible refine' cond_f ?hb ?_); (case hb => exact n4))
        | ((with_reducible refine' cond_f ?hb ?_); (case hb => exact c3))
        | ((with_reducible refine' cond_f ?hb ?_); (case hb => exact n6))
        | (with_reducible refine' Eq.trans nxt_nx ?_)
        | (with_reducible refine' Eq.trans nxt_rt ?_)
        | (with_reducible refine' Eq.trans nxl_nx ?_)
        | (with_reducible refine' Eq.trans nxl_rt ?_)
        | (exact sz_le rfl)
        | rfl)
    | false =>
      rw [g] at c3
      repeat' (first
        | (exact n1)
        | (exact n4)
        | (exact c3)
        | (exact n6)
        | (with_reducible exact x_c)
        | (with_reducible refine' x_v ?_)
        | (with_reducible exact x_nil)
        | (with_reducible exact x_no)
        | (with_reducible exact x_sn)
        | (with_reducible exact w_nm)
        | (with_reducible exact w_tgnil)
        | (with_reducible exact w_fornil)
        | (with_reducible refine' x_b ?_ ?_ ?_)
        | (with_reducible refine' x_cons ?_ ?_)
        | (with_reducible refine' x_star ?_ ?_ ?_)
        | (with_reducible refine' x_call ?_ ?_)
        | (with_reducible refine' x_cal ?_ ?_ ?_)
        | (with_reducible refine' x_isi ?_)
        | (with_reducible refine' x_tst ?_)
        | (with_reducible refine' w_tru ?_ ?_)
        | (with_reducible refine' x_not ?_)
        | (with_reducible refine' w_andT ?_ ?_)
        | (with_reducible refine' w_orT ?_ ?_)
        | (with_reducible refine' w_andV ?_ ?_)
        | (with_reducible refine' w_orV ?_ ?_)
        | (with_reducible refine' x_notV ?_)
        | (with_reducible refine' x_neg ?_)
        | (with_reducible refine' w_if ?_ ?_)
        | (with_reducible refine' w_ch ?_ ?_ ?_ ?_)
        | (with_reducible refine' x_tup ?_ ?_)
        | (with_reducible refine' x_lst ?_ ?_)
        | (with_reducible refine' x_dct1 ?_)
        | (with_reducible refine' x_ixN ?_ ?_ ?_ ?_)
        | (with_reducible refine' x_so ?_)
        | (with_reducible refine' x_sl ?_ ?_ ?_ ?_)
        | (with_reducible refine' x_it ?_ ?_)
        | (with_reducible refine' x_rg1 ?_ ?_)
        | (with_reducible refine' x_zip ?_ ?_ ?_)
        | (with_reducible refine' x_m0 ?_ ?_)
        | (with_reducible refine' x_m1 ?_ ?_ ?_)
        | (with_reducible refine' x_ma ?_ ?_ ?_)
        | (with_reducible refine' x_kget ?_ ?_)
        | (with_reducible refine' x_inR ?_ ?_)
        | (with_reducible refine' w_sc ?_ ?_)
        | (with_reducible refine' x_ret ?_)
        | (with_reducible refine' w_sif ?_ ?_)
        | (with_reducible refine' w_asg ?_ ?_)
        | (with_reducible refine' w_for ?_ ?_)
        | (with_reducible refine' w_forcons ?_ ?_ ?_)
        | (with_reducible refine' w_tgcons ?_ ?_)
        | (with_reducible refine' w_tgtup rfl ?_)
        | (with_reducible refine' x_calB ?_ ?_ ?_ ?_ ?_)
        | (with_reducible refine' x_par ?_)
        | (with_reducible refine' x_par3 ?_)
        | ((with_reducible refine' cond_t ?hb ?_); (case hb => exact rfl))
        | ((with_reducible refine' cond_t ?hb ?_); (case hb => exact n1))
        | ((with_reducible refine' cond_t ?hb ?_); (case hb => exact n4))
        | ((with_reducible refine' cond_t ?hb ?_); (case hb => exact c3))
        | ((with_reducible refine' cond_t ?hb ?_); (case hb => exact n6))
        | ((with_reducible refine' cond_f ?hb ?_); (case hb => exact rfl))
        | ((with_reducible refine' cond_f ?hb ?_); (case hb => exact n1))
        | ((with_reducible refine' cond_f ?hb ?_); (case hb => exact n4))
        | ((with_reducible refine' cond_f ?hb ?_); (case hb => exact c3))
        | ((with_reducible refine' cond_f ?hb ?_); (case hb => exact n6))
        | (with_reducible refine' Eq.trans nxt_nx ?_)
        | (with_reducible refine' Eq.trans nxt_rt ?_)
        | (with_reducible refine' Eq.trans nxl_nx ?_)
        | (with_reducible refine' Eq.trans nxl_rt ?_)
        | (exact sz_le rfl)
        | rfl)
  · show _ = some (Out.rt (.bl (isCount d)) _)
    cases g : isCount d with
    | true =>
      rw [g] at c3
      repeat' (first
        | (exact n2)
        | (exact n5)
        | (exact c3)
        | (exact n7)
        | (with_reducible exact x_c)
        | (with_reducible refine' x_v ?_)
        | (with_reducible exact x_nil)
        | (with_reducible exact x_no)
        | (with_reducible exact x_sn)
        | (with_reducible exact w_nm)
        | (with_reducible exact w_tgnil)
        | (with_reducible exact w_fornil)
        | (with_reducible refine' x_b ?_ ?_ ?_)
        | (with_reducible refine' x_cons ?_ ?_)
        | (with_reducible refine' x_star ?_ ?_ ?_)
        | (with_reducible refine' x_call ?_ ?_)
        | (with_reducible refine' x_cal ?_ ?_ ?_)
        | (with_reducible refine' x_isi ?_)
        | (with_reducible refine' x_tst ?_)
        | (with_reducible refine' w_tru ?_ ?_)
        | (with_reducible refine' x_not ?_)
        | (with_reducible refine' w_andT ?_ ?_)
        | (with_reducible refine' w_orT ?_ ?_)
        | (with_reducible refine' w_andV ?_ ?_)
        | (with_reducible refine' w_orV ?_ ?_)
        | (with_reducible refine' x_notV ?_)
        | (with_reducible refine' x_neg ?_)
        | (with_reducible refine' w_if ?_ ?_)
        | (with_reducible refine' w_ch ?_ ?_ ?_ ?_)
        | (with_reducible refine' x_tup ?_ ?_)
        | (with_reducible refine' x_lst ?_ ?_)
        | (with_reducible refine' x_dct1 ?_)
        | (with_reducible refine' x_ixN ?_ ?_ ?_ ?_)
        | (with_reducible refine' x_so ?_)
        | (with_reducible refine' x_sl ?_ ?_ ?_ ?_)
        | (with_reducible refine' x_it ?_ ?_)
        | (with_reducible refine' x_rg1 ?_ ?_)
        | (with_reducible refine' x_zip ?_ ?_ ?_)
        | (with_reducible refine' x_m0 ?_ ?_)
        | (with_reducible refine' x_m1 ?_ ?_ ?_)
        | (with_reducible refine' x_ma ?_ ?_ ?_)
        | (with_reducible refine' x_kget ?_ ?_)
        | (with_reducible refine' x_inR ?_ ?_)
        | (with_reducible refine' w_sc ?_ ?_)
        | (with_reducible refine' x_ret ?_)
        | (with_reducible refine' w_sif ?_ ?_)
        | (with_reducible refine' w_asg ?_ ?_)
        | (with_reducible refine' w_for ?_ ?_)
        | (with_reducible refine' w_forcons ?_ ?_ ?_)
        | (with_reducible refine' w_tgcons ?_ ?_)
        | (with_reducible refine' w_tgtup rfl ?_)
        | (with_reducible refine' x_calB ?_ ?_ ?_ ?_ ?_)
        | (with_reducible refine' x_par ?_)
        | (with_reducible refine' x_par3 ?_)
        | ((with_reducible refine' cond_t ?hb ?_); (case hb => exact rfl))
        | ((with_reducible refine' cond_t ?hb ?_); (case hb => exact n2))
        | ((with_reducible refine' cond_t ?hb ?_); (case hb => exact n5))
        | ((with_reducible refine' cond_t ?hb ?_); (case hb => exact c3))
        | ((with_reducible refine' cond_t ?hb ?_); (case hb => exact n7))
        | ((with_reducible refine' cond_f ?hb ?_); (case hb => exact rfl))
        | ((with_reducible refine' cond_f ?hb ?_); (case hb => exact n2))
        | ((with_reducible refine' cond_f ?hb ?_); (case hb => exact n5))
        | ((with_reducible refine' cond_f ?hb ?_); (case hb => exact c3))
        | ((with_reducible refine' cond_f ?hb ?_); (case hb => exact n7))
        | (with_reducible refine' Eq.trans nxt_nx ?_)
        | (with_reducible refine' Eq.trans nxt_rt ?_)
        | (with_reducible refine' Eq.trans nxl_nx ?_)
        | (with_reducible refine' Eq.trans nxl_rt ?_)
        | (exact sz_le rfl)
        | rfl)
    | false =>
      rw [g] at c3
      repeat' (first
        | (exact n2)
        | (exact n5)
        | (exact c3)
        | (exact n7)
        | (with_reducible exact x_c)
        | (with_reducible refine' x_v ?_)
        | (with_reducible exact x_nil)
        | (with_reducible exact x_no)
        | (with_reducible exact x_sn)
        | (with_reducible exact w_nm)
        | (with_reducible exact w_tgnil)
        | (with_reducible exact w_fornil)
        | (with_reducible refine' x_b ?_ ?_ ?_)
        | (with_reducible refine' x_cons ?_ ?_)
        | (with_reducible refine' x_star ?_ ?_ ?_)
        | (with_reducible refine' x_call ?_ ?_)
        | (with_reducible refine' x_cal ?_ ?_ ?_)
        | (with_reducible refine' x_isi ?_)
        | (with_reducible refine' x_tst ?_)
        | (with_reducible refine' w_tru ?_ ?_)
        | (with_reducible refine' x_not ?_)
        | (with_reducible refine' w_andT ?_ ?_)
        | (with_reducible refine' w_orT ?_ ?_)
        | (with_reducible refine' w_andV ?_ ?_)
        | (with_reducible refine' w_orV ?_ ?_)
        | (with_reducible refine' x_notV ?_)
        | (with_reducible refine' x_neg ?_)
        | (with_reducible refine' w_if ?_ ?_)
        | (with_reducible refine' w_ch ?_ ?_ ?_ ?_)
        | (with_reducible refine' x_tup ?_ ?_)
        | (with_reducible refine' x_lst ?_ ?_)
        | (with_reducible refine' x_dct1 ?_)
        | (with_reducible refine' x_ixN ?_ ?_ ?_ ?_)
        | (with_reducible refine' x_so ?_)
        | (with_reducible refine' x_sl ?_ ?_ ?_ ?_)
        | (with_reducible refine' x_it ?_ ?_)
        | (with_reducible refine' x_rg1 ?_ ?_)
        | (with_reducible refine' x_zip ?_ ?_ ?_)
        | (with_reducible refine' x_m0 ?_ ?_)
        | (with_reducible refine' x_m1 ?_ ?_ ?_)
        | (with_reducible refine' x_ma ?_ ?_ ?_)
        | (with_reducible refine' x_kget ?_ ?_)
        | (with_reducible refine' x_inR ?_ ?_)
        | (with_reducible refine' w_sc ?_ ?_)
        | (with_reducible refine' x_ret ?_)
        | (with_reducible refine' w_sif ?_ ?_)
        | (with_reducible refine' w_asg ?_ ?_)
        | (with_reducible refine' w_for ?_ ?_)
        | (with_reducible refine' w_forcons ?_ ?_ ?_)
        | (with_reducible refine' w_tgcons ?_ ?_)
        | (with_reducible refine' w_tgtup rfl ?_)
        | (with_reducible refine' x_calB ?_ ?_ ?_ ?_ ?_)
        | (with_reducible refine' x_par ?_)
        | (with_reducible refine' x_par3 ?_)
        | ((with_reducible refine' cond_t ?hb ?_); (case hb => exact rfl))
        | ((with_reducible refine' cond_t ?hb ?_); (case hb => exact n2))
        | ((with_reducible refine' cond_t ?hb ?_); (case hb => exact n5))
        | ((with_reducible refine' cond_t ?hb ?_); (case hb => exact c3))
        | ((with_reducible refine' cond_t ?hb ?_); (case hb => exact n7))
        | ((with_reducible refine' cond_f ?hb ?_); (case hb => exact rfl))
        | ((with_reducible refine' cond_f ?hb ?_); (case hb => exact n2))
        | ((with_reducible refine' cond_f ?hb ?_); (case hb => exact n5))
        | ((with_reducible refine' cond_f ?hb ?_); (case hb => exact c3))
        | ((with_reducible refine' cond_f ?hb ?_); (case hb => exact n7))
        | (with_reducible refine' Eq.trans nxt_nx ?_)
        | (with_reducible refine' Eq.trans nxt_rt ?_)
        | (with_reducible refine' Eq.trans nxl_nx ?_)
        | (with_reducible refine' Eq.trans nxl_rt ?_)
        | (exact sz_le rfl)
        | rfl)
  · show _ = some (Out.rt (.bl (isCell d)) _)
    repeat' (first
      | (exact n8)
      | (exact c1)
      | (with_reducible exact x_c)
      | (with_reducible refine' x_v ?_)
      | (with_reducible exact x_nil)
      | (with_reducible exact x_no)
      | (with_reducible exact x_sn)
      | (with_reducible exact w_nm)
      | (with_reducible exact w_tgnil)
      | (with_reducible exact w_fornil)
      | (with_reducible refine' x_b ?_ ?_ ?_)
      | (with_reducible refine' x_cons ?_ ?_)
      | (with_reducible refine' x_star ?_ ?_ ?_)
      | (with_reducible refine' x_call ?_ ?_)
      | (with_reducible refine' x_cal ?_ ?_ ?_)
      | (with_reducible refine' x_isi ?_)
      | (with_reducible refine' x_tst ?_)
      | (with_reducible refine' w_tru ?_ ?_)
      | (with_reducible refine' x_not ?_)
      | (with_reducible refine' w_andT ?_ ?_)
      | (with_reducible refine' w_orT ?_ ?_)
      | (with_reducible refine' w_andV ?_ ?_)
      | (with_reducible refine' w_orV ?_ ?_)
      | (with_reducible refine' x_notV ?_)
      | (with_reducible refine' x_neg ?_)
      | (with_reducible refine' w_if ?_ ?_)
      | (with_reducible refine' w_ch ?_ ?_ ?_ ?_)
      | (with_reducible refine' x_tup ?_ ?_)
      | (with_reducible refine' x_lst ?_ ?_)
      | (with_reducible refine' x_dct1 ?_)
      | (with_reducible refine' x_ixN ?_ ?_ ?_ ?_)
      | (with_reducible refine' x_so ?_)
      | (with_reducible refine' x_sl ?_ ?_ ?_ ?_)
      | (with_reducible refine' x_it ?_ ?_)
      | (with_reducible refine' x_rg1 ?_ ?_)
      | (with_reducible refine' x_zip ?_ ?_ ?_)
      | (with_reducible refine' x_m0 ?_ ?_)
      | (with_reducible refine' x_m1 ?_ ?_ ?_)
      | (with_reducible refine' x_ma ?_ ?_ ?_)
      | (with_reducible refine' x_kget ?_ ?_)
      | (with_reducible refine' x_inR ?_ ?_)
      | (with_reducible refine' w_sc ?_ ?_)
      | (with_reducible refine' x_ret ?_)
      | (with_reducible refine' w_sif ?_ ?_)
      | (with_reducible refine' w_asg ?_ ?_)
      | (with_reducible refine' w_for ?_ ?_)
      | (with_reducible refine' w_forcons ?_ ?_ ?_)
      | (with_reducible refine' w_tgcons ?_ ?_)
      | (with_reducible refine' w_tgtup rfl ?_)
      | (with_reducible refine' x_calB ?_ ?_ ?_ ?_ ?_)
      | (with_reducible refine' x_par ?_)
      | (with_reducible refine' x_par3 ?_)
      | ((with_reducible refine' cond_t ?hb ?_); (case hb => exact rfl))
      | ((with_reducible refine' cond_t ?hb ?_); (case hb => exact n8))
      | ((with_reducible refine' cond_t ?hb ?_); (case hb => exact c1))
      | ((with_reducible refine' cond_f ?hb ?_); (case hb => exact rfl))
      | ((with_reducible refine' cond_f ?hb ?_); (case hb => exact n8))
      | ((with_reducible refine' cond_f ?hb ?_); (case hb => exact c1))
      | (with_reducible refine' Eq.trans nxt_nx ?_)
      | (with_reducible refine' Eq.trans nxt_rt ?_)
      | (with_reducible refine' Eq.trans nxl_nx ?_)
      | (with_reducible refine' Eq.trans nxl_rt ?_)
      | (exact sz_le rfl)
      | rfl)
  · show _ = some (Out.rt (.bl (isText d)) _)
    repeat' (first
      | (exact n3)
      | (exact n9)
      | (exact c2)
      | (with_reducible exact x_c)
      | (with_reducible refine' x_v ?_)
      | (with_reducible exact x_nil)
      | (with_reducible exact x_no)
      | (with_reducible exact x_sn)
      | (with_reducible exact w_nm)
      | (with_reducible exact w_tgnil)
      | (with_reducible exact w_fornil)
      | (with_reducible refine' x_b ?_ ?_ ?_)
      | (with_reducible refine' x_cons ?_ ?_)
      | (with_reducible refine' x_star ?_ ?_ ?_)
      | (with_reducible refine' x_call ?_ ?_)
      | (with_reducible refine' x_cal ?_ ?_ ?_)
      | (with_reducible refine' x_isi ?_)
      | (with_reducible refine' x_tst ?_)
      | (with_reducible refine' w_tru ?_ ?_)
      | (with_reducible refine' x_not ?_)
      | (with_reducible refine' w_andT ?_ ?_)
      | (with_reducible refine' w_orT ?_ ?_)
      | (with_reducible refine' w_andV ?_ ?_)
      | (with_reducible refine' w_orV ?_ ?_)
      | (with_reducible refine' x_notV ?_)
      | (with_reducible refine' x_neg ?_)
      | (with_reducible refine' w_if ?_ ?_)
      | (with_reducible refine' w_ch ?_ ?_ ?_ ?_)
      | (with_reducible refine' x_tup ?_ ?_)
      | (with_reducible refine' x_lst ?_ ?_)
      | (with_reducible refine' x_dct1 ?_)
      | (with_reducible refine' x_ixN ?_ ?_ ?_ ?_)
      | (with_reducible refine' x_so ?_)
      | (with_reducible refine' x_sl ?_ ?_ ?_ ?_)
      | (with_reducible refine' x_it ?_ ?_)
      | (with_reducible refine' x_rg1 ?_ ?_)
      | (with_reducible refine' x_zip ?_ ?_ ?_)
      | (with_reducible refine' x_m0 ?_ ?_)
      | (with_reducible refine' x_m1 ?_ ?_ ?_)
      | (with_reducible refine' x_ma ?_ ?_ ?_)
      | (with_reducible refine' x_kget ?_ ?_)
      | (with_reducible refine' x_inR ?_ ?_)
      | (with_reducible refine' w_sc ?_ ?_)
      | (with_reducible refine' x_ret ?_)
      | (with_reducible refine' w_sif ?_ ?_)
      | (with_reducible refine' w_asg ?_ ?_)
      | (with_reducible refine' w_for ?_ ?_)
      | (with_reducible refine' w_forcons ?_ ?_ ?_)
      | (with_reducible refine' w_tgcons ?_ ?_)
      | (with_reducible refine' w_tgtup rfl ?_)
      | (with_reducible refine' x_calB ?_ ?_ ?_ ?_ ?_)
      | (with_reducible refine' x_par ?_)
      | (with_reducible refine' x_par3 ?_)
      | ((with_reducible refine' cond_t ?hb ?_); (case hb => exact rfl))
      | ((with_reducible refine' cond_t ?hb ?_); (case hb => exact n3))
      | ((with_reducible refine' cond_t ?hb ?_); (case hb => exact n9))
      | ((with_reducible refine' cond_t ?hb ?_); (case hb => exact c2))
      | ((with_reducible refine' cond_f ?hb ?_); (case hb => exact rfl))
      | ((with_reducible refine' cond_f ?hb ?_); (case hb => exact n3))
      | ((with_reducible refine' cond_f ?hb ?_); (case hb => exact n9))
      | ((with_reducible refine' cond_f ?hb ?_); (case hb => exact c2))
      | (with_reducible refine' Eq.trans nxt_nx ?_)
      | (with_reducible refine' Eq.trans nxt_rt ?_)
      | (with_reducible refine' Eq.trans nxl_nx ?_)
      | (with_reducible refine' Eq.trans nxl_rt ?_)
      | (exact sz_le rfl)
      | rfl)
/-! acts -/
def okAll : List So → List D → Bool
  | [], [] => true
  | s :: ss, x :: xs => itOk s x && okAll ss xs
  | _, _ => false
def isActD : D → Bool
  | .tup (.str k :: x :: xs) => okAll (kindOf k) (x :: xs)
  | _ => false
theorem okAll_len : ∀ {ss : List So} {xs : List D}, okAll ss xs = true → ss.length = xs.length
  | [], [], _ => rfl
  | s :: ss, x :: xs, h => by
    simp only [okAll, Bool.and_eq_true] at h
    rw [List.length_cons, List.length_cons, okAll_len h.2]
  | [], _ :: _, h => by cases h
  | _ :: _, [], h => by cases h
theorem okAll_ne {ss : List So} {xs : List D} (h : ss.length ≠ xs.length) : okAll ss xs = false := by
  cases e : okAll ss xs with
  | false => rfl
  | true => exact absurd (okAll_len e) h
theorem cut1 {α : Type} (a : α) (xs : List α) : Dx.cutD (a :: xs) (some 1) none = xs := by
  unfold Dx.cutD
  rw [show (some (1 : Int)) = some ((1 : Nat) : Int) from rfl, HT.sIx_nat, HT.sIx_none, List.length_cons, Nat.min_eq_left (by omega)]
  simp
theorem sl_tup1 (a : D) (xs : List D) : dSl (.tup (a :: xs)) (some 1) none = some (.tup xs) := by
  show some (D.tup (Dx.cutD (a :: xs) (some 1) none)) = _
  rw [cut1]
/-- the walk over pairs -/
def pairOk : D → Option D
  | .tup [x, .str s] => some (.bl (itOk (soOf s) x))
  | _ => none
theorem bools_pairs : ∀ (xs : List D) (ss : List Str), xs.length = ss.length → (bools? ((zipD xs (ss.map D.str)).filterMap pairOk)).map (fun ns => D.bl (ns.all id)) = some (.bl (okAll (ss.map soOf) xs))
  | [], [], _ => rfl
  | x :: xs, s :: ss, h => by
    have ih := bools_pairs xs ss (by simpa using h)
    show (bools? (D.bl (itOk (soOf s) x) :: (zipD xs (ss.map D.str)).filterMap pairOk)).map _ = _
    cases e : bools? ((zipD xs (ss.map D.str)).filterMap pairOk) with
    | none => rw [e] at ih; cases ih
    | some ns =>
      rw [e] at ih
      injection ih with ih
      injection ih with ih
      simp only [bools?, e, Option.map_some, List.all_cons, id, List.map_cons, okAll, ← ih]
  | [], _ :: _, h => by cases h
  | _ :: _, [], h => by cases h
theorem isT_lt {a b : Int} (h : a < b) : dLt (.int a) (.int b) = some (.bl true) := congrArg (fun b => some (D.bl b)) (decide_eq_true h)
theorem isF_lt {a b : Int} (h : ¬ a < b) : dLt (.int a) (.int b) = some (.bl false) := congrArg (fun b => some (D.bl b)) (decide_eq_false h)
theorem ix0_tup (a : D) (xs : List D) : dIx (.tup (a :: xs)) (.int 0) = some a := atI_nat (j := 0) rfl
theorem ix0_lst (a : D) (xs : List D) : dIx (.lst (a :: xs)) (.int 0) = some a := atI_nat (j := 0) rfl
theorem l_is_act_tup {k : Str} {x : D} {xs : List D} (hk : okS k) (hx : ∀ y ∈ x :: xs, okI y) (hl : xs.length ≤ 100) : L_is_act_1 [.tup (.str k :: x :: xs)] = some (.bl (okAll (kindOf k) (x :: xs))) := by
  obtain ⟨ss, e1, e2, e3, e4⟩ := items_kind k
  rw [← e3]
  show gOf 4 gs_is_act [.tup (.str k :: x :: xs), .non] = _
  refine of_rt (δ' := [.pl (.tup (.str k :: x :: xs)), .pl .non, .pl (.tup (ss.map D.str)), .no]) ?_
  have q1 : dLt (.int (((D.str k :: x :: xs).length : Nat) : Int)) (.int 2) = some (.bl false) := isF_lt (by simp only [List.length_cons]; omega)
  have q2 := ix0_tup (.str k) (x :: xs)
  have q3 : (tb_ITEMS.lookup k).getD (.tup []) = .tup (ss.map D.str) := e1
  have q4 : dSub (.int (((D.str k :: x :: xs).length : Nat) : Int)) (.int 1) = some (.int ((x :: xs).length : Nat)) := by
    show some (D.int _) = _
    congr 2
    simp only [List.length_cons]
    omega
  have q5 := eq_int ((ss.map D.str).length : Nat) ((x :: xs).length : Nat)
  have q6 := sl_tup1 (.str k) (x :: xs)
  unfold gs_is_act
  have q3' : gKGet tb_ITEMS (gIxN 0 (gC (.int 0))) (gTup Dx.gNil) [.pl (.tup (.str k :: x :: xs)), .pl .non, .no, .no] = some (.tup (ss.map D.str), [.pl (.tup (.str k :: x :: xs)), .pl .non, .no, .no]) := by
    rw [← q3]
    exact x_kget (x_ixN x_c rfl rfl q2) (x_tup x_nil (Nat.zero_le _))
  by_cases h : ss.length = (x :: xs).length
  · rw [List.length_map, decide_eq_true (by rw [h])] at q5
    have q7 : gLc (gZip (Dx.gCons (gSl (gV 0) (gSo (gC (.int 1))) gNo) (Dx.gCons (gV 2) Dx.gNil))) (gNm 3) gYes (gCal L_is_item_3 3 (gStar (gV 3) (Dx.gCons (gV 1) Dx.gNil))) [3] [.pl (.tup (.str k :: x :: xs)), .pl .non, .pl (.tup (ss.map D.str)), .no]
        = some (.lst ((zipD (x :: xs) (ss.map D.str)).filterMap pairOk), [.pl (.tup (.str k :: x :: xs)), .pl .non, .pl (.tup (ss.map D.str)), .no]) := by
      refine gLc_all (δ1 := [.pl (.tup (.str k :: x :: xs)), .pl .non, .pl (.tup (ss.map D.str)), .no]) pairOk (x_zip (x_cons (x_sl (x_v rfl) (x_so x_c) x_no q6) (x_one (x_v rfl))) rfl rfl) rfl (fun p hp acc ha => ?_) ?_ rfl
      · obtain ⟨i, hi⟩ := List.getElem?_of_mem hp
        obtain ⟨a, b, ga, gb, rfl⟩ := zipD_get hi
        rw [List.getElem?_map] at gb
        obtain ⟨s, gs, rfl⟩ := Option.map_eq_some_iff.mp gb
        have hs := e2 s (List.mem_of_getElem? gs)
        have := l_is_item (hx a (List.mem_of_getElem? ga)) hs
        have t : gCal L_is_item_3 3 (gStar (gV 3) (Dx.gCons (gV 1) Dx.gNil)) [.pl (.tup (.str k :: x :: xs)), .pl .non, .pl (.tup (ss.map D.str)), .pl (.tup [a, .str s])] = some (.bl (itOk (soOf s) a), [.pl (.tup (.str k :: x :: xs)), .pl .non, .pl (.tup (ss.map D.str)), .pl (.tup [a, .str s])]) :=
          x_cal (x_star (x_v rfl) rfl (x_one (x_v rfl))) rfl this
        show (match gCal L_is_item_3 3 (gStar (gV 3) (Dx.gCons (gV 1) Dx.gNil)) [.pl (.tup (.str k :: x :: xs)), .pl .non, .pl (.tup (ss.map D.str)), .pl (.tup [a, .str s])] with
          | some (d, δ3) => if acc.length < sizeLine then some (wipeD δ3 [3], acc ++ [d]) else none
          | none => none) = _
        rw [t]
        simp only [if_pos ha]
        rfl
      · rw [zipD_len]
        refine Nat.le_trans (Nat.min_le_left _ _) (Nat.le_trans (m := 101) (by simp only [List.length_cons]; omega) (by decide))
    have q8 : on1 dAll [.lst ((zipD (x :: xs) (ss.map D.str)).filterMap pairOk)] = some (.bl (okAll (ss.map soOf) (x :: xs))) := bools_pairs (x :: xs) ss h.symm
    have q9 : gB dEq (gCall (on1 dLen1) (Dx.gCons (gV 2) Dx.gNil)) (gB dSub (gCall (on1 dLen1) (Dx.gCons (gV 0) Dx.gNil)) (gC (.int 1))) [.pl (.tup (.str k :: x :: xs)), .pl .non, .pl (.tup (ss.map D.str)), .no] = some (.bl true, [.pl (.tup (.str k :: x :: xs)), .pl .non, .pl (.tup (ss.map D.str)), .no]) := by
      refine x_b (x_call (x_one (x_v rfl)) rfl) (x_b (x_call (x_one (x_v rfl)) rfl) x_c q4) ?_
      rw [List.length_map]
      exact q5
    repeat' (first
      | (exact q3')
      | (exact q9)
      | (exact q7)
      | (exact q8)
      | (exact q1)
      | (exact q2)
      | (with_reducible exact x_c)
      | (with_reducible refine' x_v ?_)
      | (with_reducible exact x_nil)
      | (with_reducible exact x_no)
      | (with_reducible exact x_sn)
      | (with_reducible exact w_nm)
      | (with_reducible exact w_tgnil)
      | (with_reducible exact w_fornil)
      | (with_reducible refine' x_b ?_ ?_ ?_)
      | (with_reducible refine' x_cons ?_ ?_)
      | (with_reducible refine' x_star ?_ ?_ ?_)
      | (with_reducible refine' x_call ?_ ?_)
      | (with_reducible refine' x_cal ?_ ?_ ?_)
      | (with_reducible refine' x_isi ?_)
      | (with_reducible refine' x_tst ?_)
      | (with_reducible refine' w_tru ?_ ?_)
      | (with_reducible refine' x_not ?_)
      | (with_reducible refine' w_andT ?_ ?_)
      | (with_reducible refine' w_orT ?_ ?_)
      | (with_reducible refine' w_andV ?_ ?_)
      | (with_reducible refine' w_orV ?_ ?_)
      | (with_reducible refine' x_notV ?_)
      | (with_reducible refine' x_neg ?_)
      | (with_reducible refine' w_if ?_ ?_)
      | (with_reducible refine' w_ch ?_ ?_ ?_ ?_)
      | (with_reducible refine' x_tup ?_ ?_)
      | (with_reducible refine' x_lst ?_ ?_)
      | (with_reducible refine' x_dct1 ?_)
      | (with_reducible refine' x_ixN ?_ ?_ ?_ ?_)
      | (with_reducible refine' x_so ?_)
      | (with_reducible refine' x_sl ?_ ?_ ?_ ?_)
      | (with_reducible refine' x_it ?_ ?_)
      | (with_reducible refine' x_rg1 ?_ ?_)
      | (with_reducible refine' x_zip ?_ ?_ ?_)
      | (with_reducible refine' x_m0 ?_ ?_)
      | (with_reducible refine' x_m1 ?_ ?_ ?_)
      | (with_reducible refine' x_ma ?_ ?_ ?_)
      | (with_reducible refine' x_kget ?_ ?_)
      | (with_reducible refine' x_inR ?_ ?_)
      | (with_reducible refine' w_sc ?_ ?_)
      | (with_reducible refine' x_ret ?_)
      | (with_reducible refine' w_sif ?_ ?_)
      | (with_reducible refine' w_asg ?_ ?_)
      | (with_reducible refine' w_for ?_ ?_)
      | (with_reducible refine' w_forcons ?_ ?_ ?_)
      | (with_reducible refine' w_tgcons ?_ ?_)
      | (with_reducible refine' w_tgtup rfl ?_)
      | (with_reducible refine' x_calB ?_ ?_ ?_ ?_ ?_)
      | (with_reducible refine' x_par ?_)
      | (with_reducible refine' x_par3 ?_)
      | ((with_reducible refine' cond_t ?hb ?_); (case hb => exact rfl))
      | ((with_reducible refine' cond_t ?hb ?_); (case hb => exact q3'))
      | ((with_reducible refine' cond_t ?hb ?_); (case hb => exact q9))
      | ((with_reducible refine' cond_t ?hb ?_); (case hb => exact q7))
      | ((with_reducible refine' cond_t ?hb ?_); (case hb => exact q8))
      | ((with_reducible refine' cond_t ?hb ?_); (case hb => exact q1))
      | ((with_reducible refine' cond_t ?hb ?_); (case hb => exact q2))
      | ((with_reducible refine' cond_f ?hb ?_); (case hb => exact rfl))
      | ((with_reducible refine' cond_f ?hb ?_); (case hb => exact q3'))
      | ((with_reducible refine' cond_f ?hb ?_); (case hb => exact q9))
      | ((with_reducible refine' cond_f ?hb ?_); (case hb => exact q7))
      | ((with_reducible refine' cond_f ?hb ?_); (case hb => exact q8))
      | ((with_reducible refine' cond_f ?hb ?_); (case hb => exact q1))
      | ((with_reducible refine' cond_f ?hb ?_); (case hb => exact q2))
      | (with_reducible refine' Eq.trans nxt_nx ?_)
      | (with_reducible refine' Eq.trans nxt_rt ?_)
      | (with_reducible refine' Eq.trans nxl_nx ?_)
      | (with_reducible refine' Eq.trans nxl_rt ?_)
      | (exact sz_le rfl)
      | rfl)
  · rw [List.length_map, decide_eq_false (by omega)] at q5
    have q9 : gB dEq (gCall (on1 dLen1) (Dx.gCons (gV 2) Dx.gNil)) (gB dSub (gCall (on1 dLen1) (Dx.gCons (gV 0) Dx.gNil)) (gC (.int 1))) [.pl (.tup (.str k :: x :: xs)), .pl .non, .pl (.tup (ss.map D.str)), .no] = some (.bl false, [.pl (.tup (.str k :: x :: xs)), .pl .non, .pl (.tup (ss.map D.str)), .no]) := by
      refine x_b (x_call (x_one (x_v rfl)) rfl) (x_b (x_call (x_one (x_v rfl)) rfl) x_c q4) ?_
      rw [List.length_map]
      exact q5
    rw [okAll_ne (by rw [List.length_map]; exact h)]
    repeat' (first
      | (exact q3')
      | (exact q9)
      | (exact q1)
      | (exact q2)
      | (with_reducible exact x_c)
      | (with_reducible refine' x_v ?_)
      | (with_reducible exact x_nil)
      | (with_reducible exact x_no)
      | (with_reducible exact x_sn)
      | (with_reducible exact w_nm)
      | (with_reducible exact w_tgnil)
      | (with_reducible exact w_fornil)
      | (with_reducible refine' x_b ?_ ?_ ?_)
      | (with_reducible refine' x_cons ?_ ?_)
      | (with_reducible refine' x_star ?_ ?_ ?_)
      | (with_reducible refine' x_call ?_ ?_)
      | (with_reducible refine' x_cal ?_ ?_ ?_)
      | (with_reducible refine' x_isi ?_)
      | (with_reducible refine' x_tst ?_)
      | (with_reducible refine' w_tru ?_ ?_)
      | (with_reducible refine' x_not ?_)
      | (with_reducible refine' w_andT ?_ ?_)
      | (with_reducible refine' w_orT ?_ ?_)
      | (with_reducible refine' w_andV ?_ ?_)
      | (with_reducible refine' w_orV ?_ ?_)
      | (with_reducible refine' x_notV ?_)
      | (with_reducible refine' x_neg ?_)
      | (with_reducible refine' w_if ?_ ?_)
      | (with_reducible refine' w_ch ?_ ?_ ?_ ?_)
      | (with_reducible refine' x_tup ?_ ?_)
      | (with_reducible refine' x_lst ?_ ?_)
      | (with_reducible refine' x_dct1 ?_)
      | (with_reducible refine' x_ixN ?_ ?_ ?_ ?_)
      | (with_reducible refine' x_so ?_)
      | (with_reducible refine' x_sl ?_ ?_ ?_ ?_)
      | (with_reducible refine' x_it ?_ ?_)
      | (with_reducible refine' x_rg1 ?_ ?_)
      | (with_reducible refine' x_zip ?_ ?_ ?_)
      | (with_reducible refine' x_m0 ?_ ?_)
      | (with_reducible refine' x_m1 ?_ ?_ ?_)
      | (with_reducible refine' x_ma ?_ ?_ ?_)
      | (with_reducible refine' x_kget ?_ ?_)
      | (with_reducible refine' x_inR ?_ ?_)
      | (with_reducible refine' w_sc ?_ ?_)
      | (with_reducible refine' x_ret ?_)
      | (with_reducible refine' w_sif ?_ ?_)
      | (with_reducible refine' w_asg ?_ ?_)
      | (with_reducible refine' w_for ?_ ?_)
      | (with_reducible refine' w_forcons ?_ ?_ ?_)
      | (with_reducible refine' w_tgcons ?_ ?_)
      | (with_reducible refine' w_tgtup rfl ?_)
      | (with_reducible refine' x_calB ?_ ?_ ?_ ?_ ?_)
      | (with_reducible refine' x_par ?_)
      | (with_reducible refine' x_par3 ?_)
      | ((with_reducible refine' cond_t ?hb ?_); (case hb => exact rfl))
      | ((with_reducible refine' cond_t ?hb ?_); (case hb => exact q3'))
      | ((with_reducible refine' cond_t ?hb ?_); (case hb => exact q9))
      | ((with_reducible refine' cond_t ?hb ?_); (case hb => exact q1))
      | ((with_reducible refine' cond_t ?hb ?_); (case hb => exact q2))
      | ((with_reducible refine' cond_f ?hb ?_); (case hb => exact rfl))
      | ((with_reducible refine' cond_f ?hb ?_); (case hb => exact q3'))
      | ((with_reducible refine' cond_f ?hb ?_); (case hb => exact q9))
      | ((with_reducible refine' cond_f ?hb ?_); (case hb => exact q1))
      | ((with_reducible refine' cond_f ?hb ?_); (case hb => exact q2))
      | (with_reducible refine' Eq.trans nxt_nx ?_)
      | (with_reducible refine' Eq.trans nxt_rt ?_)
      | (with_reducible refine' Eq.trans nxl_nx ?_)
      | (with_reducible refine' Eq.trans nxl_rt ?_)
      | (exact sz_le rfl)
      | rfl)
end P57
set_option Elab.async false
set_option linter.all false
set_option maxRecDepth 100000
set_option maxHeartbeats 4000000
namespace P57
open PySem PySem.Spec PyProof.Rows L2 Dx
/-- a value whose texts are plain as far as is_act looks -/
def okA : D → Prop
  | .tup xs => xs.length ≤ 100 ∧ ∀ y ∈ xs, okI y
  | _ => True
def isStr : D → Bool
  | .str _ => true
  | _ => false
theorem isi_str (d : D) : isiB d "str" = isStr d := by cases d <;> rfl
theorem l_is_act {d : D} (h : okA d) : L_is_act_1 [d] = some (.bl (isActD d)) := by
  cases d with
  | tup xs =>
    obtain ⟨hl, h⟩ := h
    match xs, hl, h with
    | [], _, _ => rfl
    | [a], _, _ =>
      cases a <;> rfl
    | a :: x :: r, hl, h =>
      cases hs : isStr a with
      | true =>
        cases a with
        | str k => exact l_is_act_tup (h (.str k) (List.mem_cons_self ..) k rfl) (fun y hy => h y (List.mem_cons_of_mem _ hy)) (by simp only [List.length_cons] at hl; omega)
        | _ => cases hs
      | false =>
        have e : isActD (.tup (a :: x :: r)) = false := by cases a <;> first | rfl | cases hs
        have i := isi_str a
        rw [hs] at i
        rw [e]
        have q1 : dLt (.int (((a :: x :: r).length : Nat) : Int)) (.int 2) = some (.bl false) := isF_lt (by simp only [List.length_cons]; omega)
        have q2 := ix0_tup a (x :: r)
        show gOf 4 gs_is_act [.tup (a :: x :: r), .non] = _
        refine of_rt (δ' := [.pl (.tup (a :: x :: r)), .pl .non, .no, .no]) ?_
        unfold gs_is_act
        have q3 : gNotT (gTru (gIsi "str" (gIxN 0 (gC (.int 0))))) (den0 4 [.tup (a :: x :: r), .non]) = some (true, [.pl (.tup (a :: x :: r)), .pl .non, .no, .no]) := by
          have := x_not (x_isT (cn := "str") (x_ixN (i := 0) (δ := [.pl (.tup (a :: x :: r)), .pl .non, .no, .no]) (gb := gC (.int 0)) x_c rfl rfl q2))
          rw [i] at this
          exact this
        repeat' (first
          | (exact q3)
          | (exact q1)
          | (with_reducible exact x_c)
          | (with_reducible refine' x_v ?_)
          | (with_reducible exact x_nil)
          | (with_reducible exact x_no)
          | (with_reducible exact x_sn)
          | (with_reducible exact w_nm)
          | (with_reducible exact w_tgnil)
          | (with_reducible exact w_fornil)
          | (with_reducible refine' x_b ?_ ?_ ?_)
          | (with_reducible refine' x_cons ?_ ?_)
          | (with_reducible refine' x_star ?_ ?_ ?_)
          | (with_reducible refine' x_call ?_ ?_)
          | (with_reducible refine' x_cal ?_ ?_ ?_)
          | (with_reducible refine' x_isi ?_)
          | (with_reducible refine' x_tst ?_)
          | (with_reducible refine' w_tru ?_ ?_)
          | (with_reducible refine' x_not ?_)
          | (with_reducible refine' w_andT ?_ ?_)
          | (with_reducible refine' w_orT ?_ ?_)
          | (with_reducible refine' w_andV ?_ ?_)
          | (with_reducible refine' w_orV ?_ ?_)
          | (with_reducible refine' x_notV ?_)
          | (with_reducible refine' x_neg ?_)
          | (with_reducible refine' w_if ?_ ?_)
          | (with_reducible refine' w_ch ?_ ?_ ?_ ?_)
          | (with_reducible refine' x_tup ?_ ?_)
          | (with_reducible refine' x_lst ?_ ?_)
          | (with_reducible refine' x_dct1 ?_)
          | (with_reducible refine' x_ixN ?_ ?_ ?_ ?_)
          | (with_reducible refine' x_so ?_)
          | (with_reducible refine' x_sl ?_ ?_ ?_ ?_)
          | (with_reducible refine' x_it ?_ ?_)
          | (with_reducible refine' x_rg1 ?_ ?_)
          | (with_reducible refine' x_zip ?_ ?_ ?_)
          | (with_reducible refine' x_m0 ?_ ?_)
          | (with_reducible refine' x_m1 ?_ ?_ ?_)
          | (with_reducible refine' x_ma ?_ ?_ ?_)
          | (with_reducible refine' x_kget ?_ ?_)
          | (with_reducible refine' x_inR ?_ ?_)
          | (with_reducible refine' w_sc ?_ ?_)
          | (with_reducible refine' x_ret ?_)
          | (with_reducible refine' w_sif ?_ ?_)
          | (with_reducible refine' w_asg ?_ ?_)
          | (with_reducible refine' w_for ?_ ?_)
          | (with_reducible refine' w_forcons ?_ ?_ ?_)
          | (with_reducible refine' w_tgcons ?_ ?_)
          | (with_reducible refine' w_tgtup rfl ?_)
          | (with_reducible refine' x_calB ?_ ?_ ?_ ?_ ?_)
          | (with_reducible refine' x_par ?_)
          | (with_reducible refine' x_par3 ?_)
          | ((with_reducible refine' cond_t ?hb ?_); (case hb => exact rfl))
          | ((with_reducible refine' cond_t ?hb ?_); (case hb => exact q3))
          | ((with_reducible refine' cond_t ?hb ?_); (case hb => exact q1))
          | ((with_reducible refine' cond_f ?hb ?_); (case hb => exact rfl))
          | ((with_reducible refine' cond_f ?hb ?_); (case hb => exact q3))
          | ((with_reducible refine' cond_f ?hb ?_); (case hb => exact q1))
          | (with_reducible refine' Eq.trans nxt_nx ?_)
          | (with_reducible refine' Eq.trans nxt_rt ?_)
          | (with_reducible refine' Eq.trans nxl_nx ?_)
          | (with_reducible refine' Eq.trans nxl_rt ?_)
          | (exact sz_le rfl)
          | rfl)
  | _ => rfl
/-! the law's judge of acts -/
def body_act : GS := (gsCons (gsAsg (gIxN 0 (gB dAdd (gV 2) (gC (.int 1)))) (gNm 3))
  (gsCons (gsIf (gOrT (gAndT (gTst (gB dEq (gIxN 1 (gV 2)) (gC (.str "number")))) (gNotT (gTru (gCal L__law_is_number_1 1 (Dx.gCons (gV 3) Dx.gNil))))) (gAndT (gTst (gB dEq (gIxN 1 (gV 2)) (gC (.str "cell")))) (gNotT (gTru (gCal L__law_is_cell_1 1 (Dx.gCons (gV 3) Dx.gNil)))))) (gsCons (gsRet (gC (.bl false)))
  gsNil) gsNil)
  (gsCons (gsIf (gAndT (gTst (gB dEq (gIxN 1 (gV 2)) (gC (.str "text")))) (gNotT (gTru (gCal L__law_is_text_1 1 (Dx.gCons (gV 3) Dx.gNil))))) (gsCons (gsRet (gC (.bl false)))
  gsNil) gsNil)
  gsNil)))
theorem body_act_ok {v S x : D} {i : Nat} {s : So} {e : Ent} (hx : okI x) (h1 : dIx v (.int ((i : Nat) + 1 : Int)) = some x) (h2 : dIx S (.int (i : Nat)) = some (.str (soName s))) :
    body_act [.pl v, .pl S, .pl (.int (i : Nat)), e] = some (bif itOk s x then .nx [.pl v, .pl S, .pl (.int (i : Nat)), .pl x] else .rt (.bl false) [.pl v, .pl S, .pl (.int (i : Nat)), .pl x]) := by
  have c1 := l_is_number x
  have c2 := l_law_is_cell x hx
  have c3 := l_law_is_text x hx
  have e1 : dEq (.str "number") (.str "number") = some (.bl true) := eqc (by decide +kernel) (by decide +kernel) (by decide +kernel)
  have e2 : dEq (.str "number") (.str "cell") = some (.bl false) := eqc (by decide +kernel) (by decide +kernel) (by decide +kernel)
  have e3 : dEq (.str "number") (.str "text") = some (.bl false) := eqc (by decide +kernel) (by decide +kernel) (by decide +kernel)
  have e4 : dEq (.str "cell") (.str "number") = some (.bl false) := eqc (by decide +kernel) (by decide +kernel) (by decide +kernel)
  have e5 : dEq (.str "cell") (.str "cell") = some (.bl true) := eqc (by decide +kernel) (by decide +kernel) (by decide +kernel)
  have e6 : dEq (.str "cell") (.str "text") = some (.bl false) := eqc (by decide +kernel) (by decide +kernel) (by decide +kernel)
  have e7 : dEq (.str "text") (.str "number") = some (.bl false) := eqc (by decide +kernel) (by decide +kernel) (by decide +kernel)
  have e8 : dEq (.str "text") (.str "cell") = some (.bl false) := eqc (by decide +kernel) (by decide +kernel) (by decide +kernel)
  have e9 : dEq (.str "text") (.str "text") = some (.bl true) := eqc (by decide +kernel) (by decide +kernel) (by decide +kernel)
  unfold body_act
  cases s with
  | num =>
    have h2 : dIx S (.int (i : Nat)) = some (.str "number") := h2
    show _ = some (bif isCount x then _ else _)
    cases g : isCount x with
    | true =>
      rw [g] at c1
      rw [cond_true]
      repeat' (first
        | (exact h1)
        | (exact h2)
        | (exact e1)
        | (exact e2)
        | (exact e3)
        | (exact c1)
        | (with_reducible exact x_c)
        | (with_reducible refine' x_v ?_)
        | (with_reducible exact x_nil)
        | (with_reducible exact x_no)
        | (with_reducible exact x_sn)
        | (with_reducible exact w_nm)
        | (with_reducible exact w_tgnil)
        | (with_reducible exact w_fornil)
        | (with_reducible refine' x_b ?_ ?_ ?_)
        | (with_reducible refine' x_cons ?_ ?_)
        | (with_reducible refine' x_star ?_ ?_ ?_)
        | (with_reducible refine' x_call ?_ ?_)
        | (with_reducible refine' x_cal ?_ ?_ ?_)
        | (with_reducible refine' x_isi ?_)
        | (with_reducible refine' x_tst ?_)
        | (with_reducible refine' w_tru ?_ ?_)
        | (with_reducible refine' x_not ?_)
        | (with_reducible refine' w_andT ?_ ?_)
        | (with_reducible refine' w_orT ?_ ?_)
        | (with_reducible refine' w_andV ?_ ?_)
        | (with_reducible refine' w_orV ?_ ?_)
        | (with_reducible refine' x_notV ?_)
        | (with_reducible refine' x_neg ?_)
        | (with_reducible refine' w_if ?_ ?_)
        | (with_reducible refine' w_ch ?_ ?_ ?_ ?_)
        | (with_reducible refine' x_tup ?_ ?_)
        | (with_reducible refine' x_lst ?_ ?_)
        | (with_reducible refine' x_dct1 ?_)
        | (with_reducible refine' x_ixN ?_ ?_ ?_ ?_)
        | (with_reducible refine' x_so ?_)
        | (with_reducible refine' x_sl ?_ ?_ ?_ ?_)
        | (with_reducible refine' x_it ?_ ?_)
        | (with_reducible refine' x_rg1 ?_ ?_)
        | (with_reducible refine' x_zip ?_ ?_ ?_)
        | (with_reducible refine' x_m0 ?_ ?_)
        | (with_reducible refine' x_m1 ?_ ?_ ?_)
        | (with_reducible refine' x_ma ?_ ?_ ?_)
        | (with_reducible refine' x_kget ?_ ?_)
        | (with_reducible refine' x_inR ?_ ?_)
        | (with_reducible refine' w_sc ?_ ?_)
        | (with_reducible refine' x_ret ?_)
        | (with_reducible refine' w_sif ?_ ?_)
        | (with_reducible refine' w_asg ?_ ?_)
        | (with_reducible refine' w_for ?_ ?_)
        | (with_reducible refine' w_forcons ?_ ?_ ?_)
        | (with_reducible refine' w_tgcons ?_ ?_)
        | (with_reducible refine' w_tgtup rfl ?_)
        | (with_reducible refine' x_calB ?_ ?_ ?_ ?_ ?_)
        | (with_reducible refine' x_par ?_)
        | (with_reducible refine' x_par3 ?_)
        | ((with_reducible refine' cond_t ?hb ?_); (case hb => exact rfl))
        | ((with_reducible refine' cond_t ?hb ?_); (case hb => exact h1))
        | ((with_reducible refine' cond_t ?hb ?_); (case hb => exact h2))
        | ((with_reducible refine' cond_t ?hb ?_); (case hb => exact e1))
        | ((with_reducible refine' cond_t ?hb ?_); (case hb => exact e2))
        | ((with_reducible refine' cond_t ?hb ?_); (case hb => exact e3))
        | ((with_reducible refine' cond_t ?hb ?_); (case hb => exact c1))
        | ((with_reducible refine' cond_f ?hb ?_); (case hb => exact rfl))
        | ((with_reducible refine' cond_f ?hb ?_); (case hb => exact h1))
        | ((with_reducible refine' cond_f ?hb ?_); (case hb => exact h2))
        | ((with_reducible refine' cond_f ?hb ?_); (case hb => exact e1))
        | ((with_reducible refine' cond_f ?hb ?_); (case hb => exact e2))
        | ((with_reducible refine' cond_f ?hb ?_); (case hb => exact e3))
        | ((with_reducible refine' cond_f ?hb ?_); (case hb => exact c1))
        | (with_reducible refine' Eq.trans nxt_nx ?_)
        | (with_reducible refine' Eq.trans nxt_rt ?_)
        | (with_reducible refine' Eq.trans nxl_nx ?_)
        | (with_reducible refine' Eq.trans nxl_rt ?_)
        | (exact sz_le rfl)
        | rfl)
    | false =>
      rw [g] at c1
      rw [cond_false]
      repeat' (first
        | (exact h1)
        | (exact h2)
        | (exact e1)
        | (exact e2)
        | (exact e3)
        | (exact c1)
        | (with_reducible exact x_c)
        | (with_reducible refine' x_v ?_)
        | (with_reducible exact x_nil)
        | (with_reducible exact x_no)
        | (with_reducible exact x_sn)
        | (with_reducible exact w_nm)
        | (with_reducible exact w_tgnil)
        | (with_reducible exact w_fornil)
        | (with_reducible refine' x_b ?_ ?_ ?_)
        | (with_reducible refine' x_cons ?_ ?_)
        | (with_reducible refine' x_star ?_ ?_ ?_)
        | (with_reducible refine' x_call ?_ ?_)
        | (with_reducible refine' x_cal ?_ ?_ ?_)
        | (with_reducible refine' x_isi ?_)
        | (with_reducible refine' x_tst ?_)
        | (with_reducible refine' w_tru ?_ ?_)
        | (with_reducible refine' x_not ?_)
        | (with_reducible refine' w_andT ?_ ?_)
        | (with_reducible refine' w_orT ?_ ?_)
        | (with_reducible refine' w_andV ?_ ?_)
        | (with_reducible refine' w_orV ?_ ?_)
        | (with_reducible refine' x_notV ?_)
        | (with_reducible refine' x_neg ?_)
        | (with_reducible refine' w_if ?_ ?_)
        | (with_reducible refine' w_ch ?_ ?_ ?_ ?_)
        | (with_reducible refine' x_tup ?_ ?_)
        | (with_reducible refine' x_lst ?_ ?_)
        | (with_reducible refine' x_dct1 ?_)
        | (with_reducible refine' x_ixN ?_ ?_ ?_ ?_)
        | (with_reducible refine' x_so ?_)
        | (with_reducible refine' x_sl ?_ ?_ ?_ ?_)
        | (with_reducible refine' x_it ?_ ?_)
        | (with_reducible refine' x_rg1 ?_ ?_)
        | (with_reducible refine' x_zip ?_ ?_ ?_)
        | (with_reducible refine' x_m0 ?_ ?_)
        | (with_reducible refine' x_m1 ?_ ?_ ?_)
        | (with_reducible refine' x_ma ?_ ?_ ?_)
        | (with_reducible refine' x_kget ?_ ?_)
        | (with_reducible refine' x_inR ?_ ?_)
        | (with_reducible refine' w_sc ?_ ?_)
        | (with_reducible refine' x_ret ?_)
        | (with_reducible refine' w_sif ?_ ?_)
        | (with_reducible refine' w_asg ?_ ?_)
        | (with_reducible refine' w_for ?_ ?_)
        | (with_reducible refine' w_forcons ?_ ?_ ?_)
        | (with_reducible refine' w_tgcons ?_ ?_)
        | (with_reducible refine' w_tgtup rfl ?_)
        | (with_reducible refine' x_calB ?_ ?_ ?_ ?_ ?_)
        | (with_reducible refine' x_par ?_)
        | (with_reducible refine' x_par3 ?_)
        | ((with_reducible refine' cond_t ?hb ?_); (case hb => exact rfl))
        | ((with_reducible refine' cond_t ?hb ?_); (case hb => exact h1))
        | ((with_reducible refine' cond_t ?hb ?_); (case hb => exact h2))
        | ((with_reducible refine' cond_t ?hb ?_); (case hb => exact e1))
        | ((with_reducible refine' cond_t ?hb ?_); (case hb => exact e2))
        | ((with_reducible refine' cond_t ?hb ?_); (case hb => exact e3))
        | ((with_reducible refine' cond_t ?hb ?_); (case hb => exact c1))
        | ((with_reducible refine' cond_f ?hb ?_); (case hb => exact rfl))
        | ((with_reducible refine' cond_f ?hb ?_); (case hb => exact h1))
        | ((with_reducible refine' cond_f ?hb ?_); (case hb => exact h2))
        | ((with_reducible refine' cond_f ?hb ?_); (case hb => exact e1))
        | ((with_reducible refine' cond_f ?hb ?_); (case hb => exact e2))
        | ((with_reducible refine' cond_f ?hb ?_); (case hb => exact e3))
        | ((with_reducible refine' cond_f ?hb ?_); (case hb => exact c1))
        | (with_reducible refine' Eq.trans nxt_nx ?_)
        | (with_reducible refine' Eq.trans nxt_rt ?_)
        | (with_reducible refine' Eq.trans nxl_nx ?_)
        | (with_reducible refine' Eq.trans nxl_rt ?_)
        | (exact sz_le rfl)
        | rfl)
  | cell =>
    have h2 : dIx S (.int (i : Nat)) = some (.str "cell") := h2
    show _ = some (bif isCell x then _ else _)
    cases g : isCell x with
    | true =>
      rw [g] at c2
      rw [cond_true]
      repeat' (first
        | (exact h1)
        | (exact h2)
        | (exact e4)
        | (exact e5)
        | (exact e6)
        | (exact c2)
        | (with_reducible exact x_c)
        | (with_reducible refine' x_v ?_)
        | (with_reducible exact x_nil)
        | (with_reducible exact x_no)
        | (with_reducible exact x_sn)
        | (with_reducible exact w_nm)
        | (with_reducible exact w_tgnil)
        | (with_reducible exact w_fornil)
        | (with_reducible refine' x_b ?_ ?_ ?_)
        | (with_reducible refine' x_cons ?_ ?_)
        | (with_reducible refine' x_star ?_ ?_ ?_)
        | (with_reducible refine' x_call ?_ ?_)
        | (with_reducible refine' x_cal ?_ ?_ ?_)
        | (with_reducible refine' x_isi ?_)
        | (with_reducible refine' x_tst ?_)
        | (with_reducible refine' w_tru ?_ ?_)
        | (with_reducible refine' x_not ?_)
        | (with_reducible refine' w_andT ?_ ?_)
        | (with_reducible refine' w_orT ?_ ?_)
        | (with_reducible refine' w_andV ?_ ?_)
        | (with_reducible refine' w_orV ?_ ?_)
        | (with_reducible refine' x_notV ?_)
        | (with_reducible refine' x_neg ?_)
        | (with_reducible refine' w_if ?_ ?_)
        | (with_reducible refine' w_ch ?_ ?_ ?_ ?_)
        | (with_reducible refine' x_tup ?_ ?_)
        | (with_reducible refine' x_lst ?_ ?_)
        | (with_reducible refine' x_dct1 ?_)
        | (with_reducible refine' x_ixN ?_ ?_ ?_ ?_)
        | (with_reducible refine' x_so ?_)
        | (with_reducible refine' x_sl ?_ ?_ ?_ ?_)
        | (with_reducible refine' x_it ?_ ?_)
        | (with_reducible refine' x_rg1 ?_ ?_)
        | (with_reducible refine' x_zip ?_ ?_ ?_)
        | (with_reducible refine' x_m0 ?_ ?_)
        | (with_reducible refine' x_m1 ?_ ?_ ?_)
        | (with_reducible refine' x_ma ?_ ?_ ?_)
        | (with_reducible refine' x_kget ?_ ?_)
        | (with_reducible refine' x_inR ?_ ?_)
        | (with_reducible refine' w_sc ?_ ?_)
        | (with_reducible refine' x_ret ?_)
        | (with_reducible refine' w_sif ?_ ?_)
        | (with_reducible refine' w_asg ?_ ?_)
        | (with_reducible refine' w_for ?_ ?_)
        | (with_reducible refine' w_forcons ?_ ?_ ?_)
        | (with_reducible refine' w_tgcons ?_ ?_)
        | (with_reducible refine' w_tgtup rfl ?_)
        | (with_reducible refine' x_calB ?_ ?_ ?_ ?_ ?_)
        | (with_reducible refine' x_par ?_)
        | (with_reducible refine' x_par3 ?_)
        | ((with_reducible refine' cond_t ?hb ?_); (case hb => exact rfl))
        | ((with_reducible refine' cond_t ?hb ?_); (case hb => exact h1))
        | ((with_reducible refine' cond_t ?hb ?_); (case hb => exact h2))
        | ((with_reducible refine' cond_t ?hb ?_); (case hb => exact e4))
        | ((with_reducible refine' cond_t ?hb ?_); (case hb => exact e5))
        | ((with_reducible refine' cond_t ?hb ?_); (case hb => exact e6))
        | ((with_reducible refine' cond_t ?hb ?_); (case hb => exact c2))
        | ((with_reducible refine' cond_f ?hb ?_); (case hb => exact rfl))
        | ((with_reducible refine' cond_f ?hb ?_); (case hb => exact h1))
        | ((with_reducible refine' cond_f ?hb ?_); (case hb => exact h2))
        | ((with_reducible refine' cond_f ?hb ?_); (case hb => exact e4))
        | ((with_reducible refine' cond_f ?hb ?_); (case hb => exact e5))
        | ((with_reducible refine' cond_f ?hb ?_); (case hb => exact e6))
        | ((with_reducible refine' cond_f ?hb ?_); (case hb => exact c2))
        | (with_reducible refine' Eq.trans nxt_nx ?_)
        | (with_reducible refine' Eq.trans nxt_rt ?_)
        | (with_reducible refine' Eq.trans nxl_nx ?_)
        | (with_reducible refine' Eq.trans nxl_rt ?_)
        | (exact sz_le rfl)
        | rfl)
    | false =>
      rw [g] at c2
      rw [cond_false]
      repeat' (first
        | (exact h1)
        | (exact h2)
        | (exact e4)
        | (exact e5)
        | (exact e6)
        | (exact c2)
        | (with_reducible exact x_c)
        | (with_reducible refine' x_v ?_)
        | (with_reducible exact x_nil)
        | (with_reducible exact x_no)
        | (with_reducible exact x_sn)
        | (with_reducible exact w_nm)
        | (with_reducible exact w_tgnil)
        | (with_reducible exact w_fornil)
        | (with_reducible refine' x_b ?_ ?_ ?_)
        | (with_reducible refine' x_cons ?_ ?_)
        | (with_reducible refine' x_star ?_ ?_ ?_)
        | (with_reducible refine' x_call ?_ ?_)
        | (with_reducible refine' x_cal ?_ ?_ ?_)
        | (with_reducible refine' x_isi ?_)
        | (with_reducible refine' x_tst ?_)
        | (with_reducible refine' w_tru ?_ ?_)
        | (with_reducible refine' x_not ?_)
        | (with_reducible refine' w_andT ?_ ?_)
        | (with_reducible refine' w_orT ?_ ?_)
        | (with_reducible refine' w_andV ?_ ?_)
        | (with_reducible refine' w_orV ?_ ?_)
        | (with_reducible refine' x_notV ?_)
        | (with_reducible refine' x_neg ?_)
        | (with_reducible refine' w_if ?_ ?_)
        | (with_reducible refine' w_ch ?_ ?_ ?_ ?_)
        | (with_reducible refine' x_tup ?_ ?_)
        | (with_reducible refine' x_lst ?_ ?_)
        | (with_reducible refine' x_dct1 ?_)
        | (with_reducible refine' x_ixN ?_ ?_ ?_ ?_)
        | (with_reducible refine' x_so ?_)
        | (with_reducible refine' x_sl ?_ ?_ ?_ ?_)
        | (with_reducible refine' x_it ?_ ?_)
        | (with_reducible refine' x_rg1 ?_ ?_)
        | (with_reducible refine' x_zip ?_ ?_ ?_)
        | (with_reducible refine' x_m0 ?_ ?_)
        | (with_reducible refine' x_m1 ?_ ?_ ?_)
        | (with_reducible refine' x_ma ?_ ?_ ?_)
        | (with_reducible refine' x_kget ?_ ?_)
        | (with_reducible refine' x_inR ?_ ?_)
        | (with_reducible refine' w_sc ?_ ?_)
        | (with_reducible refine' x_ret ?_)
        | (with_reducible refine' w_sif ?_ ?_)
        | (with_reducible refine' w_asg ?_ ?_)
        | (with_reducible refine' w_for ?_ ?_)
        | (with_reducible refine' w_forcons ?_ ?_ ?_)
        | (with_reducible refine' w_tgcons ?_ ?_)
        | (with_reducible refine' w_tgtup rfl ?_)
        | (with_reducible refine' x_calB ?_ ?_ ?_ ?_ ?_)
        | (with_reducible refine' x_par ?_)
        | (with_reducible refine' x_par3 ?_)
        | ((with_reducible refine' cond_t ?hb ?_); (case hb => exact rfl))
        | ((with_reducible refine' cond_t ?hb ?_); (case hb => exact h1))
        | ((with_reducible refine' cond_t ?hb ?_); (case hb => exact h2))
        | ((with_reducible refine' cond_t ?hb ?_); (case hb => exact e4))
        | ((with_reducible refine' cond_t ?hb ?_); (case hb => exact e5))
        | ((with_reducible refine' cond_t ?hb ?_); (case hb => exact e6))
        | ((with_reducible refine' cond_t ?hb ?_); (case hb => exact c2))
        | ((with_reducible refine' cond_f ?hb ?_); (case hb => exact rfl))
        | ((with_reducible refine' cond_f ?hb ?_); (case hb => exact h1))
        | ((with_reducible refine' cond_f ?hb ?_); (case hb => exact h2))
        | ((with_reducible refine' cond_f ?hb ?_); (case hb => exact e4))
        | ((with_reducible refine' cond_f ?hb ?_); (case hb => exact e5))
        | ((with_reducible refine' cond_f ?hb ?_); (case hb => exact e6))
        | ((with_reducible refine' cond_f ?hb ?_); (case hb => exact c2))
        | (with_reducible refine' Eq.trans nxt_nx ?_)
        | (with_reducible refine' Eq.trans nxt_rt ?_)
        | (with_reducible refine' Eq.trans nxl_nx ?_)
        | (with_reducible refine' Eq.trans nxl_rt ?_)
        | (exact sz_le rfl)
        | rfl)
  | txt =>
    have h2 : dIx S (.int (i : Nat)) = some (.str "text") := h2
    show _ = some (bif isText x then _ else _)
    cases g : isText x with
    | true =>
      rw [g] at c3
      rw [cond_true]
      repeat' (first
        | (exact h1)
        | (exact h2)
        | (exact e7)
        | (exact e8)
        | (exact e9)
        | (exact c3)
        | (with_reducible exact x_c)
        | (with_reducible refine' x_v ?_)
        | (with_reducible exact x_nil)
        | (with_reducible exact x_no)
        | (with_reducible exact x_sn)
        | (with_reducible exact w_nm)
        | (with_reducible exact w_tgnil)
        | (with_reducible exact w_fornil)
        | (with_reducible refine' x_b ?_ ?_ ?_)
        | (with_reducible refine' x_cons ?_ ?_)
        | (with_reducible refine' x_star ?_ ?_ ?_)
        | (with_reducible refine' x_call ?_ ?_)
        | (with_reducible refine' x_cal ?_ ?_ ?_)
        | (with_reducible refine' x_isi ?_)
        | (with_reducible refine' x_tst ?_)
        | (with_reducible refine' w_tru ?_ ?_)
        | (with_reducible refine' x_not ?_)
        | (with_reducible refine' w_andT ?_ ?_)
        | (with_reducible refine' w_orT ?_ ?_)
        | (with_reducible refine' w_andV ?_ ?_)
        | (with_reducible refine' w_orV ?_ ?_)
        | (with_reducible refine' x_notV ?_)
        | (with_reducible refine' x_neg ?_)
        | (with_reducible refine' w_if ?_ ?_)
        | (with_reducible refine' w_ch ?_ ?_ ?_ ?_)
        | (with_reducible refine' x_tup ?_ ?_)
        | (with_reducible refine' x_lst ?_ ?_)
        | (with_reducible refine' x_dct1 ?_)
        | (with_reducible refine' x_ixN ?_ ?_ ?_ ?_)
        | (with_reducible refine' x_so ?_)
        | (with_reducible refine' x_sl ?_ ?_ ?_ ?_)
        | (with_reducible refine' x_it ?_ ?_)
        | (with_reducible refine' x_rg1 ?_ ?_)
        | (with_reducible refine' x_zip ?_ ?_ ?_)
        | (with_reducible refine' x_m0 ?_ ?_)
        | (with_reducible refine' x_m1 ?_ ?_ ?_)
        | (with_reducible refine' x_ma ?_ ?_ ?_)
        | (with_reducible refine' x_kget ?_ ?_)
        | (with_reducible refine' x_inR ?_ ?_)
        | (with_reducible refine' w_sc ?_ ?_)
        | (with_reducible refine' x_ret ?_)
        | (with_reducible refine' w_sif ?_ ?_)
        | (with_reducible refine' w_asg ?_ ?_)
        | (with_reducible refine' w_for ?_ ?_)
        | (with_reducible refine' w_forcons ?_ ?_ ?_)
        | (with_reducible refine' w_tgcons ?_ ?_)
        | (with_reducible refine' w_tgtup rfl ?_)
        | (with_reducible refine' x_calB ?_ ?_ ?_ ?_ ?_)
        | (with_reducible refine' x_par ?_)
        | (with_reducible refine' x_par3 ?_)
        | ((with_reducible refine' cond_t ?hb ?_); (case hb => exact rfl))
        | ((with_reducible refine' cond_t ?hb ?_); (case hb => exact h1))
        | ((with_reducible refine' cond_t ?hb ?_); (case hb => exact h2))
        | ((with_reducible refine' cond_t ?hb ?_); (case hb => exact e7))
        | ((with_reducible refine' cond_t ?hb ?_); (case hb => exact e8))
        | ((with_reducible refine' cond_t ?hb ?_); (case hb => exact e9))
        | ((with_reducible refine' cond_t ?hb ?_); (case hb => exact c3))
        | ((with_reducible refine' cond_f ?hb ?_); (case hb => exact rfl))
        | ((with_reducible refine' cond_f ?hb ?_); (case hb => exact h1))
        | ((with_reducible refine' cond_f ?hb ?_); (case hb => exact h2))
        | ((with_reducible refine' cond_f ?hb ?_); (case hb => exact e7))
        | ((with_reducible refine' cond_f ?hb ?_); (case hb => exact e8))
        | ((with_reducible refine' cond_f ?hb ?_); (case hb => exact e9))
        | ((with_reducible refine' cond_f ?hb ?_); (case hb => exact c3))
        | (with_reducible refine' Eq.trans nxt_nx ?_)
        | (with_reducible refine' Eq.trans nxt_rt ?_)
        | (with_reducible refine' Eq.trans nxl_nx ?_)
        | (with_reducible refine' Eq.trans nxl_rt ?_)
        | (exact sz_le rfl)
        | rfl)
    | false =>
      rw [g] at c3
      rw [cond_false]
      repeat' (first
        | (exact h1)
        | (exact h2)
        | (exact e7)
        | (exact e8)
        | (exact e9)
        | (exact c3)
        | (with_reducible exact x_c)
        | (with_reducible refine' x_v ?_)
        | (with_reducible exact x_nil)
        | (with_reducible exact x_no)
        | (with_reducible exact x_sn)
        | (with_reducible exact w_nm)
        | (with_reducible exact w_tgnil)
        | (with_reducible exact w_fornil)
        | (with_reducible refine' x_b ?_ ?_ ?_)
        | (with_reducible refine' x_cons ?_ ?_)
        | (with_reducible refine' x_star ?_ ?_ ?_)
        | (with_reducible refine' x_call ?_ ?_)
        | (with_reducible refine' x_cal ?_ ?_ ?_)
        | (with_reducible refine' x_isi ?_)
        | (with_reducible refine' x_tst ?_)
        | (with_reducible refine' w_tru ?_ ?_)
        | (with_reducible refine' x_not ?_)
        | (with_reducible refine' w_andT ?_ ?_)
        | (with_reducible refine' w_orT ?_ ?_)
        | (with_reducible refine' w_andV ?_ ?_)
        | (with_reducible refine' w_orV ?_ ?_)
        | (with_reducible refine' x_notV ?_)
        | (with_reducible refine' x_neg ?_)
        | (with_reducible refine' w_if ?_ ?_)
        | (with_reducible refine' w_ch ?_ ?_ ?_ ?_)
        | (with_reducible refine' x_tup ?_ ?_)
        | (with_reducible refine' x_lst ?_ ?_)
        | (with_reducible refine' x_dct1 ?_)
        | (with_reducible refine' x_ixN ?_ ?_ ?_ ?_)
        | (with_reducible refine' x_so ?_)
        | (with_reducible refine' x_sl ?_ ?_ ?_ ?_)
        | (with_reducible refine' x_it ?_ ?_)
        | (with_reducible refine' x_rg1 ?_ ?_)
        | (with_reducible refine' x_zip ?_ ?_ ?_)
        | (with_reducible refine' x_m0 ?_ ?_)
        | (with_reducible refine' x_m1 ?_ ?_ ?_)
        | (with_reducible refine' x_ma ?_ ?_ ?_)
        | (with_reducible refine' x_kget ?_ ?_)
        | (with_reducible refine' x_inR ?_ ?_)
        | (with_reducible refine' w_sc ?_ ?_)
        | (with_reducible refine' x_ret ?_)
        | (with_reducible refine' w_sif ?_ ?_)
        | (with_reducible refine' w_asg ?_ ?_)
        | (with_reducible refine' w_for ?_ ?_)
        | (with_reducible refine' w_forcons ?_ ?_ ?_)
        | (with_reducible refine' w_tgcons ?_ ?_)
        | (with_reducible refine' w_tgtup rfl ?_)
        | (with_reducible refine' x_calB ?_ ?_ ?_ ?_ ?_)
        | (with_reducible refine' x_par ?_)
        | (with_reducible refine' x_par3 ?_)
        | ((with_reducible refine' cond_t ?hb ?_); (case hb => exact rfl))
        | ((with_reducible refine' cond_t ?hb ?_); (case hb => exact h1))
        | ((with_reducible refine' cond_t ?hb ?_); (case hb => exact h2))
        | ((with_reducible refine' cond_t ?hb ?_); (case hb => exact e7))
        | ((with_reducible refine' cond_t ?hb ?_); (case hb => exact e8))
        | ((with_reducible refine' cond_t ?hb ?_); (case hb => exact e9))
        | ((with_reducible refine' cond_t ?hb ?_); (case hb => exact c3))
        | ((with_reducible refine' cond_f ?hb ?_); (case hb => exact rfl))
        | ((with_reducible refine' cond_f ?hb ?_); (case hb => exact h1))
        | ((with_reducible refine' cond_f ?hb ?_); (case hb => exact h2))
        | ((with_reducible refine' cond_f ?hb ?_); (case hb => exact e7))
        | ((with_reducible refine' cond_f ?hb ?_); (case hb => exact e8))
        | ((with_reducible refine' cond_f ?hb ?_); (case hb => exact e9))
        | ((with_reducible refine' cond_f ?hb ?_); (case hb => exact c3))
        | (with_reducible refine' Eq.trans nxt_nx ?_)
        | (with_reducible refine' Eq.trans nxt_rt ?_)
        | (with_reducible refine' Eq.trans nxl_nx ?_)
        | (with_reducible refine' Eq.trans nxl_rt ?_)
        | (exact sz_le rfl)
        | rfl)
theorem for_act {v S : D} : ∀ (ss : List So) (xs : List D) (i : Nat) (e2 e3 : Ent), ss.length = xs.length → (∀ y ∈ xs, okI y) → (∀ j y, xs[j]? = some y → dIx v (.int ((i + j : Nat) + 1 : Int)) = some y) → (∀ j s, ss[j]? = some s → dIx S (.int (i + j : Nat)) = some (.str (soName s))) →
    ∃ e2' e3', forD (gNm 2) body_act ((List.range' i ss.length).map fun n => D.int (n : Nat)) [.pl v, .pl S, e2, e3] = some (bif okAll ss xs then .nx [.pl v, .pl S, e2', e3'] else .rt (.bl false) [.pl v, .pl S, e2', e3'])
  | [], [], i, e2, e3, _, _, _, _ => ⟨e2, e3, rfl⟩
  | s :: ss, x :: xs, i, e2, e3, hl, hx, h1, h2 => by
    have b := body_act_ok (e := e3) (hx x (List.mem_cons_self ..)) (h1 0 x rfl) (h2 0 s rfl)
    rw [List.length_cons, List.range'_succ, List.map_cons]
    cases g : itOk s x with
    | false =>
      rw [g] at b
      exact ⟨_, _, by rw [okAll, g]; exact w_forcons rfl b rfl⟩
    | true =>
      rw [g] at b
      obtain ⟨e2', e3', ih⟩ := for_act ss xs (i + 1) (.pl (.int (i : Nat))) (.pl x) (by simpa using hl) (fun y hy => hx y (List.mem_cons_of_mem _ hy))
        (fun j y e => by have := h1 (j + 1) y e; rw [show i + 1 + j = i + (j + 1) by omega]; exact this) (fun j s e => by have := h2 (j + 1) s e; rw [show i + 1 + j = i + (j + 1) by omega]; exact this)
      exact ⟨e2', e3', by rw [okAll, g, Bool.true_and]; exact w_forcons rfl b ih⟩
  | [], _ :: _, _, _, _, h, _, _, _ => by cases h
  | _ :: _, [], _, _, _, h, _, _, _ => by cases h
theorem rng0 (n : Nat) : rngD 0 n = (List.range' 0 n).map fun n => D.int (n : Nat) := by
  unfold rngD
  rw [List.range_eq_range']
  refine List.map_congr_left fun a _ => ?_
  rw [Int.zero_add]
theorem small_nat {n : Nat} (h : n < 2 ^ 62) : small (n : Int) = true := by
  unfold small
  rw [decide_eq_true (by omega), decide_eq_true (by omega)]; rfl
theorem l_law_is_act_tup {k : Str} {x : D} {xs : List D} (hk : okS k) (hx : ∀ y ∈ x :: xs, okI y) (hl : xs.length ≤ 100) : L__law_is_act_1 [.tup (.str k :: x :: xs)] = some (.bl (okAll (kindOf k) (x :: xs))) := by
  have q0 := l_kinds hk
  have q1 : dLt (.int (((D.str k :: x :: xs).length : Nat) : Int)) (.int 2) = some (.bl false) := isF_lt (by simp only [List.length_cons]; omega)
  have q2 := ix0_tup (.str k) (x :: xs)
  have q4 : dSub (.int (((D.str k :: x :: xs).length : Nat) : Int)) (.int 1) = some (.int ((x :: xs).length : Nat)) := by
    show some (D.int _) = _
    congr 2
    simp only [List.length_cons]
    omega
  have q5 := ne_int ((kindOf k).length : Nat) ((x :: xs).length : Nat)
  rw [← List.length_map (f := fun s => D.str (soName s))] at q5
  by_cases h : (kindOf k).length = (x :: xs).length
  · rw [List.length_map, decide_eq_true (by rw [h])] at q5
    rw [← List.length_map (f := fun s => D.str (soName s))] at q5
    obtain ⟨e2, e3, q6⟩ := for_act (v := .tup (.str k :: x :: xs)) (S := .lst ((kindOf k).map fun s => .str (soName s))) (kindOf k) (x :: xs) 0 .no .no h hx
      (fun j y e => atI_nat (j := 0 + j + 1) (by rw [Nat.zero_add]; exact e)) (fun j s e => atI_nat (j := 0 + j) (by rw [Nat.zero_add, List.getElem?_map, e]; rfl))
    have q7 : gRg1 (Dx.gCons (gCall (on1 dLen1) (Dx.gCons (gV 1) Dx.gNil)) Dx.gNil) [.pl (.tup (.str k :: x :: xs)), .pl (.lst ((kindOf k).map fun s => .str (soName s))), .no, .no] = some ((List.range' 0 (kindOf k).length).map fun n => D.int (n : Nat), [.pl (.tup (.str k :: x :: xs)), .pl (.lst ((kindOf k).map fun s => .str (soName s))), .no, .no]) := by
      rw [← rng0]
      have := x_rg1 (j := (((kindOf k).map fun s => D.str (soName s)).length : Nat)) (x_one (x_call (g := on1 dLen1) (x_one (x_v (δ := [.pl (.tup (.str k :: x :: xs)), .pl (.lst ((kindOf k).map fun s => .str (soName s))), .no, .no]) (i := 1) rfl)) rfl)) (small_nat (by rw [List.length_map]; have := kind_len k; omega))
      rw [Int.toNat_natCast, List.length_map] at this
      exact this
    cases g : okAll (kindOf k) (x :: xs) with
    | true =>
      rw [g] at q6
      have q6 : forD (gNm 2) body_act ((List.range' 0 (kindOf k).length).map fun n => D.int (n : Nat)) [.pl (.tup (.str k :: x :: xs)), .pl (.lst ((kindOf k).map fun s => .str (soName s))), .no, .no] = some (.nx [.pl (.tup (.str k :: x :: xs)), .pl (.lst ((kindOf k).map fun s => .str (soName s))), e2, e3]) := q6
      refine of_rt (δ' := [.pl (.tup (.str k :: x :: xs)), .pl (.lst ((kindOf k).map fun s => .str (soName s))), e2, e3]) ?_
      unfold gs__law_is_act
      unfold body_act at q6
      repeat' (first
        | ((with_reducible show gRg1 _ _ = _); exact q7)
        | ((with_reducible show forD _ _ _ _ = _); exact q6)
        | ((with_reducible show L__law_kinds_1 _ = _); exact q0)
        | ((with_reducible show dNe _ _ = _); exact q5)
        | ((with_reducible show dSub _ _ = _); exact q4)
        | ((with_reducible show dLt _ _ = _); exact q1)
        | ((with_reducible show dIx _ _ = _); exact q2)
        | (with_reducible exact x_c)
        | (with_reducible refine' x_v ?_)
        | (with_reducible exact x_nil)
        | (with_reducible exact x_no)
        | (with_reducible exact x_sn)
        | (with_reducible exact w_nm)
        | (with_reducible exact w_tgnil)
        | (with_reducible exact w_fornil)
        | (with_reducible refine' x_b ?_ ?_ ?_)
        | (with_reducible refine' x_cons ?_ ?_)
        | (with_reducible refine' x_star ?_ ?_ ?_)
        | (with_reducible refine' x_call ?_ ?_)
        | (with_reducible refine' x_cal ?_ ?_ ?_)
        | (with_reducible refine' x_isi ?_)
        | (with_reducible refine' x_tst ?_)
        | (with_reducible refine' w_tru ?_ ?_)
        | (with_reducible refine' x_not ?_)
        | (with_reducible refine' w_andT ?_ ?_)
        | (with_reducible refine' w_orT ?_ ?_)
        | (with_reducible refine' w_andV ?_ ?_)
        | (with_reducible refine' w_orV ?_ ?_)
        | (with_reducible refine' x_notV ?_)
        | (with_reducible refine' x_neg ?_)
        | (with_reducible refine' w_if ?_ ?_)
        | (with_reducible refine' w_ch ?_ ?_ ?_ ?_)
        | (with_reducible refine' x_tup ?_ ?_)
        | (with_reducible refine' x_lst ?_ ?_)
        | (with_reducible refine' x_dct1 ?_)
        | (with_reducible refine' x_ixN ?_ ?_ ?_ ?_)
        | (with_reducible refine' x_so ?_)
        | (with_reducible refine' x_sl ?_ ?_ ?_ ?_)
        | (with_reducible refine' x_it ?_ ?_)
        | (with_reducible refine' x_rg1 ?_ ?_)
        | (with_reducible refine' x_zip ?_ ?_ ?_)
        | (with_reducible refine' x_m0 ?_ ?_)
        | (with_reducible refine' x_m1 ?_ ?_ ?_)
        | (with_reducible refine' x_ma ?_ ?_ ?_)
        | (with_reducible refine' x_kget ?_ ?_)
        | (with_reducible refine' x_inR ?_ ?_)
        | (with_reducible refine' w_sc ?_ ?_)
        | (with_reducible refine' x_ret ?_)
        | (with_reducible refine' w_sif ?_ ?_)
        | (with_reducible refine' w_asg ?_ ?_)
        | (with_reducible refine' w_for ?_ ?_)
        | (with_reducible refine' w_forcons ?_ ?_ ?_)
        | (with_reducible refine' w_tgcons ?_ ?_)
        | (with_reducible refine' w_tgtup rfl ?_)
        | (with_reducible refine' x_calB ?_ ?_ ?_ ?_ ?_)
        | (with_reducible refine' x_par ?_)
        | (with_reducible refine' x_par3 ?_)
        | ((with_reducible refine' cond_t ?hb ?_); (case hb => exact rfl))
        | ((with_reducible refine' cond_f ?hb ?_); (case hb => exact rfl))
        | (with_reducible refine' Eq.trans nxt_nx ?_)
        | (with_reducible refine' Eq.trans nxt_rt ?_)
        | (with_reducible refine' Eq.trans nxl_nx ?_)
        | (with_reducible refine' Eq.trans nxl_rt ?_)
        | (exact sz_le rfl)
        | rfl)
    | false =>
      rw [g] at q6
      have q6 : forD (gNm 2) body_act ((List.range' 0 (kindOf k).length).map fun n => D.int (n : Nat)) [.pl (.tup (.str k :: x :: xs)), .pl (.lst ((kindOf k).map fun s => .str (soName s))), .no, .no] = some (.rt (.bl false) [.pl (.tup (.str k :: x :: xs)), .pl (.lst ((kindOf k).map fun s => .str (soName s))), e2, e3]) := q6
      refine of_rt (δ' := [.pl (.tup (.str k :: x :: xs)), .pl (.lst ((kindOf k).map fun s => .str (soName s))), e2, e3]) ?_
      unfold gs__law_is_act
      unfold body_act at q6
      repeat' (first
        | ((with_reducible show gRg1 _ _ = _); exact q7)
        | ((with_reducible show forD _ _ _ _ = _); exact q6)
        | ((with_reducible show L__law_kinds_1 _ = _); exact q0)
        | ((with_reducible show dNe _ _ = _); exact q5)
        | ((with_reducible show dSub _ _ = _); exact q4)
        | ((with_reducible show dLt _ _ = _); exact q1)
        | ((with_reducible show dIx _ _ = _); exact q2)
        | (with_reducible exact x_c)
        | (with_reducible refine' x_v ?_)
        | (with_reducible exact x_nil)
        | (with_reducible exact x_no)
        | (with_reducible exact x_sn)
        | (with_reducible exact w_nm)
        | (with_reducible exact w_tgnil)
        | (with_reducible exact w_fornil)
        | (with_reducible refine' x_b ?_ ?_ ?_)
        | (with_reducible refine' x_cons ?_ ?_)
        | (with_reducible refine' x_star ?_ ?_ ?_)
        | (with_reducible refine' x_call ?_ ?_)
        | (with_reducible refine' x_cal ?_ ?_ ?_)
        | (with_reducible refine' x_isi ?_)
        | (with_reducible refine' x_tst ?_)
        | (with_reducible refine' w_tru ?_ ?_)
        | (with_reducible refine' x_not ?_)
        | (with_reducible refine' w_andT ?_ ?_)
        | (with_reducible refine' w_orT ?_ ?_)
        | (with_reducible refine' w_andV ?_ ?_)
        | (with_reducible refine' w_orV ?_ ?_)
        | (with_reducible refine' x_notV ?_)
        | (with_reducible refine' x_neg ?_)
        | (with_reducible refine' w_if ?_ ?_)
        | (with_reducible refine' w_ch ?_ ?_ ?_ ?_)
        | (with_reducible refine' x_tup ?_ ?_)
        | (with_reducible refine' x_lst ?_ ?_)
        | (with_reducible refine' x_dct1 ?_)
        | (with_reducible refine' x_ixN ?_ ?_ ?_ ?_)
        | (with_reducible refine' x_so ?_)
        | (with_reducible refine' x_sl ?_ ?_ ?_ ?_)
        | (with_reducible refine' x_it ?_ ?_)
        | (with_reducible refine' x_rg1 ?_ ?_)
        | (with_reducible refine' x_zip ?_ ?_ ?_)
        | (with_reducible refine' x_m0 ?_ ?_)
        | (with_reducible refine' x_m1 ?_ ?_ ?_)
        | (with_reducible refine' x_ma ?_ ?_ ?_)
        | (with_reducible refine' x_kget ?_ ?_)
        | (with_reducible refine' x_inR ?_ ?_)
        | (with_reducible refine' w_sc ?_ ?_)
        | (with_reducible refine' x_ret ?_)
        | (with_reducible refine' w_sif ?_ ?_)
        | (with_reducible refine' w_asg ?_ ?_)
        | (with_reducible refine' w_for ?_ ?_)
        | (with_reducible refine' w_forcons ?_ ?_ ?_)
        | (with_reducible refine' w_tgcons ?_ ?_)
        | (with_reducible refine' w_tgtup rfl ?_)
        | (with_reducible refine' x_calB ?_ ?_ ?_ ?_ ?_)
        | (with_reducible refine' x_par ?_)
        | (with_reducible refine' x_par3 ?_)
        | ((with_reducible refine' cond_t ?hb ?_); (case hb => exact rfl))
        | ((with_reducible refine' cond_f ?hb ?_); (case hb => exact rfl))
        | (with_reducible refine' Eq.trans nxt_nx ?_)
        | (with_reducible refine' Eq.trans nxt_rt ?_)
        | (with_reducible refine' Eq.trans nxl_nx ?_)
        | (with_reducible refine' Eq.trans nxl_rt ?_)
        | (exact sz_le rfl)
        | rfl)
  · rw [List.length_map, decide_eq_false (by omega)] at q5
    rw [← List.length_map (f := fun s => D.str (soName s))] at q5
    rw [okAll_ne h]
    refine of_rt (δ' := [.pl (.tup (.str k :: x :: xs)), .pl (.lst ((kindOf k).map fun s => .str (soName s))), .no, .no]) ?_
    unfold gs__law_is_act
    repeat' (first
      | (exact q0)
      | (exact q5)
      | (exact q4)
      | (exact q1)
      | (exact q2)
      | (with_reducible exact x_c)
      | (with_reducible refine' x_v ?_)
      | (with_reducible exact x_nil)
      | (with_reducible exact x_no)
      | (with_reducible exact x_sn)
      | (with_reducible exact w_nm)
      | (with_reducible exact w_tgnil)
      | (with_reducible exact w_fornil)
      | (with_reducible refine' x_b ?_ ?_ ?_)
      | (with_reducible refine' x_cons ?_ ?_)
      | (with_reducible refine' x_star ?_ ?_ ?_)
      | (with_reducible refine' x_call ?_ ?_)
      | (with_reducible refine' x_cal ?_ ?_ ?_)
      | (with_reducible refine' x_isi ?_)
      | (with_reducible refine' x_tst ?_)
      | (with_reducible refine' w_tru ?_ ?_)
      | (with_reducible refine' x_not ?_)
      | (with_reducible refine' w_andT ?_ ?_)
      | (with_reducible refine' w_orT ?_ ?_)
      | (with_reducible refine' w_andV ?_ ?_)
      | (with_reducible refine' w_orV ?_ ?_)
      | (with_reducible refine' x_notV ?_)
      | (with_reducible refine' x_neg ?_)
      | (with_reducible refine' w_if ?_ ?_)
      | (with_reducible refine' w_ch ?_ ?_ ?_ ?_)
      | (with_reducible refine' x_tup ?_ ?_)
      | (with_reducible refine' x_lst ?_ ?_)
      | (with_reducible refine' x_dct1 ?_)
      | (with_reducible refine' x_ixN ?_ ?_ ?_ ?_)
      | (with_reducible refine' x_so ?_)
      | (with_reducible refine' x_sl ?_ ?_ ?_ ?_)
      | (with_reducible refine' x_it ?_ ?_)
      | (with_reducible refine' x_rg1 ?_ ?_)
      | (with_reducible refine' x_zip ?_ ?_ ?_)
      | (with_reducible refine' x_m0 ?_ ?_)
      | (with_reducible refine' x_m1 ?_ ?_ ?_)
      | (with_reducible refine' x_ma ?_ ?_ ?_)
      | (with_reducible refine' x_kget ?_ ?_)
      | (with_reducible refine' x_inR ?_ ?_)
      | (with_reducible refine' w_sc ?_ ?_)
      | (with_reducible refine' x_ret ?_)
      | (with_reducible refine' w_sif ?_ ?_)
      | (with_reducible refine' w_asg ?_ ?_)
      | (with_reducible refine' w_for ?_ ?_)
      | (with_reducible refine' w_forcons ?_ ?_ ?_)
      | (with_reducible refine' w_tgcons ?_ ?_)
      | (with_reducible refine' w_tgtup rfl ?_)
      | (with_reducible refine' x_calB ?_ ?_ ?_ ?_ ?_)
      | (with_reducible refine' x_par ?_)
      | (with_reducible refine' x_par3 ?_)
      | ((with_reducible refine' cond_t ?hb ?_); (case hb => exact rfl))
      | ((with_reducible refine' cond_t ?hb ?_); (case hb => exact q0))
      | ((with_reducible refine' cond_t ?hb ?_); (case hb => exact q5))
      | ((with_reducible refine' cond_t ?hb ?_); (case hb => exact q4))
      | ((with_reducible refine' cond_t ?hb ?_); (case hb => exact q1))
      | ((with_reducible refine' cond_t ?hb ?_); (case hb => exact q2))
      | ((with_reducible refine' cond_f ?hb ?_); (case hb => exact rfl))
      | ((with_reducible refine' cond_f ?hb ?_); (case hb => exact q0))
      | ((with_reducible refine' cond_f ?hb ?_); (case hb => exact q5))
      | ((with_reducible refine' cond_f ?hb ?_); (case hb => exact q4))
      | ((with_reducible refine' cond_f ?hb ?_); (case hb => exact q1))
      | ((with_reducible refine' cond_f ?hb ?_); (case hb => exact q2))
      | (with_reducible refine' Eq.trans nxt_nx ?_)
      | (with_reducible refine' Eq.trans nxt_rt ?_)
      | (with_reducible refine' Eq.trans nxl_nx ?_)
      | (with_reducible refine' Eq.trans nxl_rt ?_)
      | (exact sz_le rfl)
      | rfl)
theorem l_law_is_act {d : D} (h : okA d) : L__law_is_act_1 [d] = some (.bl (isActD d)) := by
  cases d with
  | tup xs =>
    obtain ⟨hl, h⟩ := h
    match xs, hl, h with
    | [], _, _ => rfl
    | [a], _, _ =>
      cases a <;> rfl
    | a :: x :: r, hl, h =>
      cases hs : isStr a with
      | true =>
        cases a with
        | str k => exact l_law_is_act_tup (h (.str k) (List.mem_cons_self ..) k rfl) (fun y hy => h y (List.mem_cons_of_mem _ hy)) (by simp only [List.length_cons] at hl; omega)
        | _ => cases hs
      | false =>
        have e : isActD (.tup (a :: x :: r)) = false := by cases a <;> first | rfl | cases hs
        have i := isi_str a
        rw [hs] at i
        rw [e]
        have q1 : dLt (.int (((a :: x :: r).length : Nat) : Int)) (.int 2) = some (.bl false) := isF_lt (by simp only [List.length_cons]; omega)
        have q2 := ix0_tup a (x :: r)
        refine of_rt (δ' := [.pl (.tup (a :: x :: r)), .no, .no, .no]) ?_
        unfold gs__law_is_act
        have q3 : gNotT (gTru (gIsi "str" (gIxN 0 (gC (.int 0))))) (den0 4 [.tup (a :: x :: r)]) = some (true, [.pl (.tup (a :: x :: r)), .no, .no, .no]) := by
          have := x_not (x_isT (cn := "str") (x_ixN (i := 0) (δ := [.pl (.tup (a :: x :: r)), .no, .no, .no]) (gb := gC (.int 0)) x_c rfl rfl q2))
          rw [i] at this
          exact this
        repeat' (first
          | (exact q3)
          | (exact q1)
          | (with_reducible exact x_c)
          | (with_reducible refine' x_v ?_)
          | (with_reducible exact x_nil)
          | (with_reducible exact x_no)
          | (with_reducible exact x_sn)
          | (with_reducible exact w_nm)
          | (with_reducible exact w_tgnil)
          | (with_reducible exact w_fornil)
          | (with_reducible refine' x_b ?_ ?_ ?_)
          | (with_reducible refine' x_cons ?_ ?_)
          | (with_reducible refine' x_star ?_ ?_ ?_)
          | (with_reducible refine' x_call ?_ ?_)
          | (with_reducible refine' x_cal ?_ ?_ ?_)
          | (with_reducible refine' x_isi ?_)
          | (with_reducible refine' x_tst ?_)
          | (with_reducible refine' w_tru ?_ ?_)
          | (with_reducible refine' x_not ?_)
          | (with_reducible refine' w_andT ?_ ?_)
          | (with_reducible refine' w_orT ?_ ?_)
          | (with_reducible refine' w_andV ?_ ?_)
          | (with_reducible refine' w_orV ?_ ?_)
          | (with_reducible refine' x_notV ?_)
          | (with_reducible refine' x_neg ?_)
          | (with_reducible refine' w_if ?_ ?_)
          | (with_reducible refine' w_ch ?_ ?_ ?_ ?_)
          | (with_reducible refine' x_tup ?_ ?_)
          | (with_reducible refine' x_lst ?_ ?_)
          | (with_reducible refine' x_dct1 ?_)
          | (with_reducible refine' x_ixN ?_ ?_ ?_ ?_)
          | (with_reducible refine' x_so ?_)
          | (with_reducible refine' x_sl ?_ ?_ ?_ ?_)
          | (with_reducible refine' x_it ?_ ?_)
          | (with_reducible refine' x_rg1 ?_ ?_)
          | (with_reducible refine' x_zip ?_ ?_ ?_)
          | (with_reducible refine' x_m0 ?_ ?_)
          | (with_reducible refine' x_m1 ?_ ?_ ?_)
          | (with_reducible refine' x_ma ?_ ?_ ?_)
          | (with_reducible refine' x_kget ?_ ?_)
          | (with_reducible refine' x_inR ?_ ?_)
          | (with_reducible refine' w_sc ?_ ?_)
          | (with_reducible refine' x_ret ?_)
          | (with_reducible refine' w_sif ?_ ?_)
          | (with_reducible refine' w_asg ?_ ?_)
          | (with_reducible refine' w_for ?_ ?_)
          | (with_reducible refine' w_forcons ?_ ?_ ?_)
          | (with_reducible refine' w_tgcons ?_ ?_)
          | (with_reducible refine' w_tgtup rfl ?_)
          | (with_reducible refine' x_calB ?_ ?_ ?_ ?_ ?_)
          | (with_reducible refine' x_par ?_)
          | (with_reducible refine' x_par3 ?_)
          | ((with_reducible refine' cond_t ?hb ?_); (case hb => exact rfl))
          | ((with_reducible refine' cond_t ?hb ?_); (case hb => exact q3))
          | ((with_reducible refine' cond_t ?hb ?_); (case hb => exact q1))
          | ((with_reducible refine' cond_f ?hb ?_); (case hb => exact rfl))
          | ((with_reducible refine' cond_f ?hb ?_); (case hb => exact q3))
          | ((with_reducible refine' cond_f ?hb ?_); (case hb => exact q1))
          | (with_reducible refine' Eq.trans nxt_nx ?_)
          | (with_reducible refine' Eq.trans nxt_rt ?_)
          | (with_reducible refine' Eq.trans nxl_nx ?_)
          | (with_reducible refine' Eq.trans nxl_rt ?_)
          | (exact sz_le rfl)
          | rfl)
  | _ => rfl
end P57
set_option Elab.async false
set_option linter.all false
set_option maxRecDepth 100000
set_option maxHeartbeats 4000000
namespace P57
open PySem PySem.Spec PyProof.Rows L2 Dx
/-! the line of an act -/
def strD : D → Str
  | .int i => Str.ofString (toString i)
  | .str s => s
  | _ => ""
/-- a number of at most 500 figures, a plain text, or neither -/
def okN : D → Prop
  | .int i => 0 ≤ i → i < 10 ^ 500
  | .str z => okS z
  | _ => True
theorem okN.i {d : D} (h : okN d) : okI d := fun z e => by subst e; exact h
def isIS : D → Bool
  | .int i => decide (0 ≤ i)
  | .str _ => true
  | _ => false
theorem itOk_is {s : So} {d : D} (h : itOk s d = true) : isIS d = true := by
  cases s <;> cases d <;> first | exact h | rfl | cases h
theorem log_fit {i : Int} (h0 : 0 ≤ i) (h : i < 10 ^ 500) : i.natAbs.log2 < 1920 := by
  obtain ⟨n, rfl⟩ := Int.eq_ofNat_of_zero_le h0
  have h : n < 10 ^ 500 := by exact_mod_cast h
  show n.log2 < 1920
  by_cases hn : n = 0
  · subst hn; decide
  · rw [Nat.log2_lt hn]
    exact Nat.lt_of_lt_of_le h (Nat.le_of_ble_eq_true (by decide +kernel))
theorem dStr_ok {d : D} (h : okN d) (hi : isIS d = true) : dStr d = some (.str (strD d)) := by
  cases d with
  | int i =>
    have h0 : 0 ≤ i := of_decide_eq_true hi
    show (if i.natAbs.log2 < 1920 then some (D.str (toString i)) else none) = _
    rw [if_pos (log_fit h0 (h h0))]
    rfl
  | str s => rfl
  | _ => cases hi
theorem len_strD {d : D} (h : okN d) (hi : isIS d = true) : (strD d).length ≤ 500 := by
  cases d with
  | int i =>
    have h0 : 0 ≤ i := of_decide_eq_true hi
    obtain ⟨n, rfl⟩ := Int.eq_ofNat_of_zero_le h0
    have h1 : n < 10 ^ 500 := by have := h h0; exact_mod_cast this
    show (Str.ofString (toString ((n : Nat) : Int))).length ≤ 500
    rw [len_nil, PySem.W.KIN.signs_num, List.length_map]
    exact toDigits_len_pow (by decide) (by decide) h1
  | str s => exact h.1
  | _ => cases hi
def writ (xs : List D) : Str := Str.join " " (xs.map strD)
theorem strs_map (l : List Str) : strs? (l.map D.str) = some l := by
  induction l with
  | nil => rfl
  | cons a r ih => show (strs? (r.map D.str)).map _ = _; rw [ih]; rfl
theorem okAll_is : ∀ {ss : List So} {xs : List D}, okAll ss xs = true → ∀ x ∈ xs, isIS x = true
  | [], [], _, x, hx => by cases hx
  | s :: ss, y :: xs, h, x, hx => by
    simp only [okAll, Bool.and_eq_true] at h
    rcases List.mem_cons.mp hx with rfl | hx
    · exact itOk_is h.1
    · exact okAll_is h.2 x hx
  | [], _ :: _, h, _, _ => by cases h
  | _ :: _, [], h, _, _ => by cases h
theorem act_parts {d : D} (h : isActD d = true) : ∃ k x xs, d = .tup (.str k :: x :: xs) ∧ okAll (kindOf k) (x :: xs) = true ∧ xs.length ≤ 2 := by
  match d, h with
  | .tup (.str k :: x :: xs), h =>
    refine ⟨k, x, xs, rfl, h, ?_⟩
    have := okAll_len h
    have := kind_len k
    simp only [List.length_cons] at *
    omega
theorem sum_len : ∀ (l : List Str), (∀ y ∈ l, y.length ≤ 500) → (l.map fun y : Str => y.length).sum ≤ 500 * l.length
  | [], _ => Nat.zero_le _
  | a :: r, h => by
    have h1 := h a (List.mem_cons_self ..)
    have h2 := sum_len r fun y hy => h y (List.mem_cons_of_mem _ hy)
    simp only [List.map_cons, List.sum_cons, List.length_cons]
    omega
theorem join_ok {xs : List D} (hl : xs.length ≤ 100) (h : ∀ x ∈ xs, okN x ∧ isIS x = true) : dJoin " " (.lst (xs.map fun x => .str (strD x))) = some (.str (writ xs)) := by
  have e : (xs.map fun x => D.str (strD x)) = (xs.map strD).map D.str := by rw [List.map_map]; rfl
  have hs := sum_len (xs.map strD) (fun y hy => by
    obtain ⟨x, hx, rfl⟩ := List.mem_map.mp hy
    exact len_strD (h x hx).1 (h x hx).2)
  rw [List.length_map] at hs
  show (match strs? (xs.map fun x => D.str (strD x)) with
    | some ys => if (ys.map fun y : Str => y.length).sum + ys.length * (" " : Str).length ≤ 16777216 then some (D.str (Txt.join " " ys)) else none
    | none => none) = _
  rw [e, strs_map]
  simp only
  rw [if_pos]
  · show some (D.str (PySem.Builtin.Str.glued " " (xs.map strD))) = _
    rw [StrLaws.glued_eq_join]
    rfl
  · rw [List.length_map, show (" " : Str).length = 1 from by decide +kernel]
    omega
/-- all items of an act are numbers or texts -/
def okD : D → Prop
  | .tup xs => xs.length ≤ 100 ∧ ∀ y ∈ xs, okN y
  | _ => True
theorem okD.a {d : D} (h : okD d) : okA d := by
  cases d with
  | tup xs => exact ⟨h.1, fun y hy => (h.2 y hy).i⟩
  | _ => trivial
def actItems : D → List D
  | .tup xs => xs
  | _ => []
theorem lx_act_line {d : D} (h : okD d) : LX_act_line [d] = some (if isActD d = true then .ok (.str (writ (actItems d))) else .error ("InvalidAct", "given", d)) := by
  have e := l_is_act h.a
  cases g : isActD d with
  | false =>
    rw [g] at e
    have q : gs_act_line (den0 2 [d]) = some (.ex "InvalidAct" "given" d [.pl d, .no]) := by
      unfold gs_act_line
      refine x_sce ?_
      refine x_sif (k := true) (x_not (k := false) (x_tru (x_cal (x_one (x_v rfl)) rfl e) rfl)) (fun _ => ?_) (fun z => by cases z)
      refine x_sce ?_
      unfold gsRaise
      rw [x_v (d := d) rfl]
      rfl
    show gOfX 2 gs_act_line [d] = _
    unfold gOfX
    rw [q]
    rfl
  | true =>
    obtain ⟨k, x, xs, rfl, ha, hl⟩ := act_parts g
    rw [g] at e
    have hok : ∀ y ∈ D.str k :: x :: xs, okN y ∧ isIS y = true := fun y hy => ⟨h.2 y hy, by
      rcases List.mem_cons.mp hy with rfl | hy
      · rfl
      · exact okAll_is ha y hy⟩
    have hj := join_ok (xs := .str k :: x :: xs) (by simp only [List.length_cons]; omega) hok
    have q : gs_act_line (den0 2 [.tup (.str k :: x :: xs)]) = some (.rt (.str (writ (.str k :: x :: xs))) [.pl (.tup (.str k :: x :: xs)), .no]) := by
      unfold gs_act_line
      refine x_sc (δ1 := [.pl (.tup (.str k :: x :: xs)), .no]) (x_sif (k := false) (x_not (k := true) (x_tru (x_cal (x_one (x_v rfl)) rfl e) rfl)) (fun z => by cases z) (fun _ => x_sn)) ?_
      refine x_retL (x_m1 x_c ?_ hj)
      have hf : (xs.map fun x => D.str (strD x)) = xs.filterMap fun x => some (D.str (strD x)) := by rw [List.filterMap_eq_map']
      have := gLc_all (gi := gIt (gV 0)) (gt := gNm 1) (gc := gYes) (ge := gCall (on1 dStr) (Dx.gCons (gV 1) Dx.gNil)) (vs := [1]) (δ := [.pl (.tup (.str k :: x :: xs)), .no]) (δ1 := [.pl (.tup (.str k :: x :: xs)), .no]) (xs := .str k :: x :: xs) (fun x => some (D.str (strD x))) (x_it (x_v rfl) rfl) rfl (fun y hy acc hacc => by
        have t : gCall (on1 dStr) (Dx.gCons (gV 1) Dx.gNil) [.pl (.tup (.str k :: x :: xs)), .pl y] = some (.str (strD y), [.pl (.tup (.str k :: x :: xs)), .pl y]) := x_call (x_one (x_v rfl)) (dStr_ok (hok y hy).1 (hok y hy).2)
        show (match gCall (on1 dStr) (Dx.gCons (gV 1) Dx.gNil) [.pl (.tup (.str k :: x :: xs)), .pl y] with
          | some (d, δ3) => if acc.length < sizeLine then some (wipeD δ3 [1], acc ++ [d]) else none
          | none => none) = _
        rw [t]
        simp only [if_pos hacc]
        rfl) (Nat.le_trans (m := 100) (by simp only [List.length_cons]; omega) (by decide)) rfl
      rw [this]
      congr 2
      rw [List.filterMap_eq_map']
    show gOfX 2 gs_act_line [_] = _
    unfold gOfX
    rw [q]
    rfl
/-! the law's writer -/
theorem join_two (sep : Str) (a b : Str) (r : List Str) : Str.join sep ((a ++ sep ++ b) :: r) = Str.join sep (a :: b :: r) := by
  cases r with
  | nil => rfl
  | cons c r =>
    show (a ++ sep ++ b) ++ sep ++ Str.join sep (c :: r) = a ++ sep ++ (b ++ sep ++ Str.join sep (c :: r))
    apply Str.ext'
    simp only [Str.cps_append, Array.append_assoc]
def body_writ : GS := gsCons (gsAsg (gB dAdd (gB dAdd (gV 1) (gC (.str " "))) (gIf (gTru (gIsi "str" (gV 2))) (gV 2) (gCall (on1 dStr) (Dx.gCons (gV 2) Dx.gNil)))) (gNm 1)) gsNil
theorem add_fit {a b : Str} (h : a.length + b.length ≤ 10000000) : dAdd (.str a) (.str b) = some (.str (a ++ b)) := by
  show (if strFit a b = true then some (D.str (a ++ b)) else none) = _
  rw [if_pos (show strFit a b = true from decide_eq_true (Nat.le_trans h size_big))]
theorem for_writ (v : D) : ∀ (xs : List D) (a : Str) (e : Ent), a.length + 501 * xs.length ≤ 1000000 → (∀ x ∈ xs, okN x ∧ isIS x = true) →
    ∃ e', forD (gNm 2) body_writ xs [.pl v, .pl (.str a), e] = some (.nx [.pl v, .pl (.str (Str.join " " (a :: xs.map strD))), e'])
  | [], a, e, _, _ => ⟨e, rfl⟩
  | x :: xs, a, e, hl, h => by
    have hx := h x (List.mem_cons_self ..)
    have l1 := len_strD hx.1 hx.2
    rw [List.length_cons] at hl
    have sp : (" " : Str).length = 1 := by decide +kernel
    have la : (a ++ (" " : Str)).length = a.length + 1 := by rw [Str.length_append, sp]
    have b : body_writ [.pl v, .pl (.str a), .pl x] = some (.nx [.pl v, .pl (.str (a ++ " " ++ strD x)), .pl x]) := by
      refine x_sc (δ1 := [.pl v, .pl (.str (a ++ " " ++ strD x)), .pl x]) (x_set (i := 1) (δ1 := [.pl v, .pl (.str a), .pl x]) (d := .str (a ++ " " ++ strD x)) (x_b (x_b (x_v rfl) x_c (add_fit (by rw [sp]; omega))) (b := .str (strD x)) ?_ (add_fit (by rw [la]; omega)))) x_sn
      refine x_if (x_isT (x_v rfl)) (fun hk => ?_) (fun hk => ?_)
      · rw [isi_str] at hk
        cases x with
        | str s => exact x_v rfl
        | _ => cases hk
      · exact x_call (x_one (x_v rfl)) (dStr_ok hx.1 hx.2)
    obtain ⟨e', ih⟩ := for_writ v xs (a ++ " " ++ strD x) (.pl x) (by rw [Str.length_append, la]; omega) (fun y hy => h y (List.mem_cons_of_mem _ hy))
    refine ⟨e', w_forcons rfl b ?_⟩
    rw [List.map_cons, ← join_two]
    exact ih
theorem l_written {k : Str} {xs : List D} (hk : okS k) (hl : xs.length ≤ 100) (h : ∀ x ∈ xs, okN x ∧ isIS x = true) : L__law_written_1 [.tup (.str k :: xs)] = some (.str (writ (.str k :: xs))) := by
  obtain ⟨e', q⟩ := for_writ (.tup (.str k :: xs)) xs k .no (by have := hk.1; omega) h
  refine of_rt (δ' := [.pl (.tup (.str k :: xs)), .pl (.str (writ (.str k :: xs))), e']) ?_
  unfold gs__law_written
  refine x_sc (x_set (x_ixN x_c rfl rfl (ix0_tup _ _))) (x_sc (x_for (x_it (x_sl (x_v rfl) (x_so x_c) x_no (sl_tup1 _ _)) rfl) q) (x_retL (x_v rfl)))
end P57
set_option Elab.async false
set_option linter.all false
set_option maxRecDepth 100000
set_option maxHeartbeats 4000000
namespace P57
open PySem PySem.Spec PyProof.Rows L2 Dx
/-! reading a line -/
def rdItem : So → Str → D
  | .num, z => numD z
  | _, z => .str z
def rdAct (k : Str) (ws : List (List Nat)) : D :=
  if isActD (.tup (.str k :: List.zipWith (fun w s => rdItem s (mkS w)) ws (kindOf k))) = true then .tup (.str k :: List.zipWith (fun w s => rdItem s (mkS w)) ws (kindOf k)) else .non
def headOf (l : List Nat) : List Nat := l.takeWhile (· != 32)
def rd (z : Str) : D := rdAct (mkS (headOf z.cps.toList)) (spl 32 (kindOf (mkS (headOf z.cps.toList))).length z.cps.toList).tail
theorem spl_head : ∀ (n : Nat) (l : List Nat), ∃ r, spl 32 (n + 1) l = headOf l :: r
  | n, [] => ⟨[], rfl⟩
  | n, x :: r => by
    unfold spl headOf
    by_cases h : x = 32
    · rw [if_pos h]
      subst h
      exact ⟨_, rfl⟩
    · rw [if_neg h]
      obtain ⟨q, e⟩ := spl_head n r
      rw [e]
      refine ⟨q, ?_⟩
      rw [List.takeWhile_cons, if_pos (by simpa using h)]
      rfl
theorem okS_sub {z : Str} (h : okS z) {p : List Nat} (hp : p.Sublist z.cps.toList) : okS (mkS p) := by
  refine ⟨?_, fun c hc => h.2 c (hp.subset hc)⟩
  have h1 := hp.length_le
  rw [len_nil]
  have h2 := h.1
  rw [len_nil] at h2
  exact Nat.le_trans h1 h2
theorem okS_pieces {z : Str} (h : okS z) {n : Nat} {p : List Nat} (hp : p ∈ spl 32 n z.cps.toList) : okS (mkS p) := okS_sub h (spl_sub 32 n _ p hp)
theorem foldl_lt : ∀ (l : List Nat) (a : Nat), NumText.AllDigits l → l.foldl (fun acc c => acc * 10 + (c - 48)) a < (a + 1) * 10 ^ l.length
  | [], a, _ => by simp
  | c :: r, a, h => by
    have hc := h.head
    have ih := foldl_lt r (a * 10 + (c - 48)) h.tail
    rw [List.foldl_cons, List.length_cons, Nat.pow_succ]
    refine Nat.lt_of_lt_of_le ih ?_
    have : a * 10 + (c - 48) + 1 ≤ (a + 1) * 10 := by omega
    calc (a * 10 + (c - 48) + 1) * 10 ^ r.length ≤ ((a + 1) * 10) * 10 ^ r.length := Nat.mul_le_mul_right _ this
      _ = (a + 1) * (10 ^ r.length * 10) := by rw [Nat.mul_assoc, Nat.mul_comm 10]
theorem digits_lt {l : List Nat} (h : NumText.AllDigits l) : NumText.digitsVal l < 10 ^ l.length := by
  have := foldl_lt l 0 h
  rw [Nat.zero_add, Nat.one_mul] at this
  exact this
theorem isNumL_dig {l : List Nat} (h : isNumL l = true) : l.all (rng2 48 57) = true := by
  cases l with
  | nil => cases h
  | cons c r => rw [isNumL_cons, Bool.and_eq_true] at h; exact h.1
theorem okN_num {z : Str} (h : okS z) : okN (numD z) := by
  unfold numD
  split
  · rename_i g
    intro h0
    have h1 := digits_lt (allDig (isNumL_dig g))
    have h2 := h.1
    rw [len_nil] at h2
    have h3 : NumText.digitsVal z.cps.toList < 10 ^ 500 := Nat.lt_of_lt_of_le h1 (Nat.pow_le_pow_right (by decide) h2)
    exact_mod_cast h3
  · trivial
theorem okN_item {s : So} {z : Str} (h : okS z) : okN (rdItem s z) := by
  cases s with
  | num => exact okN_num h
  | cell => exact h
  | txt => exact h
theorem okN_zip {z : Str} (h : okS z) : ∀ (ws : List (List Nat)) (ss : List So), (∀ w ∈ ws, okS (mkS w)) → ∀ y ∈ List.zipWith (fun w s => rdItem s (mkS w)) ws ss, okN y
  | [], _, _, y, hy => by simp at hy
  | _ :: _, [], _, y, hy => by simp at hy
  | w :: ws, s :: ss, hw, y, hy => by
    rw [List.zipWith_cons_cons] at hy
    rcases List.mem_cons.mp hy with rfl | hy
    · exact okN_item (hw w (List.mem_cons_self ..))
    · exact okN_zip h ws ss (fun w hw' => hw w (List.mem_cons_of_mem _ hw')) y hy
theorem okD_cand {z k : Str} (h : okS z) (hk : okS k) (ws : List (List Nat)) (hw : ∀ w ∈ ws, okS (mkS w)) : okD (.tup (.str k :: List.zipWith (fun w s => rdItem s (mkS w)) ws (kindOf k))) := by
  refine ⟨?_, fun y hy => ?_⟩
  · have := kind_len k
    rw [List.length_cons, List.length_zipWith]
    omega
  · rcases List.mem_cons.mp hy with rfl | hy
    · exact hk
    · exact okN_zip h ws _ hw y hy
theorem sp_eq : (" " : Str) = sgn1 32 := by decide +kernel
theorem dSplitK_sp {z : Str} (h : okS z) {n : Nat} (hn : n < 2 ^ 62) : dSplitK z [.str " ", .int (n : Nat)] = some (.lst (((spl 32 n z.cps.toList).map mkS).map D.str)) := by
  show (if ((" " : Str).length == 0) = false ∧ small (n : Nat) = true ∧ z.length + 2 ≤ sizeLine then some (D.lst ((Txt.splitMax z " " (n : Nat)).map D.str)) else none) = _
  rw [if_pos ⟨by decide +kernel, small_nat hn, Nat.le_trans (Nat.add_le_add_right h.1 2) (by decide)⟩, sp_eq, splitMax_sgn z 32 n (by decide)]
theorem headOf_sub (l : List Nat) : (headOf l).Sublist l := List.takeWhile_sublist _
theorem okS_head {z : Str} (h : okS z) : okS (mkS (headOf z.cps.toList)) := okS_sub h (headOf_sub _)
theorem in_ct {s : Str} (hs : s = "house" ∨ s = "count" ∨ s = "cell" ∨ s = "text") : dIn (.str s) (.tup [.str "cell", .str "text"]) = some (.bl (match soOf s with | .num => false | _ => true)) := by
  show some (D.bl (inV (.str s) [.str "cell", .str "text"])) = _
  unfold inV
  simp only [List.any_cons, List.any_nil, Bool.or_false, eqV_str]
  rcases hs with rfl | rfl | rfl | rfl
  · rw [show ((("cell" : Str) == "house") || (("text" : Str) == "house")) = false from by decide +kernel]; rfl
  · rw [show ((("cell" : Str) == "count") || (("text" : Str) == "count")) = false from by decide +kernel]; rfl
  · rw [show ((("cell" : Str) == "cell") || (("text" : Str) == "cell")) = true from by decide +kernel]; rfl
  · rw [show ((("cell" : Str) == "text") || (("text" : Str) == "text")) = true from by decide +kernel]; rfl
def rdPair : D → Option D
  | .tup [.str w, .str s] => some (rdItem (soOf s) w)
  | _ => none
theorem zip_rd : ∀ (ws : List (List Nat)) (ss : List Str), (zipD ((ws.map mkS).map D.str) (ss.map D.str)).filterMap rdPair = List.zipWith (fun w s => rdItem s (mkS w)) ws (ss.map soOf)
  | [], _ => rfl
  | _ :: _, [] => rfl
  | w :: ws, s :: ss => by
    show rdItem (soOf s) (mkS w) :: (zipD ((ws.map mkS).map D.str) (ss.map D.str)).filterMap rdPair = _
    rw [zip_rd ws ss]
    rfl
theorem l_act_in {z : Str} (h : okS z) : L_act_in_1 [.str z] = some (rd z) := by
  have hz := h.fit
  obtain ⟨kk, hkk⟩ : ∃ kk, kk = mkS (headOf z.cps.toList) := ⟨_, rfl⟩
  obtain ⟨ss, e1, e2, e3, e4⟩ := items_kind kk
  have hlen : (kindOf kk).length = ss.length := by rw [← e3, List.length_map]
  obtain ⟨r1, hr1⟩ := spl_head 0 z.cps.toList
  have s1 : dSplitK z [.str " ", .int 1] = some (.lst (.str kk :: (r1.map mkS).map D.str)) := by
    have := dSplitK_sp h (n := 1) (by decide)
    rw [show (1 : Nat) = 0 + 1 from rfl, hr1, List.map_cons, ← hkk] at this
    exact this
  have g1 : gKGet tb_ITEMS (gB dIx (gMA dSplitK (gV 0) (Dx.gCons (gC (.str " ")) (Dx.gCons (gC (.int 1)) Dx.gNil))) (gC (.int 0))) (gTup Dx.gNil) [.pl (.str z), .no, .no, .no, .no, .no, .no, .no] = some (.tup (ss.map D.str), [.pl (.str z), .no, .no, .no, .no, .no, .no, .no]) := by
    have e1' : (tb_ITEMS.lookup kk).getD (.tup []) = .tup (ss.map D.str) := e1
    have q1 : gMA dSplitK (gV 0) (Dx.gCons (gC (.str " ")) (Dx.gCons (gC (.int 1)) Dx.gNil)) [.pl (.str z), .no, .no, .no, .no, .no, .no, .no] = some (.lst (.str kk :: (r1.map mkS).map D.str), [.pl (.str z), .no, .no, .no, .no, .no, .no, .no]) := x_ma (x_v rfl) (x_cons x_c (x_one x_c)) s1
    have q2 : gB dIx (gMA dSplitK (gV 0) (Dx.gCons (gC (.str " ")) (Dx.gCons (gC (.int 1)) Dx.gNil))) (gC (.int 0)) [.pl (.str z), .no, .no, .no, .no, .no, .no, .no] = some (.str kk, [.pl (.str z), .no, .no, .no, .no, .no, .no, .no]) := x_b q1 x_c (ix0_lst _ _)
    have q3 : gTup Dx.gNil [.pl (.str z), .no, .no, .no, .no, .no, .no, .no] = some (.tup [], [.pl (.str z), .no, .no, .no, .no, .no, .no, .no]) := x_tup x_nil (Nat.zero_le _)
    have q4 := x_kget (tb := tb_ITEMS) q2 q3
    exact q4.trans (congrArg (fun d => some (d, _)) e1')
  have hp : ∀ p ∈ spl 32 ss.length z.cps.toList, okS (mkS p) := fun p hp => okS_pieces h hp
  have s2 := dSplitK_sp h (n := ss.length) (by omega)
  obtain ⟨k, ws, hk⟩ : ∃ k ws, spl 32 ss.length z.cps.toList = k :: ws := by
    cases e : spl 32 ss.length z.cps.toList with
    | nil => exact absurd e (spl_ne _ _ _)
    | cons a b => exact ⟨a, b, rfl⟩
  rw [hk] at s2 hp
  have hws : ∀ w ∈ ws, okS (mkS w) := fun w hw => hp w (List.mem_cons_of_mem _ hw)
  have hlk : (mkS k) = kk ∨ kindOf kk = [] := by
    cases n : ss with
    | nil => right; rw [← e3, n]; rfl
    | cons a b =>
      left
      rw [n, List.length_cons] at hk
      obtain ⟨q, e⟩ := spl_head b.length z.cps.toList
      rw [hk] at e
      have e := (List.cons.inj e).1
      rw [e, hkk]
  -- names: 0 line, 1 sorts, 2 kind, 3 words, 4 items, 5 word, 6 sort, 7 act
  let W : D := .lst ((ws.map mkS).map D.str)
  let S : D := .tup (ss.map D.str)
  let its : List D := List.zipWith (fun w s => rdItem s (mkS w)) ws (ss.map soOf)
  have g2 : gsAsg (gMA dSplitK (gV 0) (Dx.gCons (gC (.str " ")) (Dx.gCons (gCall (on1 dLen1) (Dx.gCons (gV 1) Dx.gNil)) Dx.gNil))) (gTgStar 2 1 (gTgCons (gNm 2) (gTgCons (gNm 3) gTgNil))) [.pl (.str z), .pl S, .no, .no, .no, .no, .no, .no]
      = some (.nx [.pl (.str z), .pl S, .pl (.str (mkS k)), .pl W, .no, .no, .no, .no]) := by
    refine x_asg (x_ma (x_v rfl) (x_cons x_c (x_one (x_call (g := on1 dLen1) (x_one (x_v (d := S) rfl)) rfl))) ?_) ?_ (d := .lst (.str (mkS k) :: (ws.map mkS).map D.str))
    · rw [List.length_map]
      exact s2
    · show (if 2 ≤ (D.str (mkS k) :: (ws.map mkS).map D.str).length + 1 then _ else none) = _
      rw [if_pos (by simp)]
      have q : (D.str (mkS k) :: (ws.map mkS).map D.str).length + 1 - 2 = ((ws.map mkS).map D.str).length := by simp
      rw [q]
      have q1 : ((D.str (mkS k) :: (ws.map mkS).map D.str).drop 1) = (ws.map mkS).map D.str := rfl
      rw [q1, List.take_length, List.drop_length]
      rfl
  have g3 : gLc (gZip (Dx.gCons (gV 3) (Dx.gCons (gV 1) Dx.gNil))) (gTgTup 2 (gTgCons (gNm 5) (gTgCons (gNm 6) gTgNil))) gYes (gIf (gTst (gB dIn (gV 6) (gTup (Dx.gCons (gC (.str "cell")) (Dx.gCons (gC (.str "text")) Dx.gNil))))) (gV 5) (gCal L_count_in_1 1 (Dx.gCons (gV 5) Dx.gNil))) [5, 6] [.pl (.str z), .pl S, .pl (.str (mkS k)), .pl W, .no, .no, .no, .no]
      = some (.lst its, [.pl (.str z), .pl S, .pl (.str (mkS k)), .pl W, .no, .no, .no, .no]) := by
    show _ = some (D.lst (List.zipWith (fun w s => rdItem s (mkS w)) ws (ss.map soOf)), _)
    rw [← zip_rd ws ss]
    refine gLc_all (δ1 := [.pl (.str z), .pl S, .pl (.str (mkS k)), .pl W, .no, .no, .no, .no]) (xs := zipD ((ws.map mkS).map D.str) (ss.map D.str)) rdPair (x_zip (x_cons (x_v (d := W) rfl) (x_one (x_v (d := S) rfl))) rfl rfl) rfl (fun p hpm acc ha => ?_) ?_ rfl
    · obtain ⟨i, hi⟩ := List.getElem?_of_mem hpm
      obtain ⟨a, b, ga, gb, rfl⟩ := zipD_get hi
      rw [List.getElem?_map] at gb
      obtain ⟨s, gs, rfl⟩ := Option.map_eq_some_iff.mp gb
      rw [List.getElem?_map, List.getElem?_map] at ga
      obtain ⟨w', gw', rfl⟩ := Option.map_eq_some_iff.mp ga
      obtain ⟨w, gw, rfl⟩ := Option.map_eq_some_iff.mp gw'
      have hs := e2 s (List.mem_of_getElem? gs)
      have hw := hws w (List.mem_of_getElem? gw)
      have i1 := in_ct hs
      have t : gIf (gTst (gB dIn (gV 6) (gTup (Dx.gCons (gC (.str "cell")) (Dx.gCons (gC (.str "text")) Dx.gNil))))) (gV 5) (gCal L_count_in_1 1 (Dx.gCons (gV 5) Dx.gNil)) [.pl (.str z), .pl S, .pl (.str (mkS k)), .pl W, .no, .pl (.str (mkS w)), .pl (.str s), .no]
          = some (rdItem (soOf s) (mkS w), [.pl (.str z), .pl S, .pl (.str (mkS k)), .pl W, .no, .pl (.str (mkS w)), .pl (.str s), .no]) := by
        have c := l_count_in hw
        cases q : soOf s with
        | num =>
          rw [q] at i1
          exact x_if (k := false) (x_tst (x_b (x_v rfl) (x_tup (x_cons x_c (x_one x_c)) (sz_le rfl)) i1)) (fun z => by cases z) (fun _ => x_cal (x_one (x_v rfl)) rfl c)
        | cell =>
          rw [q] at i1
          exact x_if (k := true) (x_tst (x_b (x_v rfl) (x_tup (x_cons x_c (x_one x_c)) (sz_le rfl)) i1)) (fun _ => x_v rfl) (fun z => by cases z)
        | txt =>
          rw [q] at i1
          exact x_if (k := true) (x_tst (x_b (x_v rfl) (x_tup (x_cons x_c (x_one x_c)) (sz_le rfl)) i1)) (fun _ => x_v rfl) (fun z => by cases z)
      show (match gIf (gTst (gB dIn (gV 6) (gTup (Dx.gCons (gC (.str "cell")) (Dx.gCons (gC (.str "text")) Dx.gNil))))) (gV 5) (gCal L_count_in_1 1 (Dx.gCons (gV 5) Dx.gNil)) [.pl (.str z), .pl S, .pl (.str (mkS k)), .pl W, .no, .pl (.str (mkS w)), .pl (.str s), .no] with
        | some (d, δ3) => if acc.length < sizeLine then some (wipeD δ3 [5, 6], acc ++ [d]) else none
        | none => none) = _
      rw [t]
      simp only [if_pos ha]
      rfl
    · rw [zipD_len]
      refine Nat.le_trans (Nat.min_le_right _ _) ?_
      rw [List.length_map]
      exact Nat.le_trans e4 (by decide)
  have hok : okD (.tup (.str (mkS k) :: its)) := by
    refine ⟨?_, fun y hy => ?_⟩
    · show (D.str (mkS k) :: List.zipWith (fun w s => rdItem s (mkS w)) ws (ss.map soOf)).length ≤ 100
      rw [List.length_cons, List.length_zipWith, List.length_map]
      omega
    · rcases List.mem_cons.mp hy with rfl | hy
      · exact hp k (List.mem_cons_self ..)
      · exact okN_zip h ws _ hws y hy
  have ha := l_is_act hok.a
  have hrd : rd z = if isActD (.tup (.str (mkS k) :: its)) = true then .tup (.str (mkS k) :: its) else .non := by
    show rdAct (mkS (headOf z.cps.toList)) (spl 32 (kindOf (mkS (headOf z.cps.toList))).length z.cps.toList).tail = _
    rw [← hkk]
    rw [hlen, hk]
    show rdAct kk ws = _
    rcases hlk with hlk | hlk
    · unfold rdAct
      rw [hlk, ← e3]
    · unfold rdAct
      have z1 : its = [] := by
        show List.zipWith (fun w s => rdItem s (mkS w)) ws (ss.map soOf) = []
        rw [e3, hlk]
        simp
      rw [z1, hlk]
      have z2 : List.zipWith (fun w s => rdItem s (mkS w)) ws ([] : List So) = [] := by simp
      rw [z2]
      rfl
  rw [hrd]
  refine of_rt (δ' := [.pl (.str z), .pl S, .pl (.str (mkS k)), .pl W, .pl (.lst its), .no, .no, .pl (.tup (.str (mkS k) :: its))]) ?_
  unfold gs_act_in
  have tl : its.length + 1 ≤ sizeLine := by
    have := hok.1
    exact Nat.le_trans this (by decide)
  refine x_sc (x_sif (k := false) (x_not (k := true) (x_isT (cn := "str") (d := .str z) (x_v rfl))) (fun z => by cases z) (fun _ => x_sn)) ?_
  refine x_sc (δ1 := [.pl (.str z), .pl S, .no, .no, .no, .no, .no, .no]) (x_asg g1 rfl) (x_sc g2 (x_sc (δ1 := [.pl (.str z), .pl S, .pl (.str (mkS k)), .pl W, .pl (.lst its), .no, .no, .no]) (x_asg g3 rfl) ?_))
  refine x_sc (δ1 := [.pl (.str z), .pl S, .pl (.str (mkS k)), .pl W, .pl (.lst its), .no, .no, .pl (.tup (.str (mkS k) :: its))]) (x_asg (x_tup (x_cons (x_v rfl) (x_star (x_v (d := .lst its) rfl) rfl x_nil)) (by rw [List.append_nil]; exact tl)) ?_) (x_retL ?_)
  · rw [List.append_nil]; rfl
  · cases g : isActD (.tup (.str (mkS k) :: its)) with
    | true =>
      rw [g] at ha
      exact x_if (k := true) (x_tru (x_cal (x_one (x_v rfl)) rfl ha) rfl) (fun _ => x_v rfl) (fun z => by cases z)
    | false =>
      rw [g] at ha
      exact x_if (k := false) (x_tru (x_cal (x_one (x_v rfl)) rfl ha) rfl) (fun z => by cases z) (fun _ => x_c)
end P57
set_option Elab.async false
set_option linter.all false
set_option maxRecDepth 100000
set_option maxHeartbeats 4000000
namespace P57
open PySem PySem.Spec PyProof.Rows L2 Dx
/-! the law's own reader -/
theorem num_sp {l : List Nat} (h : 32 ∈ l) : numD (mkS l) = .non := by
  unfold numD
  rw [if_neg]
  intro e
  have := List.all_eq_true.mp (isNumL_dig e) 32 h
  exact absurd this (by decide)
theorem joinL_sp : ∀ (ps : List (List Nat)), 2 ≤ ps.length → 32 ∈ joinL 32 ps
  | p :: q :: r, _ => by
    show 32 ∈ p ++ 32 :: joinL 32 (q :: r)
    simp
/-- the words as the law has them -/
def lawWords (k : Str) (l : List Nat) : List (List Nat) := if (k == ("write" : Str) && decide (3 < (spl 32 (l.length + 1) l).length)) = true then (spl 32 (l.length + 1) l).take 3 ++ [joinL 32 ((spl 32 (l.length + 1) l).drop 3)] else spl 32 (l.length + 1) l
def lawRd (z : Str) : D := if (kindOf (mkS (headOf z.cps.toList))).isEmpty = true then .non else
  if (lawWords (mkS (headOf z.cps.toList)) z.cps.toList).length = (kindOf (mkS (headOf z.cps.toList))).length + 1 then rdAct (mkS (headOf z.cps.toList)) (lawWords (mkS (headOf z.cps.toList)) z.cps.toList).tail else .non
theorem kind_write : kindOf ("write" : Str) = [.num, .cell, .txt] := rfl
theorem kind_nums {k : Str} (h : (k == ("write" : Str)) = false) : ∀ s ∈ kindOf k, s = .num := by
  intro s hs
  unfold kindOf at hs
  rw [h] at hs
  simp only [Bool.false_eq_true, if_false] at hs
  split at hs
  · simp at hs; exact hs
  · split at hs
    · simp at hs; exact hs
    · cases hs
theorem okAll_last : ∀ (ss : List So) (xs : List D), (∀ s ∈ ss, s = .num) → okAll ss (xs ++ [.non]) = false
  | [], [], _ => rfl
  | [], _ :: _, _ => rfl
  | s :: ss, [], h => by
    have := h s (List.mem_cons_self ..)
    subst this
    show (isCount .non && okAll ss []) = false
    rfl
  | s :: ss, x :: xs, h => by
    show (itOk s x && okAll ss (xs ++ [.non])) = false
    rw [okAll_last ss xs fun s hs => h s (List.mem_cons_of_mem _ hs), Bool.and_false]
theorem zip_snoc : ∀ (ws : List (List Nat)) (w : List Nat) (ss : List So), ss.length = ws.length + 1 → (∀ s ∈ ss, s = .num) → List.zipWith (fun w s => rdItem s (mkS w)) (ws ++ [w]) ss = List.zipWith (fun w s => rdItem s (mkS w)) ws ss ++ [numD (mkS w)]
  | [], w, [s], _, h => by
    have := h s (List.mem_cons_self ..)
    subst this
    rfl
  | a :: ws, w, s :: ss, hl, h => by
    rw [List.cons_append, List.zipWith_cons_cons, List.zipWith_cons_cons, zip_snoc ws w ss (by simpa using hl) fun s hs => h s (List.mem_cons_of_mem _ hs)]
    rfl
  | [], _, [], hl, _ => by cases hl
  | [], _, _ :: _ :: _, hl, _ => by simp at hl
  | _ :: _, _, [], hl, _ => by cases hl
theorem rdAct_len {k : Str} {ws : List (List Nat)} (h : ws.length ≠ (kindOf k).length) (hl : ws.length ≤ (kindOf k).length) : rdAct k ws = .non := by
  unfold rdAct
  rw [if_neg]
  intro e
  obtain ⟨k', x, xs, e1, e2, _⟩ := act_parts e
  injection e1 with e1
  injection e1 with e1 e3
  cases e1
  rw [← e3] at e2
  have := okAll_len e2
  rw [List.length_zipWith] at this
  omega
theorem lawRd_eq (z : Str) : lawRd z = rd z := by
  unfold lawRd rd
  generalize hk : mkS (headOf z.cps.toList) = k
  obtain ⟨r, hr⟩ := spl_head z.cps.toList.length z.cps.toList
  have hlen := spl_len 32 (z.cps.toList.length + 1) z.cps.toList
  have hj := joinL_spl 32 (z.cps.toList.length + 1) z.cps.toList
  cases n : kindOf k with
  | nil =>
    rw [if_pos (show ([] : List So).isEmpty = true from rfl)]
    show D.non = rdAct k _
    unfold rdAct
    rw [n, if_neg]
    intro e
    rw [show List.zipWith (fun w s => rdItem s (mkS w)) (spl 32 ([] : List So).length z.cps.toList).tail ([] : List So) = [] by simp] at e
    cases e
  | cons s ss =>
    rw [if_neg (by simp)]
    have hless := spl_less 32 (s :: ss).length (z.cps.toList.length + 1 + 4) z.cps.toList (by have := kind_len k; rw [n] at this; omega)
    have hbig : spl 32 (z.cps.toList.length + 1 + 4) z.cps.toList = spl 32 (z.cps.toList.length + 1) z.cps.toList := by
      have := spl_less 32 (z.cps.toList.length + 1) (z.cps.toList.length + 1 + 4) z.cps.toList (by omega)
      have h2 := spl_len 32 (z.cps.toList.length + 1 + 4) z.cps.toList
      rw [if_pos (by omega)] at this
      exact this.symm
    rw [hbig] at hless
    generalize hf : spl 32 (z.cps.toList.length + 1) z.cps.toList = full at *
    unfold lawWords
    rw [hf]
    have h1 : 1 ≤ full.length := by rw [hr]; simp
    cases hw : k == ("write" : Str) with
    | true =>
      have hw' : k = "write" := beq_iff_eq.mp hw
      have hn : (s :: ss) = [.num, .cell, .txt] := by rw [← n, hw', kind_write]
      rw [hn] at hless ⊢
      simp only [Bool.true_and, List.length_cons, List.length_nil, Nat.zero_add, Nat.reduceAdd] at hless ⊢
      by_cases g : 3 < full.length
      · rw [if_pos (decide_eq_true g)]
        rw [if_pos (by simp; omega)]
        rw [hless]
        by_cases g2 : full.length ≤ 4
        · rw [if_pos g2]
          have : full.drop 3 = [full.getLast (by intro e; rw [e] at g; simp at g)] := by
            match full, g, g2 with
            | [a, b, c, d], _, _ => rfl
          rw [this]
          match full, g, g2 with
          | [a, b, c, d], _, _ => rfl
        · rw [if_neg g2]
      · rw [show (if (decide (3 < full.length)) = true then full.take 3 ++ [joinL 32 (full.drop 3)] else full) = full from if_neg (by simpa using g)]
        rw [if_neg (by omega), hless, if_pos (by omega)]
        symm
        rw [rdAct_len] <;> rw [hw', kind_write, List.length_tail] <;> simp <;> omega
    | false =>
      have hnum := kind_nums hw
      rw [n] at hnum
      simp only [Bool.false_and, Bool.false_eq_true, if_false]
      by_cases g : full.length = (s :: ss).length + 1
      · rw [if_pos g, hless, if_pos (by omega)]
      · rw [if_neg g, hless]
        by_cases g2 : full.length ≤ (s :: ss).length + 1
        · rw [if_pos g2]
          symm
          rw [rdAct_len] <;> rw [n, List.length_tail] <;> omega
        · rw [if_neg g2]
          symm
          unfold rdAct
          rw [n, if_neg]
          intro e
          have hd : 2 ≤ (full.drop (s :: ss).length).length := by rw [List.length_drop]; omega
          have hz := num_sp (joinL_sp _ hd)
          have hlast : (full.take (s :: ss).length ++ [joinL 32 (full.drop (s :: ss).length)]).tail = (full.take (s :: ss).length).tail ++ [joinL 32 (full.drop (s :: ss).length)] := by
            match full, g2 with
            | a :: b, _ => rfl
            | [], g2 => simp at g2
          rw [hlast, zip_snoc _ _ _ (by rw [List.length_tail, List.length_take, Nat.min_eq_left (by omega)]; simp) hnum, hz] at e
          obtain ⟨k', x, xs, e1, e2, _⟩ := act_parts e
          injection e1 with e1
          injection e1 with e1 e3
          cases e1
          rw [← e3, n, okAll_last _ _ hnum] at e2
          cases e2
end P57
set_option Elab.async false
set_option linter.all false
set_option maxRecDepth 100000
set_option maxHeartbeats 4000000
namespace P57
open PySem PySem.Spec PyProof.Rows L2 Dx
abbrev wsD (ws : List (List Nat)) : List D := (ws.map mkS).map D.str
theorem dSplit_sp {z : Str} (h : okS z) : dSplit z (.str " ") = some (.lst (wsD (spl 32 (z.cps.toList.length + 1) z.cps.toList))) := by
  show (if ((" " : Str).length == 0) = false ∧ z.length + 2 ≤ sizeLine then some (D.lst ((Txt.split z " ").map D.str)) else none) = _
  rw [if_pos ⟨by decide +kernel, Nat.le_trans (Nat.add_le_add_right h.1 2) (by decide)⟩, sp_eq, split_sgn z 32 (by decide), len_nil]
theorem cut_to (n : Nat) {α : Type} (xs : List α) : Dx.cutD xs none (some (n : Int)) = xs.take n := by
  unfold Dx.cutD
  rw [HT.sIx_nat, HT.sIx_none, List.drop_zero, Nat.sub_zero]
  by_cases h : n ≤ xs.length
  · rw [Nat.min_eq_left h]
  · rw [Nat.min_eq_right (by omega), List.take_length, List.take_of_length_le (by omega)]
theorem cut_from (n : Nat) {α : Type} (xs : List α) : Dx.cutD xs (some (n : Int)) none = xs.drop n := by
  unfold Dx.cutD
  rw [HT.sIx_nat, HT.sIx_none]
  by_cases h : n ≤ xs.length
  · rw [Nat.min_eq_left h, List.take_of_length_le (by rw [List.length_drop]; omega)]
  · rw [Nat.min_eq_right (by omega), List.drop_length, List.drop_of_length_le (by omega), List.take_nil]
theorem join_ws {z : Str} (ws : List (List Nat)) (h : ∀ w ∈ ws, okS (mkS w)) (hl : ws.length ≤ 1000) : dJoin " " (.lst (wsD ws)) = some (.str (mkS (joinL 32 ws))) := by
  have hs := sum_len (ws.map mkS) (fun y hy => by
    obtain ⟨x, hx, rfl⟩ := List.mem_map.mp hy
    exact (h x hx).1)
  rw [List.length_map] at hs
  show (match strs? ((ws.map mkS).map D.str) with
    | some ys => if (ys.map fun y : Str => y.length).sum + ys.length * (" " : Str).length ≤ 16777216 then some (D.str (Txt.join " " ys)) else none
    | none => none) = _
  rw [strs_map]
  simp only
  rw [if_pos (by rw [List.length_map, show (" " : Str).length = 1 from by decide +kernel]; omega), sp_eq]
  congr 2
  rw [← mkS_toList (Txt.join _ _), join_sgn, List.map_map]
  congr 2
  exact (List.map_congr_left fun a _ => rfl).trans (List.map_id _)
theorem names_eq (ss : List So) : dEq (.lst (ss.map fun s => .str (soName s))) (.lst []) = some (.bl ss.isEmpty) := by
  have h : ∀ ss : List So, noDcts (ss.map fun s => .str (soName s)) = true ∧ PyData.canLayAll0 (toPs (ss.map fun s => .str (soName s))) = true ∧ PyData.depthAll (toPs (ss.map fun s => .str (soName s))) = 0 := by
    intro ss
    induction ss with
    | nil => exact ⟨rfl, rfl, rfl⟩
    | cons s ss ih =>
      obtain ⟨h1, h2, h3⟩ := ih
      refine ⟨?_, ?_, ?_⟩
      · show (true && noDcts (ss.map fun s => .str (soName s))) = true
        rw [h1]; rfl
      · show (PyData.canLay0 (.str (soName s)) && PyData.canLayAll0 (toPs (ss.map fun s => .str (soName s)))) = true
        rw [h2, Bool.and_true]
        have := str_shaped (z := soName s) (by cases s <;> decide +kernel)
        exact (Bool.and_eq_true_iff.mp this).1
      · show max 0 (PyData.depthAll (toPs (ss.map fun s => .str (soName s)))) = 0
        rw [h3]; rfl
  obtain ⟨h1, h2, h3⟩ := h ss
  unfold dEq
  rw [if_pos]
  · cases ss <;> rfl
  · show (noDcts (ss.map fun s => .str (soName s)) && (true && ((PyData.canLayAll0 (toPs (ss.map fun s => .str (soName s))) && decide (PyData.depthAll (toPs (ss.map fun s => .str (soName s))) + 1 ≤ 64)) && true))) = true
    rw [h1, h2, h3]; rfl
theorem name_num (s : So) : dNe (.str (soName s)) (.str "number") = some (.bl (match s with | .num => false | _ => true)) := by
  cases s
  · exact nec (b := true) (by decide +kernel) (by decide +kernel) (by decide +kernel)
  · exact nec (b := false) (by decide +kernel) (by decide +kernel) (by decide +kernel)
  · exact nec (b := false) (by decide +kernel) (by decide +kernel) (by decide +kernel)
/-- what stands at a number i -/
def rdAt (ws : List (List Nat)) (ss : List So) : D → Option D
  | .int i => (match ws[i.toNat]?, ss[i.toNat]? with
    | some w, some s => some (rdItem s (mkS w))
    | _, _ => none)
  | _ => none
theorem rdAt_all (ws : List (List Nat)) (ss : List So) : ∀ (n i : Nat), ws.length = i + n → ss.length = i + n → ((List.range' i n).map fun n => D.int (n : Nat)).filterMap (rdAt ws ss) = List.zipWith (fun w s => rdItem s (mkS w)) (ws.drop i) (ss.drop i)
  | 0, i, h1, h2 => by
    rw [List.drop_of_length_le (by omega)]
    rfl
  | n + 1, i, h1, h2 => by
    rw [List.range'_succ, List.map_cons, List.filterMap_cons]
    have hw : i < ws.length := by omega
    have hs : i < ss.length := by omega
    rw [List.drop_eq_getElem_cons hw, List.drop_eq_getElem_cons hs, List.zipWith_cons_cons, ← rdAt_all ws ss n (i + 1) (by omega) (by omega)]
    have : rdAt ws ss (D.int (i : Nat)) = some (rdItem ss[i] (mkS ws[i])) := by
      show (match ws[(i : Int).toNat]?, ss[(i : Int).toNat]? with
        | some w, some s => some (rdItem s (mkS w))
        | _, _ => none) = _
      rw [Int.toNat_natCast, List.getElem?_eq_getElem hw, List.getElem?_eq_getElem hs]
    rw [this]
theorem read_tail {z k : Str} (h : okS z) (hk : okS k) {w : List Nat} {ws : List (List Nat)} (hkw : mkS w = k) (hws : ∀ p ∈ ws, okS (mkS p)) (hl : ws.length ≤ 1000) {e3 e4 e5 : Ent} (h3 : e3 = .no) (h4 : e4 = .no) (h5 : e5 = .no) :
    ∃ δ', gsCons (gsIf (gOrT (gTst (gB dEq (gV 2) (gLst Dx.gNil))) (gTst (gB dNe (gCall (on1 dLen1) (Dx.gCons (gV 1) Dx.gNil)) (gB dAdd (gCall (on1 dLen1) (Dx.gCons (gV 2) Dx.gNil)) (gC (.int 1)))))) (gsCons (gsRet (gC .non))
  gsNil) gsNil)
  (gsCons (gsAsg (gLc (gRg1 (Dx.gCons (gCall (on1 dLen1) (Dx.gCons (gV 2) Dx.gNil)) Dx.gNil)) (gNm 4) gYes (gIf (gTst (gB dNe (gIxN 2 (gV 4)) (gC (.str "number")))) (gIxN 1 (gB dAdd (gV 4) (gC (.int 1)))) (gCal L__law_number_1 1 (Dx.gCons (gIxN 1 (gB dAdd (gV 4) (gC (.int 1)))) Dx.gNil))) [4]) (gNm 3))
  (gsCons (gsAsg (gCall (on1 dTuple) (Dx.gCons (gB dAdd (gSl (gV 1) gNo (gSo (gC (.int 1)))) (gV 3)) Dx.gNil)) (gNm 5))
  (gsCons (gsRet (gIf (gTru (gCal L__law_is_act_1 1 (Dx.gCons (gV 5) Dx.gNil))) (gV 5) (gC .non)))
  gsNil))) [.pl (.str z), .pl (.lst (wsD (w :: ws))), .pl (.lst ((kindOf k).map fun s => .str (soName s))), e3, e4, e5] = some (.rt (if (kindOf k).isEmpty = true then .non else if (w :: ws).length = (kindOf k).length + 1 then rdAct k ws else .non) δ') := by
  subst h3 h4 h5
  have n0 := names_eq (kindOf k)
  generalize hN : ((kindOf k).map fun s => D.str (soName s)) = N at *
  have hNl : N.length = (kindOf k).length := by rw [← hN, List.length_map]
  let δ0 : Den := [.pl (.str z), .pl (.lst (wsD (w :: ws))), .pl (.lst N), .no, .no, .no]
  have a1 : gTst (gB dEq (gV 2) (gLst Dx.gNil)) δ0 = some ((kindOf k).isEmpty, δ0) := x_tst (x_b (x_v (d := .lst N) rfl) (x_lst x_nil (Nat.zero_le _)) n0)
  cases g0 : (kindOf k).isEmpty with
  | true =>
    rw [g0] at a1
    exact ⟨δ0, x_scr (x_sif (k := true) (w_orT (k := true) a1 rfl) (fun _ => x_retL x_c) (fun z => by cases z))⟩
  | false =>
    rw [g0] at a1
    have wl : (wsD (w :: ws)).length = (w :: ws).length := by rw [List.length_map, List.length_map]
    have a2 : gTst (gB dNe (gCall (on1 dLen1) (Dx.gCons (gV 1) Dx.gNil)) (gB dAdd (gCall (on1 dLen1) (Dx.gCons (gV 2) Dx.gNil)) (gC (.int 1)))) δ0 = some (!decide (((w :: ws).length : Int) = ((kindOf k).length : Int) + 1), δ0) := by
      refine x_tst (x_b (x_call (g := on1 dLen1) (x_one (x_v (d := .lst (wsD (w :: ws))) rfl)) rfl) (x_b (c := .int (((kindOf k).length : Int) + 1)) (x_call (g := on1 dLen1) (x_one (x_v (d := .lst N) rfl)) rfl) x_c (by rw [hNl]; rfl)) ?_)
      rw [wl]
      exact ne_int _ _
    by_cases g1 : (w :: ws).length = (kindOf k).length + 1
    · rw [decide_eq_true (by exact_mod_cast g1)] at a2
      rw [if_neg (by simp), if_pos g1]
      have hlw : ws.length = (kindOf k).length := by simpa using g1
      let its : List D := List.zipWith (fun w s => rdItem s (mkS w)) ws (kindOf k)
      have a3 : gLc (gRg1 (Dx.gCons (gCall (on1 dLen1) (Dx.gCons (gV 2) Dx.gNil)) Dx.gNil)) (gNm 4) gYes (gIf (gTst (gB dNe (gIxN 2 (gV 4)) (gC (.str "number")))) (gIxN 1 (gB dAdd (gV 4) (gC (.int 1)))) (gCal L__law_number_1 1 (Dx.gCons (gIxN 1 (gB dAdd (gV 4) (gC (.int 1)))) Dx.gNil))) [4] δ0 = some (.lst its, δ0) := by
        have hr := rdAt_all ws (kindOf k) (kindOf k).length 0 (by omega) (by omega)
        rw [List.drop_zero, List.drop_zero] at hr
        show _ = some (D.lst (List.zipWith (fun w s => rdItem s (mkS w)) ws (kindOf k)), δ0)
        rw [← hr]
        have q7 : gRg1 (Dx.gCons (gCall (on1 dLen1) (Dx.gCons (gV 2) Dx.gNil)) Dx.gNil) δ0 = some ((List.range' 0 (kindOf k).length).map fun n => D.int (n : Nat), δ0) := by
          rw [← rng0]
          have := x_rg1 (j := (N.length : Nat)) (x_one (x_call (g := on1 dLen1) (x_one (x_v (δ := δ0) (i := 2) (d := .lst N) rfl)) rfl)) (small_nat (by rw [hNl]; have := kind_len k; omega))
          rw [Int.toNat_natCast, hNl] at this
          exact this
        refine gLc_all (rdAt ws (kindOf k)) q7 rfl (fun x hx acc ha => ?_) ?_ rfl
        · obtain ⟨i, hi, rfl⟩ := List.mem_map.mp hx
          have hi : i < (kindOf k).length := by have := List.mem_range'.mp hi; omega
          have hiw : i < ws.length := by omega
          have b1 : dIx (.lst N) (.int (i : Nat)) = some (.str (soName (kindOf k)[i])) := atI_nat (by rw [← hN, List.getElem?_map, List.getElem?_eq_getElem hi]; rfl)
          have b2 : dIx (.lst (wsD (w :: ws))) (.int ((i : Nat) + 1 : Int)) = some (.str (mkS ws[i])) := atI_nat (j := i + 1) (by rw [List.getElem?_map, List.getElem?_map, List.getElem?_cons_succ, List.getElem?_eq_getElem hiw]; rfl)
          have b3 := l_law_number (hws ws[i] (List.getElem_mem hiw))
          have b4 := name_num (kindOf k)[i]
          have hat : rdAt ws (kindOf k) (.int (i : Nat)) = some (rdItem (kindOf k)[i] (mkS ws[i])) := by
            show (match ws[(i : Int).toNat]?, (kindOf k)[(i : Int).toNat]? with
              | some w, some s => some (rdItem s (mkS w))
              | _, _ => none) = _
            rw [Int.toNat_natCast, List.getElem?_eq_getElem hi, List.getElem?_eq_getElem hiw]
          rw [hat]
          let δ1 : Den := [.pl (.str z), .pl (.lst (wsD (w :: ws))), .pl (.lst N), .no, .pl (.int (i : Nat)), .no]
          have c1 : gIxN 1 (gB dAdd (gV 4) (gC (.int 1))) δ1 = some (.str (mkS ws[i]), δ1) := x_ixN (x_b (x_v (d := .int (i : Nat)) rfl) x_c rfl) rfl (show δ1[1]? = some (.pl (.lst (wsD (w :: ws)))) from rfl) b2
          have c2 : gTst (gB dNe (gIxN 2 (gV 4)) (gC (.str "number"))) δ1 = some ((match (kindOf k)[i] with | .num => false | _ => true), δ1) := x_tst (x_b (x_ixN (x_v (d := .int (i : Nat)) rfl) rfl (show δ1[2]? = some (.pl (.lst N)) from rfl) b1) x_c b4)
          have t : gIf (gTst (gB dNe (gIxN 2 (gV 4)) (gC (.str "number")))) (gIxN 1 (gB dAdd (gV 4) (gC (.int 1)))) (gCal L__law_number_1 1 (Dx.gCons (gIxN 1 (gB dAdd (gV 4) (gC (.int 1)))) Dx.gNil)) δ1 = some (rdItem (kindOf k)[i] (mkS ws[i]), δ1) := by
            cases g : (kindOf k)[i] with
            | num =>
              rw [g] at c2
              exact x_if (k := false) c2 (fun z => by cases z) (fun _ => x_cal (x_one c1) rfl b3)
            | cell =>
              rw [g] at c2
              exact x_if (k := true) c2 (fun _ => c1) (fun z => by cases z)
            | txt =>
              rw [g] at c2
              exact x_if (k := true) c2 (fun _ => c1) (fun z => by cases z)
          show (match gIf (gTst (gB dNe (gIxN 2 (gV 4)) (gC (.str "number")))) (gIxN 1 (gB dAdd (gV 4) (gC (.int 1)))) (gCal L__law_number_1 1 (Dx.gCons (gIxN 1 (gB dAdd (gV 4) (gC (.int 1)))) Dx.gNil)) δ1 with
            | some (d, δ3) => if acc.length < sizeLine then some (wipeD δ3 [4], acc ++ [d]) else none
            | none => none) = _
          rw [t]
          simp only [if_pos ha]
          rfl
        · rw [List.length_map, List.length_range']
          exact Nat.le_trans (kind_len k) (by decide)
      let A : D := .tup (.str k :: its)
      have hok : okD A := okD_cand h hk ws hws
      have hA := l_law_is_act hok.a
      have its_l : its.length ≤ 100 := by have := hok.1; simp only [List.length_cons] at this; omega
      let δ2 : Den := [.pl (.str z), .pl (.lst (wsD (w :: ws))), .pl (.lst N), .pl (.lst its), .no, .no]
      let δ3 : Den := [.pl (.str z), .pl (.lst (wsD (w :: ws))), .pl (.lst N), .pl (.lst its), .no, .pl A]
      have a4 : gCall (on1 dTuple) (Dx.gCons (gB dAdd (gSl (gV 1) gNo (gSo (gC (.int 1)))) (gV 3)) Dx.gNil) δ2 = some (A, δ2) := by
        refine x_call (g := on1 dTuple) (ds := [.lst (.str k :: its)]) (x_one (x_b (x_sl (c := .lst [.str k]) (x_v (d := .lst (wsD (w :: ws))) rfl) x_no (x_so x_c) ?_) (x_v (d := .lst its) rfl) ?_)) rfl
        · show some (D.lst (Dx.cutD (wsD (w :: ws)) none (some ((1 : Nat) : Int)))) = _
          rw [cut_to, ← hkw]
          rfl
        · show (if ([D.str k] : List D).length + its.length ≤ sizeLine then some (D.lst ([D.str k] ++ its)) else none) = _
          rw [if_pos (Nat.le_trans (m := 101) (by simp only [List.length_cons, List.length_nil]; omega) (by decide))]
          rfl
      refine ⟨δ3, x_sc (δ1 := δ0) (x_sif (k := false) (w_orT (k := false) a1 a2) (fun z => by cases z) (fun _ => x_sn)) (x_sc (δ1 := δ2) (x_asg a3 rfl) (x_sc (δ1 := δ3) (x_asg a4 rfl) (x_retL ?_)))⟩
      show _ = some (if isActD A = true then A else .non, δ3)
      cases g : isActD A with
      | true =>
        rw [g] at hA
        exact x_if (k := true) (x_tru (x_cal (x_one (x_v (d := A) rfl)) rfl hA) rfl) (fun _ => x_v rfl) (fun z => by cases z)
      | false =>
        rw [g] at hA
        exact x_if (k := false) (x_tru (x_cal (x_one (x_v (d := A) rfl)) rfl hA) rfl) (fun z => by cases z) (fun _ => x_c)
    · rw [decide_eq_false (by intro e; exact g1 (by exact_mod_cast e))] at a2
      rw [if_neg (by simp), if_neg g1]
      exact ⟨δ0, x_scr (x_sif (k := true) (w_orT (k := false) a1 a2) (fun _ => x_retL x_c) (fun z => by cases z))⟩
theorem l_law_read {z : Str} (h : okS z) : L__law_read_1 [.str z] = some (rd z) := by
  rw [← lawRd_eq]
  obtain ⟨r, hr⟩ := spl_head z.cps.toList.length z.cps.toList
  have s1 := dSplit_sp h
  have hp : ∀ p ∈ spl 32 (z.cps.toList.length + 1) z.cps.toList, okS (mkS p) := fun p hp => okS_pieces h hp
  have hlen := spl_len 32 (z.cps.toList.length + 1) z.cps.toList
  have hz := h.1
  rw [len_nil] at hz
  have hk := okS_head h
  unfold lawRd lawWords
  generalize hkk : mkS (headOf z.cps.toList) = k at *
  generalize hf : spl 32 (z.cps.toList.length + 1) z.cps.toList = full at *
  subst hr
  have hKi := l_kinds hk
  have e5 := eq_str (x := k) (y := "write") hk.t (by decide +kernel)
  generalize hhd : headOf z.cps.toList = w at *
  let N : List D := (kindOf k).map fun s => D.str (soName s)
  let δ1 : Den := [.pl (.str z), .pl (.lst (wsD (w :: r))), .no, .no, .no, .no]
  let δ2 : Den := [.pl (.str z), .pl (.lst (wsD (w :: r))), .pl (.lst N), .no, .no, .no]
  have i0 : dIx (.lst (wsD (w :: r))) (.int 0) = some (.str k) := by rw [← hkk]; exact ix0_lst _ _
  have b1 : gsAsg (gM1 dSplit (gV 0) (gC (.str " "))) (gNm 1) (den0 6 [.str z]) = some (.nx δ1) := x_asg (x_m1 (z := z) (x_v rfl) x_c s1) rfl
  have b2 : gsAsg (gCal L__law_kinds_1 1 (Dx.gCons (gIxN 1 (gC (.int 0))) Dx.gNil)) (gNm 2) δ1 = some (.nx δ2) := x_asg (x_cal (x_one (x_ixN x_c rfl (show δ1[1]? = some (.pl (.lst (wsD (w :: r)))) from rfl) i0)) rfl hKi) rfl
  have c1 : gTst (gB dEq (gIxN 1 (gC (.int 0))) (gC (.str "write"))) δ2 = some (k == ("write" : Str), δ2) := x_tst (x_b (x_ixN x_c rfl (show δ2[1]? = some (.pl (.lst (wsD (w :: r)))) from rfl) i0) x_c e5)
  have c2 : gTst (gB dGt (gCall (on1 dLen1) (Dx.gCons (gV 1) Dx.gNil)) (gC (.int 3))) δ2 = some (decide (3 < (w :: r).length), δ2) := by
    refine x_tst (x_b (x_call (g := on1 dLen1) (x_one (x_v (d := .lst (wsD (w :: r))) rfl)) rfl) x_c ?_)
    show some (D.bl (decide ((3 : Int) < ((wsD (w :: r)).length : Nat)))) = _
    rw [List.length_map, List.length_map]
    congr 2
    simp only [decide_eq_decide]
    omega
  have c3 : gAndT (gTst (gB dEq (gIxN 1 (gC (.int 0))) (gC (.str "write")))) (gTst (gB dGt (gCall (on1 dLen1) (Dx.gCons (gV 1) Dx.gNil)) (gC (.int 3)))) δ2 = some ((k == ("write" : Str)) && decide (3 < (w :: r).length), δ2) := x_andT c1 fun _ => c2
  unfold L__law_read_1 gs__law_read
  cases g : ((k == ("write" : Str)) && decide (3 < (w :: r).length)) with
  | false =>
    rw [g] at c3
    obtain ⟨δ', q⟩ := read_tail (z := z) h hk (w := w) (ws := r) hkk (fun p hpm => hp p (List.mem_cons_of_mem _ hpm)) (by simp only [List.length_cons] at hlen; omega) (e3 := .no) (e4 := .no) (e5 := .no) rfl rfl rfl
    refine of_rt (δ' := δ') ?_
    simp only [Bool.false_eq_true, if_false]
    exact x_sc b1 (x_sc b2 (x_sc (δ1 := δ2) (x_sif (k := false) c3 (fun z => by cases z) (fun _ => x_sn)) q))
  | true =>
    rw [g] at c3
    have hg3 : 3 < (w :: r).length := of_decide_eq_true (Bool.and_eq_true_iff.mp g).2
    have htk : (w :: r).take 3 = w :: r.take 2 := rfl
    let ws2 : List (List Nat) := r.take 2 ++ [joinL 32 ((w :: r).drop 3)]
    have hsub : okS (mkS (joinL 32 ((w :: r).drop 3))) := by
      have hj := joinL_spl 32 (z.cps.toList.length + 1) z.cps.toList
      rw [hf] at hj
      have e3 : spl 32 3 z.cps.toList = _ := spl_less 32 3 (z.cps.toList.length + 1 + 3) z.cps.toList (by omega)
      have hbig : spl 32 (z.cps.toList.length + 1 + 3) z.cps.toList = spl 32 (z.cps.toList.length + 1) z.cps.toList := by
        have := spl_less 32 (z.cps.toList.length + 1) (z.cps.toList.length + 1 + 3) z.cps.toList (by omega)
        have h2 := spl_len 32 (z.cps.toList.length + 1 + 3) z.cps.toList
        rw [if_pos (by omega)] at this
        exact this.symm
      rw [hbig, hf] at e3
      by_cases g4 : (w :: r).length ≤ 3 + 1
      · match r, hg3, g4 with
        | [a, b, c], _, _ => exact hp c (by simp)
      · rw [if_neg g4] at e3
        exact okS_pieces h (n := 3) (by rw [e3]; simp)
    let δ3 : Den := [.pl (.str z), .pl (.lst (wsD (w :: ws2))), .pl (.lst N), .no, .no, .no]
    have d1 : gB dAdd (gSl (gV 1) gNo (gSo (gC (.int 3)))) (gLst (Dx.gCons (gM1 dJoin (gC (.str " ")) (gSl (gV 1) (gSo (gC (.int 3))) gNo)) Dx.gNil)) δ2 = some (.lst (wsD (w :: ws2)), δ2) := by
      refine x_b (a := .lst (wsD (w :: r.take 2))) (b := .lst [.str (mkS (joinL 32 ((w :: r).drop 3)))]) (x_sl (x_v (d := .lst (wsD (w :: r))) rfl) x_no (x_so x_c) ?_) (x_lst (x_one (x_m1 (b := .lst (wsD ((w :: r).drop 3))) x_c (x_sl (x_v (d := .lst (wsD (w :: r))) rfl) (x_so x_c) x_no ?_) ?_)) (sz_le rfl)) ?_
      · show some (D.lst (Dx.cutD (wsD (w :: r)) none (some ((3 : Nat) : Int)))) = _
        rw [cut_to, ← List.map_take, ← List.map_take]
        rfl
      · show some (D.lst (Dx.cutD (wsD (w :: r)) (some ((3 : Nat) : Int)) none)) = _
        rw [cut_from, ← List.map_drop, ← List.map_drop]
      · exact join_ws (z := z) _ (fun p hpm => hp p (List.mem_of_mem_drop hpm)) (by rw [List.length_drop]; omega)
      · show (if (wsD (w :: r.take 2)).length + 1 ≤ sizeLine then some (D.lst (wsD (w :: r.take 2) ++ [D.str (mkS (joinL 32 ((w :: r).drop 3)))])) else none) = _
        rw [if_pos]
        · simp [ws2]
        · rw [List.length_map, List.length_map, List.length_cons, List.length_take]
          exact Nat.le_trans (m := 4) (by omega) (by decide)
    obtain ⟨δ', q⟩ := read_tail (z := z) h hk (w := w) (ws := ws2) hkk (fun p hpm => by
      rcases List.mem_append.mp hpm with hpm | hpm
      · exact hp p (List.mem_cons_of_mem _ (List.mem_of_mem_take hpm))
      · rw [List.mem_singleton] at hpm
        rw [hpm]
        exact hsub) (by simp only [ws2, List.length_append, List.length_take, List.length_singleton]; omega) (e3 := .no) (e4 := .no) (e5 := .no) rfl rfl rfl
    refine of_rt (δ' := δ') ?_
    simp only [if_true]
    refine x_sc b1 (x_sc b2 (x_sc (δ1 := δ3) (x_sif (k := true) c3 (fun _ => x_sc (δ1 := δ3) (x_asg d1 rfl) x_sn) (fun z => by cases z)) ?_))
    exact q
end P57
set_option Elab.async false
set_option linter.all false
set_option maxRecDepth 100000
set_option maxHeartbeats 4000000
namespace P57
open PySem PySem.Spec PyProof.Rows L2 Dx
open PySem.NumText
/-! what is read is written back, what is written is read back -/
theorem back_nat {cs : List Nat} (h : AllDigits cs) : (cs.map Char.ofNat).map Char.toNat = cs := by
  rw [List.map_map]
  refine (List.map_congr_left fun c hc => ?_).trans (List.map_id _)
  have := h c hc
  have h10 : ∀ c, c < 58 → (Char.ofNat c).toNat = c := by decide
  exact h10 c (by omega)
theorem str_num {cs : List Nat} (h : isNumL cs = true) : (Str.ofString (toString ((digitsVal cs : Nat) : Int))).cps.toList = cs := by
  rw [PySem.W.KIN.signs_num]
  have hd := allDig (isNumL_dig h)
  cases cs with
  | nil => cases h
  | cons c r =>
    rw [isNumL_cons, Bool.and_eq_true, Bool.or_eq_true] at h
    have hh : r.length = 0 ∨ ∃ c' r', c :: r = c' :: r' ∧ 49 ≤ c' := by
      rcases h.2 with h2 | h2
      · right
        refine ⟨c, r, rfl, ?_⟩
        have h3 := hd.head
        have : c ≠ 48 := by intro e; subst e; simp at h2
        omega
      · left
        cases r with
        | nil => rfl
        | cons a b => cases h2
    rw [toDigits_digitsVal r.length (c :: r) rfl hd hh]
    exact back_nat hd
theorem num_digits (n : Nat) : isNumL ((Nat.toDigits 10 n).map Char.toNat) = true := by
  have hd : AllDigits ((Nat.toDigits 10 n).map Char.toNat) := by
    intro c hc
    obtain ⟨ch, hch, e⟩ := List.mem_map.mp hc
    have r := digit_range (Nat.isDigit_of_mem_toDigits (by decide) (by decide) hch)
    rw [← e]
    exact r
  have ha := toDigits_all ((Nat.toDigits 10 n).map Char.toNat) hd
  rw [PySem.W.KIN.val_back] at ha
  have hall : ((Nat.toDigits 10 n).map Char.toNat).all (rng2 48 57) = true := List.all_eq_true.mpr fun c hc => rng2_iff.mpr (hd c hc)
  cases e : (Nat.toDigits 10 n).map Char.toNat with
  | nil =>
    have := toDigits_len_ge 10 n
    rw [List.map_eq_nil_iff.mp e] at this
    exact absurd this (by decide)
  | cons c r =>
    rw [e] at ha hall
    rw [isNumL_cons, hall, Bool.true_and]
    by_cases g : c = 48
    · rw [List.dropWhile_cons, if_pos (by rw [g]; rfl)] at ha
      have hl := congrArg List.length e
      rw [List.length_map, ha] at hl
      cases e2 : r.dropWhile (· == 48) with
      | nil =>
        rw [e2] at hl
        have : r.length = 0 := by simpa using hl
        rw [List.length_eq_zero_iff.mp this]
        simp
      | cons a b =>
        rw [e2] at hl
        have h2 := (List.dropWhile_sublist (fun x => x == 48) (l := r)).length_le
        rw [e2] at h2
        simp only [List.length_map, List.length_cons] at hl h2
        omega
    · simp [g]
theorem numD_back {i : Int} (h : 0 ≤ i) : numD (Str.ofString (toString i)) = .int i := by
  obtain ⟨n, rfl⟩ := Int.eq_ofNat_of_zero_le h
  unfold numD
  rw [PySem.W.KIN.signs_num, if_pos (num_digits n), PySem.W.KIN.val_back]
theorem strD_item {s : So} {w : List Nat} (h : itOk s (rdItem s (mkS w)) = true) : (strD (rdItem s (mkS w))).cps.toList = w := by
  cases s with
  | num =>
    have h : isCount (numD (mkS w)) = true := h
    show (strD (numD (mkS w))).cps.toList = w
    unfold numD at h ⊢
    by_cases g : isNumL w = true
    · rw [if_pos (show isNumL (mkS w).cps.toList = true from g)]
      exact str_num g
    · rw [if_neg (show ¬ isNumL (mkS w).cps.toList = true from g)] at h
      cases h
  | cell => rfl
  | txt => rfl
theorem zip_strD : ∀ (ws : List (List Nat)) (ss : List So), ws.length = ss.length → okAll ss (List.zipWith (fun w s => rdItem s (mkS w)) ws ss) = true → (List.zipWith (fun w s => rdItem s (mkS w)) ws ss).map (fun x => (strD x).cps.toList) = ws
  | [], [], _, _ => rfl
  | w :: ws, s :: ss, hl, h => by
    rw [List.zipWith_cons_cons] at h ⊢
    simp only [okAll, Bool.and_eq_true] at h
    rw [List.map_cons, strD_item h.1, zip_strD ws ss (by simpa using hl) h.2]
  | [], _ :: _, h, _ => by cases h
  | _ :: _, [], h, _ => by cases h
theorem writ_cps (xs : List D) : (writ xs).cps.toList = joinL 32 (xs.map fun x => (strD x).cps.toList) := by
  have h := join_sgn 32 (xs.map strD)
  rw [List.map_map] at h
  have e : writ xs = Txt.join (sgn1 32) (xs.map strD) := by
    show Str.join " " _ = PySem.Builtin.Str.glued _ _
    rw [StrLaws.glued_eq_join, sp_eq]
  rw [e, h]
  rfl
/-- T4 -/
theorem rd_writ {z : Str} {a : D} (h : rd z = a) (hn : a ≠ .non) : isActD a = true ∧ writ (actItems a) = z := by
  unfold rd rdAct at h
  split at h
  · rename_i g
    subst h
    refine ⟨g, ?_⟩
    obtain ⟨k', x, xs, e1, e2, _⟩ := act_parts g
    injection e1 with e1
    injection e1 with e0 e1
    cases e0
    generalize hk : mkS (headOf z.cps.toList) = k at *
    rw [← e1] at e2
    have hlen := okAll_len e2
    rw [List.length_zipWith] at hlen
    have hpos : 0 < (kindOf k).length := by
      cases q : kindOf k with
      | nil => rw [q] at e1; simp at e1
      | cons a b => simp
    obtain ⟨m, hm⟩ : ∃ m, (kindOf k).length = m + 1 := ⟨(kindOf k).length - 1, by omega⟩
    obtain ⟨r, hr⟩ := spl_head m z.cps.toList
    have hj := joinL_spl 32 (kindOf k).length z.cps.toList
    have hle : r.length ≤ (kindOf k).length := by
      have := spl_less 32 (m + 1) (m + 1 + z.cps.toList.length + 1) z.cps.toList (by omega)
      rw [hr] at this
      have h2 := congrArg List.length this
      rw [List.length_cons] at h2
      split at h2
      · rename_i h3; omega
      · rw [List.length_append, List.length_take, List.length_singleton] at h2; omega
    rw [hm, hr] at hj
    rw [hm, hr] at e2 ⊢
    rw [List.tail_cons] at e2 ⊢
    have hz := zip_strD r (kindOf k) (by rw [hm, hr, List.tail_cons] at hlen; omega) e2
    show writ (.str k :: _) = z
    apply Str.ext'
    apply Array.toList_inj.mp
    rw [writ_cps, List.map_cons, hz, ← hk]
    exact hj
  · exact absurd h.symm hn
theorem rd_non_or (z : Str) : rd z = .non ∨ rd z ≠ .non := Classical.em _
/-! T5 -/
theorem digs_nosp {l : List Nat} (h : isNumL l = true) : 32 ∉ l := fun e => absurd (List.all_eq_true.mp (isNumL_dig h) 32 e) (by decide)
theorem cell_nosp {z : Str} (h : isCellS z = true) : 32 ∉ z.cps.toList := fun e => absurd (List.all_eq_true.mp (Bool.and_eq_true_iff.mp h).2 32 e) (by decide)
theorem count_parts {x : D} (h : isCount x = true) : ∃ i, x = .int i ∧ 0 ≤ i := by
  cases x with
  | int i => exact ⟨i, rfl, of_decide_eq_true h⟩
  | _ => cases h
theorem count_back {x : D} (h : isCount x = true) : 32 ∉ (strD x).cps.toList ∧ rdItem .num (mkS (strD x).cps.toList) = x := by
  obtain ⟨i, rfl, hi⟩ := count_parts h
  obtain ⟨n, rfl⟩ := Int.eq_ofNat_of_zero_le hi
  refine ⟨?_, numD_back hi⟩
  show 32 ∉ (Str.ofString (toString ((n : Nat) : Int))).cps.toList
  rw [PySem.W.KIN.signs_num]
  exact digs_nosp (num_digits n)
theorem cell_back {x : D} (h : isCell x = true) : 32 ∉ (strD x).cps.toList ∧ rdItem .cell (mkS (strD x).cps.toList) = x := by
  cases x with
  | str z => exact ⟨cell_nosp h, rfl⟩
  | _ => cases h
theorem text_back {x : D} (h : isText x = true) : rdItem .txt (mkS (strD x).cps.toList) = x := by
  cases x with
  | str z => rfl
  | _ => cases h
theorem head_join {p : List Nat} (h : 32 ∉ p) (q : List Nat) : headOf (p ++ 32 :: q) = p := by
  unfold headOf
  induction p with
  | nil => rfl
  | cons a r ih =>
    rw [List.mem_cons, not_or] at h
    rw [List.cons_append, List.takeWhile_cons, if_pos (by simp; exact fun e => h.1 e.symm), ih h.2]
theorem kind_nosp {k : Str} (h : kindOf k ≠ []) : 32 ∉ k.cps.toList := by
  rcases k_cases k with g | g
  · rcases g with rfl | rfl | rfl | rfl | rfl | rfl | rfl | rfl <;> decide +kernel
  · have g : ∀ n ∈ kNames, (k == n) = false := g
    simp only [kNames, List.mem_cons, List.not_mem_nil, or_false, forall_eq_or_imp, forall_eq] at g
    obtain ⟨h1, h2, h3, h4, h5, h6, h7, h8⟩ := g
    exfalso
    apply h
    unfold kindOf
    simp only [h1, h2, h3, h4, h5, h6, h7, h8, Bool.or_self, Bool.false_eq_true, if_false]
theorem kind_forms (k : Str) : kindOf k = [] ∨ kindOf k = [.num] ∨ kindOf k = [.num, .num] ∨ kindOf k = [.num, .cell, .txt] := by
  unfold kindOf
  split
  · exact .inr (.inr (.inr rfl))
  · split
    · exact .inr (.inr (.inl rfl))
    · split
      · exact .inr (.inl rfl)
      · exact .inl rfl
theorem rd_of {k : Str} {x : D} {xs : List D} {ps : List (List Nat)} {t : List Nat} (hk : 32 ∉ k.cps.toList) (hw : ((D.str k :: x :: xs).map fun x => (strD x).cps.toList) = (k.cps.toList :: ps) ++ [t]) (hps : ∀ p ∈ ps, 32 ∉ p) (hl : (kindOf k).length = ps.length + 1)
    (hz : List.zipWith (fun w s => rdItem s (mkS w)) (ps ++ [t]) (kindOf k) = x :: xs) (ha : isActD (.tup (.str k :: x :: xs)) = true) : rd (writ (.str k :: x :: xs)) = .tup (.str k :: x :: xs) := by
  have hc : (writ (.str k :: x :: xs)).cps.toList = joinL 32 ((k.cps.toList :: ps) ++ [t]) := by rw [writ_cps, hw]
  have hh : headOf (writ (.str k :: x :: xs)).cps.toList = k.cps.toList := by
    rw [hc, List.cons_append, joinL_cons (by simp)]
    exact head_join hk _
  unfold rd
  rw [hh]
  show rdAct k (spl 32 (kindOf k).length (writ (.str k :: x :: xs)).cps.toList).tail = _
  rw [hc, spl_joinL 32 (k.cps.toList :: ps) t (kindOf k).length (fun p hp => by
    rcases List.mem_cons.mp hp with rfl | hp
    · exact hk
    · exact hps p hp) (by rw [hl]; simp) (.inl (by rw [hl]; simp))]
  show rdAct k (ps ++ [t]) = _
  unfold rdAct
  rw [hz, if_pos ha]
theorem writ_rd {a : D} (h : isActD a = true) : rd (writ (actItems a)) = a := by
  obtain ⟨k, x, xs, rfl, ha, _⟩ := act_parts h
  show rd (writ (.str k :: x :: xs)) = _
  rcases kind_forms k with q | q | q | q
  · rw [q] at ha; cases ha
  · rw [q] at ha
    have hk := kind_nosp (k := k) (by rw [q]; simp)
    match xs, ha with
    | [], ha =>
      have h1 : isCount x = true := by
        have : (isCount x && true) = true := ha
        simpa using this
      have b1 := count_back h1
      exact rd_of (ps := []) (t := (strD x).cps.toList) hk rfl (fun p hp => by cases hp) (by rw [q]; rfl) (by rw [q]; show [rdItem .num _] = [x]; rw [b1.2]) h
    | _ :: _, ha =>
      have := okAll_len ha
      simp at this
  · rw [q] at ha
    have hk := kind_nosp (k := k) (by rw [q]; simp)
    match xs, ha with
    | [y], ha =>
      have hh : (isCount x && (isCount y && true)) = true := ha
      simp only [Bool.and_true, Bool.and_eq_true] at hh
      have b1 := count_back hh.1
      have b2 := count_back hh.2
      exact rd_of (ps := [(strD x).cps.toList]) (t := (strD y).cps.toList) hk rfl (fun p hp => by rw [List.mem_singleton] at hp; subst hp; exact b1.1) (by rw [q]; rfl) (by rw [q]; show [rdItem .num _, rdItem .num _] = [x, y]; rw [b1.2, b2.2]) h
    | [], ha => have := okAll_len ha; simp at this
    | _ :: _ :: _, ha => have := okAll_len ha; simp at this
  · rw [q] at ha
    have hk := kind_nosp (k := k) (by rw [q]; simp)
    match xs, ha with
    | [y, w], ha =>
      have hh : (isCount x && (isCell y && (isText w && true))) = true := ha
      simp only [Bool.and_true, Bool.and_eq_true] at hh
      have b1 := count_back hh.1
      have b2 := cell_back hh.2.1
      have b3 := text_back hh.2.2
      exact rd_of (ps := [(strD x).cps.toList, (strD y).cps.toList]) (t := (strD w).cps.toList) hk rfl (fun p hp => by
        simp only [List.mem_cons, List.not_mem_nil, or_false] at hp
        rcases hp with rfl | rfl
        · exact b1.1
        · exact b2.1) (by rw [q]; rfl) (by rw [q]; show [rdItem .num _, rdItem .cell _, rdItem .txt _] = [x, y, w]; rw [b1.2, b2.2, b3]) h
    | [], ha => have := okAll_len ha; simp at this
    | [_], ha => have := okAll_len ha; simp at this
    | _ :: _ :: _ :: _, ha => have := okAll_len ha; simp at this
end P57
set_option Elab.async false
set_option linter.all false
set_option maxRecDepth 100000
set_option maxHeartbeats 4000000
namespace P57
open PySem PySem.Spec PyProof.Rows L2 Dx
/-! the box -/
structure Bx (n : Nat) (bs : List D) : Prop where
  ex : ∃ (g : Int) (b : Bool) (r c : Int), bs = [.int g, .bl b, .int r, .int c] ∧ 0 ≤ g ∧ 0 ≤ r ∧ r < 2147483629 ∧ 0 ≤ c ∧ c ≤ n
theorem Bx.mono {n m : Nat} {bs : List D} (h : Bx n bs) (hm : n ≤ m) : Bx m bs := by
  obtain ⟨g, b, r, c, e, h1, h2, h3, h4, h5⟩ := h.ex
  exact ⟨g, b, r, c, e, h1, h2, h3, h4, by omega⟩
theorem mod_ok {a b : Int} (h : 0 < b) : dMod (.int a) (.int b) = some (.int (a % b)) := by
  show (if decide (0 < b) = true then some (D.int (a % b)) else none) = _
  rw [if_pos (decide_eq_true h)]
theorem pow_ok {a : Int} {k : Nat} (h : a.natAbs < 2 ^ 64) (hk : k ≤ 1000000) : dPow (.int a) (.int (k : Nat)) = some (.int (a ^ k)) := by
  show (if powFit a k = true then some (D.int (a ^ (k : Int).toNat)) else none) = _
  rw [if_pos]
  · rfl
  · show (decide (0 ≤ (k : Int)) && (decide ((k : Int) ≤ 1000000) && decide (a.natAbs < 2 ^ 64))) = true
    rw [decide_eq_true (by omega), decide_eq_true (by omega), decide_eq_true h]; rfl
theorem div_ok {a b : Int} (h : 0 < b) (h2 : b < 2 ^ 62) : dDiv (.int a) (.int b) = some (.int (a / b)) := by
  show (if divFit a b = true then some (D.int (a / b)) else none) = _
  rw [if_pos]
  show (decide (0 < b) && decide (b.natAbs.log2 < 9000)) = true
  rw [decide_eq_true h, decide_eq_true]
  · rfl
  · have : b.natAbs.log2 < 62 := (Nat.log2_lt (by omega)).mpr (by omega)
    omega
theorem mulS_ok {a b : Int} (ha : a.natAbs < 2 ^ 62) (hb : b.natAbs < 2 ^ 62) : dMulS (.int a) (.int b) = some (.int (a * b)) := by
  show dMul (.int a) (.int b) = _
  show (if mulFit a b = true then some (D.int (a * b)) else none) = _
  rw [if_pos]
  show decide (a.natAbs.log2 + b.natAbs.log2 < 1000000) = true
  apply decide_eq_true
  have h : ∀ x : Nat, x < 2 ^ 62 → x.log2 < 62 := fun x hx => by
    by_cases h0 : x = 0
    · subst h0; decide
    · exact (Nat.log2_lt h0).mpr hx
  have := h _ ha
  have := h _ hb
  omega
theorem abs_lt {a : Int} {n : Nat} (h0 : 0 ≤ a) (h : a < n) : a.natAbs < n := by omega
theorem l_take {n : Nat} {bs : List D} (h : Bx n bs) (hn : n ≤ 1000000) {m : Int} (hm : 0 < m) (hm2 : m < 2 ^ 62) : ∃ d bs', L__law_take_2 bs [.int m] = some (.int d, bs') ∧ 0 ≤ d ∧ d < m ∧ Bx (n + 1) bs' := by
  obtain ⟨g, b, r, c, rfl, hg, hr, hr2, hc, hcn⟩ := h.ex
  have i1 : dIx (.lst [.int g, .bl b, .int r, .int c]) (.int 1) = some (.bl b) := rfl
  have i0 : dIx (.lst [.int g, .bl b, .int r, .int c]) (.int 0) = some (.int g) := rfl
  have t1 : gTru (gIxN 0 (gC (.int 1))) (denB 4 [.int g, .bl b, .int r, .int c] [.int m]) = some (b, denB 4 [.int g, .bl b, .int r, .int c] [.int m]) := x_tru (x_ixO x_c rfl rfl i1) rfl
  have t2 : gTst (gB dGt (gIxN 0 (gC (.int 0))) (gC (.int 0))) (denB 4 [.int g, .bl b, .int r, .int c] [.int m]) = some (decide (0 < g), denB 4 [.int g, .bl b, .int r, .int c] [.int m]) := x_tst (x_b (x_ixO x_c rfl rfl i0) x_c rfl)
  have t3 := x_andT t1 fun _ => t2
  have r1 := Int.emod_nonneg
  cases q : b && decide (0 < g) with
  | true =>
    rw [q] at t3
    refine ⟨g % m, [.int (g / m), .bl b, .int r, .int c], ?_, Int.emod_nonneg _ (by omega), Int.emod_lt_of_pos _ hm, ⟨g / m, b, r, c, rfl, Int.ediv_nonneg hg (by omega), hr, hr2, hc, by omega⟩⟩
    refine of_rtB (δ' := [.ow false [.int (g / m), .bl b, .int r, .int c], .pl (.int m), .pl (.int (g % m)), .no]) ?_ rfl
    refine x_scr (x_sif (k := true) t3 (fun _ => ?_) (fun z => by cases z))
    refine x_sc (δ1 := [.ow false [.int g, .bl b, .int r, .int c], .pl (.int m), .pl (.int (g % m)), .no]) (x_asg (x_b (x_call (g := on1 dInt) (x_one (x_ixO x_c rfl rfl i0)) rfl) (x_v rfl) (mod_ok hm)) rfl) ?_
    refine x_sc (δ1 := [.ow false [.int (g / m), .bl b, .int r, .int c], .pl (.int m), .pl (.int (g % m)), .no]) (x_setIx (i := 0) (j := 0) (o := false) (bs := [.int g, .bl b, .int r, .int c]) (δ1 := [.ow false [.int g, .bl b, .int r, .int c], .pl (.int m), .pl (.int (g % m)), .no]) (x_b (x_ixO x_c rfl rfl i0) (x_v rfl) (div_ok hm hm2)) rfl x_c rfl rfl) ?_
    exact x_retL (x_v rfl)
  | false =>
    rw [q] at t3
    let c' : Int := c + 1
    let bs' : List D := [.int g, .bl b, .int r, .int c']
    let x : Int := r + 15485957 * c' + 179424757
    let y : Int := x ^ 5 % 2147483647
    let u : Int := y * 48271 + 104779 * c'
    have hc' : 0 ≤ c' ∧ c' ≤ 1000001 := by show 0 ≤ c + 1 ∧ c + 1 ≤ 1000001; omega
    have hy : 0 ≤ y ∧ y < 2147483647 := ⟨Int.emod_nonneg _ (by decide), Int.emod_lt_of_pos _ (by decide)⟩
    have j3 : dIx (.lst [.int g, .bl b, .int r, .int c]) (.int 3) = some (.int c) := rfl
    have k3 : dIx (.lst bs') (.int 3) = some (.int c') := rfl
    have k2 : dIx (.lst bs') (.int 2) = some (.int r) := rfl
    have m1 := mulS_ok (a := 15485957) (b := c') (by decide) (by omega)
    have m2 := mulS_ok (a := y) (b := 48271) (by omega) (by decide)
    have m3 := mulS_ok (a := 104779) (b := c') (by decide) (by omega)
    have p1 : dPow (.int x) (.int 5) = some (.int (x ^ 5)) := pow_ok (k := 5) (by show (r + 15485957 * c' + 179424757).natAbs < 2 ^ 64; omega) (by decide)
    have p2 : dPow (.int u) (.int 3) = some (.int (u ^ 3)) := pow_ok (k := 3) (by show (y * 48271 + 104779 * c').natAbs < 2 ^ 64; omega) (by decide)
    have d1 := mod_ok (a := x ^ 5) (b := 2147483647) (by decide)
    have d2 := mod_ok (a := u ^ 3) (b := 2147483587) (by decide)
    have d3 := div_ok (a := u ^ 3 % 2147483587) (b := 64) (by decide) (by decide)
    have d4 := mod_ok (a := u ^ 3 % 2147483587 / 64) hm
    refine ⟨u ^ 3 % 2147483587 / 64 % m, bs', ?_, Int.emod_nonneg _ (by omega), Int.emod_lt_of_pos _ hm, ⟨g, b, r, c', rfl, hg, hr, hr2, hc'.1, by show c + 1 ≤ _; omega⟩⟩
    let δ0 : Den := [.ow false [.int g, .bl b, .int r, .int c], .pl (.int m), .no, .no]
    let δ1 : Den := [.ow false bs', .pl (.int m), .no, .no]
    let δ2 : Den := [.ow false bs', .pl (.int m), .no, .pl (.int y)]
    refine of_rtB (δ' := δ2) ?_ rfl
    refine x_sc (δ1 := δ0) (x_sif (k := false) t3 (fun z => by cases z) (fun _ => x_sn)) ?_
    refine x_sc (δ1 := δ1) (x_setIx (i := 0) (j := 3) (o := false) (bs := [.int g, .bl b, .int r, .int c]) (δ1 := δ0) (d := .int c') (x_b (x_ixO x_c rfl rfl j3) x_c rfl) rfl x_c rfl rfl) ?_
    refine x_sc (δ1 := δ2) (x_asg (d := .int y) (x_b (x_call (g := on1 dInt) (x_one (x_b (x_b (x_b (x_ixO x_c rfl rfl k2) (x_b x_c (x_ixO x_c rfl rfl k3) m1) rfl) x_c rfl) x_c p1)) rfl) x_c d1) rfl) ?_
    exact x_retL (x_b (x_b (x_b (x_call (g := on1 dInt) (x_one (x_b (x_b (x_b (x_v (d := .int y) rfl) x_c m2) (x_b x_c (x_ixO x_c rfl rfl k3) m3) rfl) x_c p2)) rfl) x_c d2) x_c d3) (x_v (d := .int m) rfl) d4)
end P57
set_option Elab.async false
set_option linter.all false
set_option maxRecDepth 100000
set_option maxHeartbeats 4000000
namespace P57
open PySem PySem.Spec PyProof.Rows L2 Dx
/-! items -/
def All2 (Q : D → D → Prop) : List D → List D → Prop
  | [], [] => True
  | x :: xs, d :: ds => Q x d ∧ All2 Q xs ds
  | _, _ => False
theorem All2.len {Q : D → D → Prop} : ∀ {xs ds : List D}, All2 Q xs ds → ds.length = xs.length
  | [], [], _ => rfl
  | x :: xs, d :: ds, h => by rw [List.length_cons, List.length_cons, All2.len h.2]
  | [], _ :: _, h => h.elim
  | _ :: _, [], h => h.elim
theorem goB {gt : GG} {gc : GT} {ge : GE} {vs : List Nat} (F : List D → Den) (Q : D → D → Prop) (s N : Nat) : ∀ (xs : List D), (∀ x ∈ xs, ∀ (n : Nat) (bs acc : List D), Bx n bs → n + s ≤ N → acc.length < sizeLine → ∃ d bs', turnD gt gc ge vs x (F bs, acc) = some (F bs', acc ++ [d]) ∧ Q x d ∧ Bx (n + s) bs') →
    ∀ (n : Nat) (bs acc : List D), Bx n bs → n + s * xs.length ≤ N → acc.length + xs.length ≤ sizeLine → ∃ ds bs', goD gt gc ge vs xs (F bs, acc) = some (F bs', acc ++ ds) ∧ All2 Q xs ds ∧ Bx (n + s * xs.length) bs'
  | [], h, n, bs, acc, hb, _, _ => ⟨[], bs, by rw [List.append_nil]; rfl, trivial, hb.mono (by omega)⟩
  | x :: xs, h, n, bs, acc, hb, hN, hl => by
    rw [List.length_cons] at hN hl
    rw [Nat.mul_succ] at hN
    obtain ⟨d, bs1, e1, q1, b1⟩ := h x (List.mem_cons_self ..) n bs acc hb (by omega) (by omega)
    obtain ⟨ds, bs2, e2, q2, b2⟩ := goB F Q s N xs (fun y hy => h y (List.mem_cons_of_mem _ hy)) (n + s) bs1 (acc ++ [d]) b1 (by omega) (by rw [List.length_append, List.length_singleton]; omega)
    refine ⟨d :: ds, bs2, ?_, ⟨q1, q2⟩, b2.mono (by rw [List.length_cons, Nat.mul_succ]; omega)⟩
    unfold goD
    rw [e1]
    show goD gt gc ge vs xs (F bs1, acc ++ [d]) = _
    rw [e2, List.append_assoc]
    rfl
theorem gLc_B {gi : GI} {gt : GG} {gc : GT} {ge : GE} {vs : List Nat} {δ : Den} {xs : List D} {n : Nat} {bs : List D} (F : List D → Den) (Q : D → D → Prop) (s N : Nat) (hi : gi δ = some (xs, F bs)) (hn : notOw (F bs) vs = true) (hw : wipeD (F bs) vs = F bs) (hb : ∀ bs', backD (F bs) (F bs') vs = F bs')
    (h : ∀ x ∈ xs, ∀ (n : Nat) (bs acc : List D), Bx n bs → n + s ≤ N → acc.length < sizeLine → ∃ d bs', turnD gt gc ge vs x (F bs, acc) = some (F bs', acc ++ [d]) ∧ Q x d ∧ Bx (n + s) bs') (b : Bx n bs) (hN : n + s * xs.length ≤ N) (hl : xs.length ≤ sizeLine) :
    ∃ ds bs', gLc gi gt gc ge vs δ = some (.lst ds, F bs') ∧ All2 Q xs ds ∧ Bx (n + s * xs.length) bs' := by
  obtain ⟨ds, bs', e, q, b'⟩ := goB F Q s N xs h n bs [] b hN (by simpa using hl)
  refine ⟨ds, bs', ?_, q, b'⟩
  unfold gLc
  rw [hi]
  simp only [hn, if_true]
  rw [hw, e]
  simp only [List.nil_append, hb]
theorem join_empty : ∀ cs : List Nat, (Str.join "" (cs.map fun c => (⟨#[c]⟩ : Str))).cps.toList = cs
  | [] => rfl
  | [c] => rfl
  | c :: d :: r => by
    have ih := join_empty (d :: r)
    show ((⟨#[c]⟩ : Str) ++ ("" : Str) ++ Str.join "" ((d :: r).map fun c => (⟨#[c]⟩ : Str))).cps.toList = _
    rw [Str.cps_append, Str.cps_append, Array.toList_append, Array.toList_append, ih]
    rfl
theorem sum_one : ∀ cs : List Nat, ((cs.map fun c => (⟨#[c]⟩ : Str)).map fun y : Str => y.length).sum = cs.length
  | [] => rfl
  | c :: r => by
    rw [List.map_cons, List.map_cons, List.sum_cons, sum_one r, List.length_cons]
    show 1 + r.length = _
    omega
theorem join_sgs (cs : List Nat) (h : cs.length ≤ 1000) : dJoin "" (.lst (cs.map sg)) = some (.str (mkS cs)) := by
  have e : cs.map sg = (cs.map fun c => (⟨#[c]⟩ : Str)).map D.str := by rw [List.map_map]; rfl
  show (match strs? (cs.map sg) with
    | some ys => if (ys.map fun y : Str => y.length).sum + ys.length * ("" : Str).length ≤ 16777216 then some (D.str (Txt.join "" ys)) else none
    | none => none) = _
  rw [e, strs_map]
  simp only
  rw [sum_one, if_pos (by rw [show ("" : Str).length = 0 from by decide +kernel]; omega)]
  have : Txt.join "" (cs.map fun c => (⟨#[c]⟩ : Str)) = mkS cs := by
    show PySem.Builtin.Str.glued _ _ = _
    rw [StrLaws.glued_eq_join]
    apply Str.ext'
    apply Array.toList_inj.mp
    rw [join_empty]
    rfl
  rw [this]
theorem dIx_sign {z : Str} (hz : z.length ≤ 1000) {d : Int} (h0 : 0 ≤ d) (h1 : d < z.length) : ∃ c ∈ z.cps.toList, dIx (.str z) (.int d) = some (sg c) := by
  obtain ⟨n, rfl⟩ := Int.eq_ofNat_of_zero_le h0
  have hn : n < z.cps.toList.length := by rw [← len_nil]; omega
  refine ⟨z.cps.toList[n], List.getElem_mem hn, ?_⟩
  show (if z.length ≤ sizeLine then (atI z.cps.toList (n : Nat)).map fun c => D.str ⟨#[c]⟩ else none) = _
  rw [if_pos (Nat.le_trans hz (by decide)), atI_nat (List.getElem?_eq_getElem hn)]
  rfl
/-- all2 of signs -/
theorem all2_sgs {P : Nat → Prop} : ∀ {xs ds : List D}, All2 (fun _ d => ∃ c, d = sg c ∧ P c) xs ds → ∃ cs : List Nat, ds = cs.map sg ∧ cs.length = xs.length ∧ ∀ c ∈ cs, P c
  | [], [], _ => ⟨[], rfl, rfl, fun c hc => by cases hc⟩
  | x :: xs, d :: ds, h => by
    obtain ⟨⟨c, rfl, hc⟩, h2⟩ := h
    obtain ⟨cs, rfl, hl, hp⟩ := all2_sgs h2
    refine ⟨c :: cs, rfl, by rw [List.length_cons, List.length_cons, hl], fun y hy => ?_⟩
    rcases List.mem_cons.mp hy with rfl | hy
    · exact hc
    · exact hp y hy
  | [], _ :: _, h => h.elim
  | _ :: _, [], h => h.elim
/-- [z[take(box, m)] for k in range(..)] -/
theorem signs_of {z : Str} (hz : z.length ≤ 1000) (hz0 : 0 < z.length) {v : Nat} {δ : Den} {n : Nat} {bs : List D} {gi : GI} {gm : GE} {k : Nat} (F : List D → Den) {xs : List D} (hi : gi δ = some (xs, F bs)) (hn : notOw (F bs) [v] = true) (hw : wipeD (F bs) [v] = F bs) (hb : ∀ bs', backD (F bs) (F bs') [v] = F bs')
    (hs : ∀ bs x, wipeD ((F bs).set v x) [v] = F bs) (h0 : ∀ bs x, isOw ((F bs).set v x) 0 = true) (h0' : ∀ bs x, ((F bs).set v x)[0]? = some (.ow false bs)) (hset : ∀ bs bs' x, ((F bs).set v x).set 0 (.ow false bs') = (F bs').set v x)
    (hgm : ∀ bs x, gm ((F bs).set v x) = some (.int (z.length : Nat), (F bs).set v x)) (hk : ∀ bs x, ((F bs).set v x)[k]? = some (.pl (.str z))) (b : Bx n bs) (hN : n + xs.length ≤ 1000000) (hl : xs.length ≤ 1000) :
    ∃ (cs : List Nat) (bs' : List D), gLc gi (gNm v) gYes (gIxN k (gCalB L__law_take_2 2 0 (Dx.gCons gm Dx.gNil))) [v] δ = some (.lst (cs.map sg), F bs') ∧ cs.length = xs.length ∧ (∀ c ∈ cs, c ∈ z.cps.toList) ∧ Bx (n + xs.length) bs' := by
  obtain ⟨ds, bs', e, q, b'⟩ := gLc_B (gt := gNm v) (gc := gYes) (ge := gIxN k (gCalB L__law_take_2 2 0 (Dx.gCons gm Dx.gNil))) (vs := [v]) (n := n) (δ := δ) F (fun _ d => ∃ c, d = sg c ∧ c ∈ z.cps.toList) 1 1000000 hi hn hw hb (fun x hx n bs acc hB hn ha => by
    obtain ⟨d, bs', et, d0, d1, b'⟩ := l_take hB (by omega) (m := (z.length : Nat)) (by omega) (by omega)
    obtain ⟨c, hc, ei⟩ := dIx_sign hz d0 d1
    refine ⟨sg c, bs', ?_, ⟨c, rfl, hc⟩, b'⟩
    have t : gIxN k (gCalB L__law_take_2 2 0 (Dx.gCons gm Dx.gNil)) ((F bs).set v (.pl x)) = some (sg c, (F bs').set v (.pl x)) := by
      refine x_ixN (b := .int d) (δ1 := (F bs').set v (.pl x)) ?_ (by unfold hasV; rw [hk]) (hk bs' _) ei
      have := x_calB (δ := (F bs).set v (.pl x)) (i := 0) (n := 2) (g := L__law_take_2) (gs := Dx.gCons gm Dx.gNil) (h0 bs _) (x_one (hgm bs _)) (h0' bs _) rfl et
      rw [hset] at this
      exact this
    show (match gIxN k (gCalB L__law_take_2 2 0 (Dx.gCons gm Dx.gNil)) ((F bs).set v (.pl x)) with
      | some (d, δ3) => if acc.length < sizeLine then some (wipeD δ3 [v], acc ++ [d]) else none
      | none => none) = _
    rw [t]
    simp only [if_pos ha, hs]) b (by omega) (Nat.le_trans hl (by decide))
  obtain ⟨cs, rfl, hlc, hp⟩ := all2_sgs q
  rw [Nat.one_mul] at b'
  exact ⟨cs, bs', e, hlc, hp, b'⟩
end P57
set_option Elab.async false
set_option linter.all false
set_option maxRecDepth 100000
set_option maxHeartbeats 4000000
namespace P57
open PySem PySem.Spec PyProof.Rows L2 Dx
/-- a small item: a number below 10^40, a plain text of at most 40 signs -/
def okM : D → Prop
  | .int i => 0 ≤ i → i < 10 ^ 40
  | .str z => z.length ≤ 40 ∧ ∀ c ∈ z.cps.toList, c < 128
  | _ => True
theorem pow_le : (10 : Int) ^ 40 ≤ 10 ^ 500 := by decide +kernel
theorem okM.n {d : D} (h : okM d) : okN d := by
  cases d with
  | int i => exact fun h0 => Int.lt_of_lt_of_le (h h0) pow_le
  | str z => exact ⟨Nat.le_trans h.1 (by decide), h.2⟩
  | _ => trivial
abbrev letters : Str := "abcdefghijklmnopqrstuvwxyz"
abbrev signsS : Str := " !\"#$&'()*+,-./0123456789:;<=>?@ABCDEFGHIJKLMNOPQRSTUVWXYZ[\\]^_`abcdefghijklmnopqrstuvwxyz{|}~"
theorem letters_len : letters.length = 26 := by decide +kernel
theorem signs_len : signsS.length = 94 := by decide +kernel
theorem letters_ok : ∀ c ∈ letters.cps.toList, rng2 97 122 c = true := by decide +kernel
theorem signs_ok : ∀ c ∈ signsS.cps.toList, rng2 32 126 c = true := by decide +kernel
theorem l_signs : L__law_signs_0 [] = some (.str signsS) := by
  refine of_rt (δ' := []) ?_
  unfold gs__law_signs
  exact x_retL x_c
/-- lists of eight numbers -/
theorem pick8 (a0 a1 a2 a3 a4 a5 a6 a7 : D) {d : Int} (h0 : 0 ≤ d) (h1 : d < 8) (P : D → Prop) (p0 : P a0) (p1 : P a1) (p2 : P a2) (p3 : P a3) (p4 : P a4) (p5 : P a5) (p6 : P a6) (p7 : P a7) : ∃ a, dIx (.lst [a0, a1, a2, a3, a4, a5, a6, a7]) (.int d) = some a ∧ P a := by
  obtain ⟨n, rfl⟩ := Int.eq_ofNat_of_zero_le h0
  have hn : n < 8 := by omega
  match n, hn with
  | 0, _ => exact ⟨a0, rfl, p0⟩
  | 1, _ => exact ⟨a1, rfl, p1⟩
  | 2, _ => exact ⟨a2, rfl, p2⟩
  | 3, _ => exact ⟨a3, rfl, p3⟩
  | 4, _ => exact ⟨a4, rfl, p4⟩
  | 5, _ => exact ⟨a5, rfl, p5⟩
  | 6, _ => exact ⟨a6, rfl, p6⟩
  | 7, _ => exact ⟨a7, rfl, p7⟩
theorem pick6 (a0 a1 a2 a3 a4 a5 : D) {d : Int} (h0 : 0 ≤ d) (h1 : d < 6) (P : D → Prop) (p0 : P a0) (p1 : P a1) (p2 : P a2) (p3 : P a3) (p4 : P a4) (p5 : P a5) : ∃ a, dIx (.lst [a0, a1, a2, a3, a4, a5]) (.int d) = some a ∧ P a := by
  obtain ⟨n, rfl⟩ := Int.eq_ofNat_of_zero_le h0
  have hn : n < 6 := by omega
  match n, hn with
  | 0, _ => exact ⟨a0, rfl, p0⟩
  | 1, _ => exact ⟨a1, rfl, p1⟩
  | 2, _ => exact ⟨a2, rfl, p2⟩
  | 3, _ => exact ⟨a3, rfl, p3⟩
  | 4, _ => exact ⟨a4, rfl, p4⟩
  | 5, _ => exact ⟨a5, rfl, p5⟩
theorem item_num {n : Nat} {bs : List D} (b : Bx n bs) (hn : n ≤ 900000) : ∃ d bs', L__law_item_2 bs [.str "number"] = some (d, bs') ∧ itOk .num d = true ∧ okM d ∧ Bx (n + 200) bs' := by
  obtain ⟨d1, bs1, t1, h1, h2, b1⟩ := l_take b (by omega) (m := 8) (by decide) (by decide)
  obtain ⟨_, i1, mi, m0, hm, rfl⟩ := pick8 (.int 16) (.int 10) (.int 100) (.int 3) (.int 1000) (.int (10 ^ 9)) (.int 12) (.int (10 ^ 7)) h1 h2 (fun a => ∃ m : Int, 0 < m ∧ m ≤ 10 ^ 9 ∧ a = .int m) ⟨_, by decide, by decide, rfl⟩ ⟨_, by decide, by decide, rfl⟩ ⟨_, by decide, by decide, rfl⟩ ⟨_, by decide, by decide, rfl⟩ ⟨_, by decide, by decide, rfl⟩ ⟨_, by decide, by decide, rfl⟩ ⟨_, by decide, by decide, rfl⟩ ⟨_, by decide, by decide, rfl⟩
  obtain ⟨d2, bs2, t2, h3, h4, b2⟩ := l_take b1 (by omega) (m := mi) m0 (Int.lt_of_le_of_lt hm (by decide))
  refine ⟨.int d2, bs2, ?_, decide_eq_true h3, fun _ => Int.lt_of_lt_of_le h4 (Int.le_trans hm (by decide +kernel)), b2.mono (by omega)⟩
  have e1 : dEq (.str "number") (.str "number") = some (.bl true) := eqc (by decide +kernel) (by decide +kernel) (by decide +kernel)
  let δ0 : Den := [.ow false bs, .pl (.str "number"), .pl (.str letters), .pl (.str signsS), .no, .no, .no, .no, .no]
  let δ1 : Den := [.ow false bs1, .pl (.str "number"), .pl (.str letters), .pl (.str signsS), .pl (.int mi), .no, .no, .no, .no]
  let δ2 : Den := [.ow false bs2, .pl (.str "number"), .pl (.str letters), .pl (.str signsS), .pl (.int mi), .no, .no, .no, .no]
  refine of_rtB (δ' := δ2) ?_ rfl
  refine x_sc (δ1 := δ0) (x_asg (x_tup (x_cons x_c (x_one (x_cal x_nil rfl l_signs))) (sz_le rfl)) rfl) ?_
  refine x_scr (x_sif (k := true) (x_tst (x_b (x_v rfl) x_c e1)) (fun _ => ?_) (fun z => by cases z))
  have p9 : dPow (.int 10) (.int 9) = some (.int (10 ^ 9)) := pow_ok (k := 9) (by decide) (by decide)
  have p7 : dPow (.int 10) (.int 7) = some (.int (10 ^ 7)) := pow_ok (k := 7) (by decide) (by decide)
  refine x_sc (δ1 := δ1) (x_asg (d := .int mi) (x_b (a := .lst [.int 16, .int 10, .int 100, .int 3, .int 1000, .int (10 ^ 9), .int 12, .int (10 ^ 7)]) (x_lst (x_cons x_c (x_cons x_c (x_cons x_c (x_cons x_c (x_cons x_c (x_cons (x_b x_c x_c p9) (x_cons x_c (x_one (x_b x_c x_c p7)))))))))  (sz_le rfl)) (x_calB rfl (x_one x_c) rfl rfl t1) i1) rfl) ?_
  exact x_retL (x_calB rfl (x_one (x_v (d := .int mi) rfl)) rfl rfl t2)
theorem cut_str {z : Str} (n : Nat) (hz : z.length ≤ sizeLine) : ∃ w, dSl (.str z) none (some (n : Int)) = some (.str w) ∧ w.cps.toList = z.cps.toList.take n := by
  refine ⟨cutS z none (some (n : Int)), if_pos hz, ?_⟩
  unfold cutS
  rw [HT.sIx_nat, HT.sIx_none, Nat.sub_zero, List.drop_zero]
  show z.cps.toList.take (min n z.length) = _
  by_cases h : n ≤ z.length
  · rw [Nat.min_eq_left h]
  · rw [Nat.min_eq_right (by omega), List.take_of_length_le (by rw [len_nil]; omega), List.take_of_length_le (by rw [len_nil] at h; omega)]
end P57
set_option Elab.async false
set_option linter.all false
set_option maxRecDepth 100000
set_option maxHeartbeats 4000000
namespace P57
open PySem PySem.Spec PyProof.Rows L2 Dx
theorem len_mkS (l : List Nat) : (mkS l).length = l.length := by rw [len_nil]; rfl
theorem rngD_len (lo : Int) (n : Nat) : (rngD lo n).length = n := by simp [rngD]
theorem item_cell {n : Nat} {bs : List D} (b : Bx n bs) (hn : n ≤ 900000) : ∃ d bs', L__law_item_2 bs [.str "cell"] = some (d, bs') ∧ itOk .cell d = true ∧ okM d ∧ Bx (n + 200) bs' := by
  obtain ⟨d1, bs1, t1, h1, h2, b1⟩ := l_take b (by omega) (m := 8) (by decide) (by decide)
  let F : List D → Den := fun bs => [.ow false bs, .pl (.str "cell"), .pl (.str letters), .pl (.str signsS), .no, .no, .no, .no, .no]
  have e1 : dEq (.str "cell") (.str "number") = some (.bl false) := eqc (by decide +kernel) (by decide +kernel) (by decide +kernel)
  have e2 : dEq (.str "cell") (.str "cell") = some (.bl true) := eqc (by decide +kernel) (by decide +kernel) (by decide +kernel)
  obtain ⟨m, rfl⟩ := Int.eq_ofNat_of_zero_le h1
  have hm : m < 8 := by omega
  have hr : gRg1 (Dx.gCons (gB dAdd (gC (.int 1)) (gCalB L__law_take_2 2 0 (Dx.gCons (gC (.int 8)) Dx.gNil))) Dx.gNil) (F bs) = some (rngD 0 (1 + m), F bs1) := by
    have := x_rg1 (j := ((1 + m : Nat) : Int)) (x_one (x_b (g := dAdd) (a := .int 1) (b := .int m) (c := .int ((1 + m : Nat) : Int)) (δ := F bs) (ga := gC (.int 1)) x_c (x_calB (i := 0) (n := 2) (g := L__law_take_2) (δ := F bs) rfl (x_one (x_c (d := .int 8))) rfl rfl t1) (by show some (D.int (1 + (m : Int))) = _; rw [Int.natCast_add]; rfl))) (small_nat (by omega))
    rw [Int.toNat_natCast] at this
    exact this
  obtain ⟨cs, bs2, g1, hl, hc, b2⟩ := signs_of (z := letters) (by rw [letters_len]; decide) (by rw [letters_len]; decide) (v := 5) (gm := gC (.int 26)) (k := 2) F hr rfl rfl (fun _ => rfl) (fun _ _ => rfl) (fun _ _ => rfl) (fun _ _ => rfl) (fun _ _ _ => rfl) (fun _ _ => by rw [letters_len]; rfl) (fun _ _ => rfl) b1 (by rw [rngD_len]; omega) (by rw [rngD_len]; omega)
  rw [rngD_len] at hl b2
  have hall : ∀ c ∈ cs, rng2 97 122 c = true := fun c h => letters_ok c (hc c h)
  have hj := join_sgs cs (by omega)
  refine ⟨.str (mkS cs), bs2, ?_, ?_, ⟨?_, fun c h => ?_⟩, b2.mono (by omega)⟩
  · refine of_rtB (δ' := F bs2) ?_ rfl
    refine x_sc (δ1 := F bs) (x_asg (x_tup (x_cons x_c (x_one (x_cal x_nil rfl l_signs))) (sz_le rfl)) rfl) ?_
    refine x_sc (δ1 := F bs) (x_sif (k := false) (x_tst (x_b (x_v rfl) x_c e1)) (fun z => by cases z) (fun _ => x_sn)) ?_
    refine x_scr (x_sif (k := true) (x_tst (x_b (x_v rfl) x_c e2)) (fun _ => ?_) (fun z => by cases z))
    exact x_retL (x_m1 x_c g1 hj)
  · show isCellS (mkS cs) = true
    unfold isCellS
    rw [len_mkS, decide_eq_true (by omega), decide_eq_true (by omega)]
    exact List.all_eq_true.mpr hall
  · rw [len_mkS]; omega
  · have := rng2_iff.mp (hall c h); omega
theorem text_add (a : Str) {w : Str} (h : a.length + w.length ≤ 10000000) : dAdd (.str a) (.str w) = some (.str (a ++ w)) := add_fit h
def txtOk (d : D) : Prop := ∃ z : Str, d = .str z ∧ z.length ≤ 40 ∧ ∀ c ∈ z.cps.toList, rng2 32 126 c = true
theorem txtOk.it {d : D} (h : txtOk d) : itOk .txt d = true ∧ okM d := by
  obtain ⟨z, rfl, hl, hc⟩ := h
  refine ⟨?_, Nat.le_trans hl (by decide), fun c h => ?_⟩
  · show isTextS z = true
    unfold isTextS
    rw [decide_eq_true hl]
    exact List.all_eq_true.mpr hc
  · have := rng2_iff.mp (hc c h); omega
theorem len_take {z w : Str} {n : Nat} (h : w.cps.toList = z.cps.toList.take n) : w.length ≤ n ∧ w.length ≤ z.length := by
  rw [len_nil, len_nil, h, List.length_take]; omega
theorem item_text {n : Nat} {bs : List D} (b : Bx n bs) (hn : n ≤ 900000) : ∃ d bs', L__law_item_2 bs [.str "text"] = some (d, bs') ∧ itOk .txt d = true ∧ okM d ∧ Bx (n + 200) bs' := by
  have e1 : dEq (.str "text") (.str "number") = some (.bl false) := eqc (by decide +kernel) (by decide +kernel) (by decide +kernel)
  have e2 : dEq (.str "text") (.str "cell") = some (.bl false) := eqc (by decide +kernel) (by decide +kernel) (by decide +kernel)
  obtain ⟨d1, bs1, t1, h1, h2, b1⟩ := l_take b (by omega) (m := 8) (by decide) (by decide)
  obtain ⟨_, i1, m, hm, rfl⟩ := pick8 (.int 0) (.int 1) (.int 40) (.int 5) (.int 13) (.int 2) (.int 39) (.int 8) h1 h2 (fun a => ∃ m : Nat, m ≤ 40 ∧ a = .int (m : Nat)) ⟨0, by decide, rfl⟩ ⟨1, by decide, rfl⟩ ⟨40, by decide, rfl⟩ ⟨5, by decide, rfl⟩ ⟨13, by decide, rfl⟩ ⟨2, by decide, rfl⟩ ⟨39, by decide, rfl⟩ ⟨8, by decide, rfl⟩
  let F : List D → Den := fun bs => [.ow false bs, .pl (.str "text"), .pl (.str letters), .pl (.str signsS), .no, .no, .pl (.int (m : Nat)), .no, .no]
  let δ0 : Den := [.ow false bs, .pl (.str "text"), .pl (.str letters), .pl (.str signsS), .no, .no, .no, .no, .no]
  have hr : gRg1 (Dx.gCons (gV 6) Dx.gNil) (F bs1) = some (rngD 0 m, F bs1) := by
    have := x_rg1 (j := (m : Int)) (x_one (x_v (δ := F bs1) (i := 6) (d := .int (m : Nat)) rfl)) (small_nat (by omega))
    rw [Int.toNat_natCast] at this
    exact this
  obtain ⟨cs, bs2, g1, hl, hc, b2⟩ := signs_of (z := signsS) (by rw [signs_len]; decide) (by rw [signs_len]; decide) (v := 5) (gm := gCall (on1 dLen1) (Dx.gCons (gV 3) Dx.gNil)) (k := 3) F hr rfl rfl (fun _ => rfl) (fun _ _ => rfl) (fun _ _ => rfl) (fun _ _ => rfl) (fun _ _ _ => rfl)
    (fun bs x => x_call (g := on1 dLen1) (x_one (x_v (d := .str signsS) rfl)) (show dLen1 (.str signsS) = some (.int (signsS.length : Nat)) from Dx.len_str (by rw [signs_len]; exact sz_le rfl))) (fun _ _ => rfl) b1 (by rw [rngD_len]; omega) (by rw [rngD_len]; omega)
  rw [rngD_len] at hl b2
  have hall : ∀ c ∈ cs, rng2 32 126 c = true := fun c h => signs_ok c (hc c h)
  have hj := join_sgs cs (by omega)
  obtain ⟨d3, bs3, t3, h3, h4, b3⟩ := l_take b2 (by omega) (m := 6) (by decide) (by decide)
  have hz : (mkS cs).length ≤ sizeLine := by rw [len_mkS, hl]; exact Nat.le_trans hm (by decide)
  obtain ⟨w1, c1, k1⟩ := cut_str 39 hz
  obtain ⟨w2, c2, k2⟩ := cut_str 30 hz
  have l1 := len_take k1
  have l2 := len_take k2
  have s1 : (" " : Str).length = 1 := by decide +kernel
  have s4 : ("7 a " : Str).length = 4 := by decide +kernel
  have a1 := text_add " " (w := w1) (by omega)
  have a2 := text_add w1 (w := " ") (by omega)
  have a3 := text_add "7 a " (w := w2) (by omega)
  have sub1 : ∀ c ∈ w1.cps.toList, rng2 32 126 c = true := fun c h => hall c (by rw [k1] at h; exact List.mem_of_mem_take h)
  have sub2 : ∀ c ∈ w2.cps.toList, rng2 32 126 c = true := fun c h => hall c (by rw [k2] at h; exact List.mem_of_mem_take h)
  have sp : ∀ c ∈ (" " : Str).cps.toList, rng2 32 126 c = true := by decide +kernel
  have s7 : ∀ c ∈ ("7 a " : Str).cps.toList, rng2 32 126 c = true := by decide +kernel
  have app : ∀ {x y : Str}, (∀ c ∈ x.cps.toList, rng2 32 126 c = true) → (∀ c ∈ y.cps.toList, rng2 32 126 c = true) → ∀ c ∈ (x ++ y).cps.toList, rng2 32 126 c = true := fun hx hy c h => by
    rw [Str.cps_append, Array.toList_append, List.mem_append] at h
    exact h.elim (hx c) (hy c)
  have tz : txtOk (.str (mkS cs)) := ⟨_, rfl, by rw [len_mkS]; omega, hall⟩
  obtain ⟨a, ia, ta⟩ := pick6 (.str (" " ++ w1)) (.str (w1 ++ " ")) (.str ("7 a " ++ w2)) (.str (mkS cs)) (.str (mkS cs)) (.str (mkS cs)) h3 h4 txtOk ⟨_, rfl, by rw [Str.length_append, s1]; omega, app sp sub1⟩ ⟨_, rfl, by rw [Str.length_append, s1]; omega, app sub1 sp⟩ ⟨_, rfl, by rw [Str.length_append, s4]; omega, app s7 sub2⟩ tz tz tz
  refine ⟨a, bs3, ?_, ta.it.1, ta.it.2, b3.mono (by omega)⟩
  let G : Den := [.ow false bs2, .pl (.str "text"), .pl (.str letters), .pl (.str signsS), .no, .no, .pl (.int (m : Nat)), .pl (.str (mkS cs)), .no]
  let G3 : Den := [.ow false bs3, .pl (.str "text"), .pl (.str letters), .pl (.str signsS), .no, .no, .pl (.int (m : Nat)), .pl (.str (mkS cs)), .pl (.int d3)]
  refine of_rtB (δ' := G3) ?_ rfl
  refine x_sc (δ1 := δ0) (x_asg (x_tup (x_cons x_c (x_one (x_cal x_nil rfl l_signs))) (sz_le rfl)) rfl) ?_
  refine x_sc (δ1 := δ0) (x_sif (k := false) (x_tst (x_b (x_v rfl) x_c e1)) (fun z => by cases z) (fun _ => x_sn)) ?_
  refine x_sc (δ1 := δ0) (x_sif (k := false) (x_tst (x_b (x_v rfl) x_c e2)) (fun z => by cases z) (fun _ => x_sn)) ?_
  refine x_sc (δ1 := F bs1) (x_asg (d := .int (m : Nat)) (x_b (x_lst (x_cons x_c (x_cons x_c (x_cons x_c (x_cons x_c (x_cons x_c (x_cons x_c (x_cons x_c (x_one x_c)))))))) (sz_le rfl)) (x_calB rfl (x_one x_c) rfl rfl t1) i1) rfl) ?_
  refine x_sc (δ1 := G) (x_asg (x_m1 x_c g1 hj) rfl) ?_
  refine x_sc (δ1 := G3) (x_asg (d := .int d3) (x_calB rfl (x_one x_c) rfl rfl t3) rfl) ?_
  have v7 : gV 7 G3 = some (.str (mkS cs), G3) := x_v rfl
  have u1 : gSl (gV 7) gNo (gSo (gC (.int 39))) G3 = some (.str w1, G3) := x_sl v7 x_no (x_so x_c) c1
  have u2 : gSl (gV 7) gNo (gSo (gC (.int 30))) G3 = some (.str w2, G3) := x_sl v7 x_no (x_so x_c) c2
  exact x_retL (x_b (x_lst (x_cons (x_b x_c u1 a1) (x_cons (x_b u1 x_c a2) (x_cons (x_b x_c u2 a3) (x_cons v7 (x_cons v7 (x_one v7)))))) (sz_le rfl)) (x_v (d := .int d3) rfl) ia)
end P57
set_option Elab.async false
set_option linter.all false
set_option maxRecDepth 100000
set_option maxHeartbeats 4000000
namespace P57
open PySem PySem.Spec PyProof.Rows L2 Dx
theorem l_item {s : So} {n : Nat} {bs : List D} (b : Bx n bs) (hn : n ≤ 900000) : ∃ d bs', L__law_item_2 bs [.str (soName s)] = some (d, bs') ∧ itOk s d = true ∧ okM d ∧ Bx (n + 200) bs' := by
  cases s with
  | num => exact item_num b hn
  | cell => exact item_cell b hn
  | txt => exact item_text b hn
abbrev kinds12 : List D := [.str "tick", .str "write", .str "carry", .str "drop", .str "double", .str "stop", .str "cut", .str "rise", .str "write", .str "write", .str "stop", .str "cut"]
def kOk (k : Str) : Prop := kindOf k ≠ [] ∧ okM (.str k)
theorem kOk_of {k : Str} (h : k ∈ kNames) : kOk k := by
  have h : k ∈ (["tick", "write", "carry", "drop", "double", "stop", "cut", "rise"] : List Str) := h
  simp only [List.mem_cons, List.not_mem_nil, or_false] at h
  rcases h with rfl | rfl | rfl | rfl | rfl | rfl | rfl | rfl
  · exact ⟨by decide +kernel, by decide +kernel, by decide +kernel⟩
  · exact ⟨by decide +kernel, by decide +kernel, by decide +kernel⟩
  · exact ⟨by decide +kernel, by decide +kernel, by decide +kernel⟩
  · exact ⟨by decide +kernel, by decide +kernel, by decide +kernel⟩
  · exact ⟨by decide +kernel, by decide +kernel, by decide +kernel⟩
  · exact ⟨by decide +kernel, by decide +kernel, by decide +kernel⟩
  · exact ⟨by decide +kernel, by decide +kernel, by decide +kernel⟩
  · exact ⟨by decide +kernel, by decide +kernel, by decide +kernel⟩
theorem pick12 {d : Int} (h0 : 0 ≤ d) (h1 : d < 12) : ∃ k, dIx (.lst kinds12) (.int d) = some (.str k) ∧ k ∈ kNames := by
  obtain ⟨n, rfl⟩ := Int.eq_ofNat_of_zero_le h0
  have hn : n < 12 := by omega
  match n, hn with
  | 0, _ => exact ⟨_, rfl, by simp [kNames]⟩
  | 1, _ => exact ⟨_, rfl, by simp [kNames]⟩
  | 2, _ => exact ⟨_, rfl, by simp [kNames]⟩
  | 3, _ => exact ⟨_, rfl, by simp [kNames]⟩
  | 4, _ => exact ⟨_, rfl, by simp [kNames]⟩
  | 5, _ => exact ⟨_, rfl, by simp [kNames]⟩
  | 6, _ => exact ⟨_, rfl, by simp [kNames]⟩
  | 7, _ => exact ⟨_, rfl, by simp [kNames]⟩
  | 8, _ => exact ⟨_, rfl, by simp [kNames]⟩
  | 9, _ => exact ⟨_, rfl, by simp [kNames]⟩
  | 10, _ => exact ⟨_, rfl, by simp [kNames]⟩
  | 11, _ => exact ⟨_, rfl, by simp [kNames]⟩
def Qit (x d : D) : Prop := ∃ s, x = .str (soName s) ∧ itOk s d = true ∧ okM d
theorem name_inj {s t : So} (h : soName s = soName t) : s = t := by
  cases s <;> cases t <;> first | rfl | (exfalso; revert h; decide +kernel)
theorem all2_okAll : ∀ {ss : List So} {ds : List D}, All2 Qit (ss.map fun s => .str (soName s)) ds → okAll ss ds = true ∧ ∀ d ∈ ds, okM d
  | [], [], _ => ⟨rfl, fun d hd => by cases hd⟩
  | s :: ss, d :: ds, h => by
    obtain ⟨⟨t, e, h1, h2⟩, h3⟩ := h
    injection e with e
    have := name_inj e
    subst this
    obtain ⟨g1, g2⟩ := all2_okAll h3
    refine ⟨by rw [okAll, h1, g1]; rfl, fun y hy => ?_⟩
    rcases List.mem_cons.mp hy with rfl | hy
    · exact h2
    · exact g2 y hy
  | [], _ :: _, h => h.elim
  | _ :: _, [], h => h.elim
/-- an act as the law draws it -/
def ActM (d : D) : Prop := ∃ k x xs, d = .tup (.str k :: x :: xs) ∧ okAll (kindOf k) (x :: xs) = true ∧ ∀ y ∈ D.str k :: x :: xs, okM y
theorem l_act {n : Nat} {bs : List D} (b : Bx n bs) (hn : n ≤ 800000) : ∃ d bs', L__law_act_1 bs [] = some (d, bs') ∧ ActM d ∧ Bx (n + 601) bs' := by
  obtain ⟨d1, bs1, t1, h1, h2, b1⟩ := l_take b (by omega) (m := 12) (by decide) (by decide)
  obtain ⟨k, i1, hk⟩ := pick12 h1 h2
  obtain ⟨hk0, hkm⟩ := kOk_of hk
  have hkS : okS k := hkm.n
  let F : List D → Den := fun bs => [.ow false bs, .pl (.lst kinds12), .pl (.str k), .no]
  have hgi : gIt (gCal L__law_kinds_1 1 (Dx.gCons (gV 2) Dx.gNil)) (F bs1) = some ((kindOf k).map fun s => .str (soName s), F bs1) := x_it (x_cal (x_one (x_v (d := .str k) rfl)) rfl (l_kinds hkS)) rfl
  have hkl := kind_len k
  obtain ⟨ds, bs2, g1, q, b2⟩ := gLc_B (gt := gNm 3) (gc := gYes) (ge := gCalB L__law_item_2 2 0 (Dx.gCons (gV 3) Dx.gNil)) (vs := [3]) (n := n + 1) F Qit 200 900000 hgi rfl rfl (fun _ => rfl) (fun x hx n bs acc hB hn ha => by
    obtain ⟨s, _, rfl⟩ := List.mem_map.mp hx
    obtain ⟨d, bs', e, p1, p2, b'⟩ := l_item (s := s) hB (by omega)
    refine ⟨d, bs', ?_, ⟨s, rfl, p1, p2⟩, b'⟩
    have t : gCalB L__law_item_2 2 0 (Dx.gCons (gV 3) Dx.gNil) [.ow false bs, .pl (.lst kinds12), .pl (.str k), .pl (.str (soName s))] = some (d, [.ow false bs', .pl (.lst kinds12), .pl (.str k), .pl (.str (soName s))]) := x_calB rfl (x_one (x_v rfl)) rfl rfl e
    show (match gCalB L__law_item_2 2 0 (Dx.gCons (gV 3) Dx.gNil) [.ow false bs, .pl (.lst kinds12), .pl (.str k), .pl (.str (soName s))] with
      | some (d, δ3) => if acc.length < sizeLine then some (wipeD δ3 [3], acc ++ [d]) else none
      | none => none) = _
    rw [t]
    simp only [if_pos ha]
    rfl) b1 (by rw [List.length_map]; omega) (by rw [List.length_map]; exact Nat.le_trans hkl (by decide))
  rw [List.length_map] at b2
  obtain ⟨g2, g3⟩ := all2_okAll q
  have hdl := okAll_len g2
  obtain ⟨x, xs, rfl⟩ : ∃ x xs, ds = x :: xs := by
    cases ds with
    | nil => exact absurd (List.length_eq_zero_iff.mp hdl) hk0
    | cons x xs => exact ⟨x, xs, rfl⟩
  refine ⟨.tup (.str k :: x :: xs), bs2, ?_, ⟨k, x, xs, rfl, g2, fun y hy => ?_⟩, b2.mono (by omega)⟩
  · let δ0 : Den := [.ow false bs, .pl (.lst kinds12), .no, .no]
    refine of_rtB (δ' := F bs2) ?_ rfl
    refine x_sc (δ1 := δ0) (x_asg (x_lst (x_cons x_c (x_cons x_c (x_cons x_c (x_cons x_c (x_cons x_c (x_cons x_c (x_cons x_c (x_cons x_c (x_cons x_c (x_cons x_c (x_cons x_c (x_one x_c)))))))))))) (sz_le rfl)) rfl) ?_
    refine x_sc (δ1 := F bs1) (x_asg (d := .str k) (x_ixN (b := .int d1) (δ1 := [.ow false bs1, .pl (.lst kinds12), .no, .no]) (x_calB rfl (x_one x_c) rfl rfl t1) rfl rfl i1) rfl) ?_
    refine x_retL (x_call (g := on1 dTuple) (ds := [.lst (.str k :: x :: xs)]) (x_one (x_b (x_lst (x_one (x_v (d := .str k) rfl)) (sz_le rfl)) g1 ?_)) rfl)
    show (if ([D.str k] : List D).length + (x :: xs).length ≤ sizeLine then some (D.lst ([D.str k] ++ x :: xs)) else none) = _
    rw [if_pos (Nat.le_trans (m := 10) (by simp only [List.length_cons, List.length_nil] at *; omega) (by decide))]
    rfl
  · rcases List.mem_cons.mp hy with rfl | hy
    · exact hkm
    · exact g3 y hy
end P57
set_option Elab.async false
set_option linter.all false
set_option maxRecDepth 100000
set_option maxHeartbeats 4000000
namespace P57
open PySem PySem.Spec PyProof.Rows L2 Dx
/-! small texts -/
def SL (N : Nat) (w : Str) : Prop := w.length ≤ N ∧ ∀ c ∈ w.cps.toList, c < 128
theorem SL.mono {N M : Nat} {w : Str} (h : SL N w) (hm : N ≤ M) : SL M w := ⟨Nat.le_trans h.1 hm, h.2⟩
theorem SL.ok {N : Nat} {w : Str} (h : SL N w) (hn : N ≤ 500) : okS w := ⟨Nat.le_trans h.1 hn, h.2⟩
theorem SL.app {N M : Nat} {x y : Str} (hx : SL N x) (hy : SL M y) : SL (N + M) (x ++ y) := by
  refine ⟨by rw [Str.length_append]; have := hx.1; have := hy.1; omega, fun c h => ?_⟩
  rw [Str.cps_append, Array.toList_append, List.mem_append] at h
  exact h.elim (hx.2 c) (hy.2 c)
theorem SL.cut {N : Nat} {x : Str} (hx : SL N x) (lo hi : Option Int) : SL N (cutS x lo hi) := by
  refine ⟨Nat.le_trans (cutS_length x lo hi) hx.1, fun c h => hx.2 c ?_⟩
  unfold cutS at h
  exact List.mem_of_mem_drop (List.mem_of_mem_take h)
def SLT (N : Nat) (g : GE) (δ : Den) : Prop := ∃ w, g δ = some (.str w, δ) ∧ SL N w
theorem SLT.add {N M : Nat} {ga gb : GE} {δ : Den} (ha : SLT N ga δ) (hb : SLT M gb δ) (h : N + M ≤ 10000000) : SLT (N + M) (gB dAdd ga gb) δ := by
  obtain ⟨x, ea, sa⟩ := ha
  obtain ⟨y, eb, sb⟩ := hb
  exact ⟨x ++ y, x_b ea eb (add_fit (by have := sa.1; have := sb.1; omega)), sa.app sb⟩
theorem SLT.sl {N : Nat} {ga : GE} {gl gh : GO} {δ : Den} {lo hi : Option Int} (ha : SLT N ga δ) (hl : gl δ = some (lo, δ)) (hh : gh δ = some (hi, δ)) (h : N ≤ 10000000) : SLT N (gSl ga gl gh) δ := by
  obtain ⟨x, ea, sa⟩ := ha
  exact ⟨cutS x lo hi, x_sl ea hl hh (if_pos (Nat.le_trans sa.1 (Nat.le_trans h size_big))), sa.cut lo hi⟩
theorem SLT.v {N : Nat} {i : Nat} {δ : Den} {w : Str} (h : δ[i]? = some (.pl (.str w))) (s : SL N w) : SLT N (gV i) δ := ⟨w, x_v h, s⟩
theorem SLT.c {N : Nat} {δ : Den} {w : Str} (s : SL N w) : SLT N (gC (.str w)) δ := ⟨w, x_c, s⟩
theorem up_small : ∀ c, c < 128 → up1 c < 128 := by decide +kernel
theorem SLT.up {N : Nat} {ga : GE} {δ : Den} (ha : SLT N ga δ) (h : N ≤ 1000000) : SLT N (gM0 dUpper ga) δ := by
  obtain ⟨x, ea, sa⟩ := ha
  have e := upper_ascii sa.2
  refine ⟨Txt.upper x, x_m0 ea (if_pos (Nat.le_trans sa.1 (Nat.le_trans h (by decide)))), ?_, fun c hc => ?_⟩
  · rw [e]
    show (x.cps.map up1).size ≤ N
    rw [Array.size_map]
    exact sa.1
  · rw [e] at hc
    have hc : c ∈ (x.cps.map up1).toList := hc
    rw [Array.toList_map] at hc
    obtain ⟨d, hd, rfl⟩ := List.mem_map.mp hc
    exact up_small d (sa.2 d hd)
/-! the words -/
theorem joinL_len (c : Nat) : ∀ (ws : List (List Nat)), ws ≠ [] → (joinL c ws).length + 1 = (ws.map fun w => w.length + 1).sum
  | [], h => absurd rfl h
  | [p], _ => by simp [joinL]
  | p :: q :: r, _ => by
    have ih := joinL_len c (q :: r) (by simp)
    rw [joinL_cons (by simp), List.length_append, List.length_cons, List.map_cons, List.sum_cons]
    omega
theorem sum_take : ∀ (k : Nat) (ws : List (List Nat)), ((ws.take k).map fun w => w.length + 1).sum ≤ (ws.map fun w => w.length + 1).sum
  | 0, ws => by simp
  | k + 1, [] => by simp
  | k + 1, p :: q => by
    have := sum_take k q
    simp only [List.take_succ_cons, List.map_cons, List.sum_cons]
    omega
theorem joinL_take (c k : Nat) (ws : List (List Nat)) : (joinL c (ws.take k)).length ≤ (joinL c ws).length := by
  by_cases h : ws.take k = []
  · rw [h]; simp [joinL]
  · have h2 : ws ≠ [] := by intro e; subst e; simp at h
    have a := joinL_len c _ h
    have b := joinL_len c _ h2
    have d := sum_take k ws
    omega
theorem joinL_mem (c : Nat) : ∀ (ws : List (List Nat)) (x : Nat), x ∈ joinL c ws → x = c ∨ ∃ w ∈ ws, x ∈ w
  | [], x, h => by simp [joinL] at h
  | [p], x, h => .inr ⟨p, by simp, h⟩
  | p :: q :: r, x, h => by
    rw [joinL_cons (by simp), List.mem_append, List.mem_cons] at h
    rcases h with h | h | h
    · exact .inr ⟨p, by simp, h⟩
    · exact .inl h
    · rcases joinL_mem c (q :: r) x h with h | ⟨w, hw, hx⟩
      · exact .inl h
      · exact .inr ⟨w, List.mem_cons_of_mem _ hw, hx⟩
theorem cut_map {α β : Type} (f : α → β) (xs : List α) (lo hi : Option Int) : Dx.cutD (xs.map f) lo hi = (Dx.cutD xs lo hi).map f := by
  unfold Dx.cutD
  rw [List.length_map, ← List.map_drop, ← List.map_take]
theorem cut_last {α : Type} (xs : List α) : ∃ k, Dx.cutD xs none (some (-1)) = xs.take k := by
  unfold Dx.cutD
  exact ⟨_, by rw [HT.sIx_none, List.drop_zero, Nat.sub_zero]⟩
theorem sl_piece {N : Nat} {z : Str} (h : SL N z) {n : Nat} {p : List Nat} (hp : p ∈ spl 32 n z.cps.toList) : SL N (mkS p) := by
  have hs := spl_sub 32 n _ p hp
  refine ⟨?_, fun c hc => h.2 c (hs.subset hc)⟩
  rw [len_mkS]
  have := hs.length_le
  have h1 := h.1
  rw [len_nil] at h1
  omega
/-- " ".join(words[:-1]) -/
theorem SLT.join {N : Nat} {z : Str} {δ : Den} {i : Nat} (h : SL N z) (hN : N ≤ 500) (hi : δ[i]? = some (.pl (.lst (wsD (spl 32 (z.cps.toList.length + 1) z.cps.toList))))) : SLT N (gM1 dJoin (gC (.str " ")) (gSl (gV i) gNo (gSo (gNeg (gC (.int 1)))))) δ := by
  have hj := joinL_spl 32 (z.cps.toList.length + 1) z.cps.toList
  have hlen := spl_len 32 (z.cps.toList.length + 1) z.cps.toList
  have hzl := h.1
  rw [len_nil] at hzl
  have hpc : ∀ p ∈ spl 32 (z.cps.toList.length + 1) z.cps.toList, SL N (mkS p) := fun p hp => sl_piece h hp
  generalize spl 32 (z.cps.toList.length + 1) z.cps.toList = ws at *
  obtain ⟨k, hk⟩ := cut_last ws
  have e1 : dSl (.lst (wsD ws)) none (some (-1)) = some (.lst (wsD (ws.take k))) := by
    show some (D.lst (Dx.cutD (wsD ws) none (some (-1)))) = _
    rw [cut_map, cut_map, hk]
  have hj2 := join_ws (z := z) (ws.take k) (fun w hw => (hpc w (List.mem_of_mem_take hw)).ok hN) (by rw [List.length_take]; omega)
  refine ⟨mkS (joinL 32 (ws.take k)), x_m1 x_c (x_sl (x_v hi) x_no (x_so (x_neg x_c)) e1) hj2, ?_, fun c hc => ?_⟩
  · rw [len_mkS]
    have := joinL_take 32 k ws
    rw [hj] at this
    omega
  · rcases joinL_mem 32 _ c hc with rfl | ⟨w, hw, hx⟩
    · decide
    · exact (hpc w (List.mem_of_mem_take hw)).2 c hx
theorem SLT.first {N : Nat} {z : Str} {δ : Den} {i : Nat} (h : SL N z) (hi : δ[i]? = some (.pl (.lst (wsD (spl 32 (z.cps.toList.length + 1) z.cps.toList))))) : SLT N (gIxN i (gC (.int 0))) δ := by
  have hpc : ∀ p ∈ spl 32 (z.cps.toList.length + 1) z.cps.toList, SL N (mkS p) := fun p hp => sl_piece h hp
  have hne := spl_ne 32 (z.cps.toList.length + 1) z.cps.toList
  generalize spl 32 (z.cps.toList.length + 1) z.cps.toList = ws at *
  cases ws with
  | nil => exact absurd rfl hne
  | cons w r => exact ⟨mkS w, x_ixN x_c (by unfold hasV; rw [hi]) hi (ix0_lst _ _), hpc w (List.mem_cons_self ..)⟩
theorem SLT.last {N : Nat} {z : Str} {δ : Den} {i : Nat} (h : SL N z) (hi : δ[i]? = some (.pl (.lst (wsD (spl 32 (z.cps.toList.length + 1) z.cps.toList))))) : SLT N (gIxN i (gNeg (gC (.int 1)))) δ := by
  have hpc : ∀ p ∈ spl 32 (z.cps.toList.length + 1) z.cps.toList, SL N (mkS p) := fun p hp => sl_piece h hp
  have hne := spl_ne 32 (z.cps.toList.length + 1) z.cps.toList
  generalize spl 32 (z.cps.toList.length + 1) z.cps.toList = ws at *
  have e := List.dropLast_concat_getLast hne
  have hm := List.getLast_mem hne
  generalize ws.dropLast = ini at e
  generalize ws.getLast hne = w at e hm
  refine ⟨mkS w, x_ixN (x_neg x_c) (by unfold hasV; rw [hi]) hi ?_, hpc w hm⟩
  show atI (wsD ws) (-1) = _
  rw [← e]
  show atI (((ini ++ [w]).map mkS).map D.str) (-1) = _
  rw [List.map_append, List.map_append]
  exact atI_last _ _
end P57
set_option Elab.async false
set_option linter.all false
set_option maxRecDepth 100000
set_option maxHeartbeats 4000000
namespace P57
open PySem PySem.Spec PyProof.Rows L2 Dx
theorem eqi_T {a b : Int} (h : a = b) : dEq (.int a) (.int b) = some (.bl true) := by rw [Dx.eq_int, decide_eq_true h]
theorem eqi_F {a b : Int} (h : ¬ a = b) : dEq (.int a) (.int b) = some (.bl false) := by rw [Dx.eq_int, decide_eq_false h]
theorem SLT.mono {N M : Nat} {g : GE} {δ : Den} (h : SLT N g δ) (hm : N ≤ M) : SLT M g δ := by
  obtain ⟨w, e, s⟩ := h
  exact ⟨w, e, s.mono hm⟩
theorem cut_few {z : Str} (k m : Nat) : (cutS z (some (k : Int)) (some (m : Int))).length ≤ m - k := by
  unfold cutS
  rw [HT.sIx_nat, HT.sIx_nat]
  show ((List.take _ _).toArray).size ≤ _
  rw [List.size_toArray, List.length_take, List.length_drop, ← len_nil]
  omega
theorem SLT.sl1 {N : Nat} {ga : GE} {gl gh : GO} {δ : Den} {lo hi : Int} (ha : SLT N ga δ) (hl : gl δ = some (some lo, δ)) (hh : gh δ = some (some hi, δ)) (h : N ≤ 10000000) (h0 : 0 ≤ lo) (h1 : hi = lo + 1) : SLT 1 (gSl ga gl gh) δ := by
  obtain ⟨x, ea, sa⟩ := ha
  obtain ⟨k, rfl⟩ := Int.eq_ofNat_of_zero_le h0
  have e1 : hi = ((k + 1 : Nat) : Int) := by omega
  subst e1
  refine ⟨cutS x (some (k : Int)) (some ((k + 1 : Nat) : Int)), x_sl ea hl hh (if_pos (Nat.le_trans sa.1 (Nat.le_trans h size_big))), ?_, (sa.cut _ _).2⟩
  have := cut_few (z := x) k (k + 1)
  omega
theorem l_spoilt_line {n : Nat} {bs : List D} {z : Str} (b : Bx n bs) (hn : n ≤ 800000) (hz : SL 200 z) (hz0 : 0 < z.length) : ∃ w bs', L__law_spoilt_line_2 bs [.str z] = some (.str w, bs') ∧ SL 500 w ∧ Bx (n + 10) bs' := by
  obtain ⟨kd, bs1, t1, k0, k1, b1⟩ := l_take b (by omega) (m := 10) (by decide) (by decide)
  have hz1 := hz.1
  obtain ⟨at_, bs2, t2, a0, a1, b2⟩ := l_take b1 (by omega) (m := (z.length : Nat)) (by omega) (by omega)
  obtain ⟨d3, bs3, t3, s0, s1, b3⟩ := l_take b2 (by omega) (m := (signsS.length : Nat)) (by rw [signs_len]; decide) (by rw [signs_len]; decide)
  obtain ⟨c, hc, ic⟩ := dIx_sign (z := signsS) (by rw [signs_len]; decide) s0 s1
  obtain ⟨d4, bs4, t4, p0, p1, b4⟩ := l_take b3 (by omega) (m := 8) (by decide) (by decide)
  obtain ⟨_, i8, sgn, hs, rfl⟩ := pick8 (sg c) (.str " ") (.str "0") (.str "-") (.str "a") (.str "Z") (.str "\n") (.str "\t") p0 p1 (fun d => ∃ w : Str, SL 1 w ∧ d = .str w)
    ⟨_, ⟨Nat.le_refl _, fun x hx => by have hx : x ∈ [c] := hx; rw [List.mem_singleton] at hx; subst hx; have := rng2_iff.mp (signs_ok x hc); omega⟩, rfl⟩
    ⟨_, ⟨by decide +kernel, by decide +kernel⟩, rfl⟩ ⟨_, ⟨by decide +kernel, by decide +kernel⟩, rfl⟩ ⟨_, ⟨by decide +kernel, by decide +kernel⟩, rfl⟩ ⟨_, ⟨by decide +kernel, by decide +kernel⟩, rfl⟩ ⟨_, ⟨by decide +kernel, by decide +kernel⟩, rfl⟩ ⟨_, ⟨by decide +kernel, by decide +kernel⟩, rfl⟩ ⟨_, ⟨by decide +kernel, by decide +kernel⟩, rfl⟩
  have hok : okS z := hz.ok (by decide)
  let W : D := .lst (wsD (spl 32 (z.cps.toList.length + 1) z.cps.toList))
  let δ0 : Den := [.ow false bs, .pl (.str z), .no, .no, .no, .no, .no]
  let δ1 : Den := [.ow false bs1, .pl (.str z), .no, .no, .no, .no, .no]
  let δ2 : Den := [.ow false bs2, .pl (.str z), .no, .no, .no, .no, .no]
  let δ3 : Den := [.ow false bs2, .pl (.str z), .pl (.int kd), .pl (.int at_), .pl (.str signsS), .no, .no]
  let δ4 : Den := [.ow false bs3, .pl (.str z), .pl (.int kd), .pl (.int at_), .pl (.str signsS), .no, .no]
  let δ5 : Den := [.ow false bs4, .pl (.str z), .pl (.int kd), .pl (.int at_), .pl (.str signsS), .pl (.str sgn), .no]
  let δ6 : Den := [.ow false bs4, .pl (.str z), .pl (.int kd), .pl (.int at_), .pl (.str signsS), .pl (.str sgn), .pl W]
  have hsl : z.length ≤ sizeLine := hok.fit
  have e1 : gsPar3 2 3 4 (Dx.gCons (gCalB L__law_take_2 2 0 (Dx.gCons (gC (.int 10)) Dx.gNil)) (Dx.gCons (gCalB L__law_take_2 2 0 (Dx.gCons (gCall (on1 dLen1) (Dx.gCons (gV 1) Dx.gNil)) Dx.gNil)) (Dx.gCons (gCal L__law_signs_0 0 Dx.gNil) Dx.gNil))) δ0 = some (.nx δ3) :=
    x_par3 (δ1 := δ2) (x_cons (δ1 := δ1) (x_calB rfl (x_one x_c) rfl rfl t1) (x_cons (δ1 := δ2) (x_calB (δ := δ1) rfl (x_one (x_call (g := on1 dLen1) (x_one (x_v (d := .str z) rfl)) (show dLen1 (.str z) = _ from Dx.len_str hsl))) rfl rfl t2) (x_one (x_cal x_nil rfl l_signs))))
  have f1 : gIxN 4 (gCalB L__law_take_2 2 0 (Dx.gCons (gCall (on1 dLen1) (Dx.gCons (gV 4) Dx.gNil)) Dx.gNil)) δ3 = some (sg c, δ4) :=
    x_ixN (b := .int d3) (δ1 := δ4) (x_calB (δ := δ3) rfl (x_one (x_call (g := on1 dLen1) (x_one (x_v (d := .str signsS) rfl)) (show dLen1 (.str signsS) = _ from Dx.len_str (by rw [signs_len]; exact sz_le rfl)))) rfl rfl t3) rfl rfl ic
  have e2 : gsAsg (gB dIx (gLst (Dx.gCons (gIxN 4 (gCalB L__law_take_2 2 0 (Dx.gCons (gCall (on1 dLen1) (Dx.gCons (gV 4) Dx.gNil)) Dx.gNil))) (Dx.gCons (gC (.str " ")) (Dx.gCons (gC (.str "0")) (Dx.gCons (gC (.str "-")) (Dx.gCons (gC (.str "a")) (Dx.gCons (gC (.str "Z")) (Dx.gCons (gC (.str "\n")) (Dx.gCons (gC (.str "\t")) Dx.gNil))))))))) (gCalB L__law_take_2 2 0 (Dx.gCons (gC (.int 8)) Dx.gNil))) (gNm 5) δ3 = some (.nx δ5) :=
    x_asg (d := .str sgn) (δ1 := [.ow false bs4, .pl (.str z), .pl (.int kd), .pl (.int at_), .pl (.str signsS), .no, .no]) (x_b (δ1 := δ4) (x_lst (x_cons f1 (x_cons x_c (x_cons x_c (x_cons x_c (x_cons x_c (x_cons x_c (x_cons x_c (x_one x_c)))))))) (sz_le rfl)) (x_calB (δ := δ4) rfl (x_one x_c) rfl rfl t4) i8) rfl
  have e3 : gsAsg (gM1 dSplit (gV 1) (gC (.str " "))) (gNm 6) δ5 = some (.nx δ6) := x_asg (x_m1 (z := z) (x_v rfl) x_c (dSplit_sp hok)) rfl
  have vz : SLT 200 (gV 1) δ6 := SLT.v rfl hz
  have vs : SLT 1 (gV 5) δ6 := SLT.v rfl hs
  have vat : gV 3 δ6 = some (.int at_, δ6) := x_v rfl
  have vkd : gV 2 δ6 = some (.int kd, δ6) := x_v rfl
  have at1 : gB dAdd (gV 3) (gC (.int 1)) δ6 = some (.int (at_ + 1), δ6) := x_b vat x_c rfl
  have at2 : gB dAdd (gV 3) (gC (.int 2)) δ6 = some (.int (at_ + 2), δ6) := x_b vat x_c rfl
  have go0 : gNo δ6 = some (none, δ6) := x_no
  have goA : gSo (gV 3) δ6 = some (some at_, δ6) := x_so vat
  have go1 : gSo (gB dAdd (gV 3) (gC (.int 1))) δ6 = some (some (at_ + 1), δ6) := x_so at1
  have go2 : gSo (gB dAdd (gV 3) (gC (.int 2))) δ6 = some (some (at_ + 2), δ6) := x_so at2
  have big : (200 : Nat) ≤ 10000000 := by decide
  have sp1 : SL 1 (" " : Str) := ⟨by decide +kernel, by decide +kernel⟩
  have nl1 : SL 1 ("\n" : Str) := ⟨by decide +kernel, by decide +kernel⟩
  have z2 : SL 2 (" 0" : Str) := ⟨by decide +kernel, by decide +kernel⟩
  have fin : ∀ {g : GE}, SLT 500 g δ6 → ∃ w, gsCons (gsRet g) gsNil δ6 = some (.rt (.str w) δ6) ∧ SL 500 w := fun h => by
    obtain ⟨w, e, s⟩ := h
    exact ⟨w, x_retL e, s⟩
  have main : ∃ w, gs__law_spoilt_line (denB 7 bs [.str z]) = some (.rt (.str w) δ6) ∧ SL 500 w := by
    unfold gs__law_spoilt_line
    by_cases g1 : kd < 3
    · obtain ⟨w, e, s⟩ := fin ((SLT.add (SLT.add (SLT.sl vz go0 goA big) vs (by decide)) (SLT.sl vz goA go0 big) (by decide)).mono (by decide))
      exact ⟨w, x_sc e1 (x_sc e2 (x_sc e3 (x_scr (x_sif (k := true) (x_tst (x_b vkd x_c (isT_lt g1))) (fun _ => e) (fun z => by cases z))))), s⟩
    · have q1 : ∀ g : GS, gsIf (gTst (gB dLt (gV 2) (gC (.int 3)))) g gsNil δ6 = some (.nx δ6) := fun g => x_sif (k := false) (x_tst (x_b vkd x_c (isF_lt g1))) (fun z => by cases z) (fun _ => x_sn)
      by_cases g2 : kd < 5
      · obtain ⟨w, e, s⟩ := fin ((SLT.add (SLT.sl vz go0 goA big) (SLT.sl vz go1 go0 big) (by decide)).mono (by decide))
        exact ⟨w, x_sc e1 (x_sc e2 (x_sc e3 (x_sc (q1 _) (x_scr (x_sif (k := true) (x_tst (x_b vkd x_c (isT_lt g2))) (fun _ => e) (fun z => by cases z)))))), s⟩
      · have q2 : ∀ g : GS, gsIf (gTst (gB dLt (gV 2) (gC (.int 5)))) g gsNil δ6 = some (.nx δ6) := fun g => x_sif (k := false) (x_tst (x_b vkd x_c (isF_lt g2))) (fun z => by cases z) (fun _ => x_sn)
        by_cases g3 : kd < 7
        · obtain ⟨w, e, s⟩ := fin ((SLT.add (SLT.add (SLT.sl vz go0 goA big) vs (by decide)) (SLT.sl vz go1 go0 big) (by decide)).mono (by decide))
          exact ⟨w, x_sc e1 (x_sc e2 (x_sc e3 (x_sc (q1 _) (x_sc (q2 _) (x_scr (x_sif (k := true) (x_tst (x_b vkd x_c (isT_lt g3))) (fun _ => e) (fun z => by cases z))))))), s⟩
        · have q3 : ∀ g : GS, gsIf (gTst (gB dLt (gV 2) (gC (.int 7)))) g gsNil δ6 = some (.nx δ6) := fun g => x_sif (k := false) (x_tst (x_b vkd x_c (isF_lt g3))) (fun z => by cases z) (fun _ => x_sn)
          by_cases g4 : kd = 7
          · obtain ⟨w, e, s⟩ := fin ((SLT.add (SLT.add (SLT.add (SLT.sl vz go0 goA big) (SLT.sl1 vz go1 go2 big (by omega) (by omega)) (by decide)) (SLT.sl1 vz goA go1 big (by omega) (by omega)) (by decide)) (SLT.sl vz go2 go0 big) (by decide)).mono (by decide))
            exact ⟨w, x_sc e1 (x_sc e2 (x_sc e3 (x_sc (q1 _) (x_sc (q2 _) (x_sc (q3 _) (x_scr (x_sif (k := true) (x_tst (x_b vkd x_c (eqi_T g4))) (fun _ => e) (fun z => by cases z)))))))), s⟩
          · have q4 : ∀ g : GS, gsIf (gTst (gB dEq (gV 2) (gC (.int 7)))) g gsNil δ6 = some (.nx δ6) := fun g => x_sif (k := false) (x_tst (x_b vkd x_c (eqi_F g4))) (fun z => by cases z) (fun _ => x_sn)
            by_cases g5 : kd = 8
            · have hh : SLT 500 (gIf (gTst (gB dEq (gB dMod (gV 3) (gC (.int 2))) (gC (.int 0)))) (gM1 dJoin (gC (.str " ")) (gSl (gV 6) gNo (gSo (gNeg (gC (.int 1)))))) (gB dAdd (gB dAdd (gV 1) (gC (.str " "))) (gIxN 6 (gNeg (gC (.int 1)))))) δ6 := by
                have m2 : gB dMod (gV 3) (gC (.int 2)) δ6 = some (.int (at_ % 2), δ6) := x_b vat x_c (mod_ok (by decide))
                by_cases g6 : at_ % 2 = 0
                · obtain ⟨w, e, s⟩ := (SLT.join (δ := δ6) (i := 6) hz (by decide) rfl).mono (show 200 ≤ 500 by decide)
                  exact ⟨w, x_if (k := true) (x_tst (x_b m2 x_c (eqi_T g6))) (fun _ => e) (fun z => by cases z), s⟩
                · obtain ⟨w, e, s⟩ := ((SLT.add (SLT.add vz (SLT.c sp1) (by decide)) (SLT.last (δ := δ6) (i := 6) hz rfl) (by decide)).mono (show 200 + 1 + 200 ≤ 500 by decide))
                  exact ⟨w, x_if (k := false) (x_tst (x_b m2 x_c (eqi_F g6))) (fun z => by cases z) (fun _ => e), s⟩
              obtain ⟨w, e, s⟩ := fin hh
              exact ⟨w, x_sc e1 (x_sc e2 (x_sc e3 (x_sc (q1 _) (x_sc (q2 _) (x_sc (q3 _) (x_sc (q4 _) (x_scr (x_sif (k := true) (x_tst (x_b vkd x_c (eqi_T g5))) (fun _ => e) (fun z => by cases z))))))))), s⟩
            · have q5 : ∀ g : GS, gsIf (gTst (gB dEq (gV 2) (gC (.int 8)))) g gsNil δ6 = some (.nx δ6) := fun g => x_sif (k := false) (x_tst (x_b vkd x_c (eqi_F g5))) (fun z => by cases z) (fun _ => x_sn)
              obtain ⟨w0, f0, s0⟩ := SLT.first (δ := δ6) (i := 6) hz rfl
              have ln : gSo (gB dAdd (gCall (on1 dLen1) (Dx.gCons (gIxN 6 (gC (.int 0))) Dx.gNil)) (gC (.int 1))) δ6 = some (some ((w0.length : Int) + 1), δ6) := x_so (x_b (x_call (g := on1 dLen1) (x_one f0) (show dLen1 (.str w0) = _ from Dx.len_str (Nat.le_trans s0.1 (by decide)))) x_c rfl)
              obtain ⟨u0, c0, r0⟩ := (SLT.up vz (by decide)).mono (show 200 ≤ 500 by decide)
              obtain ⟨u1, c1, r1⟩ := (SLT.add (SLT.add ⟨w0, f0, s0⟩ (SLT.c z2) (by decide)) (SLT.sl vz ln go0 big) (by decide)).mono (show 200 + 2 + 200 ≤ 500 by decide)
              obtain ⟨u2, c2, r2⟩ := (SLT.add vz (SLT.c sp1) (by decide)).mono (show 200 + 1 ≤ 500 by decide)
              obtain ⟨u3, c3, r3⟩ := (SLT.add (SLT.c sp1) vz (by decide)).mono (show 1 + 200 ≤ 500 by decide)
              obtain ⟨u4, c4, r4⟩ := (SLT.add vz (SLT.c nl1) (by decide)).mono (show 200 + 1 ≤ 500 by decide)
              obtain ⟨u5, c5, r5⟩ := (SLT.add (SLT.c nl1) vz (by decide)).mono (show 1 + 200 ≤ 500 by decide)
              have m6 : gB dMod (gV 3) (gC (.int 6)) δ6 = some (.int (at_ % 6), δ6) := x_b vat x_c (mod_ok (by decide))
              obtain ⟨_, i6, w, hw, rfl⟩ := pick6 (.str u0) (.str u1) (.str u2) (.str u3) (.str u4) (.str u5) (d := at_ % 6) (by omega) (by omega) (fun d => ∃ w : Str, SL 500 w ∧ d = .str w) ⟨_, r0, rfl⟩ ⟨_, r1, rfl⟩ ⟨_, r2, rfl⟩ ⟨_, r3, rfl⟩ ⟨_, r4, rfl⟩ ⟨_, r5, rfl⟩
              exact ⟨w, x_sc e1 (x_sc e2 (x_sc e3 (x_sc (q1 _) (x_sc (q2 _) (x_sc (q3 _) (x_sc (q4 _) (x_sc (q5 _) (x_retL (x_b (x_lst (x_cons c0 (x_cons c1 (x_cons c2 (x_cons c3 (x_cons c4 (x_one c5)))))) (sz_le rfl)) m6 i6))))))))), hw⟩
  obtain ⟨w, e, s⟩ := main
  exact ⟨w, bs4, of_rtB e rfl, s, b4.mono (by omega)⟩
end P57
set_option Elab.async false
set_option linter.all false
set_option maxRecDepth 100000
set_option maxHeartbeats 4000000
/-! a def that changes a list it was passed; readings as transformers of what is known -/
namespace Dx
open PySem PySem.Spec PyProof.Rows L2 Evl
def more : D := .str "more"
def scalarD : D → Bool
  | .non => true
  | .bl _ => true
  | .int _ => true
  | .str _ => true
  | _ => false
def flatD : D → Bool
  | .tup xs => xs.all scalarD
  | d => scalarD d
section
variable {K : PySem.W.Frag} {H H' H0 : Hp} {a : Addr}
theorem scal_dt {v : V} {d : D} (h : Dt K H v d) (s : scalarD d = true) : Dt K H' v d := by
  cases h <;> first | exact .non | exact .bl _ | exact .int _ | exact .str _ | cases s
theorem scal_dts : ∀ {vs : List V} {ds : List D}, Dts K H vs ds → ds.all scalarD = true → Dts K H' vs ds
  | _, _, .nil, _ => .nil
  | _, _, .cons h t, s => by
    rw [List.all_cons, Bool.and_eq_true] at s
    exact .cons (scal_dt h s.1) (scal_dts t s.2)
theorem scal_noref {d : D} (h : Dt K H (.ref a) d) (s : scalarD d = true) : False := by cases h <;> cases s
theorem scal_nomem : ∀ {vs : List V} {ds : List D}, Dts K H vs ds → ds.all scalarD = true → V.ref a ∉ vs
  | _, _, .nil, _ => by simp
  | _, _, .cons h t, s => by
    rw [List.all_cons, Bool.and_eq_true] at s
    intro m
    rcases List.mem_cons.mp m with e | m
    · subst e
      exact scal_noref h s.1
    · exact scal_nomem t s.2 m
theorem flat_upd {us ws : List V} {v : V} {d : D} (h0 : H0 a = some (.lst us)) (h : Dt K H0 v d) (f : flatD d = true) : Dt K (upd H0 a (.lst ws)) v d := by
  cases h with
  | @tup b xs ds hs t =>
    refine .tup ?_ (scal_dts t f)
    rcases hs with (h | ⟨o, h⟩) | h
    · exact .inl (.inl (by rw [upd_ne (fun z => by rw [z, h0] at h; cases h)]; exact h))
    · exact .inl (.inr ⟨o, by rw [upd_ne (fun z => by rw [z, h0] at h; cases h)]; exact h⟩)
    · exact .inr h
  | non => exact .non
  | bl b => exact .bl b
  | int i => exact .int i
  | str s => exact .str s
  | lst _ _ => cases f
  | lid _ _ => cases f
  | frl _ _ => cases f
  | dct _ _ => cases f
end
def mutL (a : Nat) (ds : List D) (b : Nat) (es : List D) : Ent := if b = a then .pl (.lid a (ds ++ [more])) else if es.all scalarD = true then .pl (.lid b es) else .no
def mutF (d : D) : Ent := if flatD d = true then .pl d else .no
def mutW (l : Bool) (es : List D) : Ent := if es.all scalarD = true then .ow l es else .no
def mutE (a : Nat) (ds : List D) : Ent → Ent
  | .no => .no
  | .ow l es => mutW l es
  | .pl (.lid b es) => mutL a ds b es
  | .pl d => mutF d
theorem mutF_ow {d : D} {l : Bool} {es : List D} (h : mutF d = .ow l es) : False := by
  unfold mutF at h
  by_cases c : flatD d = true
  · rw [if_pos c] at h; cases h
  · rw [if_neg c] at h; cases h
theorem mutF_pl {d e : D} (h : mutF d = .pl e) : d = e ∧ flatD d = true := by
  unfold mutF at h
  by_cases c : flatD d = true
  · rw [if_pos c] at h; cases h; exact ⟨rfl, c⟩
  · rw [if_neg c] at h; cases h
theorem mutW_ow {l l' : Bool} {es es' : List D} (h : mutW l es = .ow l' es') : l = l' ∧ es = es' ∧ es.all scalarD = true := by
  unfold mutW at h
  by_cases c : es.all scalarD = true
  · rw [if_pos c] at h; cases h; exact ⟨rfl, rfl, c⟩
  · rw [if_neg c] at h; cases h
theorem mutW_pl {l : Bool} {es : List D} {d : D} (h : mutW l es = .pl d) : False := by
  unfold mutW at h
  by_cases c : es.all scalarD = true
  · rw [if_pos c] at h; cases h
  · rw [if_neg c] at h; cases h
theorem mutL_ow {a b : Nat} {ds es fs : List D} {l : Bool} (h : mutL a ds b es = .ow l fs) : False := by
  unfold mutL at h
  by_cases c : b = a
  · rw [if_pos c] at h; cases h
  · rw [if_neg c] at h
    by_cases c2 : es.all scalarD = true
    · rw [if_pos c2] at h; cases h
    · rw [if_neg c2] at h; cases h
theorem mutE_pl {a : Nat} {ds : List D} {e : Ent} {d : D} (h : mutE a ds e = .pl d) : (∃ es, e = .pl (.lid a es) ∧ d = .lid a (ds ++ [more])) ∨ (∃ b es, b ≠ a ∧ e = .pl (.lid b es) ∧ es.all scalarD = true ∧ d = .lid b es) ∨ (e = .pl d ∧ flatD d = true) := by
  cases e with
  | no => cases h
  | ow l es => exact (mutW_pl h).elim
  | pl d0 =>
    cases d0 with
    | lid b es =>
      have h : mutL a ds b es = .pl d := h
      unfold mutL at h
      by_cases c : b = a
      · rw [if_pos c] at h; cases h; subst c; exact .inl ⟨es, rfl, rfl⟩
      · rw [if_neg c] at h
        by_cases c2 : es.all scalarD = true
        · rw [if_pos c2] at h; cases h; exact .inr (.inl ⟨b, es, c, rfl, c2, rfl⟩)
        · rw [if_neg c2] at h; cases h
    | _ =>
      obtain ⟨rfl, f⟩ := mutF_pl h
      exact .inr (.inr ⟨rfl, f⟩)
theorem mutE_ow {a : Nat} {ds : List D} {e : Ent} {l : Bool} {es : List D} (h : mutE a ds e = .ow l es) : e = .ow l es ∧ es.all scalarD = true := by
  cases e with
  | no => cases h
  | ow l' es' =>
    obtain ⟨rfl, rfl, c⟩ := mutW_ow h
    exact ⟨rfl, c⟩
  | pl d0 =>
    cases d0 with
    | lid b es => exact (mutL_ow h).elim
    | _ => exact (mutF_ow h).elim
section
variable {K : PySem.W.Frag} {T : Th} {H H' H0 : Hp} {σ : L2.St} {δ : Den} {a : Addr}
theorem Sd.mut {us : List V} {ds : List D} (S : Sd K T H0 H σ δ) (hE : T.H0e = fun _ => none) (h0 : H0 a = some (.lst us)) (hu : Dts K H0 us ds) (hs : ds.all scalarD = true) (h1 : H' a = some (.lst (us ++ [.str "more"])))
    (hf : ∀ b o, b ≠ a → H b = some o → H' b = some o) : Sd K T (upd H0 a (.lst (us ++ [.str "more"]))) H' σ (δ.map (mutE a ds)) := by
  have hd : Dts K (upd H0 a (.lst (us ++ [.str "more"]))) (us ++ [.str "more"]) (ds ++ [more]) := (scal_dts hu hs).append (.cons (.str _) .nil)
  have hTa : T.He a = none := by
    rcases S.nw a _ h0 with z | z
    · rw [hE] at z; cases z
    · exact z
  have at_ : ∀ {i : Nat} {e : Ent}, (δ.map (mutE a ds))[i]? = some e → ∃ e0, δ[i]? = some e0 ∧ mutE a ds e0 = e := fun {i e} h => by
    rw [List.getElem?_map] at h
    exact Option.map_eq_some_iff.mp h
  refine ⟨fun b o e => ?_, by rw [List.length_map]; exact S.len, fun i d e => ?_, fun i l es e => ?_, fun i j li lj di dj p e1 e2 e3 e4 => ?_, fun b o e hn => ?_, fun b o e => ?_, (by rw [hE]; exact fun _ _ z => nomatch z), fun p hp => ?_, fun p hp => ?_⟩
  · by_cases hb : b = a
    · subst hb; rw [upd_same] at e; cases e; exact h1
    · rw [upd_ne hb] at e; exact hf b o hb (S.ex b o e)
  · obtain ⟨e0, i1, i2⟩ := at_ e
    rcases mutE_pl i2 with ⟨es, rfl, rfl⟩ | ⟨b, es, hb, rfl, hes, rfl⟩ | ⟨rfl, hfl⟩
    · obtain ⟨v, g1, g2⟩ := S.pl i _ i1
      cases g2
      exact ⟨_, g1, .lid upd_same hd⟩
    · obtain ⟨v, g1, g2⟩ := S.pl i _ i1
      cases g2 with
      | lid g3 g4 => exact ⟨_, g1, .lid (by rw [upd_ne hb]; exact g3) (scal_dts g4 hes)⟩
    · obtain ⟨v, g1, g2⟩ := S.pl i _ i1
      exact ⟨v, g1, flat_upd h0 g2 hfl⟩
  · obtain ⟨e0, i1, i2⟩ := at_ e
    obtain ⟨rfl, hes⟩ := mutE_ow i2
    obtain ⟨p, vs, g1, g2, g3, g4, g5⟩ := S.ow i l es i1
    have ne : p ≠ a := fun z => by rw [z, h0] at g2; cases g2
    exact ⟨p, vs, g1, by rw [upd_ne ne]; exact g2, hf p _ ne g3, scal_dts g4 hes, g5⟩
  · obtain ⟨e0, i1, i2⟩ := at_ e1
    obtain ⟨f0, j1, j2⟩ := at_ e2
    obtain ⟨rfl, _⟩ := mutE_ow i2
    obtain ⟨rfl, _⟩ := mutE_ow j2
    exact S.ap i j li lj di dj p i1 j1 e3 e4
  · exact hf b o (fun z => by rw [z, hTa] at e; cases e) (S.fr b o e hn)
  · by_cases hb : b = a
    · subst hb; exact .inr hTa
    · rw [upd_ne hb] at e; exact S.nw b o e
  · rw [upd_ne (fun z => by rw [← z, S.inn p hp] at h0; cases h0)]; exact S.inn p hp
  · have ne : p ≠ a := fun z => by rw [← z, S.inn p hp] at h0; cases h0
    intro z
    cases q : H p with
    | none => exact S.inH p hp q
    | some o => rw [hf p o ne q] at z; cases z
/-- a known list of a name is told by its place -/
theorem Sd.lid {i : Nat} {ds : List D} (S : Sd K T H0 H σ δ) (e : δ[i]? = some (.pl (.lst ds))) : ∃ a, Sd K T H0 H σ (δ.set i (.pl (.lid a ds))) := by
  obtain ⟨v, h1, h2⟩ := S.pl i _ e
  cases h2 with
  | @lst a xs _ g t =>
    have h3 := S.put (i := i) (v := .ref a) (d := .lid a ds) (.lid g t)
    have e3 : σ.set i (some (.ref a)) = σ := by
      apply List.ext_getElem?
      intro j
      by_cases hj : i = j
      · subst hj
        rw [h1, List.getElem?_set_self (List.getElem?_eq_some_iff.mp h1).1]
      · rw [List.getElem?_set_ne hj]
    rw [e3] at h3
    exact ⟨a, h3⟩
end
def shw (d : D) : Str := (toP d).shown
def SameA (t : List D) (d0 d1 : D) : Prop := reprOk (.lst t) = true ∧ reprOk (.lst [d0, d1]) = true ∧ shw (.lst t) = shw (.lst [d0, d1]) ∧ isiB d1 "list" = false
def SameB (t : List D) (d0 d1 : D) (a : Nat) (ds : List D) : Prop := ∃ s : Str, t = [.str s, .lid a ds] ∧ d0 = .str s ∧ d1 = .lid a ds ∧ ds.all scalarD = true ∧ ds.length < sizeLine ∧ reprOk (.lst [.str s, .lid a ds]) = true ∧ reprOk (.lst [.str s, .lid a (ds ++ [more])]) = true
def spS (K : PySem.W.Frag) : Sp := fun vs H Q _ => ∃ v w H0 t d0 d1, vs = [v, w] ∧ Ex H0 H ∧ Dt K H0 v (.lst t) ∧ Dt K H0 w (.lst [d0, d1]) ∧
  ((SameA t d0 d1 ∧ ∀ H0' H', Ex H0 H0' → Ex H0' H' → Ex H H' → Fr H0 H H0' → Q (.bl true) H') ∨
   (∃ a ds, SameB t d0 d1 a ds ∧ ∀ us H', H0 a = some (.lst us) → Dts K H0 us ds → H' a = some (.lst (us ++ [.str "more"])) → (∀ b o, b ≠ a → H b = some o → H' b = some o) → Q (.bl true) H'))
def dEqS : D → D → Option D
  | .str a, .str b => some (.bl (decide (a = b)))
  | _, _ => none
def dNeS : D → D → Option D
  | .str a, .str b => some (.bl (!decide (a = b)))
  | _, _ => none
section
variable {X : Cx}
theorem dec_V (a b : Str) : decide (V.str a = V.str b) = decide (a = b) := by
  by_cases h : a = b
  · subst h; simp
  · rw [decide_eq_false h, decide_eq_false]
    intro z
    cases z
    exact h rfl
theorem opd_eqS : OpD X (compareOp .Eq) dEqS := ⟨_, op_eq, fun T H0 H σ δ S x y d1 d2 d rx ry e Q q => by
  cases rx <;> cases ry <;> first | (cases e; done) | skip
  all_goals try (cases e; done)
  rename_i a b
  cases e
  exact ⟨rfl, by rw [dec_V]; exact q _ H0 H (Ex.refl _) S (.bl _)⟩⟩
theorem opd_neS : OpD X (compareOp .NotEq) dNeS := ⟨_, op_ne, fun T H0 H σ δ S x y d1 d2 d rx ry e Q q => by
  cases rx <;> cases ry <;> first | (cases e; done) | skip
  all_goals try (cases e; done)
  rename_i a b
  cases e
  exact ⟨rfl, by rw [dec_V]; exact q _ H0 H (Ex.refl _) S (.bl _)⟩⟩
end
end Dx
set_option Elab.async false
set_option linter.all false
set_option maxRecDepth 100000
set_option maxHeartbeats 4000000
/-! statements by what is known: predicate transformers (what is known may be changed) -/
namespace Dx
open PySem PySem.Spec PyProof.Rows L2 Evl
abbrev WP := Den → (Out → Prop) → Prop
def HitW (K : PySem.W.Frag) (T : Th) (E : Ends) (W : WX) : Out → Prop
  | .nx δ' => ∀ H0' H' σ', Sd K T H0' H' σ' δ' → E.nx σ' H'
  | .rt d δ' => ∀ v H0' H' σ', Sd K T H0' H' σ' δ' → Dt K H0' v d → E.rt v H'
  | .bk δ' => ∀ H0' H' σ', Sd K T H0' H' σ' δ' → E.bk σ' H'
  | .ct δ' => ∀ H0' H' σ', Sd K T H0' H' σ' δ' → E.ct σ' H'
  | .ex c f v δ' => ∀ H0' H' σ' dd fs u, Sd K T H0' H' σ' δ' → H' dd = some (.xd fs) → fs.lookup f = some u → Dt K H0' u v → W (.ref (He.ga K c)) (some dd) σ' H'
theorem HitW.hit {K : PySem.W.Frag} {T : Th} {E : Ends} {W : WX} {o : Out} (h : HitW K T E W o) (H0 : Hp) : Hit K T H0 E W o := by
  cases o with
  | nx δ => exact fun H01 H1 σ1 x1 S1 => h H01 H1 σ1 S1
  | rt d δ => exact fun v H01 H1 σ1 x1 S1 r => h v H01 H1 σ1 S1 r
  | bk δ => exact fun H01 H1 σ1 x1 S1 => h H01 H1 σ1 S1
  | ct δ => exact fun H01 H1 σ1 x1 S1 => h H01 H1 σ1 S1
  | ex c f v δ => exact fun H01 H1 σ1 dd fs u x1 S1 => h H01 H1 σ1 dd fs u S1
def Emp (T : Th) : Prop := T.H0e = fun _ => none
def DSp (K : PySem.W.Frag) (W : WX) (t : TS) (w : WP) : Prop := ∀ (T : Th) δ Φ, Emp T → w δ Φ → ∀ H0 H σ, Sd K T H0 H σ δ → ∀ E : Ends, (∀ o, Φ o → HitW K T E W o) → t E σ H
def PSp (X : Cx) (W : WX) (st : Stmt) (w : WP) : Prop := ∃ t, PS X st t ∧ DSp X.K W t w
def PSps (X : Cx) (W : WX) (sts : List Stmt) (w : WP) : Prop := ∃ t, PSs X sts t ∧ DSp X.K W t w
def wG (g : GS) : WP := fun δ Φ => ∃ o, g δ = some o ∧ Φ o
def wSeq (v w : WP) : WP := fun δ Φ => v δ fun o => match o with
  | .nx δ1 => w δ1 Φ
  | o => Φ o
section
variable {X : Cx} {W : WX} {st : Stmt} {rest : List Stmt} {e c : Expr} {pos : Pos} {g h : GS} {ge : GE} {v w : WP}
theorem dsp_g {K : PySem.W.Frag} {t : TS} (ht : DSv K W t g) : DSp K W t (wG g) := fun T δ Φ em ⟨o, e, f⟩ H0 H σ S E q => ht T δ o e H0 H σ S E ((q o f).hit H0)
theorem psp_g (h : PDS X W st g) : PSp X W st (wG g) := by
  obtain ⟨t, a1, a2⟩ := h
  exact ⟨t, a1, dsp_g a2⟩
theorem psps_g (h : PDSs X W rest g) : PSps X W rest (wG g) := by
  obtain ⟨t, a1, a2⟩ := h
  exact ⟨t, a1, dsp_g a2⟩
theorem psps_nil : PSps X W [] (wG gsNil) := psps_g pdss_nil
theorem dsp_seq {K : PySem.W.Frag} {t u : TS} (ht : DSp K W t v) (hu : DSp K W u w) : DSp K W (tSeq t u) (wSeq v w) := fun T δ Φ em h H0 H σ S E q => by
  refine ht T δ _ em h H0 H σ S _ fun o ho => ?_
  cases o with
  | nx δ1 => exact fun H01 H1 σ1 S1 => hu T δ1 Φ em ho H01 H1 σ1 S1 E q
  | rt d δ1 => exact q _ ho
  | bk δ1 => exact q _ ho
  | ct δ1 => exact q _ ho
  | ex c f v δ1 => exact q _ ho
theorem psps_cons (h1 : PSp X W st v) (h2 : PSps X W rest w) : PSps X W (st :: rest) (wSeq v w) := by
  obtain ⟨t, a1, a2⟩ := h1
  obtain ⟨u, b1, b2⟩ := h2
  exact ⟨_, pss_cons a1 b1, dsp_seq a2 b2⟩
/-- a list that a name holds is told by its place -/
def wLid (i : Nat) (w : WP) : WP := fun δ Φ => match δ[i]? with
  | some (.pl (.lst ds)) => ∀ a, w (δ.set i (.pl (.lid a ds))) Φ
  | _ => w δ Φ
theorem psps_lid (i : Nat) (h : PSps X W rest w) : PSps X W rest (wLid i w) := by
  obtain ⟨t, a1, a2⟩ := h
  refine ⟨t, a1, fun T δ Φ em f H0 H σ S E q => ?_⟩
  unfold wLid at f
  split at f
  · rename_i ds e
    obtain ⟨a, S'⟩ := S.lid e
    exact a2 T _ Φ em (f a) H0 H σ S' E q
  · exact a2 T _ Φ em f H0 H σ S E q
/-- for x in range(..) -/
def wForL (v : Nat) (wb : WP) : List D → WP
  | [], δ, Φ => Φ (.nx δ)
  | x :: xs, δ, Φ => wb (δ.set v (.pl x)) fun o => match o with
    | .nx δ1 => wForL v wb xs δ1 Φ
    | .ct δ1 => wForL v wb xs δ1 Φ
    | .bk δ1 => Φ (.nx δ1)
    | o => Φ o
def wForR (gi : GI) (v : Nat) (wb : WP) : WP := fun δ Φ => ∃ xs δ1, gi δ = some (xs, δ1) ∧ wForL v wb xs δ1 Φ
def DIr (K : PySem.W.Frag) (wi : TI) (g : GI) : Prop := ∀ (T : Th) δ xs δ', g δ = some (xs, δ') → ∀ H0 H σ, Sd K T H0 H σ δ →
  ∀ R : It → Hp → Prop, (∀ J H0' H', Sd K T H0' H' σ δ' → (∀ H0, WalkD K J xs H0) → R J H') → wi σ H R
def PIr (X : Cx) (tg it : Expr) (g : GI) : Prop := ∃ wi, PI X tg it wi ∧ DIr X.K wi g
theorem pir_rng1 {tg a : Expr} {ga : GA} {p pos : Pos} (hm : X.mg "range" = none) (ha : PDA X [a] ga) (hg : Gl X "range" := by rfl) (hs : starEach [a] X.env = [(false, eval a X.env)] := by rfl) : PIr X tg (.Call (.Name "range" p) [a] [] pos) (gRg1 ga) := by
  obtain ⟨t, a1, a2⟩ := ha
  refine ⟨_, pi_range1 hg hm a1 hs, fun T δ xs δ' e H0 H σ S R q => ?_⟩
  unfold gRg1 at e
  split at e
  · rename_i j δ1 e1
    obtain ⟨hj, e⟩ := ite_some e
    cases e
    refine a2 T δ _ δ' e1 H0 H σ S _ fun vs H0' H' x S' r => ?_
    obtain ⟨v, rfl, r1⟩ := dts_one r
    cases r1
    exact ⟨j, rfl, (small_iff hj).1, (small_iff hj).2, q _ H0' H' S' fun _ => walkD_range⟩
  · cases e
theorem dsp_for {K : PySem.W.Frag} {wi : TI} {gi : GI} {i : Nat} {wb : WP} {tb : TS} (hi : DIr K wi gi) (hb : DSp K W tb wb) : DSp K W (tFor wi (rdG K (gNm i) [i]) tb) (wForR gi i wb) := fun T δ Φ em ⟨xs, δ1, e1, f⟩ H0 H σ S E q => by
  refine hi T δ xs δ1 e1 H0 H σ S _ fun J H01 H1 S1 w => ?_
  let Pv : Nat → L2.St → Hp → Prop := fun k σ' H' => ∃ H0' δ', Sd K T H0' H' σ' δ' ∧ wForL i wb (xs.drop k) δ' Φ
  refine ⟨fun k m σ' H' => m = xs.length - k ∧ k ≤ xs.length ∧ Pv k σ' H', ⟨_, rfl, Nat.zero_le _, H01, δ1, S1, by rw [List.drop_zero]; exact f⟩, ?_⟩
  rintro k m σ' H' ⟨rfl, hk, H0', δ', S', hg⟩
  by_cases hlt : k < xs.length
  · refine .inr ⟨(w (fun _ => none)).goes k H' hlt (fun _ _ z => nomatch z), Pv (k + 1), fun σ2 H2 p => ⟨xs.length - (k + 1), by omega, rfl, hlt, p⟩, fun x H2 y => ?_⟩
    have hx : xs[k]? = some xs[k] := by simp [hlt]
    obtain ⟨H0y, xy, Sy, ry⟩ := ((w (fun _ => none)).yields k H' x H2 xs[k] hx (fun _ _ z => nomatch z) y).sd (fun _ _ z => nomatch z) S'
    rw [List.drop_eq_getElem_cons hlt] at hg
    refine dgv_rd T _ δ' _ rfl x H0y H2 _ Sy ry _ fun H0z Hz σ3 xz S3 _ => ?_
    refine hb T _ _ em hg H0z Hz σ3 S3 _ fun o ho => ?_
    cases o with
    | nx δ2 => exact fun H04 H4 σ4 S4 => ⟨H04, δ2, S4, ho⟩
    | ct δ2 => exact fun H04 H4 σ4 S4 => ⟨H04, δ2, S4, ho⟩
    | bk δ2 => exact q _ ho
    | rt d δ2 => exact q _ ho
    | ex c f v δ2 => exact q _ ho
  · have e2 : k = xs.length := by omega
    subst e2
    rw [List.drop_length] at hg
    exact .inl ⟨(w (fun _ => none)).stops H' (fun _ _ z => nomatch z), q _ hg H0' H' σ' S'⟩
theorem psp_for {x : Str} {xp : Pos} {iter : Expr} {body : List Stmt} {gi : GI} {wb : WP} (i : Nat) (hp : PassesOwn (model X.prog X.w) X.A X.env X.xe) (hc : X.calm = true) (hi : PIr X (.Name x xp) iter gi) (hg : PDG X (.Name x xp) (gNm i) [i]) (hb : PSps X W body wb)
    (hs : ∀ x, foldedSetIterable iter X.env x = pure x := by intro _; rfl) : PSp X W (.For (.Name x xp) iter body [] pos) (wForR gi i wb) := by
  obtain ⟨wi, i1, i2⟩ := hi
  obtain ⟨tb, b1, b2⟩ := hb
  exact ⟨_, ps_for hp hc i1 hg b1 hs, dsp_for i2 b2⟩
end
end Dx
set_option Elab.async false
set_option linter.all false
set_option maxRecDepth 100000
set_option maxHeartbeats 4000000
/-! a def that compares by repr and changes what it was told, where that is a list -/
namespace Dx
open PySem PySem.Spec PyProof.Rows L2 Evl
def gSame (ga : GA) : Den → (D → Den → Prop) → Prop := fun δ Φ => ∃ t d0 d1 δ1, ga δ = some ([.lst t, .lst [d0, d1]], δ1) ∧
  ((SameA t d0 d1 ∧ Φ (.bl true) δ1) ∨ ∃ a ds, SameB t d0 d1 a ds ∧ Φ (.bl true) (δ1.map (mutE a ds)))
/-- an expression that may change what is known -/
abbrev WE := Den → (D → Den → Prop) → Prop
def DEp (K : PySem.W.Frag) (t : TE) (w : WE) : Prop := ∀ (T : Th) δ (Φ : D → Den → Prop), Emp T → w δ Φ → ∀ H0 H σ, Sd K T H0 H σ δ → ∀ Q : VK, (∀ d δ', Φ d δ' → ∀ v H0' H', Sd K T H0' H' σ δ' → Dt K H0' v d → Q v H') → t σ H Q
def PEp (X : Cx) (e : Expr) (w : WE) : Prop := ∃ t, PE X e t ∧ DEp X.K t w
def DTp (K : PySem.W.Frag) (t : TT) (w : Den → (Bool → Den → Prop) → Prop) : Prop := ∀ (T : Th) δ (Φ : Bool → Den → Prop), Emp T → w δ Φ → ∀ H0 H σ, Sd K T H0 H σ δ → ∀ Q : Bool → Hp → Prop, (∀ d δ', Φ d δ' → ∀ H0' H', Sd K T H0' H' σ δ' → Q d H') → t σ H Q
def PTp (X : Cx) (e : Expr) (w : Den → (Bool → Den → Prop) → Prop) : Prop := ∃ t, PT X e t ∧ DTp X.K t w
theorem dep_same {K : PySem.W.Frag} {t : TA} {ga : GA} (ht : DAv K t ga) : DEp K (tCal (spS K) t) (gSame ga) := fun T δ Φ em ⟨tt, d0, d1, δ1, e, f⟩ H0 H σ S Q q => by
  refine ht T δ _ δ1 e H0 H σ S _ fun vs H01 H1 x1 S1 r => ?_
  obtain ⟨v, w, rfl, r1, r2⟩ := dts_two r
  refine ⟨v, w, H01, tt, d0, d1, rfl, S1.ex, r1, r2, ?_⟩
  rcases f with ⟨sa, f⟩ | ⟨a, ds, sb, f⟩
  · exact .inl ⟨sa, fun H0' H' y0 y1 y fr => q _ _ f (.bl true) H0' H' (S1.called y0 y1 y fr) (.bl true)⟩
  · exact .inr ⟨a, ds, sb, fun us H' h0 hu h1 hf => q _ _ f (.bl true) _ H' (S1.mut em h0 hu (by obtain ⟨s, _, _, _, z, _⟩ := sb; exact z) h1 hf) (.bl true)⟩
section
variable {X : Cx} {a b c : Expr} {pos p : Pos} {k : Nat} {x : Str} {es : List Expr} {e : Expr}
theorem pep_same {ga : GA} (cl : CalG X.prog X.w X.K X.mg X.base k x (spS X.K)) (hr : Room k X.A) (hgd : X.A.guards = some []) (ha : PDA X (e :: es) ga) (hg : Gl X x := by rfl) (hdb : (x == ("__debug__" : Str)) = false := by decide)
    (he : starEach (e :: es) X.env = (false, eval e X.env) :: starEach es X.env := by rfl) (hpl : (backTo pos (starEach es X.env)).any (·.1) = false := by rfl) : PEp X (.Call (.Name x p) (e :: es) [] pos) (gSame ga) := by
  obtain ⟨t, a1, a2⟩ := ha
  exact ⟨_, pe_calG cl hr hgd a1 hg hdb he hpl, dep_same a2⟩
def wTru (w : WE) : Den → (Bool → Den → Prop) → Prop := fun δ Φ => w δ fun d δ' => ∃ b, d = .bl b ∧ Φ b δ'
def wNotT (w : Den → (Bool → Den → Prop) → Prop) : Den → (Bool → Den → Prop) → Prop := fun δ Φ => w δ fun b δ' => Φ (!b) δ'
theorem ptp_truth {w : WE} (ha : PEp X a w) (he : ∀ whole, isTrue a X.env whole = (do let v ← whole; standAt a.pos; holding [v] (truthy v)) := by intro _; rfl) : PTp X a (wTru w) := by
  obtain ⟨ta, a1, a2⟩ := ha
  refine ⟨_, pt_truth a1 he, fun T δ Φ em f H0 H σ S Q q => ?_⟩
  refine a2 T δ _ em f H0 H σ S _ fun d δ' ⟨b, e1, f1⟩ v H0' H' S' r => ?_
  subst e1
  exact ⟨b, tru_dt S'.ex r rfl, q _ _ f1 H0' H' S'⟩
theorem ptp_not {w : Den → (Bool → Den → Prop) → Prop} (ha : PTp X a w) : PTp X (.UnaryOp .Not a pos) (wNotT w) := by
  obtain ⟨t, a1, a2⟩ := ha
  exact ⟨_, pt_not a1, fun T δ Φ em f H0 H σ S Q q => a2 T δ _ em f H0 H σ S _ fun b δ' g => q _ _ g⟩
variable {W : WX}
def wIf (t : Den → (Bool → Den → Prop) → Prop) (v w : WP) : WP := fun δ Φ => t δ fun b δ' => if b = true then v δ' Φ else w δ' Φ
theorem psp_if {ss rs : List Stmt} {t : Den → (Bool → Den → Prop) → Prop} {v w : WP} (hc : PTp X c t) (ha : PSps X W ss v) (hb : PSps X W rs w) : PSp X W (.If c ss rs pos) (wIf t v w) := by
  obtain ⟨tc, c1, c2⟩ := hc
  obtain ⟨ta, a1, a2⟩ := ha
  obtain ⟨tb, b1, b2⟩ := hb
  refine ⟨_, ps_if c1 a1 b1, fun T δ Φ em f H0 H σ S E q => ?_⟩
  refine c2 T δ _ em f H0 H σ S _ fun b δ' g H0' H' S' => ?_
  cases b with
  | true => exact a2 T δ' Φ em g H0' H' σ S' E q
  | false => exact b2 T δ' Φ em g H0' H' σ S' E q
/-- g or w, g by data, false or true -/
def wOrV (g : GE) (w : WE) : WE := fun δ Φ => ∃ k δ1, g δ = some (.bl k, δ1) ∧ (if k = true then Φ (.bl true) δ1 else w δ1 Φ)
theorem pep_or {g : GE} {w : WE} (ha : PDE X a g) (hb : PEp X b w) : PEp X (.BoolOp .Or [a, b] pos) (wOrV g w) := by
  obtain ⟨t, a1, a2⟩ := ha
  obtain ⟨u, b1, b2⟩ := hb
  refine ⟨_, pe_or a1 (pe_one b1), fun T δ Φ em ⟨k, δ1, e1, f⟩ H0 H σ S Q q => ?_⟩
  refine a2 T δ _ δ1 e1 H0 H σ S _ fun v H01 H1 x1 S1 r => ?_
  cases r
  refine ⟨k, rfl, ?_⟩
  cases k with
  | true =>
    show Q (.bl true) H1
    exact q _ _ f _ H01 H1 S1 (.bl _)
  | false =>
    show u σ H1 Q
    exact b2 T δ1 Φ em f H01 H1 σ S1 Q q
def wRet (w : WE) : WP := fun δ Φ => w δ fun d δ' => Φ (.rt d δ')
theorem psp_ret {w : WE} (h : PEp X e w) : PSp X W (.Return (some e) pos) (wRet w) := by
  obtain ⟨t, a1, a2⟩ := h
  exact ⟨_, ps_ret a1, fun T δ Φ em f H0 H σ S E q => a2 T δ _ em f H0 H σ S _ fun d δ' g v H0' H' S' r => q _ g v H0' H' σ S' r⟩
end
theorem sameB_dts {K : PySem.W.Frag} {H0 : Hp} {v : V} {s : Str} {a : Nat} {ds : List D} (h : Dt K H0 v (.lst [.str s, .lid a ds])) (hs : ds.all scalarD = true) {us : List V} (h0 : H0 a = some (.lst us)) (hu : Dts K H0 us ds) :
    Dt K (upd H0 a (.lst (us ++ [.str "more"]))) v (.lst [.str s, .lid a (ds ++ [more])]) := by
  cases h with
  | @lst p xs _ g t =>
    obtain ⟨u0, u1, rfl, t0, t1⟩ := dts_two t
    cases t0
    cases t1 with
    | lid g1 g2 =>
      have ne : p ≠ a := fun z => by
        rw [z, h0] at g
        cases g
        exact scal_nomem (a := a) hu hs (by simp)
      exact .lst (by rw [upd_ne ne]; exact g) (.cons (.str _) (.cons (.lid upd_same ((scal_dts hu hs).append (.cons (.str _) .nil))) .nil))
section
variable {X : Cx} {c1 c2 o em e4 : Expr} {r0 : List Stmt} {p1 p2 p3 p4 apos cpos : Pos} {g0 : GS}
abbrev gR (i : Nat) : GE := gCall (on1 dRepr) (Dx.gCons (gV i) Dx.gNil)
theorem dRepr_lst {xs : List D} (h : reprOk (.lst xs) = true) : dRepr (.lst xs) = some (.str (shw (.lst xs))) := by
  show (if reprOk (.lst xs) = true then some (D.str (toP (.lst xs)).shown) else none) = _
  rw [if_pos h]; rfl
theorem gR_at {δ : Den} {i : Nat} {xs : List D} (h : δ[i]? = some (.pl (.lst xs))) (ok : reprOk (.lst xs) = true) : gR i δ = some (.str (shw (.lst xs)), δ) := by
  unfold gR gCall Dx.gCons gV Dx.gNil
  simp only [h]
  show (match dRepr (.lst xs) with
    | some d => some (d, δ)
    | none => none) = _
  rw [dRepr_lst ok]
theorem body_same {N : List Str} (hN : N.length = 2) {v w : V} {H : Hp} {Q : VK} (hP : spS X.K [v, w] H Q E0)
    (h1 : PDT X c1 (gTst (gB dNeS (gR 0) (gR 1)))) (h0 : PDSs X W0 r0 g0) (h2 : PDT X c2 (gTru (gIsi "list" (gB dIx (gV 1) (gC (.int 1))))))
    (ho : PDE X o (gB dIx (gV 1) (gC (.int 1)))) (hm : PDE X em (gC more)) (h4 : PDE X e4 (gB dEqS (gR 0) (gR 1)))
    (hbase : attributeBase o "append" X.env (eval o X.env) = eval o X.env := by rfl)
    (hfew : ((backTo cpos (starEach [em] X.env)).all (fun x => !x.1) && (backToKw cpos (keywordEach [] X.env)).all (fun x => x.1.isSome)
      && decide (([em] : List Expr).length + ([] : List Keyword).length + (if ([] : List Keyword).isEmpty then 0 else 1) < 30)) = true := by rfl)
    (hline : (apos.endLine == cpos.line) = true := by rfl) (hst : starEach [em] X.env = (false, eval em X.env) :: starEach [] X.env := by rfl) (hplain : (backTo cpos (starEach [] X.env)).any (·.1) = false := by rfl)
    (hsw : swapsWith (.Call (.Attribute o "append" apos) [em] [] cpos) none p2.line X.env = pure false := by rfl) :
    ∃ t, PSs X [.If c1 r0 [] p1, .If c2 [.Expr (.Call (.Attribute o "append" apos) [em] [] cpos) p2] [] p3, .Return (some e4) p4] t ∧ t { nx := fun _ H' => Q .non H', rt := Q } (L2.start N [v, w]) H := by
  obtain ⟨t1, a1, a2⟩ := h1
  obtain ⟨t0, b1, b2⟩ := h0
  obtain ⟨t2, c1', c2'⟩ := h2
  obtain ⟨to, o1, o2⟩ := ho
  obtain ⟨tm, m1, m2⟩ := hm
  obtain ⟨t4, d1, d2⟩ := h4
  refine ⟨_, pss_cons (ps_if a1 b1 pss_nil) (pss_cons (ps_if c1' (pss_cons (ps_expr (pe_bm PySem.F.plainAttrs_list PySem.F.slot_list_append PySem.F.type_list_append mt_append o1 (pa_cons m1 pa_nil hst) hbase hfew hline hst hplain) hsw) pss_nil) pss_nil) (pss_cons (ps_ret d1) pss_nil)), ?_⟩
  obtain ⟨v', w', H0, t, d0, dd, e0, x0, r1, r2, hP⟩ := hP
  cases e0
  have r12 : Dts X.K H0 [v, w] [.lst t, .lst [d0, dd]] := .cons r1 (.cons r2 .nil)
  have S := sd_start (N := N) x0 r12
  have eδ : den0 N.length [.lst t, .lst [d0, dd]] = [.pl (.lst t), .pl (.lst [d0, dd])] := by rw [hN]; rfl
  rw [eδ] at S
  have hix : ∀ t : List D, gB dIx (gV 1) (gC (.int 1)) [.pl (.lst t), .pl (.lst [d0, dd])] = some (dd, [.pl (.lst t), .pl (.lst [d0, dd])]) := fun _ => rfl
  have cmp : ∀ {t ds : List D}, reprOk (.lst t) = true → reprOk (.lst ds) = true → shw (.lst t) = shw (.lst ds) →
      gTst (gB dNeS (gR 0) (gR 1)) [.pl (.lst t), .pl (.lst ds)] = some (false, [.pl (.lst t), .pl (.lst ds)]) ∧ gB dEqS (gR 0) (gR 1) [.pl (.lst t), .pl (.lst ds)] = some (.bl true, [.pl (.lst t), .pl (.lst ds)]) := fun {t ds} k1 k2 k3 => by
    have q1 := gR_at (δ := [.pl (.lst t), .pl (.lst ds)]) (i := 0) rfl k1
    have q2 := gR_at (δ := [.pl (.lst t), .pl (.lst ds)]) (i := 1) rfl k2
    refine ⟨?_, ?_⟩
    · unfold gTst gB
      simp only [q1, q2, dNeS, k3, decide_true, Bool.not_true]
    · unfold gB
      simp only [q1, q2, dEqS, k3, decide_true]
  rcases hP with ⟨⟨k1, k2, k3, k4⟩, q⟩ | ⟨a, ds, ⟨s, rfl, rfl, rfl, hs, hz, k1, k2⟩, q⟩
  · obtain ⟨f1, f4⟩ := cmp k1 k2 k3
    refine a2 _ _ false _ f1 H0 H _ S _ fun H01 H1 x1 S1 => ?_
    have f2 : gTru (gIsi "list" (gB dIx (gV 1) (gC (.int 1)))) [.pl (.lst t), .pl (.lst [d0, dd])] = some (false, [.pl (.lst t), .pl (.lst [d0, dd])]) := by
      unfold gTru gIsi
      simp only [hix t, k4, dTru]
    refine c2' _ _ false _ f2 H01 H1 _ S1 _ fun H02 H2 x2 S2 => ?_
    · refine d2 _ _ _ _ f4 H02 H2 _ S2 _ fun v H03 H3 x3 S3 r => ?_
      cases r
      exact q H03 H3 ((x1.trans x2).trans x3) S3.ex S3.endP.1 S3.endP.2
  · obtain ⟨f1, _⟩ := cmp k1 k1 rfl
    refine a2 _ _ false _ f1 H0 H _ S _ fun H01 H1 x1 S1 => ?_
    have f2 : gTru (gIsi "list" (gB dIx (gV 1) (gC (.int 1)))) [.pl (.lst [.str s, .lid a ds]), .pl (.lst [.str s, .lid a ds])] = some (true, [.pl (.lst [.str s, .lid a ds]), .pl (.lst [.str s, .lid a ds])]) := rfl
    refine c2' _ _ true _ f2 H01 H1 _ S1 _ fun H02 H2 x2 S2 => ?_
    · refine o2 _ _ _ _ (hix [.str s, .lid a ds]) H02 H2 _ S2 _ fun u H03 H3 x3 S3 ru => ?_
      cases ru with
      | @lid _ us _ g gt =>
        refine ⟨.inl ⟨rfl, us, sq_of (S3.ex _ _ g)⟩, ?_⟩
        refine m2 _ _ more _ rfl H03 H3 _ S3 _ fun um H04 H4 x4 S4 rm => ?_
        cases rm
        have g4 := x4 _ _ g
        have gt4 := Dts.mono x4 gt
        refine ⟨a, us, _, rfl, rfl, S4.ex _ _ g4, by rw [gt.length]; exact hz, ?_⟩
        have x04 := ((x1.trans x2).trans x3).trans x4
        have h0a : H0 a = some (.lst us) ∧ Dts X.K H0 us ds := by
          cases r1 with
          | lst g1 t1 =>
            obtain ⟨u0, u1, rfl, w0, w1⟩ := dts_two t1
            cases w1 with
            | lid g2 g3 =>
              have z := x04 _ _ g2
              rw [g4] at z
              cases z
              exact ⟨g2, g3⟩
        have y1 := sameB_dts (Dt.mono x04 r1) hs g4 gt4
        have y2 := sameB_dts (Dt.mono x04 r2) hs g4 gt4
        have xe : Ex (upd H04 a (.lst (us ++ [.str "more"]))) (upd H4 a (.lst (us ++ [.str "more"]))) := fun b o e => by
          by_cases hb : b = a
          · subst hb; rw [upd_same] at e ⊢; exact e
          · rw [upd_ne hb] at e ⊢; exact S4.ex b o e
        have S5 := sd_start (N := N) xe (.cons y1 (.cons y2 .nil))
        rw [show den0 N.length [.lst [.str s, .lid a (ds ++ [more])], .lst [.str s, .lid a (ds ++ [more])]] = [.pl (.lst [.str s, .lid a (ds ++ [more])]), .pl (.lst [.str s, .lid a (ds ++ [more])])] from by rw [hN]; rfl] at S5
        obtain ⟨_, f4⟩ := cmp k2 k2 rfl
        refine d2 _ _ _ _ f4 _ _ _ S5 _ fun v H06 H6 x6 S6 r => ?_
        cases r
        have ex6 := S6.endP.1
        refine q us H6 h0a.1 h0a.2 (ex6 _ _ upd_same) fun b o hb e => ex6 b o ?_
        rw [upd_ne hb]
        exact S4.endP.1 b o e
end
open Classical in
/-- the pure way -/
noncomputable def gSameA (ga : GA) : GE := fun δ => match ga δ with
  | some ([.lst t, .lst [d0, d1]], δ1) => if SameA t d0 d1 then some (.bl true, δ1) else none
  | _ => none
theorem x_sameA {ga : GA} {δ δ1 : Den} {t : List D} {d0 d1 : D} (h : ga δ = some ([.lst t, .lst [d0, d1]], δ1)) (s : SameA t d0 d1) : gSameA ga δ = some (.bl true, δ1) := by
  unfold gSameA
  rw [h]
  exact if_pos s
theorem dev_sameA {K : PySem.W.Frag} {t : TA} {ga : GA} (ht : DAv K t ga) : DEv K (tCal (spS K) t) (gSameA ga) := fun T δ d δ' e H0 H σ S Q q => by
  unfold gSameA at e
  split at e
  · rename_i tt d0 d1 δ1 e1
    by_cases c : SameA tt d0 d1
    · rw [if_pos c] at e
      cases e
      refine ht T δ _ _ e1 H0 H σ S _ fun vs H01 H1 x1 S1 r => ?_
      obtain ⟨v, w, rfl, r1, r2⟩ := dts_two r
      exact ⟨v, w, H01, tt, d0, d1, rfl, S1.ex, r1, r2, .inl ⟨c, fun H0' H' y0 y1 y fr => q (.bl true) H0' H' (x1.trans y0) (S1.called y0 y1 y fr) (.bl true)⟩⟩
    · rw [if_neg c] at e
      cases e
  · cases e
section
variable {X : Cx} {pos p : Pos} {k : Nat} {x : Str} {es : List Expr} {e : Expr}
theorem pd_sameA {ga : GA} (cl : CalG X.prog X.w X.K X.mg X.base k x (spS X.K)) (hr : Room k X.A) (hgd : X.A.guards = some []) (ha : PDA X (e :: es) ga) (hg : Gl X x := by rfl) (hdb : (x == ("__debug__" : Str)) = false := by decide)
    (he : starEach (e :: es) X.env = (false, eval e X.env) :: starEach es X.env := by rfl) (hpl : (backTo pos (starEach es X.env)).any (·.1) = false := by rfl) : PDE X (.Call (.Name x p) (e :: es) [] pos) (gSameA ga) := by
  obtain ⟨t, a1, a2⟩ := ha
  exact ⟨_, pe_calG cl hr hgd a1 hg hdb he hpl, dev_sameA a2⟩
end
end Dx
set_option Elab.async false
set_option linter.all false
set_option maxRecDepth 100000
set_option maxHeartbeats 4000000
/-! the law's own def: for k in range(..): if not right(box): return False -/
namespace Dx
open PySem PySem.Spec PyProof.Rows L2 Evl
/-- a box of numbers, known to nobody; the answer is true -/
def spR (K : PySem.W.Frag) (ok : List D → Prop) : Sp := fun vs H Q _ => ∃ b us bs, vs = [.ref b] ∧ H b = some (.lst us) ∧ Dts K (fun _ => none) us bs ∧ ok bs ∧ ∀ H', (∀ a o, a ≠ b → H a = some o → H' a = some o) → Q (.bl true) H'
/-- the script alone -/
def spL (K : PySem.W.Frag) (ok : List Int → Prop) : Sp := fun vs H Q _ => ∃ a ns, vs = [.ref a] ∧ L2.Only H ∧ SqL K H a (ns.map V.int) ∧ ok ns ∧ ∀ H', Q (.bl true) H'
theorem sd_script {K : PySem.W.Frag} {H H' : Hp} {σ : L2.St} {a : Addr} {ns : List Int} (hS : SqL K H a (ns.map V.int)) (h1 : σ.length = 2) (h2 : σ[0]? = some (some (.ref a))) (h3 : Ex H H') : Sd K ⟨H, H, []⟩ H H' σ [.pl (.frl (ns.map D.int)), .no] := by
  have noO : ∀ {i : Nat} {l : Bool} {ds : List D}, ([.pl (.frl (ns.map D.int)), .no] : Den)[i]? = some (.ow l ds) → False := fun {i l ds} e => by
    match i, e with
    | 0, e => cases e
    | 1, e => cases e
    | n + 2, e => simp at e
  refine ⟨h3, by rw [h1]; rfl, fun i d e => ?_, fun i l ds e => (noO e).elim, fun i j li lj di dj p e1 _ _ _ => (noO e1).elim, fun b o e _ => h3 b o e, fun b o e => .inl e, Ex.refl _, fun p hp => absurd hp (by simp), fun p hp => absurd hp (by simp)⟩
  match i, e with
  | 0, e =>
    cases e
    exact ⟨_, h2, .frl hS (Dts.ofInts ns)⟩
  | 1, e => cases e
  | n + 2, e => simp at e
section
variable {X : Cx} {tg it arg e4 : Expr} {fb : List Stmt} {pc pn pi p2 p3 p4 : Pos} {x : Str} {k : Nat} {gi : GI} {ga g4 : GE} {gb : GS}
theorem body_law {N : List Str} (hN : N.length = 2) {okB : List D → Prop} {a : Addr} {ns : List Int} {H : Hp} {Q : VK} (cl : CalG X.prog X.w X.K X.mg X.base k x (spR X.K okB)) (hr : Room k X.A) (hgd : X.A.guards = some []) (hc : X.calm = true)
    (hp : PassesOwn (model X.prog X.w) X.A X.env X.xe) (hi : PIr X tg it gi) (hg : PDG X tg (gNm 1) [1]) (ha : PDE X arg ga) (hb : PDSs X W0 fb gb) (h4 : PDE X e4 (gC (.bl true)))
    (hon : L2.Only H) (hS : SqL X.K H a (ns.map V.int)) {n : Nat} (hgi : gi [.pl (.frl (ns.map D.int)), .no] = some (rngD 0 n, [.pl (.frl (ns.map D.int)), .no]))
    (hga : ∀ i, i < n → ∃ bs, ga [.pl (.frl (ns.map D.int)), .pl (.int (i : Nat))] = some (.lst bs, [.pl (.frl (ns.map D.int)), .pl (.int (i : Nat))]) ∧ okB bs ∧ bs.all scalarD = true)
    (q : ∀ H', Q (.bl true) H')
    (hf : ∀ x, foldedSetIterable it X.env x = pure x := by intro _; rfl)
    (hgl : Gl X x := by rfl) (hdb : (x == ("__debug__" : Str)) = false := by decide)
    (he : starEach [arg] X.env = (false, eval arg X.env) :: starEach [] X.env := by rfl) (hpl : (backTo pc (starEach [] X.env)).any (·.1) = false := by rfl)
    (hit : ∀ whole, isTrue (.Call (.Name x pn) [arg] [] pc) X.env whole = (do let v ← whole; standAt (Expr.Call (.Name x pn) [arg] [] pc).pos; holding [v] (truthy v)) := by intro _; rfl) :
    ∃ t, PSs X [.For tg it [.If (.UnaryOp .Not (.Call (.Name x pn) [arg] [] pc) pi) fb [] p2] [] p3, .Return (some e4) p4] t ∧ t { nx := fun _ H' => Q .non H', rt := Q } (L2.start N [.ref a]) H := by
  obtain ⟨wi, i1, i2⟩ := hi
  obtain ⟨ta, a1, a2⟩ := ha
  obtain ⟨tb, b1, b2⟩ := hb
  obtain ⟨t4, d1, d2⟩ := h4
  refine ⟨_, pss_cons (ps_for hp hc i1 hg (pss_cons (ps_if (pt_not (pt_truth (pe_calG cl hr hgd (pa_cons a1 pa_nil he) hgl hdb he hpl) hit)) b1 pss_nil) pss_nil) hf) (pss_cons (ps_ret d1) pss_nil), ?_⟩
  have hl : (L2.start N [.ref a]).length = 2 := by
    unfold L2.start
    simp [hN]
  have h00 : (L2.start N [V.ref a])[0]? = some (some (.ref a)) := by
    unfold L2.start
    rfl
  have S := sd_script (H := H) (H' := H) hS hl h00 (Ex.refl _)
  refine i2 _ _ _ _ hgi H H _ S _ fun J H01 H1 S1 w => ?_
  let Pv : L2.St → Hp → Prop := fun σ' H' => σ'.length = 2 ∧ σ'[0]? = some (some (.ref a)) ∧ Ex H H'
  have hlen : (rngD 0 n).length = n := by simp [rngD]
  refine ⟨fun j m σ' H' => m = n - j ∧ j ≤ n ∧ Pv σ' H', ⟨_, rfl, Nat.zero_le _, hl, h00, fun b o e => S1.fr b o e (by simp)⟩, ?_⟩
  rintro j m σ' H' ⟨rfl, hj, hv1, hv2, hv3⟩
  by_cases hlt : j < n
  · refine .inr ⟨(w (fun _ => none)).goes j H' (by rw [hlen]; exact hlt) (fun _ _ z => nomatch z), Pv, fun σ2 H2 p => ⟨n - (j + 1), by omega, rfl, hlt, p⟩, fun y H2 yy => ?_⟩
    have hx : (rngD 0 n)[j]? = some (.int (j : Nat)) := by
      unfold rngD
      rw [List.getElem?_map, List.getElem?_range hlt]
      simp
    have S' := sd_script hS hv1 hv2 hv3
    rcases (w (fun _ => none)).yields j H' y H2 _ hx (fun _ _ z => nomatch z) yy with ⟨rfl, hy⟩ | ⟨_, _, _, _, _, _, z, _⟩
    · cases hy
      refine ⟨_, _, _, _, _, rfl, S', .int _, fun H0z Hz σ3 xz S3 on3 => ?_⟩
      obtain ⟨bs, e1, okb, sc⟩ := hga j hlt
      refine a2 _ _ _ _ e1 H0z Hz σ3 S3 _ fun v H04 H4 x4 S4 r => ?_
      cases r with
      | @lst p us _ g t =>
        have hp0 : H p = none := by
          rcases S4.nw p _ g with z | z
          · rcases hon p with z2 | ⟨ob, xs, z2⟩
            · exact z2
            · have z : H p = _ := z
              rw [z] at z2; cases z2
          · exact z
        refine ⟨p, us, bs, rfl, S4.ex _ _ g, scal_dts t sc, okb, fun H5 hf5 => ?_⟩
        refine ⟨true, rfl, ?_⟩
        show Pv σ3 H5
        have h3 : σ3[0]? = some (some (.ref a)) := (on3.2 0 (by simp)).trans hv2
        exact ⟨on3.1.trans hv1, h3, fun b o e => hf5 b o (fun z => by rw [z, hp0] at e; cases e) (S4.fr b o e (by simp))⟩
    · cases z
  · have e2 : j = n := by omega
    subst e2
    refine .inl ⟨by rw [← hlen]; exact (w (fun _ => none)).stops H' (fun _ _ z => nomatch z), ?_⟩
    have S' := sd_script hS hv1 hv2 hv3
    refine d2 _ _ _ _ rfl H H' σ' S' _ fun v H04 H4 x4 S4 r => ?_
    cases r
    exact q _
end
end Dx
set_option Elab.async false
set_option linter.all false
set_option maxRecDepth 100000
set_option maxHeartbeats 4000000
namespace P57
open PySem PySem.Spec PyProof.Rows L2 Dx Evl
section
variable {P : Program} {w : World} {K : PySem.W.Frag} {mg : Str → Option Value} {base : Heap}
theorem Wd.sys (W : Wd w K mg base) : SysD K := Gh.sysB_ok (W.at_ 11 rfl)
theorem cal__law_same (W : Wd w K mg base) : CalG P w K mg base 1 "_law_same" (spS K) := by
  obtain ⟨fd, F⟩ := W.says.t.d.def_ 32 (d := d__law_same) rfl
  have m : mg "_law_same" = some (.ref (He.ga K "_law_same")) := He.glo_ok W.kin W.ns (W.says.t.d.fact 30 (f := .glo "_law_same") rfl)
  have m_repr : mg "repr" = none := He.free_ok W.kin W.ns (W.says.t.d.fact 51 (f := .free "repr") rfl)
  have m_isi : mg "isinstance" = none := He.free_ok W.kin W.ns (W.says.t.d.fact 45 (f := .free "isinstance") rfl)
  have m_list : mg "list" = none := He.free_ok W.kin W.ns (W.says.t.d.fact 47 (f := .free "list") rfl)
  have S : FnScope ["_law_told_here", "_law_due"] ["_law_told_here", "_law_due"] (defScope s__law_same) := ⟨rfl, rfl, rfl, by decide +kernel, rfl, by decide +kernel, by decide +kernel⟩
  have b : Binds K fd ["_law_told_here", "_law_due"] [] := FunD.bindsN F fun _ _ _ _ _ _ us hl => match us, hl with | [_, _], _ => rfl
  refine ⟨_, fd, _, m, F.kp, okG F S (fun vs H Q E h => ?_) (fun cdv A outer s H vs Q hr hgd h => ?_), b⟩
  · obtain ⟨v, w, _, _, _, _, rfl, _⟩ := h; rfl
  obtain ⟨v, v2, e⟩ : ∃ v v2, vs = [v, v2] := by
    obtain ⟨v, v2, _, _, _, _, e, _⟩ := h
    exact ⟨v, v2, e⟩
  subst e
  have hu := units_of hr
  exact body_same (X := (cxOf CX0 P w K mg base ["_law_told_here", "_law_due"] d__law_same.qual d__law_same.scope (He.fAd K d__law_same.at_) cdv A outer s H E0)) rfl h
    (pdt_cmp opd_neS (pd_cb (cd_repr hgd hu W.sys) m_repr rfl (pda_cons (pd_var 0) pda_nil)) (pd_cb (cd_repr hgd hu W.sys) m_repr rfl (pda_cons (pd_var 1) pda_nil)))
    (pdss_cons (pds_ret pd_bl) pdss_nil)
    (pdt_truth (pd_isi (by decide) m_isi m_list rfl (pd_ix (pd_var 1) pd_int)))
    (pd_ix (pd_var 1) pd_int) pd_str
    (pd_cmp opd_eqS (pd_cb (cd_repr hgd hu W.sys) m_repr rfl (pda_cons (pd_var 0) pda_nil)) (pd_cb (cd_repr hgd hu W.sys) m_repr rfl (pda_cons (pd_var 1) pda_nil)))
end
end P57
set_option Elab.async false
set_option linter.all false
set_option maxRecDepth 100000
set_option maxHeartbeats 4000000
namespace P57
open PySem PySem.Spec PyProof.Rows L2 Dx Evl
noncomputable def gs_one : GS := gsFor (gIt (gLst (Dx.gCons (gV 2) (Dx.gCons (gV 4) Dx.gNil)))) (gNm 6) (gsCons (gsAsg (gCal L__law_written_1 1 (Dx.gCons (gV 6) Dx.gNil)) (gNm 7))
  (gsCons (gsIf (gOrT (gNotT (gTru (gSameA (Dx.gCons (gCal L__law_line_2 2 (Dx.gCons (gV 6) (Dx.gCons (gV 1) Dx.gNil))) (Dx.gCons (gLst (Dx.gCons (gC (.str "line")) (Dx.gCons (gV 7) Dx.gNil))) Dx.gNil)))))
    (gNotT (gTru (gSameA (Dx.gCons (gCal L__law_told_2 2 (Dx.gCons (gV 7) (Dx.gCons (gB dSub (gC (.int 1)) (gV 1)) Dx.gNil))) (Dx.gCons (gLst (Dx.gCons (gC (.str "act")) (Dx.gCons (gV 6) Dx.gNil))) Dx.gNil))))))
    (gsCons (gsRet (gC (.bl false))) gsNil) gsNil) gsNil))
def gs_pre : GS := gsAsg (gCalB L__law_take_2 2 0 (Dx.gCons (gC (.int 2)) Dx.gNil)) (gNm 1)
def gs_act : GS := gsAsg (gCalB L__law_act_1 1 0 Dx.gNil) (gNm 2)
def gs_line : GS := gsAsg (gCal L__law_written_1 1 (Dx.gCons (gV 2) Dx.gNil)) (gNm 3)
def gs_great : GS := gsAsg (gCall (on1 dTuple) (Dx.gCons (gLc (gIt (gV 2)) (gNm 5) gYes (gIf (gTru (gCal L__law_is_number_1 1 (Dx.gCons (gV 5) Dx.gNil))) (gB dAdd (gB dPow (gC (.int 10)) (gC (.int 19))) (gV 5)) (gV 5)) [5]) Dx.gNil)) (gNm 4)
def gs_bad : GS := gsPar 9 10 (Dx.gCons (gCalB L__law_spoilt_line_2 2 0 (Dx.gCons (gV 3) Dx.gNil)) (Dx.gCons (gCalB L__law_spoilt_act_2 2 0 (Dx.gCons (gV 2) Dx.gNil)) Dx.gNil))
def gs_due : GS := gsAsg (gCal L__law_read_1 1 (Dx.gCons (gV 9) Dx.gNil)) (gNm 11)
def gs_told : GS := gsAsg (gCal L__law_told_2 2 (Dx.gCons (gV 9) (Dx.gCons (gB dMod (gB dAdd (gV 8) (gV 1)) (gC (.int 2))) Dx.gNil))) (gNm 12)
def ga_told : GA := Dx.gCons (gV 12) (Dx.gCons (gIf (gTst (gB dIs (gV 11) (gC .non))) (gLst (Dx.gCons (gC (.str "no line")) (Dx.gCons (gV 9) Dx.gNil))) (gLst (Dx.gCons (gC (.str "act")) (Dx.gCons (gV 11) Dx.gNil)))) Dx.gNil)
def gs_back : GS := gsIf (gAndT (gTst (gB dIsNot (gV 11) (gC .non))) (gTst (gB dNe (gCal L__law_line_2 2 (Dx.gCons (gIxN 12 (gC (.int 1))) (Dx.gCons (gV 1) Dx.gNil))) (gLst (Dx.gCons (gC (.str "line")) (Dx.gCons (gV 9) Dx.gNil)))))) (gsCons (gsRet (gC (.bl false)))
  gsNil) gsNil
def gs_asked : GS := gsAsg (gCal L__law_line_2 2 (Dx.gCons (gV 10) (Dx.gCons (gB dMod (gB dAdd (gV 8) (gV 1)) (gC (.int 2))) Dx.gNil))) (gNm 13)
def ga_asked : GA := Dx.gCons (gV 13) (Dx.gCons (gIf (gTru (gCal L__law_is_act_1 1 (Dx.gCons (gV 10) Dx.gNil))) (gLst (Dx.gCons (gC (.str "line")) (Dx.gCons (gCal L__law_written_1 1 (Dx.gCons (gV 10) Dx.gNil)) Dx.gNil))) (gLst (Dx.gCons (gC (.str "no act")) (Dx.gCons (gV 10) Dx.gNil)))) Dx.gNil)
def gs_which : GS := gsAsg (gCalB L__law_take_2 2 0 (Dx.gCons (gC (.int 12)) Dx.gNil)) (gNm 14)
def gs_odd : GS := gsPar 15 16 (Dx.gCons (gCal L__law_odd_3 3 (Dx.gCons (gV 3) (Dx.gCons (gV 2) (Dx.gCons (gV 14) Dx.gNil)))) (Dx.gCons (gCal L__law_odd_3 3 (Dx.gCons (gV 3) (Dx.gCons (gV 2) (Dx.gCons (gV 14) Dx.gNil)))) Dx.gNil))
def ga_odd : GA := Dx.gCons (gCal L__law_told_2 2 (Dx.gCons (gV 15) (Dx.gCons (gV 1) Dx.gNil))) (Dx.gCons (gLst (Dx.gCons (gC (.str "no line")) (Dx.gCons (gV 15) Dx.gNil))) Dx.gNil)
def ga_other : GA := Dx.gCons (gCal L__law_line_2 2 (Dx.gCons (gV 16) (Dx.gCons (gV 1) Dx.gNil))) (Dx.gCons (gLst (Dx.gCons (gC (.str "no act")) (Dx.gCons (gV 16) Dx.gNil))) Dx.gNil)
def rF : WP := wG (gsCons (gsRet (gC (.bl false))) gsNil)
def w_k : WP := wSeq (wG gs_bad) (wLid 10 (wSeq (wG gs_due) (wSeq (wG gs_told) (wSeq (wIf (wNotT (wTru (gSame ga_told))) rF (wG gsNil)) (wSeq (wG gs_back) (wSeq (wG gs_asked) (wSeq (wIf (wNotT (wTru (gSame ga_asked))) rF (wG gsNil)) (wG gsNil))))))))
noncomputable def w_right : WP := wSeq (wG gs_pre) (wSeq (wG gs_act) (wSeq (wG gs_line) (wSeq (wG gs_great) (wSeq (wG gs_one) (wSeq (wForR (gRg1 (Dx.gCons (gC (.int 4)) Dx.gNil)) 8 w_k) (wSeq (wG gs_which) (wSeq (wG gs_odd)
  (wLid 15 (wLid 16 (wSeq (wIf (wNotT (wTru (gSame ga_odd))) rF (wG gsNil)) (wSeq (wRet (wOrV (gB dEq (gV 14) (gC (.int 6))) (gSame ga_other))) (wG gsNil))))))))))))
section
variable {P : Program} {w : World} {K : PySem.W.Frag} {mg : Str → Option Value} {base : Heap}
theorem cal__law_right (W : Wd w K mg base) (c_same : CalG P w K mg base 1 "_law_same" (spS K)) (c__law_take_2 : CalP P w K mg base 1 "_law_take" (spB K 2 L__law_take_2)) (c__law_act_1 : CalP P w K mg base 3 "_law_act" (spB K 1 L__law_act_1)) (c__law_written_1 : CalP P w K mg base 1 "_law_written" (spP K 1 L__law_written_1))
    (c__law_is_number_1 : CalP P w K mg base 1 "_law_is_number" (spP K 1 L__law_is_number_1)) (c__law_line_2 : CalP P w K mg base 6 "_law_line" (spP K 2 L__law_line_2)) (c__law_told_2 : CalP P w K mg base 7 "_law_told" (spP K 2 L__law_told_2)) (c__law_spoilt_line_2 : CalP P w K mg base 2 "_law_spoilt_line" (spB K 2 L__law_spoilt_line_2))
    (c__law_spoilt_act_2 : CalP P w K mg base 2 "_law_spoilt_act" (spB K 2 L__law_spoilt_act_2)) (c__law_read_1 : CalP P w K mg base 3 "_law_read" (spP K 1 L__law_read_1)) (c__law_is_act_1 : CalP P w K mg base 2 "_law_is_act" (spP K 1 L__law_is_act_1)) (c__law_odd_3 : CalP P w K mg base 1 "_law_odd" (spP K 3 L__law_odd_3))
    {ok : List D → Prop} (good : ∀ bs, ok bs → w_right (denB 17 bs []) (fun o => ∃ δ, o = .rt (.bl true) δ)) : CalG P w K mg base 8 "_law_right" (spR K ok) := by
  obtain ⟨fd, F⟩ := W.says.t.d.def_ 33 (d := d__law_right) rfl
  have m : mg "_law_right" = some (.ref (He.ga K "_law_right")) := He.glo_ok W.kin W.ns (W.says.t.d.fact 31 (f := .glo "_law_right") rfl)
  have m_tuple : mg "tuple" = none := He.free_ok W.kin W.ns (W.says.t.d.fact 54 (f := .free "tuple") rfl)
  have m_range : mg "range" = none := He.free_ok W.kin W.ns (W.says.t.d.fact 50 (f := .free "range") rfl)
  have S : FnScope ["_law_box_here", "_law_turn", "_law_act_here", "_law_line_here", "_law_great", "_law_item_here", "_law_one", "_law_text", "_law_k", "_law_bad", "_law_wrong", "_law_due", "_law_told_here", "_law_asked", "_law_which", "_law_odd_here", "_law_other"] ["_law_box_here"] (defScope s__law_right) := ⟨rfl, rfl, rfl, by decide +kernel, rfl, by decide +kernel, by decide +kernel⟩
  have b : Binds K fd ["_law_box_here"] [] := FunD.bindsN F fun _ _ _ _ _ _ us hl => match us, hl with | [_], _ => rfl
  refine ⟨_, fd, _, m, F.kp, okG F S (fun vs H Q E h => ?_) (fun cdv A outer s H vs Q hr hgd h => ?_), b⟩
  · obtain ⟨b, us, bs, rfl, _⟩ := h; rfl
  obtain ⟨b, us, bs, rfl, hb, hu0, hok, q⟩ := h
  have hu := units_of hr
  have main : PSps (cxOf CX0 P w K mg base ["_law_box_here", "_law_turn", "_law_act_here", "_law_line_here", "_law_great", "_law_item_here", "_law_one", "_law_text", "_law_k", "_law_bad", "_law_wrong", "_law_due", "_law_told_here", "_law_asked", "_law_which", "_law_odd_here", "_law_other"] d__law_right.qual d__law_right.scope (He.fAd K d__law_right.at_) cdv A outer s H E0).nox W0 d__law_right.body w_right :=
    (psps_cons (psp_g (pds_set 1 S.nd (pd_calB 0 (c__law_take_2.mono (by decide)) hr (pda_cons pd_int pda_nil))))
    (psps_cons (psp_g (pds_set 2 S.nd (pd_calB 0 (c__law_act_1.mono (by decide)) hr pda_nil)))
    (psps_cons (psp_g (pds_set 3 S.nd (pd_cal (c__law_written_1.mono (by decide)) hr (pda_cons (pd_var 2) pda_nil))))
    (psps_cons (psp_g (pds_set 4 S.nd (pd_ct cd_tuple m_tuple rfl (pda_cons (pd_lc [("_law_item_here", 5)] rfl S.nd (pdi_val (pd_var 2)) (fun _ _ _ _ _ => (pdg_name 5 S.nd)) (fun _ _ _ _ _ => pdts_nil) (fun _ _ _ _ _ => (pd_if (pdt_truth (pd_cal (c__law_is_number_1.mono (by decide)) hr (pda_cons (pd_var 5) pda_nil))) (pd_bin opd_add (pd_bin opd_pow pd_int pd_int) (pd_var 5)) (pd_var 5)))) pda_nil))))
    (psps_cons (psp_g (pds_for PassesOwn.never rfl (pdi_val (pd_lst (pda_cons (pd_var 2) (pda_cons (pd_var 4) pda_nil)))) (pdg_name 6 S.nd)
      (pdss_cons (pds_set 7 S.nd (pd_cal (c__law_written_1.mono (by decide)) hr (pda_cons (pd_var 6) pda_nil)))
      (pdss_cons (pds_if (pdt_w (pdw_or (pdt_not (pdt_truth (pd_sameA (c_same.mono (by decide)) hr hgd (pda_cons (pd_cal (c__law_line_2.mono (by decide)) hr (pda_cons (pd_var 6) (pda_cons (pd_var 1) pda_nil))) (pda_cons (pd_lst (pda_cons pd_str (pda_cons (pd_var 7) pda_nil))) pda_nil)))))
        (pdw_or1 (pdt_not (pdt_truth (pd_sameA (c_same.mono (by decide)) hr hgd (pda_cons (pd_cal (c__law_told_2.mono (by decide)) hr (pda_cons (pd_var 7) (pda_cons (pd_bin opd_sub pd_int (pd_var 1)) pda_nil))) (pda_cons (pd_lst (pda_cons pd_str (pda_cons (pd_var 6) pda_nil))) pda_nil))))))))
        (pdss_cons (pds_ret pd_bl) pdss_nil) pdss_nil) pdss_nil))))
    (psps_cons (psp_for 8 PassesOwn.never rfl (pir_rng1 m_range (pda_cons pd_int pda_nil)) (pdg_name 8 S.nd)
      (psps_cons (psp_g (pds_par 9 10 rfl S.nd (pda_cons (pd_calB 0 (c__law_spoilt_line_2.mono (by decide)) hr (pda_cons (pd_var 3) pda_nil)) (pda_cons (pd_calB 0 (c__law_spoilt_act_2.mono (by decide)) hr (pda_cons (pd_var 2) pda_nil)) pda_nil))))
      (psps_lid 10 (psps_cons (psp_g (pds_set 11 S.nd (pd_cal (c__law_read_1.mono (by decide)) hr (pda_cons (pd_var 9) pda_nil))))
      (psps_cons (psp_g (pds_set 12 S.nd (pd_cal (c__law_told_2.mono (by decide)) hr (pda_cons (pd_var 9) (pda_cons (pd_bin opd_mod (pd_bin opd_add (pd_var 8) (pd_var 1)) pd_int) pda_nil)))))
      (psps_cons (psp_if (ptp_not (ptp_truth (pep_same (c_same.mono (by decide)) hr hgd (pda_cons (pd_var 12) (pda_cons (pd_if (pdt_cmp opd_is (pd_var 11) pd_non) (pd_lst (pda_cons pd_str (pda_cons (pd_var 9) pda_nil))) (pd_lst (pda_cons pd_str (pda_cons (pd_var 11) pda_nil)))) pda_nil))))) (psps_g (pdss_cons (pds_ret pd_bl) pdss_nil)) psps_nil)
      (psps_cons (psp_g (pds_if (pdt_w (pdw_and (pdt_cmp opd_isNot (pd_var 11) pd_non) (pdw_and1 (pdt_cmp (opd_ne hu) (pd_cal (c__law_line_2.mono (by decide)) hr (pda_cons (pd_ixN 12 pd_int) (pda_cons (pd_var 1) pda_nil))) (pd_lst (pda_cons pd_str (pda_cons (pd_var 9) pda_nil))))))) (pdss_cons (pds_ret pd_bl) pdss_nil) pdss_nil))
      (psps_cons (psp_g (pds_set 13 S.nd (pd_cal (c__law_line_2.mono (by decide)) hr (pda_cons (pd_var 10) (pda_cons (pd_bin opd_mod (pd_bin opd_add (pd_var 8) (pd_var 1)) pd_int) pda_nil)))))
      (psps_cons (psp_if (ptp_not (ptp_truth (pep_same (c_same.mono (by decide)) hr hgd (pda_cons (pd_var 13) (pda_cons (pd_if (pdt_truth (pd_cal (c__law_is_act_1.mono (by decide)) hr (pda_cons (pd_var 10) pda_nil))) (pd_lst (pda_cons pd_str (pda_cons (pd_cal (c__law_written_1.mono (by decide)) hr (pda_cons (pd_var 10) pda_nil)) pda_nil))) (pd_lst (pda_cons pd_str (pda_cons (pd_var 10) pda_nil)))) pda_nil))))) (psps_g (pdss_cons (pds_ret pd_bl) pdss_nil)) psps_nil)
      psps_nil)))))))))
    (psps_cons (psp_g (pds_set 14 S.nd (pd_calB 0 (c__law_take_2.mono (by decide)) hr (pda_cons pd_int pda_nil))))
    (psps_cons (psp_g (pds_par 15 16 rfl S.nd (pda_cons (pd_cal (c__law_odd_3.mono (by decide)) hr (pda_cons (pd_var 3) (pda_cons (pd_var 2) (pda_cons (pd_var 14) pda_nil)))) (pda_cons (pd_cal (c__law_odd_3.mono (by decide)) hr (pda_cons (pd_var 3) (pda_cons (pd_var 2) (pda_cons (pd_var 14) pda_nil)))) pda_nil))))
    (psps_lid 15 (psps_lid 16 (psps_cons (psp_if (ptp_not (ptp_truth (pep_same (c_same.mono (by decide)) hr hgd (pda_cons (pd_cal (c__law_told_2.mono (by decide)) hr (pda_cons (pd_var 15) (pda_cons (pd_var 1) pda_nil))) (pda_cons (pd_lst (pda_cons pd_str (pda_cons (pd_var 15) pda_nil))) pda_nil))))) (psps_g (pdss_cons (pds_ret pd_bl) pdss_nil)) psps_nil)
    (psps_cons (psp_ret (pep_or (pd_cmp (opd_eq hu) (pd_var 14) pd_int) (pep_same (c_same.mono (by decide)) hr hgd (pda_cons (pd_cal (c__law_line_2.mono (by decide)) hr (pda_cons (pd_var 16) (pda_cons (pd_var 1) pda_nil))) (pda_cons (pd_lst (pda_cons pd_str (pda_cons (pd_var 16) pda_nil))) pda_nil)))))
    psps_nil))))))))))))
  obtain ⟨t, p1, p2⟩ := main
  refine ⟨t, p1.nox, ?_⟩
  have S0 := sd_startB (N := ["_law_box_here", "_law_turn", "_law_act_here", "_law_line_here", "_law_great", "_law_item_here", "_law_one", "_law_text", "_law_k", "_law_bad", "_law_wrong", "_law_due", "_law_told_here", "_law_asked", "_law_which", "_law_odd_here", "_law_other"]) (K := K) (H0 := fun _ => none) (H := H) (fun _ _ z => nomatch z) (b := b) rfl hb hu0 (ws := []) (ds := []) .nil
  refine p2 ⟨H, fun _ => none, [b]⟩ _ _ rfl (good bs hok) _ H _ S0 _ fun o ⟨δ, e⟩ => ?_
  subst e
  intro v H0' H' σ' S' r
  cases r
  exact q H' fun a o ha e => S'.fr a o e (by simpa using ha)
end
end P57
set_option Elab.async false
set_option linter.all false
set_option maxRecDepth 100000
set_option maxHeartbeats 4000000
namespace P57
open PySem PySem.Spec PyProof.Rows L2 Dx
/-! what repr can be asked -/
structure Rp (n k : Nat) (d : D) : Prop where
  sh : (toP d).showable = true
  le : (toP d).leavesShort 1000 = true
  we : (toP d).weight ≤ n
  de : (toP d).depth ≤ k
theorem Rp.mono {n k m l : Nat} {d : D} (h : Rp n k d) (h1 : n ≤ m) (h2 : k ≤ l) : Rp m l d := ⟨h.sh, h.le, Nat.le_trans h.we h1, Nat.le_trans h.de h2⟩
theorem rp_all {n k : Nat} : ∀ {xs : List D}, (∀ x ∈ xs, Rp n k x) → PyData.showableAll (toPs xs) = true ∧ PyData.leavesShortAll 1000 (toPs xs) = true ∧ PyData.weightAll (toPs xs) ≤ (n + 1) * xs.length ∧ PyData.depthAll (toPs xs) ≤ k
  | [], _ => ⟨rfl, rfl, Nat.zero_le _, Nat.zero_le _⟩
  | x :: xs, h => by
    obtain ⟨a1, a2, a3, a4⟩ := h x (List.mem_cons_self ..)
    obtain ⟨b1, b2, b3, b4⟩ := rp_all fun y hy => h y (List.mem_cons_of_mem _ hy)
    refine ⟨?_, ?_, ?_, ?_⟩
    · show ((toP x).showable && PyData.showableAll (toPs xs)) = true
      rw [a1, b1]; rfl
    · show ((toP x).leavesShort 1000 && PyData.leavesShortAll 1000 (toPs xs)) = true
      rw [a2, b2]; rfl
    · show (toP x).weight + 1 + PyData.weightAll (toPs xs) ≤ _
      rw [List.length_cons, Nat.mul_succ]
      omega
    · show max (toP x).depth (PyData.depthAll (toPs xs)) ≤ _
      omega
theorem rp_tup {n k : Nat} {xs : List D} (h : ∀ x ∈ xs, Rp n k x) : Rp ((n + 1) * xs.length) (k + 1) (.tup xs) := by
  obtain ⟨b1, b2, b3, b4⟩ := rp_all h
  exact ⟨b1, b2, b3, Nat.succ_le_succ b4⟩
theorem rp_lst {n k : Nat} {xs : List D} (h : ∀ x ∈ xs, Rp n k x) : Rp ((n + 1) * xs.length) (k + 1) (.lst xs) := by
  obtain ⟨b1, b2, b3, b4⟩ := rp_all h
  exact ⟨b1, b2, b3, Nat.succ_le_succ b4⟩
theorem rp_lid {n k : Nat} {a : Nat} {xs : List D} (h : ∀ x ∈ xs, Rp n k x) : Rp ((n + 1) * xs.length) (k + 1) (.lid a xs) := by
  obtain ⟨b1, b2, b3, b4⟩ := rp_all h
  exact ⟨b1, b2, b3, Nat.succ_le_succ b4⟩
theorem rp_two {a b : D} (ha : Rp 100 4 a) (hb : Rp 9000 4 b) : reprOk (.lst [a, b]) = true := by
  obtain ⟨a1, a2, a3, a4⟩ := ha
  obtain ⟨b1, b2, b3, b4⟩ := hb
  show (((toP a).showable && ((toP b).showable && true)) && (((toP a).leavesShort 1000 && ((toP b).leavesShort 1000 && true)) && (decide ((toP a).weight + 1 + ((toP b).weight + 1 + 0) ≤ 10000) && decide (max (toP a).depth (max (toP b).depth 0) + 1 ≤ 40)))) = true
  rw [a1, b1, a2, b2, decide_eq_true (by omega), decide_eq_true (by omega)]
  rfl
theorem rp_str {n : Nat} {z : Str} (h : z.length ≤ n) (hc : ∀ c ∈ z.cps.toList, c < 128) : Rp n 0 (.str z) := by
  refine ⟨rfl, ?_, h, Nat.le_refl _⟩
  show (z.cps.toList.all fun c => decide (c < 16 ^ 8)) = true
  exact List.all_eq_true.mpr fun c h => decide_eq_true (Nat.lt_trans (hc c h) (by decide))
theorem rp_lit {n : Nat} {z : Str} (h : (decide (z.length ≤ n) && z.cps.toList.all fun c => decide (c < 128)) = true) : Rp n 0 (.str z) := by
  rw [Bool.and_eq_true] at h
  exact rp_str (of_decide_eq_true h.1) fun c hc => of_decide_eq_true (List.all_eq_true.mp h.2 c hc)
theorem shown_int (i : Int) : (PyData.shown (.int i)) = Str.ofString (toString i) := rfl
theorem len_num {i : Int} {k : Nat} (hk : 0 < k) (h0 : 0 ≤ i) (h : i < 10 ^ k) : (Str.ofString (toString i)).length ≤ k := by
  obtain ⟨n, rfl⟩ := Int.eq_ofNat_of_zero_le h0
  have h1 : n < 10 ^ k := by exact_mod_cast h
  rw [len_nil, PySem.W.KIN.signs_num, List.length_map]
  exact toDigits_len_pow (by decide) hk h1
theorem cps_num {i : Int} (h0 : 0 ≤ i) : ∀ c ∈ (Str.ofString (toString i)).cps.toList, c < 128 := fun c hc => by
  obtain ⟨n, rfl⟩ := Int.eq_ofNat_of_zero_le h0
  rw [PySem.W.KIN.signs_num] at hc
  have := rng2_iff.mp (List.all_eq_true.mp (isNumL_dig (num_digits n)) c hc)
  omega
theorem rp_int {i : Int} (h0 : 0 ≤ i) (h : i < 10 ^ 500) : Rp 2000 0 (.int i) := by
  have hl := log_fit h0 h
  refine ⟨decide_eq_true hl, decide_eq_true ?_, ?_, Nat.le_refl _⟩
  · rw [shown_int]
    exact Nat.le_trans (len_num (by decide) h0 h) (by decide)
  · show (if (i == 0) = true then 0 else i.natAbs.log2 + 1) ≤ 2000
    split <;> omega
theorem rp_intM {i : Int} (h0 : 0 ≤ i) (h : i < 10 ^ 40) : Rp 200 0 (.int i) := by
  have r := rp_int h0 (Int.lt_of_lt_of_le h pow_le)
  refine ⟨r.sh, r.le, ?_, r.de⟩
  show (if (i == 0) = true then 0 else i.natAbs.log2 + 1) ≤ 200
  split
  · omega
  · rename_i c
    obtain ⟨n, rfl⟩ := Int.eq_ofNat_of_zero_le h0
    have h1 : n < 10 ^ 40 := by exact_mod_cast h
    have hn : n ≠ 0 := fun z => by subst z; exact c rfl
    have : n.log2 < 180 := (Nat.log2_lt hn).mpr (Nat.lt_of_lt_of_le h1 (Nat.le_of_ble_eq_true (by decide +kernel)))
    show n.log2 + 1 ≤ 200
    omega
/-- items -/
theorem rp_okN {d : D} (h : okN d) (hi : isIS d = true) : Rp 2000 0 d := by
  cases d with
  | int i => exact rp_int (of_decide_eq_true hi) (h (of_decide_eq_true hi))
  | str z => exact (rp_str h.1 h.2).mono (by decide) (Nat.le_refl _)
  | _ => cases hi
theorem rp_okM {d : D} (h : okM d) (hi : isIS d = true) : Rp 200 0 d := by
  cases d with
  | int i => exact rp_intM (of_decide_eq_true hi) (h (of_decide_eq_true hi))
  | str z => exact (rp_str h.1 h.2).mono (by decide) (Nat.le_refl _)
  | _ => cases hi
theorem scal_is {d : D} (hi : isIS d = true) : scalarD d = true := by
  cases d <;> first | rfl | cases hi
/-- an act that was drawn: its items -/
structure Drn (xs : List D) : Prop where
  len : xs.length ≤ 4
  it : ∀ y ∈ xs, okM y ∧ isIS y = true
  pos : 0 < xs.length
theorem ActM.drn {d : D} (h : ActM d) : ∃ xs, d = .tup xs ∧ Drn xs ∧ isActD d = true := by
  obtain ⟨k, x, xs, rfl, ha, hm⟩ := h
  refine ⟨_, rfl, ⟨?_, fun y hy => ⟨hm y hy, ?_⟩, by simp⟩, ha⟩
  · have := okAll_len ha
    have := kind_len k
    simp only [List.length_cons] at *
    omega
  · rcases List.mem_cons.mp hy with rfl | hy
    · rfl
    · exact okAll_is ha y hy
/-- a value in the place of an act's item -/
structure Odd (d : D) : Prop where
  n : okN d
  r : Rp 200 2 d
theorem odd_of {d : D} (h : okM d) (hi : isIS d = true) : Odd d := ⟨h.n, (rp_okM h hi).mono (Nat.le_refl _) (by decide)⟩
theorem pick14 (a0 a1 a2 a3 a4 a5 a6 a7 a8 a9 aa ab ac ad : D) {d : Int} (h0 : 0 ≤ d) (h1 : d < 14) (P : D → Prop) (p0 : P a0) (p1 : P a1) (p2 : P a2) (p3 : P a3) (p4 : P a4) (p5 : P a5) (p6 : P a6) (p7 : P a7) (p8 : P a8) (p9 : P a9) (pa : P aa) (pb : P ab) (pc : P ac) (pd : P ad) :
    ∃ a, dIx (.lst [a0, a1, a2, a3, a4, a5, a6, a7, a8, a9, aa, ab, ac, ad]) (.int d) = some a ∧ P a := by
  obtain ⟨n, rfl⟩ := Int.eq_ofNat_of_zero_le h0
  have hn : n < 14 := by omega
  match n, hn with
  | 0, _ => exact ⟨a0, rfl, p0⟩
  | 1, _ => exact ⟨a1, rfl, p1⟩
  | 2, _ => exact ⟨a2, rfl, p2⟩
  | 3, _ => exact ⟨a3, rfl, p3⟩
  | 4, _ => exact ⟨a4, rfl, p4⟩
  | 5, _ => exact ⟨a5, rfl, p5⟩
  | 6, _ => exact ⟨a6, rfl, p6⟩
  | 7, _ => exact ⟨a7, rfl, p7⟩
  | 8, _ => exact ⟨a8, rfl, p8⟩
  | 9, _ => exact ⟨a9, rfl, p9⟩
  | 10, _ => exact ⟨aa, rfl, pa⟩
  | 11, _ => exact ⟨ab, rfl, pb⟩
  | 12, _ => exact ⟨ac, rfl, pc⟩
  | 13, _ => exact ⟨ad, rfl, pd⟩
/-- what a spoilt act is -/
def Wrg (r : D) : Prop := (∃ xs, r = .tup xs ∧ xs.length ≤ 6 ∧ ∀ y ∈ xs, Odd y) ∨ ∃ xs, r = .lst xs ∧ Drn xs
theorem tup_add {xs ys : List D} (h : xs.length + ys.length ≤ 1000) : dAdd (.tup xs) (.tup ys) = some (.tup (xs ++ ys)) := if_pos (Nat.le_trans h (by decide))
theorem odd_lit {z : Str} (h : (decide (z.length ≤ 100) && z.cps.toList.all fun c => decide (c < 128)) = true) : Odd (.str z) := by
  have r := rp_lit h
  rw [Bool.and_eq_true] at h
  exact ⟨⟨Nat.le_trans (of_decide_eq_true h.1) (by decide), fun c hc => of_decide_eq_true (List.all_eq_true.mp h.2 c hc)⟩, r.mono (by decide) (by decide)⟩
def tildes : Str := ⟨Array.replicate 41 126⟩
theorem l_spoilt_act {n : Nat} {bs xs : List D} (b : Bx n bs) (hn : n ≤ 800000) (ha : Drn xs) : ∃ r bs', L__law_spoilt_act_2 bs [.tup xs] = some (r, bs') ∧ Wrg r ∧ Bx (n + 3) bs' := by
  have hlen := ha.len
  have hpos := ha.pos
  obtain ⟨kd, bs1, t1, k0, k1, b1⟩ := l_take b (by omega) (m := 6) (by decide) (by decide)
  obtain ⟨at_, bs2, t2, a0, a1, b2⟩ := l_take b1 (by omega) (m := (xs.length : Nat)) (by omega) (by omega)
  obtain ⟨d3, bs3, t3, s0, s1, b3⟩ := l_take b2 (by omega) (m := 14) (by decide) (by decide)
  have p19 : dPow (.int 10) (.int 19) = some (.int (10 ^ 19)) := pow_ok (k := 19) (by decide) (by decide)
  have m41 : dMulS (.str "~") (.int 41) = some (.str tildes) := by
    have e : (List.replicate (41 : Int).toNat ("~" : Str).cps).foldl (· ++ ·) #[] = tildes.cps := by decide +kernel
    have c : (1 < (41 : Int) ∧ (41 : Int) < 10000 ∧ 0 < ("~" : Str).length ∧ ("~" : Str).length < 1000) := by decide +kernel
    show dRepS (.str "~") (.int 41) = _
    unfold dRepS
    simp only
    rw [if_pos c, e]
  obtain ⟨od, io, ho⟩ := pick14 (.bl true) (.bl false) .non (.int (-1)) (.str "0") (.str "") (.lst [.int 0]) (.tup [.int 0]) (.dct [("a", .int 0)]) (.str "ab\n") (.str "A") (.str "abcdefghi") (.int (10 ^ 19)) (.str tildes) s0 s1 Odd
    ⟨trivial, by constructor <;> decide⟩ ⟨trivial, by constructor <;> decide⟩ ⟨trivial, by constructor <;> decide⟩ ⟨fun z => absurd z (by decide), by constructor <;> decide +kernel⟩ (odd_lit (by decide +kernel)) (odd_lit (by decide +kernel))
    ⟨trivial, by constructor <;> decide +kernel⟩ ⟨trivial, by constructor <;> decide +kernel⟩ ⟨trivial, by constructor <;> decide +kernel⟩ (odd_lit (by decide +kernel)) (odd_lit (by decide +kernel)) (odd_lit (by decide +kernel))
    (odd_of (fun _ => by decide +kernel) (by decide)) (odd_lit (by decide +kernel))
  let δ0 : Den := [.ow false bs, .pl (.tup xs), .no, .no, .no, .no]
  let δ1 : Den := [.ow false bs1, .pl (.tup xs), .no, .no, .no, .no]
  let δ2 : Den := [.ow false bs2, .pl (.tup xs), .no, .no, .no, .no]
  let δ3 : Den := [.ow false bs3, .pl (.tup xs), .pl (.int kd), .pl (.int at_), .pl (.int d3), .no]
  let δ4 : Den := [.ow false bs3, .pl (.tup xs), .pl (.int kd), .pl (.int at_), .pl (.int d3), .pl od]
  have e1 : gsPar3 2 3 4 (Dx.gCons (gCalB L__law_take_2 2 0 (Dx.gCons (gC (.int 6)) Dx.gNil)) (Dx.gCons (gCalB L__law_take_2 2 0 (Dx.gCons (gCall (on1 dLen1) (Dx.gCons (gV 1) Dx.gNil)) Dx.gNil)) (Dx.gCons (gCalB L__law_take_2 2 0 (Dx.gCons (gC (.int 14)) Dx.gNil)) Dx.gNil))) δ0 = some (.nx δ3) :=
    x_par3 (δ1 := [.ow false bs3, .pl (.tup xs), .no, .no, .no, .no]) (x_cons (δ1 := δ1) (x_calB (δ := δ0) rfl (x_one x_c) rfl rfl t1) (x_cons (δ1 := δ2) (x_calB (δ := δ1) rfl (x_one (x_call (g := on1 dLen1) (x_one (x_v (d := .tup xs) rfl)) rfl)) rfl rfl t2) (x_one (x_calB (δ := δ2) rfl (x_one x_c) rfl rfl t3))))
  have e2 : gsAsg (gB dIx (gLst (Dx.gCons (gC (.bl true)) (Dx.gCons (gC (.bl false)) (Dx.gCons (gC .non) (Dx.gCons (gNeg (gC (.int 1))) (Dx.gCons (gC (.str "0")) (Dx.gCons (gC (.str "")) (Dx.gCons (gLst (Dx.gCons (gC (.int 0)) Dx.gNil)) (Dx.gCons (gTup (Dx.gCons (gC (.int 0)) Dx.gNil)) (Dx.gCons (gDct1 "a" (gC (.int 0))) (Dx.gCons (gC (.str "ab\n")) (Dx.gCons (gC (.str "A")) (Dx.gCons (gC (.str "abcdefghi")) (Dx.gCons (gB dPow (gC (.int 10)) (gC (.int 19))) (Dx.gCons (gB dMulS (gC (.str "~")) (gC (.int 41))) Dx.gNil))))))))))))))) (gV 4)) (gNm 5) δ3 = some (.nx δ4) :=
    x_asg (d := od) (δ1 := δ3) (x_b (x_lst (x_cons x_c (x_cons x_c (x_cons x_c (x_cons (x_neg x_c) (x_cons x_c (x_cons x_c (x_cons (x_lst (x_one x_c) (sz_le rfl)) (x_cons (x_tup (x_one x_c) (sz_le rfl)) (x_cons (x_dct1 x_c) (x_cons x_c (x_cons x_c (x_cons x_c (x_cons (x_b x_c x_c p19) (x_one (x_b x_c x_c m41))))))))))))))) (sz_le rfl)) (x_v (d := .int d3) rfl) io) rfl
  have vx : gV 1 δ4 = some (.tup xs, δ4) := x_v rfl
  have vk : gV 2 δ4 = some (.int kd, δ4) := x_v rfl
  have va : gV 3 δ4 = some (.int at_, δ4) := x_v rfl
  have vo : gV 5 δ4 = some (od, δ4) := x_v rfl
  obtain ⟨m, rfl⟩ := Int.eq_ofNat_of_zero_le a0
  have s1' : gSl (gV 1) gNo (gSo (gV 3)) δ4 = some (.tup (xs.take m), δ4) := x_sl vx x_no (x_so va) (by show some (D.tup (Dx.cutD xs none (some (m : Int)))) = _; rw [cut_to])
  have s2' : gSl (gV 1) (gSo (gB dAdd (gV 3) (gC (.int 1)))) gNo δ4 = some (.tup (xs.drop (m + 1)), δ4) := x_sl vx (x_so (x_b va x_c rfl)) x_no (by show some (D.tup (Dx.cutD xs (some ((m : Int) + 1)) none)) = _; rw [show ((m : Int) + 1) = ((m + 1 : Nat) : Int) from rfl, cut_from])
  have lt : (xs.take m).length ≤ 4 := by rw [List.length_take]; omega
  have ld : (xs.drop (m + 1)).length ≤ 4 := by rw [List.length_drop]; omega
  have lt2 : (xs.take m).length + (xs.drop (m + 1)).length ≤ 4 := by rw [List.length_take, List.length_drop]; omega
  have ot : ∀ y ∈ xs.take m, Odd y := fun y hy => odd_of (ha.it y (List.mem_of_mem_take hy)).1 (ha.it y (List.mem_of_mem_take hy)).2
  have odr : ∀ y ∈ xs.drop (m + 1), Odd y := fun y hy => odd_of (ha.it y (List.mem_of_mem_drop hy)).1 (ha.it y (List.mem_of_mem_drop hy)).2
  have ox : ∀ y ∈ xs, Odd y := fun y hy => odd_of (ha.it y hy).1 (ha.it y hy).2
  have t5 : gTup (Dx.gCons (gV 5) Dx.gNil) δ4 = some (.tup [od], δ4) := x_tup (x_one vo) (sz_le rfl)
  have main : ∃ r, gs__law_spoilt_act (denB 6 bs [.tup xs]) = some (.rt r δ4) ∧ Wrg r := by
    unfold gs__law_spoilt_act
    by_cases g1 : kd < 3
    · refine ⟨.tup ((xs.take m ++ [od]) ++ xs.drop (m + 1)), x_sc e1 (x_sc e2 (x_scr (x_sif (k := true) (x_tst (x_b vk x_c (isT_lt g1))) (fun _ => x_retL (x_b (x_b s1' t5 (tup_add (by simp only [List.length_cons, List.length_nil]; omega))) s2' (tup_add (by simp only [List.length_append, List.length_cons, List.length_nil]; omega)))) (fun z => by cases z)))), .inl ⟨_, rfl, ?_, fun y hy => ?_⟩⟩
      · simp only [List.length_append, List.length_cons, List.length_nil]; omega
      · rcases List.mem_append.mp hy with hy | hy
        · rcases List.mem_append.mp hy with hy | hy
          · exact ot y hy
          · rw [List.mem_singleton.mp hy]; exact ho
        · exact odr y hy
    · have q1 : ∀ g : GS, gsIf (gTst (gB dLt (gV 2) (gC (.int 3)))) g gsNil δ4 = some (.nx δ4) := fun g => x_sif (k := false) (x_tst (x_b vk x_c (isF_lt g1))) (fun z => by cases z) (fun _ => x_sn)
      by_cases g2 : kd = 3
      · refine ⟨.tup (xs.take m ++ xs.drop (m + 1)), x_sc e1 (x_sc e2 (x_sc (q1 _) (x_scr (x_sif (k := true) (x_tst (x_b vk x_c (eqi_T g2))) (fun _ => x_retL (x_b s1' s2' (tup_add (by omega)))) (fun z => by cases z))))), .inl ⟨_, rfl, ?_, fun y hy => ?_⟩⟩
        · simp only [List.length_append]; omega
        · rcases List.mem_append.mp hy with hy | hy
          · exact ot y hy
          · exact odr y hy
      · have q2 : ∀ g : GS, gsIf (gTst (gB dEq (gV 2) (gC (.int 3)))) g gsNil δ4 = some (.nx δ4) := fun g => x_sif (k := false) (x_tst (x_b vk x_c (eqi_F g2))) (fun z => by cases z) (fun _ => x_sn)
        by_cases g3 : kd = 4
        · refine ⟨.tup (xs ++ [od]), x_sc e1 (x_sc e2 (x_sc (q1 _) (x_sc (q2 _) (x_retL (x_if (k := true) (x_tst (x_b vk x_c (eqi_T g3))) (fun _ => x_b vx t5 (tup_add (by simp only [List.length_cons, List.length_nil]; omega))) (fun z => by cases z)))))), .inl ⟨_, rfl, ?_, fun y hy => ?_⟩⟩
          · simp only [List.length_append, List.length_cons, List.length_nil]; omega
          · rcases List.mem_append.mp hy with hy | hy
            · exact ox y hy
            · rw [List.mem_singleton.mp hy]; exact ho
        · exact ⟨.lst xs, x_sc e1 (x_sc e2 (x_sc (q1 _) (x_sc (q2 _) (x_retL (x_if (k := false) (x_tst (x_b vk x_c (eqi_F g3))) (fun z => by cases z) (fun _ => x_call (g := on1 dList) (x_one vx) rfl)))))), .inr ⟨xs, rfl, ha⟩⟩
  obtain ⟨r, e, hw⟩ := main
  exact ⟨r, bs3, of_rtB e rfl, hw, b3.mono (by omega)⟩
end P57
set_option Elab.async false
set_option linter.all false
set_option maxRecDepth 100000
set_option maxHeartbeats 4000000
namespace P57
open PySem PySem.Spec PyProof.Rows L2 Dx
/-! told and line -/
theorem okD_rd {z : Str} (h : okS z) : okD (rd z) := by
  unfold rd rdAct
  split
  · refine okD_cand h (okS_head h) _ fun w hw => okS_pieces h (List.mem_of_mem_tail hw)
  · trivial
theorem l_act_in_no {d : D} (h : isiB d "str" = false) : L_act_in_1 [d] = some .non := by
  refine of_rt (δ' := [.pl d, .no, .no, .no, .no, .no, .no, .no]) ?_
  unfold gs_act_in
  exact x_scr (x_sif (k := true) (x_not (k := false) (x_tru (x_isi (x_v (d := d) rfl)) (by rw [h]; rfl))) (fun _ => x_retL x_c) (fun z => by cases z))
def rdOf (d : D) : D := match d with | .str z => rd z | _ => .non
theorem l_act_in_any (d : D) (h : ∀ z, d = .str z → okS z) : L_act_in_1 [d] = some (rdOf d) := by
  cases d with
  | str z => exact l_act_in (h z rfl)
  | _ => exact l_act_in_no rfl
theorem lx_read_act (d : D) (h : ∀ z, d = .str z → okS z) : LX_read_act [d] = some (if isNon (rdOf d) = true then .error ("InvalidLine", "given", d) else .ok (rdOf d)) := by
  have e := l_act_in_any d h
  have e0 : gsAsg (gCal L_act_in_1 1 (Dx.gCons (gV 0) Dx.gNil)) (gNm 1) [.pl d, .no] = some (.nx [.pl d, .pl (rdOf d)]) := x_asg (x_cal (x_one (x_v rfl)) rfl e) rfl
  have ts : gTst (gB dIs (gV 1) (gC .non)) [.pl d, .pl (rdOf d)] = some (isNon (rdOf d), [.pl d, .pl (rdOf d)]) := by
    refine x_tst (x_b (x_v rfl) x_c ?_)
    cases rdOf d <;> rfl
  cases g : isNon (rdOf d) with
  | true =>
    rw [g] at ts
    have q : gs_read_act (den0 2 [d]) = some (.ex "InvalidLine" "given" d [.pl d, .pl (rdOf d)]) := by
      unfold gs_read_act
      refine x_sc e0 (x_sce (x_sif (k := true) ts (fun _ => ?_) (fun z => by cases z)))
      refine x_sce ?_
      unfold gsRaise
      rw [x_v (d := d) rfl]
    show gOfX 2 gs_read_act [d] = _
    unfold gOfX
    rw [q]
    rfl
  | false =>
    rw [g] at ts
    have q : gs_read_act (den0 2 [d]) = some (.rt (rdOf d) [.pl d, .pl (rdOf d)]) := by
      unfold gs_read_act
      exact x_sc e0 (x_sc (x_sif (k := false) ts (fun z => by cases z) (fun _ => x_sn)) (x_retL (x_v rfl)))
    show gOfX 2 gs_read_act [d] = _
    unfold gOfX
    rw [q]
    rfl
theorem calO_ok {L : List D → Option Res} {d r : D} {δ : Den} (h0 : δ[0]? = some (.pl d)) (h : L [d] = some (.ok r)) : gCalO L 1 (Dx.gCons (gV 0) Dx.gNil) δ = some (r, δ) ∧ gCalE L 1 (Dx.gCons (gV 0) Dx.gNil) δ = none := by
  have e := x_one (x_v (i := 0) h0)
  refine ⟨?_, ?_⟩
  · unfold gCalO; simp only [e, List.length_cons, List.length_nil, if_true, h]
  · unfold gCalE; simp only [e, List.length_cons, List.length_nil, if_true, h]
theorem calO_ex {L : List D → Option Res} {d r : D} {c f : Str} {δ : Den} (h0 : δ[0]? = some (.pl d)) (h : L [d] = some (.error (c, f, r))) : gCalE L 1 (Dx.gCons (gV 0) Dx.gNil) δ = some (c, f, r, δ) := by
  have e := x_one (x_v (i := 0) h0)
  unfold gCalE; simp only [e, List.length_cons, List.length_nil, if_true, h]
theorem tst_turn (d : D) (t : Int) : gTst (gB dEq (gV 1) (gC (.int 0))) [.pl d, .pl (.int t), .no] = some (decide (t = 0), [.pl d, .pl (.int t), .no]) := x_tst (x_b (x_v rfl) x_c (Dx.eq_int _ _))
theorem gxc_none {g : GE} {gx hx : GX} {δ δ1 : Den} {d : D} (h : gx δ = none) (h1 : g δ = some (d, δ1)) : gxCons g gx hx δ = hx δ1 := by
  unfold gxCons; simp only [h, h1]
theorem gxc_some {g : GE} {gx hx : GX} {δ : Den} {r : Str × Str × D × Den} (h : gx δ = some r) : gxCons g gx hx δ = some r := by
  unfold gxCons; simp only [h]
theorem gxi {t : GT} {ga gb : GX} {δ δ1 : Den} {k : Bool} {r : Option (Str × Str × D × Den)} (h : t δ = some (k, δ1)) (h1 : ga δ1 = r) (h2 : gb δ1 = r) : gxIf t ga gb δ = r := by
  unfold gxIf; simp only [h]
  cases k <;> assumption
theorem told_ok {L : List D → Option Res} {d r : D} {t : Int} {s : Str} (h : L [d] = some (.ok r)) :
    gsX (gx_told s L) (gsRet (gl_told s L)) [.pl d, .pl (.int t), .no] = some (.rt (.lst [.str s, r]) [.pl d, .pl (.int t), .no]) := by
  obtain ⟨e1, e2⟩ := calO_ok (L := L) (δ := [.pl d, .pl (.int t), .no]) rfl h
  have ts := tst_turn d t
  have g1 : gIf (gTst (gB dEq (gV 1) (gC (.int 0)))) (gCalO L 1 (Dx.gCons (gV 0) Dx.gNil)) (gCalO L 1 (Dx.gCons (gV 0) Dx.gNil)) [.pl d, .pl (.int t), .no] = some (r, [.pl d, .pl (.int t), .no]) := x_if ts (fun _ => e1) (fun _ => e1)
  have gx : gx_told s L [.pl d, .pl (.int t), .no] = none := by
    unfold gx_told
    refine (gxc_none (d := .str s) rfl x_c).trans ?_
    exact (gxc_none (gxi ts e2 e2) g1).trans rfl
  unfold gsX
  rw [gx]
  exact x_ret (x_lst (x_cons x_c (x_one g1)) (sz_le rfl))
theorem told_ex {L : List D → Option Res} {d r : D} {c f : Str} {t : Int} {s : Str} (h : L [d] = some (.error (c, f, r))) :
    gsX (gx_told s L) (gsRet (gl_told s L)) [.pl d, .pl (.int t), .no] = some (.ex c f r [.pl d, .pl (.int t), .no]) := by
  have e2 := calO_ex (L := L) (δ := [.pl d, .pl (.int t), .no]) rfl h
  have ts := tst_turn d t
  have gx : gx_told s L [.pl d, .pl (.int t), .no] = some (c, f, r, [.pl d, .pl (.int t), .no]) := by
    unfold gx_told
    refine (gxc_none (d := .str s) rfl x_c).trans ?_
    exact gxc_some (gxi ts e2 e2)
  unfold gsX
  rw [gx]
theorem try_rt {x f s : Str} {i : Nat} {gb : GS} {δ δ1 : Den} {d : D} (h : gb δ = some (.rt d δ1)) : gsTry x f s i gb δ = some (.rt d δ1) := by
  unfold gsTry; rw [h]
theorem try_ex {x f s : Str} {i : Nat} {gb : GS} {δ δ1 : Den} {d : D} (h : gb δ = some (.ex x f d δ1)) (hi : i < δ1.length) : gsTry x f s i gb δ = some (.rt (.lst [.str s, d]) δ1) := by
  unfold gsTry; rw [h]
  exact if_pos ⟨rfl, rfl, hi⟩
def toldD (d : D) : D := if isNon (rdOf d) = true then .lst [.str "no line", d] else .lst [.str "act", rdOf d]
theorem l_told (d : D) (t : Int) (h : ∀ z, d = .str z → okS z) : L__law_told_2 [d, .int t] = some (toldD d) := by
  have e := lx_read_act d h
  refine of_rt (δ' := [.pl d, .pl (.int t), .no]) ?_
  unfold gs__law_told toldD
  cases g : isNon (rdOf d) with
  | true =>
    rw [g] at e
    exact x_scr (try_ex (x_sce (told_ex e)) (Nat.lt_succ_self 2))
  | false =>
    rw [g] at e
    exact x_scr (try_rt (x_scr (told_ok e)))
def lineD (d : D) : D := if isActD d = true then .lst [.str "line", .str (writ (actItems d))] else .lst [.str "no act", d]
theorem l_line (d : D) (t : Int) (h : okD d) : L__law_line_2 [d, .int t] = some (lineD d) := by
  have e := lx_act_line h
  refine of_rt (δ' := [.pl d, .pl (.int t), .no]) ?_
  unfold gs__law_line lineD
  cases g : isActD d with
  | false =>
    rw [g] at e
    exact x_scr (try_ex (x_sce (told_ex e)) (Nat.lt_succ_self 2))
  | true =>
    rw [g] at e
    exact x_scr (try_rt (x_scr (told_ok e)))
end P57
set_option Elab.async false
set_option linter.all false
set_option maxRecDepth 100000
set_option maxHeartbeats 4000000
namespace P57
open PySem PySem.Spec PyProof.Rows L2 Dx
/-! ### texts of acts -/
theorem sum_map_le {B : Nat} : ∀ (ws : List (List Nat)), (∀ w ∈ ws, w.length ≤ B) → (ws.map fun w => w.length + 1).sum ≤ (B + 1) * ws.length
  | [], _ => Nat.zero_le _
  | w :: ws, h => by
    have h1 := h w (List.mem_cons_self ..)
    have h2 := sum_map_le ws fun y hy => h y (List.mem_cons_of_mem _ hy)
    rw [List.map_cons, List.sum_cons, List.length_cons, Nat.mul_succ]
    omega
theorem writ_SL {B : Nat} {xs : List D} (h : ∀ x ∈ xs, (strD x).length ≤ B ∧ ∀ c ∈ (strD x).cps.toList, c < 128) : SL ((B + 1) * xs.length) (writ xs) := by
  have e := writ_cps xs
  refine ⟨?_, fun c hc => ?_⟩
  · rw [len_nil, e]
    by_cases hn : xs = []
    · subst hn; simp [joinL]
    · have h1 := joinL_len 32 (xs.map fun x => (strD x).cps.toList) (by simpa using hn)
      have h2 := sum_map_le (B := B) (xs.map fun x => (strD x).cps.toList) (fun w hw => by
        obtain ⟨x, hx, rfl⟩ := List.mem_map.mp hw
        rw [← len_nil]; exact (h x hx).1)
      rw [List.length_map] at h2
      omega
  · rw [e] at hc
    rcases joinL_mem 32 _ c hc with rfl | ⟨w, hw, hx⟩
    · decide
    · obtain ⟨x, hx', rfl⟩ := List.mem_map.mp hw
      exact (h x hx').2 c hx
theorem strD_M {d : D} {k : Nat} (hk : 40 ≤ k) (h : okS (strD d)) (hi : isIS d = true) (hm : ∀ i, d = .int i → i < 10 ^ k) (hs : ∀ z, d = .str z → z.length ≤ k) : (strD d).length ≤ k := by
  cases d with
  | int i => exact len_num (by omega) (of_decide_eq_true hi) (hm i rfl)
  | str z => exact hs z rfl
  | _ => cases hi
theorem strD_okS {d : D} (h : okN d) (hi : isIS d = true) : okS (strD d) := by
  refine ⟨len_strD h hi, ?_⟩
  cases d with
  | int i => exact cps_num (of_decide_eq_true hi)
  | str z => exact h.2
  | _ => cases hi
/-- an act whose line is short -/
structure Act (xs : List D) : Prop where
  act : isActD (.tup xs) = true
  len : xs.length ≤ 4
  it : ∀ y ∈ xs, okN y ∧ isIS y = true
  sl : SL 200 (writ xs)
theorem Act.d {xs : List D} (h : Act xs) : okD (.tup xs) := ⟨Nat.le_trans h.len (by decide), fun y hy => (h.it y hy).1⟩
theorem Act.head {xs : List D} (h : Act xs) : ∃ k r, xs = .str k :: r ∧ okS k := by
  obtain ⟨k, x, r, e, _⟩ := act_parts h.act
  injection e with e
  subst e
  exact ⟨k, x :: r, rfl, (h.it _ (List.mem_cons_self ..)).1⟩
theorem Act.wr {xs : List D} (h : Act xs) : L__law_written_1 [.tup xs] = some (.str (writ xs)) := by
  obtain ⟨k, r, rfl, hk⟩ := h.head
  exact l_written hk (by have := h.len; simp only [List.length_cons] at this; omega) fun x hx => h.it x (List.mem_cons_of_mem _ hx)
theorem Act.pos {xs : List D} (h : Act xs) : 0 < (writ xs).length := by
  obtain ⟨k, x, r, e, _⟩ := act_parts h.act
  injection e with e
  subst e
  rw [len_nil, writ_cps]
  have h1 := joinL_len 32 ((D.str k :: x :: r).map fun x => (strD x).cps.toList) (by simp)
  rw [List.map_cons, List.map_cons, List.map_cons, List.map_cons, List.sum_cons, List.sum_cons] at h1
  rw [List.map_cons, List.map_cons]
  omega
theorem Act.rp {xs : List D} (h : Act xs) : Rp 9000 4 (.tup xs) := by
  have := rp_tup (n := 2000) (k := 0) (xs := xs) fun y hy => rp_okN (h.it y hy).1 (h.it y hy).2
  refine this.mono ?_ (by decide)
  have hl := h.len
  have : 2001 * xs.length ≤ 2001 * 4 := Nat.mul_le_mul_left _ hl
  omega
theorem SL.rp {N : Nat} {z : Str} (h : SL N z) (hN : N ≤ 9000) : Rp 9000 4 (.str z) := (rp_str h.1 h.2).mono hN (by decide)
theorem Drn.act {xs : List D} (h : Drn xs) (ha : isActD (.tup xs) = true) : Act xs := by
  refine ⟨ha, h.len, fun y hy => ⟨(h.it y hy).1.n, (h.it y hy).2⟩, (writ_SL (B := 40) fun x hx => ?_).mono ?_⟩
  · obtain ⟨m, i⟩ := h.it x hx
    have ho := strD_okS m.n i
    refine ⟨strD_M (Nat.le_refl _) ho i (fun j e => ?_) (fun z e => ?_), ho.2⟩
    · subst e; exact m (of_decide_eq_true i)
    · subst e; exact m.1
  · have := h.len
    have : 41 * xs.length ≤ 41 * 4 := Nat.mul_le_mul_left _ h.len
    omega
/-! great numbers -/
def gr : D → D
  | .int i => if 0 ≤ i then .int (10 ^ 19 + i) else .int i
  | d => d
theorem it_gr {s : So} {d : D} (h : itOk s d = true) : itOk s (gr d) = true := by
  cases d with
  | int i =>
    cases s with
    | num =>
      have h0 : 0 ≤ i := of_decide_eq_true h
      show isCount (if 0 ≤ i then .int (10 ^ 19 + i) else .int i) = true
      rw [if_pos h0]
      exact decide_eq_true (by omega)
    | cell => cases h
    | txt => cases h
  | _ => exact h
theorem okAll_gr : ∀ {ss : List So} {xs : List D}, okAll ss xs = true → okAll ss (xs.map gr) = true
  | [], [], _ => rfl
  | s :: ss, x :: xs, h => by
    have h : (itOk s x && okAll ss xs) = true := h
    rw [Bool.and_eq_true] at h
    show (itOk s (gr x) && okAll ss (xs.map gr)) = true
    rw [it_gr h.1, okAll_gr h.2]; rfl
  | [], _ :: _, h => by cases h
  | _ :: _, [], h => by cases h
theorem Drn.great {xs : List D} (h : Drn xs) (ha : isActD (.tup xs) = true) : Act (xs.map gr) := by
  have is_gr : ∀ {d : D}, isIS d = true → isIS (gr d) = true := fun {d} hi => by
    cases d with
    | int i =>
      have h0 : 0 ≤ i := of_decide_eq_true hi
      show isIS (if 0 ≤ i then .int (10 ^ 19 + i) else .int i) = true
      rw [if_pos h0]; exact decide_eq_true (by omega)
    | _ => exact hi
  have big : ∀ {y : D}, okM y ∧ isIS y = true → (∀ i, gr y = .int i → i < 10 ^ 41) ∧ (∀ z, gr y = .str z → okM (.str z)) := fun {y} hy => by
    cases y with
    | int i =>
      have h0 : 0 ≤ i := of_decide_eq_true hy.2
      have h1 := hy.1 h0
      have e : gr (.int i) = .int (10 ^ 19 + i) := if_pos h0
      refine ⟨fun j ej => ?_, fun z ez => ?_⟩
      · rw [e] at ej; cases ej
        have : (10 : Int) ^ 19 + 10 ^ 40 ≤ 10 ^ 41 := by decide +kernel
        omega
      · rw [e] at ez; cases ez
    | str z => exact ⟨fun i e => (by cases e), fun w e => (by cases e; exact hy.1)⟩
    | _ => cases hy.2
  have p41 : (10 : Int) ^ 41 ≤ 10 ^ 500 := by decide +kernel
  have it : ∀ y ∈ xs.map gr, okN y ∧ isIS y = true := fun y hy => by
    obtain ⟨x, hx, rfl⟩ := List.mem_map.mp hy
    have hi := is_gr (h.it x hx).2
    obtain ⟨b1, b2⟩ := big (h.it x hx)
    refine ⟨?_, hi⟩
    cases e : gr x with
    | int i => exact fun _ => Int.lt_of_lt_of_le (b1 i e) p41
    | str z => exact (b2 z e).n
    | _ => trivial
  obtain ⟨k, x, r, e, hk, _⟩ := act_parts ha
  injection e with e
  subst e
  refine ⟨okAll_gr (xs := x :: r) hk, by rw [List.length_map]; exact h.len, it, (writ_SL (B := 41) fun y hy => ?_).mono ?_⟩
  · obtain ⟨x', hx, rfl⟩ := List.mem_map.mp hy
    obtain ⟨i1, i2⟩ := it _ hy
    obtain ⟨b1, b2⟩ := big (h.it x' hx)
    have ho := strD_okS i1 i2
    exact ⟨strD_M (by decide) ho i2 b1 (fun z e => Nat.le_trans (b2 z e).1 (by decide)), ho.2⟩
  · have := h.len
    rw [List.length_map]
    have : 42 * (D.str k :: x :: r).length ≤ 42 * 4 := Nat.mul_le_mul_left _ h.len
    omega
/-! the same -/
theorem same_two {s : Str} {d : D} (hs : Rp 100 4 (.str s)) (hd : Rp 9000 4 d) (hl : isiB d "list" = false) : SameA [.str s, d] (.str s) d := ⟨rp_two hs hd, rp_two hs hd, rfl, hl⟩
theorem same_lid {s : Str} {a : Nat} {ds : List D} (hs : Rp 100 4 (.str s)) (h1 : ds.all scalarD = true) (h2 : ds.length ≤ 10) (h3 : ∀ e ∈ ds, Rp 500 0 e) : SameB [.str s, .lid a ds] (.str s) (.lid a ds) a ds := by
  refine ⟨s, rfl, rfl, rfl, h1, Nat.lt_of_le_of_lt h2 (by decide), rp_two hs ((rp_lid h3).mono ?_ (by decide)), rp_two hs ((rp_lid (n := 500) (k := 0) (xs := ds ++ [more]) fun e he => ?_).mono ?_ (by decide))⟩
  · have : 501 * ds.length ≤ 501 * 10 := Nat.mul_le_mul_left _ h2
    omega
  · rcases List.mem_append.mp he with he | he
    · exact h3 e he
    · rw [List.mem_singleton.mp he]
      exact rp_lit (by decide +kernel)
  · rw [List.length_append, List.length_singleton]
    have : 501 * (ds.length + 1) ≤ 501 * 11 := Nat.mul_le_mul_left _ (by omega)
    omega
theorem r_line : Rp 100 4 (.str "line") := (rp_lit (n := 100) (by decide +kernel)).mono (Nat.le_refl _) (by decide)
theorem r_act : Rp 100 4 (.str "act") := (rp_lit (n := 100) (by decide +kernel)).mono (Nat.le_refl _) (by decide)
theorem r_noline : Rp 100 4 (.str "no line") := (rp_lit (n := 100) (by decide +kernel)).mono (Nat.le_refl _) (by decide)
theorem r_noact : Rp 100 4 (.str "no act") := (rp_lit (n := 100) (by decide +kernel)).mono (Nat.le_refl _) (by decide)
/-! steps -/
theorem ws_g {g : GS} {w : WP} {δ δ1 : Den} {Φ : Out → Prop} (h : g δ = some (.nx δ1)) (h2 : w δ1 Φ) : wSeq (wG g) w δ Φ := ⟨_, h, h2⟩
theorem ws_same {ga : GA} {w : WP} {δ δ1 : Den} {Φ : Out → Prop} {t : List D} {d0 d1 : D} (h : ga δ = some ([.lst t, .lst [d0, d1]], δ1)) (s : SameA t d0 d1) (h2 : w δ1 Φ) : wSeq (wIf (wNotT (wTru (gSame ga))) rF (wG gsNil)) w δ Φ :=
  ⟨t, d0, d1, δ1, h, .inl ⟨s, true, rfl, ⟨_, rfl, h2⟩⟩⟩
theorem ws_sameB {ga : GA} {w : WP} {δ δ1 : Den} {Φ : Out → Prop} {t : List D} {d0 d1 : D} {a : Nat} {ds : List D} (h : ga δ = some ([.lst t, .lst [d0, d1]], δ1)) (s : SameB t d0 d1 a ds) (h2 : w (δ1.map (mutE a ds)) Φ) : wSeq (wIf (wNotT (wTru (gSame ga))) rF (wG gsNil)) w δ Φ :=
  ⟨t, d0, d1, δ1, h, .inr ⟨a, ds, s, true, rfl, ⟨_, rfl, h2⟩⟩⟩
end P57
set_option Elab.async false
set_option linter.all false
set_option maxRecDepth 100000
set_option maxHeartbeats 4000000
namespace P57
open PySem PySem.Spec PyProof.Rows L2 Dx
/-! ### the parts of _law_right -/
theorem toldD_writ {a : D} (h : isActD a = true) : toldD (.str (writ (actItems a))) = .lst [.str "act", a] := by
  have e : rdOf (.str (writ (actItems a))) = a := writ_rd h
  unfold toldD
  rw [e]
  obtain ⟨k, x, xs, rfl, _⟩ := act_parts h
  rfl
theorem lineD_act {xs : List D} (h : Act xs) : lineD (.tup xs) = .lst [.str "line", .str (writ xs)] := by
  unfold lineD
  rw [if_pos h.act]; rfl
/-- one act, one great act -/
theorem one_turn {xs : List D} (h : Act xs) {δ : Den} {t : Int} (h6 : δ[6]? = some (.pl (.tup xs))) (h1 : δ[1]? = some (.pl (.int t))) (hl : 7 < δ.length) :
    (gsCons (gsAsg (gCal L__law_written_1 1 (Dx.gCons (gV 6) Dx.gNil)) (gNm 7))
  (gsCons (gsIf (gOrT (gNotT (gTru (gSameA (Dx.gCons (gCal L__law_line_2 2 (Dx.gCons (gV 6) (Dx.gCons (gV 1) Dx.gNil))) (Dx.gCons (gLst (Dx.gCons (gC (.str "line")) (Dx.gCons (gV 7) Dx.gNil))) Dx.gNil)))))
    (gNotT (gTru (gSameA (Dx.gCons (gCal L__law_told_2 2 (Dx.gCons (gV 7) (Dx.gCons (gB dSub (gC (.int 1)) (gV 1)) Dx.gNil))) (Dx.gCons (gLst (Dx.gCons (gC (.str "act")) (Dx.gCons (gV 6) Dx.gNil))) Dx.gNil))))))
    (gsCons (gsRet (gC (.bl false))) gsNil) gsNil) gsNil)) δ = some (.nx (δ.set 7 (.pl (.str (writ xs))))) := by
  have e7 : gsAsg (gCal L__law_written_1 1 (Dx.gCons (gV 6) Dx.gNil)) (gNm 7) δ = some (.nx (δ.set 7 (.pl (.str (writ xs))))) := x_asg (x_cal (x_one (x_v h6)) rfl h.wr) rfl
  generalize hδ : δ.set 7 (.pl (.str (writ xs))) = ε
  have v7 : ε[7]? = some (.pl (.str (writ xs))) := by rw [← hδ, List.getElem?_set_self hl]
  have v6 : ε[6]? = some (.pl (.tup xs)) := by rw [← hδ, List.getElem?_set_ne (by decide)]; exact h6
  have v1 : ε[1]? = some (.pl (.int t)) := by rw [← hδ, List.getElem?_set_ne (by decide)]; exact h1
  rw [hδ] at e7
  have f1 := l_line (.tup xs) t h.d
  rw [lineD_act h] at f1
  have f2 := l_told (.str (writ xs)) (1 - t) fun z e => by cases e; exact h.sl.ok (by decide)
  rw [show toldD (.str (writ xs)) = .lst [.str "act", .tup xs] from toldD_writ h.act] at f2
  have s1 := x_sameA (δ := ε) (x_cons (x_cal (x_cons (x_v v6) (x_one (x_v v1))) rfl f1) (x_one (x_lst (x_cons x_c (x_one (x_v v7))) (sz_le rfl)))) (same_two r_line (h.sl.rp (by decide)) rfl)
  have s2 := x_sameA (δ := ε) (x_cons (x_cal (x_cons (x_v v7) (x_one (x_b x_c (x_v v1) (show dSub (.int 1) (.int t) = some (.int (1 - t)) from rfl)))) rfl f2) (x_one (x_lst (x_cons x_c (x_one (x_v v6))) (sz_le rfl)))) (same_two r_act h.rp rfl)
  refine x_sc e7 (x_sc (x_sif (k := false) (δ1 := ε) (x_orT (k := false) (l := false) (x_not (k := true) (x_tru s1 rfl)) fun _ => x_not (k := true) (x_tru s2 rfl)) (fun z => by cases z) (fun _ => x_sn)) x_sn)
/-- a value in the place of an act -/
def OkW (W : D) : Prop := okD W ∧ ((isiB W "list" = false ∧ Rp 9000 4 W) ∨ ∃ a ds, W = .lid a ds ∧ ds.all scalarD = true ∧ ds.length ≤ 10 ∧ ∀ e ∈ ds, Rp 500 0 e)
theorem Drn.flat {xs : List D} (h : Drn xs) : xs.all scalarD = true ∧ xs.length ≤ 10 ∧ ∀ e ∈ xs, Rp 500 0 e :=
  ⟨List.all_eq_true.mpr fun y hy => scal_is (h.it y hy).2, Nat.le_trans h.len (by decide), fun y hy => (rp_okM (h.it y hy).1 (h.it y hy).2).mono (by decide) (Nat.le_refl _)⟩
theorem okW_tup {xs : List D} (hl : xs.length ≤ 6) (h : ∀ y ∈ xs, Odd y) : OkW (.tup xs) := by
  refine ⟨⟨Nat.le_trans hl (by decide), fun y hy => (h y hy).n⟩, .inl ⟨rfl, (rp_tup (n := 200) (k := 2) fun y hy => (h y hy).r).mono ?_ (by decide)⟩⟩
  have : 201 * xs.length ≤ 201 * 6 := Nat.mul_le_mul_left _ hl
  omega
theorem okW_lid {xs : List D} (h : Drn xs) (a : Nat) : OkW (.lid a xs) := ⟨trivial, .inr ⟨a, xs, rfl, h.flat.1, h.flat.2.1, h.flat.2.2⟩⟩
/-- the shape of the names in the loop -/
def Shp (t : Int) (xs : List D) (n : Nat) (δ : Den) : Prop := ∃ bs e4 e5 e6 e7 e8 e9 e10 e11 e12 e13 e14 e15 e16, δ = [.ow false bs, .pl (.int t), .pl (.tup xs), .pl (.str (writ xs)), e4, e5, e6, e7, e8, e9, e10, e11, e12, e13, e14, e15, e16] ∧ Bx n bs
theorem bx_scal {n : Nat} {bs : List D} (b : Bx n bs) : bs.all scalarD = true := by
  obtain ⟨g, k, r, c, rfl, _⟩ := b.ex
  rfl
theorem shp_mut {t : Int} {xs : List D} {n : Nat} {δ : Den} (a : Nat) (ds : List D) (hx : xs.all scalarD = true) (h : Shp t xs n δ) : Shp t xs n (δ.map (mutE a ds)) := by
  obtain ⟨bs, e4, e5, e6, e7, e8, e9, e10, e11, e12, e13, e14, e15, e16, rfl, b⟩ := h
  refine ⟨bs, mutE a ds e4, mutE a ds e5, mutE a ds e6, mutE a ds e7, mutE a ds e8, mutE a ds e9, mutE a ds e10, mutE a ds e11, mutE a ds e12, mutE a ds e13, mutE a ds e14, mutE a ds e15, mutE a ds e16, ?_, b⟩
  show [mutE a ds (.ow false bs), mutE a ds (.pl (.int t)), mutE a ds (.pl (.tup xs)), mutE a ds (.pl (.str (writ xs))), _, _, _, _, _, _, _, _, _, _, _, _, _] = _
  have m0 : mutE a ds (.ow false bs) = .ow false bs := if_pos (bx_scal b)
  have m2 : mutE a ds (.pl (.tup xs)) = .pl (.tup xs) := if_pos hx
  rw [m0, m2]
  rfl
theorem ne_same {s z : Str} (hs : okT s = true) (hz : okT z = true) : dNe (.lst [.str s, .str z]) (.lst [.str s, .str z]) = some (.bl false) := by
  have h1 := str_shaped hs
  have h2 := str_shaped hz
  have c1 : PyData.canLay0 (.str s) = true := by
    have : ((PyData.str s).canLay0 && decide ((PyData.str s).depth ≤ 64)) = true := h1
    rw [Bool.and_eq_true] at this; exact this.1
  have c2 : PyData.canLay0 (.str z) = true := by
    have : ((PyData.str z).canLay0 && decide ((PyData.str z).depth ≤ 64)) = true := h2
    rw [Bool.and_eq_true] at this; exact this.1
  have c3 : SeqAt.shaped (toP (.lst [.str s, .str z])) = true := by
    show (((PyData.str s).canLay0 && ((PyData.str z).canLay0 && true)) && decide (PyData.depth (.list [.str s, .str z]) ≤ 64)) = true
    rw [c1, c2]; rfl
  unfold dNe
  have ok : eqOk (.lst [.str s, .str z]) (.lst [.str s, .str z]) = true := by
    unfold eqOk
    rw [c3]; rfl
  rw [if_pos ok]
  have : dEqB (.lst [.str s, .str z]) (.lst [.str s, .str z]) = true := by
    show ((s == s) && ((z == z) && true)) = true
    simp
  rw [this]; rfl
theorem mod2 (i : Int) : dMod (.int i) (.int 2) = some (.int (i % 2)) := mod_ok (by decide)
theorem rd_Act {z : Str} (h : okS z) {a : D} (e : rd z = a) (hn : a ≠ .non) : isActD a = true ∧ writ (actItems a) = z ∧ okD a ∧ Rp 9000 4 a ∧ isiB a "list" = false := by
  obtain ⟨h1, h2⟩ := rd_writ e hn
  have h3 : okD a := e ▸ okD_rd h
  obtain ⟨k, x, xs, rfl, ha, hl⟩ := act_parts h1
  refine ⟨h1, h2, h3, ?_, rfl⟩
  have it : ∀ y ∈ D.str k :: x :: xs, Rp 2000 0 y := fun y hy => rp_okN (h3.2 y hy) (by
    rcases List.mem_cons.mp hy with rfl | hy
    · rfl
    · exact okAll_is ha y hy)
  refine (rp_tup it).mono ?_ (by decide)
  simp only [List.length_cons]
  omega
theorem turn_k {t i : Int} {xs : List D} {n : Nat} {bs : List D} {e4 e5 e6 e7 e9 e10 e11 e12 e13 e14 e15 e16 : Ent} (b : Bx n bs) (hn : n ≤ 700000) (hd : Drn xs) (hA : Act xs) {Φ : Out → Prop} (hΦ : ∀ δ', Shp t xs (n + 13) δ' → Φ (.nx δ')) :
    w_k [.ow false bs, .pl (.int t), .pl (.tup xs), .pl (.str (writ xs)), e4, e5, e6, e7, .pl (.int i), e9, e10, e11, e12, e13, e14, e15, e16] Φ := by
  obtain ⟨bad, bs1, t1, hbad, b1⟩ := l_spoilt_line b (by omega) hA.sl hA.pos
  obtain ⟨wr, bs2, t2, hw, b2⟩ := l_spoilt_act b1 (by omega) hd
  have hok := hbad.ok (by decide)
  let δ0 : Den := [.ow false bs, .pl (.int t), .pl (.tup xs), .pl (.str (writ xs)), e4, e5, e6, e7, .pl (.int i), e9, e10, e11, e12, e13, e14, e15, e16]
  let δ1 : Den := [.ow false bs1, .pl (.int t), .pl (.tup xs), .pl (.str (writ xs)), e4, e5, e6, e7, .pl (.int i), e9, e10, e11, e12, e13, e14, e15, e16]
  let δ2 : Den := [.ow false bs2, .pl (.int t), .pl (.tup xs), .pl (.str (writ xs)), e4, e5, e6, e7, .pl (.int i), e9, e10, e11, e12, e13, e14, e15, e16]
  let ε : D → Den := fun W => [.ow false bs2, .pl (.int t), .pl (.tup xs), .pl (.str (writ xs)), e4, e5, e6, e7, .pl (.int i), .pl (.str bad), .pl W, e11, e12, e13, e14, e15, e16]
  have e1 : gs_bad δ0 = some (.nx (ε wr)) := x_par (δ1 := δ2) (x_cons (δ1 := δ1) (x_calB (δ := δ0) rfl (x_one (x_v rfl)) rfl rfl t1) (x_one (x_calB (δ := δ1) rfl (x_one (x_v rfl)) rfl rfl t2)))
  have rest : ∀ W, OkW W → wSeq (wG gs_due) (wSeq (wG gs_told) (wSeq (wIf (wNotT (wTru (gSame ga_told))) rF (wG gsNil)) (wSeq (wG gs_back) (wSeq (wG gs_asked) (wSeq (wIf (wNotT (wTru (gSame ga_asked))) rF (wG gsNil)) (wG gsNil)))))) (ε W) Φ := fun W ⟨hWd, hW⟩ => by
    let ζ : Den := [.ow false bs2, .pl (.int t), .pl (.tup xs), .pl (.str (writ xs)), e4, e5, e6, e7, .pl (.int i), .pl (.str bad), .pl W, .pl (rd bad), e12, e13, e14, e15, e16]
    let η : Den := [.ow false bs2, .pl (.int t), .pl (.tup xs), .pl (.str (writ xs)), e4, e5, e6, e7, .pl (.int i), .pl (.str bad), .pl W, .pl (rd bad), .pl (toldD (.str bad)), e13, e14, e15, e16]
    let θ : Den := [.ow false bs2, .pl (.int t), .pl (.tup xs), .pl (.str (writ xs)), e4, e5, e6, e7, .pl (.int i), .pl (.str bad), .pl W, .pl (rd bad), .pl (toldD (.str bad)), .pl (lineD W), e14, e15, e16]
    refine ws_g (δ1 := ζ) (x_asg (x_cal (x_one (x_v rfl)) rfl (l_law_read hok)) rfl) ?_
    have hkt : ∀ {δ : Den}, δ[8]? = some (.pl (.int i)) → δ[1]? = some (.pl (.int t)) → gB dMod (gB dAdd (gV 8) (gV 1)) (gC (.int 2)) δ = some (.int ((i + t) % 2), δ) := fun h8 h1 => x_b (x_b (x_v h8) (x_v h1) rfl) x_c (mod2 _)
    refine ws_g (δ1 := η) (x_asg (x_cal (x_cons (x_v rfl) (x_one (hkt rfl rfl))) rfl (l_told (.str bad) ((i + t) % 2) fun z e => by cases e; exact hok)) rfl) ?_
    have tsd : gTst (gB dIs (gV 11) (gC .non)) η = some (isNon (rd bad), η) := x_tst (x_b (x_v rfl) x_c (by cases rd bad <;> rfl))
    have tsn : gTst (gB dIsNot (gV 11) (gC .non)) η = some (!isNon (rd bad), η) := x_tst (x_b (x_v rfl) x_c (by cases rd bad <;> rfl))
    -- the law's own reading is what is told, and is written back
    have both : ∃ tt d0 d1, ga_told η = some ([.lst tt, .lst [d0, d1]], η) ∧ SameA tt d0 d1 ∧ gs_back η = some (.nx η) := by
      cases g : isNon (rd bad) with
      | true =>
        rw [g] at tsd tsn
        have ez : toldD (.str bad) = .lst [.str "no line", .str bad] := if_pos g
        refine ⟨[.str "no line", .str bad], .str "no line", .str bad, ?_, same_two r_noline (hbad.rp (by decide)) rfl, ?_⟩
        · refine x_cons (x_v (by show some (Ent.pl (toldD (.str bad))) = _; rw [ez])) (x_one (x_if (k := true) tsd (fun _ => x_lst (x_cons x_c (x_one (x_v rfl))) (sz_le rfl)) (fun z => by cases z)))
        · exact x_sif (k := false) (x_andT (k := false) (l := false) tsn (fun z => by cases z)) (fun z => by cases z) (fun _ => x_sn)
      | false =>
        rw [g] at tsd tsn
        have hne : rd bad ≠ .non := fun z => by rw [z] at g; cases g
        obtain ⟨a1, a2, a3, a4, a5⟩ := rd_Act hok rfl hne
        have ez : toldD (.str bad) = .lst [.str "act", rd bad] := if_neg (by show ¬ isNon (rd bad) = true; rw [g]; decide)
        have v12 : η[12]? = some (.pl (.lst [.str "act", rd bad])) := by show some (Ent.pl (toldD (.str bad))) = _; rw [ez]
        refine ⟨[.str "act", rd bad], .str "act", rd bad, ?_, same_two r_act a4 a5, ?_⟩
        · exact x_cons (x_v v12) (x_one (x_if (k := false) tsd (fun z => by cases z) (fun _ => x_lst (x_cons x_c (x_one (x_v rfl))) (sz_le rfl))))
        · have hl := l_line (rd bad) t a3
          have el : lineD (rd bad) = .lst [.str "line", .str bad] := by unfold lineD; rw [if_pos a1, a2]
          rw [el] at hl
          have ix : gIxN 12 (gC (.int 1)) η = some (rd bad, η) := x_ixN x_c (by unfold hasV; rw [v12]) v12 rfl
          refine x_sif (k := false) (x_andT (k := true) (l := false) tsn (fun _ => x_tst (x_b (x_cal (x_cons ix (x_one (x_v rfl))) rfl hl) (x_lst (x_cons x_c (x_one (x_v rfl))) (sz_le rfl)) (ne_same (by decide +kernel) hok.t)))) (fun z => by cases z) (fun _ => x_sn)
    obtain ⟨tt, d0, d1, ea, sa, eb⟩ := both
    refine ws_same ea sa (ws_g eb ?_)
    refine ws_g (δ1 := θ) (x_asg (x_cal (x_cons (x_v rfl) (x_one (hkt rfl rfl))) rfl (l_line W ((i + t) % 2) hWd)) rfl) ?_
    have shp : Shp t xs (n + 13) θ := ⟨bs2, _, _, _, _, _, _, _, _, _, _, _, _, _, rfl, b2.mono (by omega)⟩
    have tact : gTru (gCal L__law_is_act_1 1 (Dx.gCons (gV 10) Dx.gNil)) θ = some (isActD W, θ) := x_tru (x_cal (x_one (x_v rfl)) rfl (l_law_is_act hWd.a)) rfl
    rcases hW with ⟨hnl, hrp⟩ | ⟨a, ds, rfl, f1, f2, f3⟩
    · cases g : isActD W with
      | true =>
        rw [g] at tact
        obtain ⟨k, x, ys, rfl, ha, hlen⟩ := act_parts g
        have itW : ∀ y ∈ D.str k :: x :: ys, okN y ∧ isIS y = true := fun y hy => ⟨hWd.2 y hy, by
          rcases List.mem_cons.mp hy with rfl | hy
          · rfl
          · exact okAll_is ha y hy⟩
        have hwr := l_written (k := k) (xs := x :: ys) (hWd.2 _ (List.mem_cons_self ..)) (by simp only [List.length_cons]; omega) fun y hy => itW y (List.mem_cons_of_mem _ hy)
        have hsl := writ_SL (B := 500) (xs := .str k :: x :: ys) fun y hy => strD_okS (itW y hy).1 (itW y hy).2
        have ez : lineD (.tup (.str k :: x :: ys)) = .lst [.str "line", .str (writ (.str k :: x :: ys))] := if_pos g
        refine ws_same (t := [.str "line", .str (writ (.str k :: x :: ys))]) (d0 := .str "line") (d1 := .str (writ (.str k :: x :: ys))) (δ1 := θ) ?_ (same_two r_line ((rp_str hsl.1 hsl.2).mono ?_ (by decide)) rfl) ⟨_, rfl, hΦ _ shp⟩
        · exact x_cons (x_v (by show some (Ent.pl (lineD _)) = _; rw [ez])) (x_one (x_if (k := true) tact (fun _ => x_lst (x_cons x_c (x_one (x_cal (x_one (x_v rfl)) rfl hwr))) (sz_le rfl)) (fun z => by cases z)))
        · simp only [List.length_cons]; omega
      | false =>
        rw [g] at tact
        have ez : lineD W = .lst [.str "no act", W] := if_neg (by rw [g]; decide)
        refine ws_same (t := [.str "no act", W]) (d0 := .str "no act") (d1 := W) (δ1 := θ) ?_ (same_two r_noact hrp hnl) ⟨_, rfl, hΦ _ shp⟩
        exact x_cons (x_v (by show some (Ent.pl (lineD _)) = _; rw [ez])) (x_one (x_if (k := false) tact (fun z => by cases z) (fun _ => x_lst (x_cons x_c (x_one (x_v rfl))) (sz_le rfl))))
    · have tact : gTru (gCal L__law_is_act_1 1 (Dx.gCons (gV 10) Dx.gNil)) θ = some (false, θ) := tact
      refine ws_sameB (t := [.str "no act", .lid a ds]) (d0 := .str "no act") (d1 := .lid a ds) (δ1 := θ) ?_ (same_lid r_noact f1 f2 f3) ⟨_, rfl, hΦ _ (shp_mut a ds hd.flat.1 shp)⟩
      exact x_cons (x_v rfl) (x_one (x_if (k := false) tact (fun z => by cases z) (fun _ => x_lst (x_cons x_c (x_one (x_v rfl))) (sz_le rfl))))
  refine ws_g e1 ?_
  rcases hw with ⟨ys, rfl, hl, ho⟩ | ⟨ys, rfl, hdy⟩
  · exact rest _ (okW_tup hl ho)
  · exact fun a => rest _ (okW_lid hdy a)
end P57
set_option Elab.async false
set_option linter.all false
set_option maxRecDepth 100000
set_option maxHeartbeats 4000000
namespace P57
open PySem PySem.Spec PyProof.Rows L2 Dx
/-! ### values that are neither -/
structure OddV (r : D) : Prop where
  non : isNon (rdOf r) = true
  i : ∀ z, r = .str z → okS z
  d : okD r
  k : (isiB r "list" = false ∧ Rp 9000 4 r) ∨ ∃ es, r = .lst es ∧ es.all scalarD = true ∧ es.length ≤ 9 ∧ ∀ e ∈ es, Rp 500 0 e
theorem oddv_lit {z : Str} (h : (decide (z.length ≤ 100) && z.cps.toList.all fun c => decide (c < 128)) = true) (h2 : isNon (rd z) = true) : OddV (.str z) := by
  have r := rp_lit h
  rw [Bool.and_eq_true] at h
  refine ⟨h2, fun w e => ?_, trivial, .inl ⟨rfl, r.mono (by decide) (by decide)⟩⟩
  cases e
  exact ⟨Nat.le_trans (of_decide_eq_true h.1) (by decide), fun c hc => of_decide_eq_true (List.all_eq_true.mp h.2 c hc)⟩
theorem oddv_flat {r : D} (h1 : isNon (rdOf r) = true) (h2 : ∀ z, r ≠ .str z) (h3 : okD r) (h4 : isiB r "list" = false) (h5 : Rp 9000 4 r) : OddV r := ⟨h1, fun z e => absurd e (h2 z), h3, .inl ⟨h4, h5⟩⟩
theorem l_odd {xs : List D} (hA : Act xs) {d : Int} (h0 : 0 ≤ d) (h1 : d < 12) : ∃ r, L__law_odd_3 [.str (writ xs), .tup xs, .int d] = some r ∧ OddV r ∧ (d = 6 ∨ isActD r = false) := by
  have hz := hA.sl
  let δ : Den := [.pl (.str (writ xs)), .pl (.tup xs), .pl (.int d)]
  let l : List D := [.non, .bl true, .int 0, .lst [.str (writ xs)], .tup [.str (writ xs)], .dct [("line", .int 0)], .tup xs, .lst [], .str "", .str " ", .str "tick", .str "write 0 a"]
  have key : ∀ r, dIx (.lst l) (.int d) = some r → L__law_odd_3 [.str (writ xs), .tup xs, .int d] = some r := fun r hr => by
    refine of_rt (δ' := δ) ?_
    unfold gs__law_odd
    have v0 : gV 0 δ = some (.str (writ xs), δ) := x_v rfl
    exact x_retL (x_b (x_lst (x_cons x_c (x_cons x_c (x_cons x_c (x_cons (x_lst (x_one v0) (sz_le rfl)) (x_cons (x_tup (x_one v0) (sz_le rfl)) (x_cons (x_dct1 x_c) (x_cons (x_v rfl) (x_cons (x_lst x_nil (sz_le rfl)) (x_cons x_c (x_cons x_c (x_cons x_c (x_one x_c)))))))))))) (sz_le rfl)) (x_v rfl) hr)
  have rz : Rp 500 0 (.str (writ xs)) := (rp_str hz.1 hz.2).mono (by decide) (Nat.le_refl _)
  obtain ⟨n, rfl⟩ := Int.eq_ofNat_of_zero_le h0
  have hn : n < 12 := by omega
  match n, hn with
  | 0, _ => exact ⟨_, key .non rfl, oddv_flat rfl (fun z e => by cases e) trivial rfl (by constructor <;> decide), .inr rfl⟩
  | 1, _ => exact ⟨_, key (.bl true) rfl, oddv_flat rfl (fun z e => by cases e) trivial rfl (by constructor <;> decide), .inr rfl⟩
  | 2, _ => exact ⟨_, key (.int 0) rfl, oddv_flat rfl (fun z e => by cases e) trivial rfl (by constructor <;> decide +kernel), .inr rfl⟩
  | 3, _ => exact ⟨_, key (.lst [.str (writ xs)]) rfl, ⟨rfl, fun z e => (by cases e), trivial, .inr ⟨_, rfl, rfl, Nat.le_of_ble_eq_true rfl, fun e he => by rw [List.mem_singleton.mp he]; exact rz⟩⟩, .inr rfl⟩
  | 4, _ => exact ⟨_, key (.tup [.str (writ xs)]) rfl, oddv_flat rfl (fun z e => by cases e) ⟨Nat.le_of_ble_eq_true rfl, fun y hy => by rw [List.mem_singleton.mp hy]; exact hz.ok (by decide)⟩ rfl ((rp_tup (n := 500) (k := 0) fun y hy => by rw [List.mem_singleton.mp hy]; exact rz).mono (Nat.le_of_ble_eq_true rfl) (by decide)), .inr rfl⟩
  | 5, _ => exact ⟨_, key (.dct [("line", .int 0)]) rfl, oddv_flat rfl (fun z e => by cases e) trivial rfl (by constructor <;> decide +kernel), .inr rfl⟩
  | 6, _ => exact ⟨_, key (.tup xs) rfl, oddv_flat rfl (fun z e => by cases e) hA.d rfl hA.rp, .inl rfl⟩
  | 7, _ => exact ⟨_, key (.lst []) rfl, ⟨rfl, fun z e => (by cases e), trivial, .inr ⟨_, rfl, rfl, by decide, fun e he => by cases he⟩⟩, .inr rfl⟩
  | 8, _ => exact ⟨_, key (.str "") rfl, oddv_lit (by decide +kernel) (by decide +kernel), .inr rfl⟩
  | 9, _ => exact ⟨_, key (.str " ") rfl, oddv_lit (by decide +kernel) (by decide +kernel), .inr rfl⟩
  | 10, _ => exact ⟨_, key (.str "tick") rfl, oddv_lit (by decide +kernel) (by decide +kernel), .inr rfl⟩
  | 11, _ => exact ⟨_, key (.str "write 0 a") rfl, oddv_lit (by decide +kernel) (by decide +kernel), .inr rfl⟩
/-- the last question -/
theorem fin_ok {δ : Den} {t d : Int} {W : D} (h1 : δ[1]? = some (.pl (.int t))) (h14 : δ[14]? = some (.pl (.int d))) (h16 : δ[16]? = some (.pl W)) (hW : OkW W) (ha : d = 6 ∨ isActD W = false) :
    wSeq (wRet (wOrV (gB dEq (gV 14) (gC (.int 6))) (gSame ga_other))) (wG gsNil) δ (fun o => ∃ δ, o = .rt (.bl true) δ) := by
  refine ⟨decide (d = 6), δ, x_b (x_v h14) x_c (Dx.eq_int _ _), ?_⟩
  by_cases c : d = 6
  · rw [if_pos (decide_eq_true c)]
    exact ⟨δ, rfl⟩
  · have hk : ¬ decide (d = 6) = true := fun z => c (of_decide_eq_true z)
    rw [if_neg hk]
    have ha := ha.resolve_left c
    have hl := l_line W t hW.1
    have ez : lineD W = .lst [.str "no act", W] := if_neg (by rw [ha]; decide)
    rw [ez] at hl
    have e : ga_other δ = some ([.lst [.str "no act", W], .lst [.str "no act", W]], δ) := x_cons (x_cal (x_cons (x_v h16) (x_one (x_v h1))) rfl hl) (x_one (x_lst (x_cons x_c (x_one (x_v h16))) (sz_le rfl)))
    refine ⟨_, _, _, δ, e, ?_⟩
    rcases hW.2 with ⟨n1, n2⟩ | ⟨a, ds, rfl, f1, f2, f3⟩
    · exact .inl ⟨same_two r_noact n2 n1, δ, rfl⟩
    · exact .inr ⟨a, ds, same_lid r_noact f1 f2 f3, _, rfl⟩
theorem loop_ok {t : Int} {xs : List D} (hd : Drn xs) (hA : Act xs) : ∀ (is : List Int) (n : Nat) (δ : Den) (Φ : Out → Prop), n + 13 * is.length ≤ 700000 → Shp t xs n δ → (∀ δ', Shp t xs (n + 13 * is.length) δ' → Φ (.nx δ')) → wForL 8 w_k (is.map D.int) δ Φ
  | [], n, δ, Φ, _, h, q => q δ h
  | i :: is, n, δ, Φ, hn, h, q => by
    rw [List.length_cons, Nat.mul_succ] at hn
    obtain ⟨bs, e4, e5, e6, e7, e8, e9, e10, e11, e12, e13, e14, e15, e16, rfl, b⟩ := h
    show w_k [.ow false bs, .pl (.int t), .pl (.tup xs), .pl (.str (writ xs)), e4, e5, e6, e7, .pl (.int i), e9, e10, e11, e12, e13, e14, e15, e16] _
    refine turn_k b (by omega) hd hA fun δ' h' => ?_
    exact loop_ok hd hA is (n + 13) δ' Φ (by omega) h' fun δ'' h'' => q δ'' (by
      rw [List.length_cons, Nat.mul_succ]
      have : n + (13 * is.length + 13) = n + 13 + 13 * is.length := by omega
      rw [this]; exact h'')
theorem great_ok {t : Int} {xs : List D} (hd : Drn xs) {bs : List D} {e5 : Ent} {z : Str} (he : e5 = .no) {r : List Ent} : gs_great (.ow false bs :: .pl (.int t) :: .pl (.tup xs) :: .pl (.str z) :: .no :: e5 :: r) = some (.nx (.ow false bs :: .pl (.int t) :: .pl (.tup xs) :: .pl (.str z) :: .pl (.tup (xs.map gr)) :: e5 :: r)) := by
  subst he
  let δ : Den := .ow false bs :: .pl (.int t) :: .pl (.tup xs) :: .pl (.str z) :: .no :: .no :: r
  have p19 : dPow (.int 10) (.int 19) = some (.int (10 ^ 19)) := pow_ok (k := 19) (by decide) (by decide)
  have lc : gLc (gIt (gV 2)) (gNm 5) gYes (gIf (gTru (gCal L__law_is_number_1 1 (Dx.gCons (gV 5) Dx.gNil))) (gB dAdd (gB dPow (gC (.int 10)) (gC (.int 19))) (gV 5)) (gV 5)) [5] δ = some (.lst (xs.filterMap fun x => some (gr x)), δ) := by
    refine gLc_all (fun x => some (gr x)) (x_it (x_v rfl) rfl) rfl (fun x hx acc ha => ?_) (Nat.le_trans hd.len (by decide)) rfl
    obtain ⟨hm, hi⟩ := hd.it x hx
    let ε : Den := .ow false bs :: .pl (.int t) :: .pl (.tup xs) :: .pl (.str z) :: .no :: .pl x :: r
    have tn : gTru (gCal L__law_is_number_1 1 (Dx.gCons (gV 5) Dx.gNil)) ε = some (isCount x, ε) := x_tru (x_cal (x_one (x_v (d := x) rfl)) rfl (l_is_number x)) rfl
    have el : gIf (gTru (gCal L__law_is_number_1 1 (Dx.gCons (gV 5) Dx.gNil))) (gB dAdd (gB dPow (gC (.int 10)) (gC (.int 19))) (gV 5)) (gV 5) ε = some (gr x, ε) := by
      refine x_if tn (fun k => ?_) (fun k => ?_)
      · cases x with
        | int i =>
          have h0 : 0 ≤ i := of_decide_eq_true k
          rw [show gr (.int i) = .int (10 ^ 19 + i) from if_pos h0]
          exact x_b (x_b x_c x_c p19) (x_v rfl) rfl
        | _ => cases k
      · cases x with
        | int i =>
          have h0 : 0 ≤ i := of_decide_eq_true hi
          have : decide (0 ≤ i) = false := k
          exact absurd h0 (of_decide_eq_false this)
        | _ => exact x_v rfl
    show (match gIf (gTru (gCal L__law_is_number_1 1 (Dx.gCons (gV 5) Dx.gNil))) (gB dAdd (gB dPow (gC (.int 10)) (gC (.int 19))) (gV 5)) (gV 5) ε with
      | some (d, δ3) => if acc.length < sizeLine then some (wipeD δ3 [5], acc ++ [d]) else none
      | none => none) = _
    rw [el]
    exact if_pos ha
  rw [show (xs.filterMap fun x => some (gr x)) = xs.map gr from by
    induction xs with
    | nil => rfl
    | cons a l ih => simp] at lc
  exact x_asg (x_call (g := on1 dTuple) (x_one lc) rfl) rfl
theorem right_ok {bs : List D} (b : Bx 0 bs) : w_right (denB 17 bs []) (fun o => ∃ δ, o = .rt (.bl true) δ) := by
  obtain ⟨t, bs1, t1, _, _, b1⟩ := l_take b (by decide) (m := 2) (by decide) (by decide)
  obtain ⟨act, bs2, t2, hact, b2⟩ := l_act b1 (by decide)
  obtain ⟨xs, rfl, hd, hia⟩ := hact.drn
  have hA := hd.act hia
  have hG := hd.great hia
  refine ws_g (δ1 := [.ow false bs1, .pl (.int t), .no, .no, .no, .no, .no, .no, .no, .no, .no, .no, .no, .no, .no, .no, .no]) (x_asg (x_calB (i := 0) (n := 2) (g := L__law_take_2) (bs := bs) (o := false) rfl (x_one x_c) rfl rfl t1) rfl) ?_
  refine ws_g (δ1 := [.ow false bs2, .pl (.int t), .pl (.tup xs), .no, .no, .no, .no, .no, .no, .no, .no, .no, .no, .no, .no, .no, .no]) (x_asg (x_calB (i := 0) (n := 1) (g := L__law_act_1) (bs := bs1) (o := false) rfl x_nil rfl rfl t2) rfl) ?_
  refine ws_g (δ1 := [.ow false bs2, .pl (.int t), .pl (.tup xs), .pl (.str (writ xs)), .no, .no, .no, .no, .no, .no, .no, .no, .no, .no, .no, .no, .no]) (x_asg (x_cal (x_one (x_v rfl)) rfl hA.wr) rfl) ?_
  refine ws_g (δ1 := [.ow false bs2, .pl (.int t), .pl (.tup xs), .pl (.str (writ xs)), .pl (.tup (xs.map gr)), .no, .no, .no, .no, .no, .no, .no, .no, .no, .no, .no, .no]) (great_ok hd rfl) ?_
  refine ws_g (δ1 := [.ow false bs2, .pl (.int t), .pl (.tup xs), .pl (.str (writ xs)), .pl (.tup (xs.map gr)), .no, .pl (.tup (xs.map gr)), .pl (.str (writ (xs.map gr))), .no, .no, .no, .no, .no, .no, .no, .no, .no]) ?_ ?_
  · unfold gs_one
    refine w_for (x_it (x_lst (x_cons (x_v rfl) (x_one (x_v rfl))) (sz_le rfl)) rfl) ?_
    refine w_forcons w_nm (one_turn (xs := xs) hA (t := t) rfl rfl (Nat.le_of_ble_eq_true rfl)) ?_
    rw [nxl_nx]
    refine w_forcons w_nm (one_turn (xs := xs.map gr) hG (t := t) rfl rfl (Nat.le_of_ble_eq_true rfl)) ?_
    rw [nxl_nx]
    rfl
  · refine ⟨rngD 0 4, _, x_rg1 (x_one x_c) (by decide), ?_⟩
    have hr : rngD 0 4 = ([0, 1, 2, 3] : List Int).map D.int := rfl
    rw [hr]
    refine loop_ok hd hA [0, 1, 2, 3] 602 _ _ (by decide) ⟨bs2, _, _, _, _, _, _, _, _, _, _, _, _, _, rfl, b2.mono (by decide)⟩ fun δ' h' => ?_
    obtain ⟨bs3, e4, e5, e6, e7, e8, e9, e10, e11, e12, e13, e14, e15, e16, rfl, b3⟩ := h'
    obtain ⟨d, bs4, t4, d0, d1, b4⟩ := l_take b3 (by decide) (m := 12) (by decide) (by decide)
    obtain ⟨r, o1, hr, hn⟩ := l_odd hA d0 d1
    let ε : Den := [.ow false bs4, .pl (.int t), .pl (.tup xs), .pl (.str (writ xs)), e4, e5, e6, e7, e8, e9, e10, e11, e12, e13, .pl (.int d), e15, e16]
    let ζ : D → D → Den := fun V W => [.ow false bs4, .pl (.int t), .pl (.tup xs), .pl (.str (writ xs)), e4, e5, e6, e7, e8, e9, e10, e11, e12, e13, .pl (.int d), .pl V, .pl W]
    refine ws_g (δ1 := ε) (x_asg (x_calB (i := 0) (n := 2) (g := L__law_take_2) (bs := bs3) (o := false) rfl (x_one x_c) rfl rfl t4) rfl) ?_
    refine ws_g (δ1 := ζ r r) (x_par (δ1 := ε) (x_cons (x_cal (x_cons (x_v rfl) (x_cons (x_v rfl) (x_one (x_v rfl)))) rfl o1) (x_one (x_cal (x_cons (x_v rfl) (x_cons (x_v rfl) (x_one (x_v rfl)))) rfl o1)))) ?_
    -- told of the odd value
    have tl : ∀ V W, isNon (rdOf V) = true → (∀ z, V = .str z → okS z) → ga_odd (ζ V W) = some ([.lst [.str "no line", V], .lst [.str "no line", V]], ζ V W) := fun V W g gi => by
      have h := l_told V t gi
      rw [show toldD V = .lst [.str "no line", V] from if_pos g] at h
      exact x_cons (x_cal (x_cons (x_v rfl) (x_one (x_v rfl))) rfl h) (x_one (x_lst (x_cons x_c (x_one (x_v rfl))) (sz_le rfl)))
    rcases hr.k with ⟨k1, k2⟩ | ⟨es, rfl, k1, k2, k3⟩
    · have main : wSeq (wIf (wNotT (wTru (gSame ga_odd))) rF (wG gsNil)) (wSeq (wRet (wOrV (gB dEq (gV 14) (gC (.int 6))) (gSame ga_other))) (wG gsNil)) (ζ r r) (fun o => ∃ δ, o = .rt (.bl true) δ) :=
        ws_same (tl r r hr.non hr.i) (same_two r_noline k2 k1) (fin_ok (W := r) (t := t) (d := d) rfl rfl rfl ⟨hr.d, .inl ⟨k1, k2⟩⟩ hn)
      cases r with
      | lst es => cases k1
      | _ => exact main
    · intro a a'
      refine ws_sameB (a := a) (ds := es) (tl (.lid a es) (.lid a' es) rfl (fun z e => by cases e)) (same_lid r_noline k1 (Nat.le_trans k2 (by decide)) k3) ?_
      have sc : mutE a es (.pl (.lid a' es)) = .pl (.lid a (es ++ [more])) ∨ mutE a es (.pl (.lid a' es)) = .pl (.lid a' es) := by
        by_cases c : a' = a
        · exact .inl (if_pos c)
        · exact .inr ((if_neg c).trans (if_pos k1))
      rcases sc with e | e
      · refine fin_ok (W := .lid a (es ++ [more])) (t := t) (d := d) rfl rfl (by show some (mutE a es (.pl (.lid a' es))) = _; rw [e]) ⟨trivial, .inr ⟨a, _, rfl, ?_, ?_, fun x hx => ?_⟩⟩ (.inr rfl)
        · rw [List.all_append, k1]; rfl
        · rw [List.length_append, List.length_singleton]; omega
        · rcases List.mem_append.mp hx with hx | hx
          · exact k3 x hx
          · rw [List.mem_singleton.mp hx]; exact rp_lit (by decide +kernel)
      · exact fin_ok (W := .lid a' es) (t := t) (d := d) rfl rfl (by show some (mutE a es (.pl (.lid a' es))) = _; rw [e]) ⟨trivial, .inr ⟨a', _, rfl, k1, Nat.le_trans k2 (by decide), k3⟩⟩ (.inr rfl)
end P57
set_option Elab.async false
set_option linter.all false
set_option maxRecDepth 100000
set_option maxHeartbeats 4000000
namespace P57
open PySem PySem.Spec PyProof.Rows L2 Dx Evl
def gs__law_box : GS := gsCons (gsRet (gLst (Dx.gCons (gCall (on1 dAbs) (Dx.gCons (gV 0) Dx.gNil)) (Dx.gCons (gB dGe (gCall (on1 dAbs) (Dx.gCons (gV 0) Dx.gNil)) (gB dPow (gC (.int 10)) (gC (.int 18)))) (Dx.gCons (gB dMod (gCall (on1 dInt) (Dx.gCons (gCall (on1 dAbs) (Dx.gCons (gV 0) Dx.gNil)) Dx.gNil)) (gC (.int 2147483629))) (Dx.gCons (gC (.int 0)) Dx.gNil)))))) gsNil
def L__law_box_1 : List D → Option D := gOf 1 gs__law_box
section
variable {P : Program} {w : World} {K : PySem.W.Frag} {mg : Str → Option Value} {base : Heap}
theorem cal__law_box_1 (W : Wd w K mg base) : CalP P w K mg base 1 "_law_box" (spP K 1 L__law_box_1) := by
  obtain ⟨fd, F⟩ := W.says.t.d.def_ 14 (d := d__law_box) rfl
  have m := He.glo_ok W.kin W.ns (W.says.t.d.fact 12 (f := .glo "_law_box") rfl)
  have m_abs := He.free_ok W.kin W.ns (W.says.t.d.fact 41 (f := .free "abs") rfl)
  have m_int := He.free_ok W.kin W.ns (W.says.t.d.fact 44 (f := .free "int") rfl)
  have S : FnScope ["_law_great"] ["_law_great"] (defScope s__law_box) := ⟨rfl, rfl, rfl, by decide +kernel, rfl, by decide +kernel, by decide +kernel⟩
  have b : Binds K fd ["_law_great"] [] := FunD.bindsN F fun _ _ _ _ _ _ us hl => match us, hl with | [_], _ => rfl
  have H : FnOk P w K mg base CX0 1 (He.fAd K d__law_box.at_) fd ["_law_great"] (spP K 1 L__law_box_1) := by
    refine fnP F S fun cdv A outer s H E hr => ?_
    exact pdss_cons (pds_ret (pd_lst (pda_cons (pd_cb cd_abs m_abs rfl (pda_cons (pd_var 0) pda_nil)) (pda_cons (pd_cmp opd_ge (pd_cb cd_abs m_abs rfl (pda_cons (pd_var 0) pda_nil)) (pd_bin opd_pow pd_int pd_int)) (pda_cons (pd_bin opd_mod (pd_ct cd_int m_int rfl (pda_cons (pd_cb cd_abs m_abs rfl (pda_cons (pd_var 0) pda_nil)) pda_nil)) pd_int) (pda_cons pd_int pda_nil)))))) pdss_nil
  exact (CalP.of m F.kp H b .nil).imp fun vs H Q E h => by rw [List.append_nil]; exact h
end
def bxOf (g : Int) : List D := [.int (if g < 0 then -g else g), .bl (decide (10 ^ 18 ≤ (if g < 0 then -g else g))), .int ((if g < 0 then -g else g) % 2147483629), .int 0]
theorem l_box (g : Int) : L__law_box_1 [.int g] = some (.lst (bxOf g)) := by
  have p18 : dPow (.int 10) (.int 18) = some (.int (10 ^ 18)) := pow_ok (k := 18) (by decide) (by decide)
  have ab : gCall (on1 dAbs) (Dx.gCons (gV 0) Dx.gNil) [.pl (.int g)] = some (.int (if g < 0 then -g else g), [.pl (.int g)]) := x_call (g := on1 dAbs) (x_one (x_v (d := .int g) rfl)) rfl
  refine of_rt (δ' := [.pl (.int g)]) ?_
  exact x_retL (x_lst (x_cons ab (x_cons (x_b ab (x_b x_c x_c p18) rfl) (x_cons (x_b (x_call (g := on1 dInt) (x_one ab) rfl) x_c (mod_ok (by decide))) (x_one x_c)))) (sz_le rfl))
theorem bx_of (g : Int) : Bx 0 (bxOf g) ∧ (bxOf g).all scalarD = true := by
  refine ⟨⟨_, _, _, _, rfl, ?_, Int.emod_nonneg _ (by decide), Int.emod_lt_of_pos _ (by decide), Int.le_refl _, Int.le_refl _⟩, rfl⟩
  split <;> omega
theorem l_cell (ns : List Int) (i : Nat) (hi : i < 1000) (hl : ns.length ≤ 63) : ∃ g, L__law_cell_2 [.frl (ns.map D.int), .int (i : Nat)] = some (.int g) := by
  let δ : Den := [.pl (.frl (ns.map D.int)), .pl (.int (i : Nat))]
  have ln : gCall (on1 dLen1) (Dx.gCons (gV 0) Dx.gNil) δ = some (.int ((ns.map D.int).length : Nat), δ) := x_call (g := on1 dLen1) (x_one (x_v (d := .frl (ns.map D.int)) rfl)) rfl
  have ts : gTst (gB dLt (gV 1) (gCall (on1 dLen1) (Dx.gCons (gV 0) Dx.gNil))) δ = some (decide ((i : Int) < ((ns.map D.int).length : Nat)), δ) := x_tst (x_b (x_v rfl) ln rfl)
  by_cases c : i < ns.length
  · have ix : dIx (.frl (ns.map D.int)) (.int (i : Nat)) = some (.int ns[i]) := by
      show atI (ns.map D.int) (i : Nat) = _
      exact atI_nat (by rw [List.getElem?_map, List.getElem?_eq_getElem c]; rfl)
    refine ⟨ns[i], of_rt (δ' := δ) ?_⟩
    unfold gs__law_cell
    exact x_retL (x_if (k := true) (by rw [decide_eq_true (by rw [List.length_map]; omega)] at ts; exact ts) (fun _ => x_ixN (x_v rfl) rfl rfl ix) (fun z => by cases z))
  · have sl : dSl (.frl (ns.map D.int)) none (some 1) = some (.lst ((ns.take 1).map D.int)) := by
      show some (D.lst (Dx.cutD (ns.map D.int) none (some (1 : Int)))) = _
      rw [cut_map, show (1 : Int) = ((1 : Nat) : Int) from rfl, cut_to]
    have sm : dSum (.lst ((ns.take 1).map D.int)) = some (.int (ns.take 1).sum) := by
      show (ints? ((ns.take 1).map D.int)).map (fun ns => D.int ns.sum) = _
      rw [ints?_map]; rfl
    refine ⟨6043 * i + (ns.take 1).sum % 1000033, of_rt (δ' := δ) ?_⟩
    unfold gs__law_cell
    exact x_retL (x_if (k := false) (by rw [decide_eq_false (by rw [List.length_map]; omega)] at ts; exact ts) (fun z => by cases z) (fun _ => x_b (x_b x_c (x_v rfl) (mulS_ok (by decide) (by omega))) (x_b (x_call (g := on1 dSum) (x_one (x_sl (x_v rfl) x_no (x_so x_c) sl)) sm) x_c (mod_ok (by decide))) rfl))
def ga_law : GE := gCal L__law_box_1 1 (Dx.gCons (gCal L__law_cell_2 2 (Dx.gCons (gV 0) (Dx.gCons (gV 1) Dx.gNil))) Dx.gNil)
def gi_law : GI := gRg1 (Dx.gCons (gCall (on2 dMax) (Dx.gCons (gC (.int 6)) (Dx.gCons (gCall (on2 dMin) (Dx.gCons (gC (.int 12)) (Dx.gCons (gCall (on1 dLen1) (Dx.gCons (gV 0) Dx.gNil)) Dx.gNil))) Dx.gNil))) Dx.gNil)
theorem gi_ok (ns : List Int) : ∃ n, n < 1000 ∧ gi_law [.pl (.frl (ns.map D.int)), .no] = some (rngD 0 n, [.pl (.frl (ns.map D.int)), .no]) := by
  let δ : Den := [.pl (.frl (ns.map D.int)), .no]
  have ln : gCall (on1 dLen1) (Dx.gCons (gV 0) Dx.gNil) δ = some (.int ((ns.map D.int).length : Nat), δ) := x_call (g := on1 dLen1) (x_one (x_v (d := .frl (ns.map D.int)) rfl)) rfl
  have mn : ∃ j : Nat, j ≤ 12 ∧ gCall (on2 dMin) (Dx.gCons (gC (.int 12)) (Dx.gCons (gCall (on1 dLen1) (Dx.gCons (gV 0) Dx.gNil)) Dx.gNil)) δ = some (.int (j : Nat), δ) := by
    refine ⟨min 12 (ns.map D.int).length, Nat.min_le_left _ _, ?_⟩
    refine x_call (g := on2 dMin) (x_cons x_c (x_one ln)) ?_
    show dMin (.int 12) (.int ((ns.map D.int).length : Nat)) = _
    generalize (ns.map D.int).length = k
    by_cases h : k < 12
    · rw [Nat.min_eq_right (by omega)]
      show some (D.int (if (k : Int) < 12 then (k : Int) else 12)) = _
      rw [if_pos (by omega)]
    · rw [Nat.min_eq_left (by omega)]
      show some (D.int (if (k : Int) < 12 then (k : Int) else 12)) = _
      rw [if_neg (by omega)]; rfl
  obtain ⟨j, hj, mn⟩ := mn
  have mx : gCall (on2 dMax) (Dx.gCons (gC (.int 6)) (Dx.gCons (gCall (on2 dMin) (Dx.gCons (gC (.int 12)) (Dx.gCons (gCall (on1 dLen1) (Dx.gCons (gV 0) Dx.gNil)) Dx.gNil))) Dx.gNil)) δ = some (.int ((max 6 j : Nat) : Int), δ) := by
    refine x_call (g := on2 dMax) (x_cons x_c (x_one mn)) ?_
    by_cases h : 6 < j
    · rw [Nat.max_eq_right (by omega)]
      show some (D.int (if (6 : Int) < (j : Int) then (j : Int) else 6)) = _
      rw [if_pos (by omega)]
    · rw [Nat.max_eq_left (by omega)]
      show some (D.int (if (6 : Int) < (j : Int) then (j : Int) else 6)) = _
      rw [if_neg (by omega)]; rfl
  refine ⟨max 6 j, by omega, ?_⟩
  have := x_rg1 (x_one mx) (small_nat (by omega))
  rw [Int.toNat_natCast] at this
  exact this
theorem ga_ok (ns : List Int) (hl : ns.length ≤ 63) (i : Nat) (hi : i < 1000) : ∃ bs, ga_law [.pl (.frl (ns.map D.int)), .pl (.int (i : Nat))] = some (.lst bs, [.pl (.frl (ns.map D.int)), .pl (.int (i : Nat))]) ∧ Bx 0 bs ∧ bs.all scalarD = true := by
  obtain ⟨g, hg⟩ := l_cell ns i hi hl
  exact ⟨bxOf g, x_cal (x_one (x_cal (x_cons (x_v rfl) (x_one (x_v rfl))) rfl hg)) rfl (l_box g), (bx_of g).1, (bx_of g).2⟩
section
variable {P : Program} {w : World} {K : PySem.W.Frag} {mg : Str → Option Value} {base : Heap}
theorem right_cal (W : Wd w K mg base) : CalG P w K mg base 8 "_law_right" (spR K (Bx 0)) := by
  have c1 : CalP P w K mg base 1 "is_integer" (spP K 1 L_is_integer_1) := cal_is_integer_1 W
  have c2 := cal_is_count_1 W c1
  have c3 : CalP P w K mg base 1 "is_signs" (spP K 2 L_is_signs_2) := cal_is_signs_2 W
  have c4 : CalP P w K mg base 1 "count_in" (spP K 1 L_count_in_1) := cal_count_in_1 W
  have c5 : CalP P w K mg base 1 "is_cell" (spP K 1 L_is_cell_1) := cal_is_cell_1 W
  have c6 := cal_is_text_1 W c3
  have c7 := cal_is_item_3 W c5 c2 c6
  have c8 := cal_is_act_1 W c7
  have c9 := cal_act_in_1 W c4 c8
  have t : CalP P w K mg base 1 "_law_take" (spB K 2 L__law_take_2) := cal__law_take_2 W
  have k : CalP P w K mg base 1 "_law_kinds" (spP K 1 L__law_kinds_1) := cal__law_kinds_1 W
  have s : CalP P w K mg base 1 "_law_signs" (spP K 0 L__law_signs_0) := cal__law_signs_0 W
  have it := cal__law_item_2 W s t
  have ac := cal__law_act_1 W it k t
  have nu : CalP P w K mg base 1 "_law_is_number" (spP K 1 L__law_is_number_1) := cal__law_is_number_1 W
  have ia := cal__law_is_act_1 W (cal__law_is_cell_1 W) nu (cal__law_is_text_1 W) k
  exact cal__law_right W (cal__law_same W) t ac (cal__law_written_1 W) nu (cal__law_line_2 W (calx_act_line W c8)) (cal__law_told_2 W (calx_read_act W c9)) (cal__law_spoilt_line_2 W s t) (cal__law_spoilt_act_2 W t) (cal__law_read_1 W ia k (cal__law_number_1 W)) ia (cal__law_odd_3 W) fun bs h => right_ok h
theorem law_fn (c : Gh.SaysM fa fn ts ex w K) : ∃ fd : FuncData, (∀ (s : Shared) (v : Value), BindsTo s fd ⟨[v], []⟩ [("_law_script", v)]) ∧ ∀ (mg : Str → Option Value) (base : Heap), Wd w K mg base → FnG P w K mg base 9 (He.ga K "law") fd ["_law_script"] (spL K fun ns => ns.length ≤ 63) := by
  obtain ⟨fd, F⟩ := c.t.d.def_ 34 (d := d_law) rfl
  have b := FunD.bindsA (ps := ["_law_script"]) F fun _ _ _ _ _ _ us hl => match us, hl with | [_], _ => rfl
  refine ⟨fd, fun s v => b s [v] rfl, fun mg base W => ?_⟩
  have m_max : mg "max" = none := He.free_ok W.kin W.ns (W.says.t.d.fact 48 (f := .free "max") rfl)
  have m_min : mg "min" = none := He.free_ok W.kin W.ns (W.says.t.d.fact 49 (f := .free "min") rfl)
  have m_len : mg "len" = none := He.free_ok W.kin W.ns (W.says.t.d.fact 46 (f := .free "len") rfl)
  have m_range : mg "range" = none := He.free_ok W.kin W.ns (W.says.t.d.fact 50 (f := .free "range") rfl)
  have S : FnScope ["_law_script", "_law_k"] ["_law_script"] (defScope s_law) := ⟨rfl, rfl, rfl, by decide +kernel, rfl, by decide +kernel, by decide +kernel⟩
  refine okG F S (fun vs H Q E h => ?_) (fun cdv A outer s H vs Q hr hgd h => ?_)
  · obtain ⟨a, ns, rfl, _⟩ := h; rfl
  obtain ⟨a, ns, rfl, hon, hS, hl, q⟩ := h
  have hu := units_of hr
  obtain ⟨n, hn, hgi⟩ := gi_ok ns
  have cb : CalP P w K mg base 1 "_law_box" (spP K 1 L__law_box_1) := cal__law_box_1 W
  have cc : CalP P w K mg base 1 "_law_cell" (spP K 2 L__law_cell_2) := cal__law_cell_2 W
  have main : ∃ t, PSs (cxOf CX0 P w K mg base ["_law_script", "_law_k"] d_law.qual d_law.scope (He.fAd K d_law.at_) cdv A outer s H E0).nox d_law.body t ∧ t { nx := fun _ H' => Q .non H', rt := Q } (L2.start ["_law_script", "_law_k"] [.ref a]) H :=
    body_law (gb := gsCons (gsRet (gC (.bl false))) gsNil) (X := (cxOf CX0 P w K mg base ["_law_script", "_law_k"] d_law.qual d_law.scope (He.fAd K d_law.at_) cdv A outer s H E0).nox) (N := ["_law_script", "_law_k"]) rfl (right_cal W) hr hgd rfl PassesOwn.never
      (pir_rng1 m_range (pda_cons (pd_cb (cd_max rfl) m_max rfl (pda_cons pd_int (pda_cons (pd_cb (cd_min rfl) m_min rfl (pda_cons pd_int (pda_cons (pd_cb cd_len m_len rfl (pda_cons (pd_var 0) pda_nil)) pda_nil))) pda_nil))) pda_nil))
      (pdg_name 1 S.nd) (pd_cal (cb.mono (by decide)) hr (pda_cons (pd_cal (cc.mono (by decide)) hr (pda_cons (pd_var 0) (pda_cons (pd_var 1) pda_nil))) pda_nil)) (pdss_cons (pds_ret pd_bl) pdss_nil) pd_bl hon hS hgi (fun i hi => ga_ok ns hl i (by omega)) q
  obtain ⟨t, p1, p2⟩ := main
  exact ⟨t, p1.nox, p2⟩
end
end P57
set_option Elab.async false
set_option linter.all false
set_option maxRecDepth 100000
set_option maxHeartbeats 0
open PySem PySem.W PySem.Calls PyProof.Rows L2
theorem PySem.Challenge.cw_neverunsaid_k57_acts_as_lines_holds : PySem.Challenge.rw_neverunsaid_k57_acts_as_lines.Holds := by
  w_on; o_law
  refine HandSHeadRun.head_any (r := OpenLaw.row PySem.Challenge.rw_neverunsaid_k57_acts_as_lines) (q := view (OpenLaw.row PySem.Challenge.rw_neverunsaid_k57_acts_as_lines).prog [45]) (H := P57.hk) (ob := P57.ob) (M := 4000) (loose := P57.names) (d := HandSHeadRun.topDef (OpenLaw.row PySem.Challenge.rw_neverunsaid_k57_acts_as_lines).prog 45) (kwd := []) P57.ob_eq
    (by kernel_rfl) (fun s => by kernel_rfl) P57.run (by kernel_rfl) (by kernel_rfl) (by kernel_rfl) (by rfl) (by first | assumption | decide +kernel) (by decide +kernel) ⟨rfl, rfl, rfl, rfl, rfl, by decide +kernel⟩ ?hw ?hc
  case hw => w_witness2
  case hc =>
    refine Dx.walk_ofG (l := PySem.Challenge.rw_neverunsaid_k57_acts_as_lines) (n := 63) (k := 9) (x := "_law_script") rfl (by decide) (by kernel_rfl) ⟨rfl, by decide, by decide⟩ ?F
    intro w mg fa h Y G hmg0
    obtain ⟨K, KX, c⟩ := Y
    have hmg : mg ("law" : PySem.Str) = some (.ref fa) := by
      have e : (HandSHeadRun.topDef (OpenLaw.row PySem.Challenge.rw_neverunsaid_k57_acts_as_lines).prog 45).name = ("law" : PySem.Str) := by kernel_rfl
      rw [← e]
      exact hmg0
    have e := hmg.symm.trans (He.glo_ok KX G (c.t.d.fact 32 (f := .glo "law") rfl))
    cases e
    obtain ⟨fd, hb, hF⟩ := P57.law_fn (P := (PySem.Challenge.rw_neverunsaid_k57_acts_as_lines).prog) c
    exact ⟨K, fd, _, KX, hb, fun H a ns hl _ hon hS => ⟨a, ns, rfl, hon, hS, hl, fun _ => rfl⟩, fun base hk hn => hF mg base ⟨hk, hn, c⟩⟩
