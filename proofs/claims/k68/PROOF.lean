import PyProof.Rows.All
import Wide.All
import OpenK.AllK
import Wide.FinOn
import HandS.HeadHook4
import KE.KStateDown
import Lean
import HandS.Base
import HandS.Call
import HandS.List
import HandS.Ends
import HandS.More
import HandS.Words
import HandS.WordsExc
import HandS.Defaults
import HandS.Exc
import HandS.ExcInit
import HandS.ExcField
import HandS.Head0
import HandS.Head1
import HandS.Head2
import HandS.HeadEnd
import HandS.HeadHook1
import HandS.HeadHook2
import HandS.HeadHook3
import HandS.ForMost
import HandS.TryOnly
import HandS.TryMany
import HandS.ExcOwn
import HandS.IsInst
import HandS.Deep
import HandS.TupLe
import HandS.TupAny
import HandS.Style
import HandS.FStr
import HandS.Star
import HandS.Small
import HandS.Codes
import HandS.ExcCtx
import HandS.Iter
import HandS.Zip
import HandS.Strs
import PyProof.Rows.SetFrom
import HandS.ReplaceLit
import PyProof.ReprDict
import PyProof.CallFns
import PyProof.Rows.StrSplitCount
import HandS.Text
import HandS.HotCalls
import HandS.ExcInitHot
import HandS.Set
import HandS.SetBool
import PyProof.Rows.SortStr
import KE.IntTextText
import KE.KIntText
import KE.Datum
import HandS.SetFor
import PyProof.AutoSeq1
import HandS.DictTup
import KE.KDictKeyed
import KE.KDictWalk
import PyProof.Rows.StrMeet
import HandS.ListItems
import HandS.DictComp
import PyProof.DictUpdate
import PyProof.DictDisplay
import PyProof.StrOps2
import HandS.NoneIn
import PySem.Challenge.RW_toldlore_k68_formulas_and_keys_that_matt
set_option Elab.async false
set_option linter.all false
set_option maxRecDepth 100000
set_option maxHeartbeats 4000000

set_option maxHeartbeats 4000000
/-! KH: a Hook that tells the facts of what the names reach and of the interpreter's own statics. -/
namespace KB
open PySem PySem.Spec PyProof.Rows L2
def frY (g : Addr → Option Obj) (n : Nat) : PySem.W.Frag := He.frT g (He.asD g n ++ [cStatics])
def obsY (n : Nat) (fa : List He.Fa) (fn : List He.DefD) (ex : PySem.W.Frag → Bool) (g : Addr → Option Obj) : He.AlX := (He.obsT fa fn [] (frY g n), ex (frY g n))
def hookY (n : Nat) (fa : List He.Fa) (fn : List He.DefD) (ex : PySem.W.Frag → Bool) : PySem.W.Hook where
  α := He.AlX
  obs := fun s => obsY n fa fn ex s.heap.get?
  val := fun w => He.valX fn [] w
  says := fun w h => ∃ K : PySem.W.Frag, K.In h ∧ He.SaysX fa fn [] [] ex w h K
  of := fun _ _ e => ⟨_, He.frT_in, ⟨congrArg (fun z : He.AlX => z.1) e, congrArg (fun z : He.AlX => z.2) e, fun _ p => (List.not_mem_nil p).elim, fun _ p => (List.not_mem_nil p).elim, fun _ p => (List.not_mem_nil p).elim⟩⟩
  keeps := fun _ _ _ ⟨K, hK, c⟩ k => ⟨K, hK.keeps k, ⟨c.t, c.more, c.hd, c.out, fun _ p => (List.not_mem_nil p).elim⟩⟩
theorem obsY_eq {n : Nat} {fa : List He.Fa} {fn : List He.DefD} {ex : PySem.W.Frag → Bool} {g : Addr → Option Obj} {s : Shared} (h : ∀ a, g a = s.heap.get? a) : obsY n fa fn ex g = (hookY n fa fn ex).obs s := by
  cases (funext h : g = s.heap.get?)
  rfl
end KB

set_option maxHeartbeats 0
namespace H68
open PySem PySem.Spec PyProof.Rows L2
def top (i : Nat) : Stmt := PySem.Challenge.pw_toldlore_k68_formulas_and_keys_that_matt.main.body.getD i (.Pass ⟨0, 0, 0, 0⟩)
abbrev s_NoFormula_init : Stmt := inClass (top 2) 0
abbrev s_is_name : Stmt := top 9
abbrev s_is_value : Stmt := top 10
abbrev s_has_form : Stmt := top 18
abbrev s_leaves : Stmt := top 19
abbrev s_is_formula : Stmt := top 20
abbrev s_need_formula : Stmt := top 21
abbrev s_keys_of : Stmt := top 22
abbrev s_is_true : Stmt := top 23
abbrev s_holds : Stmt := top 24
abbrev s_values_named : Stmt := top 25
abbrev s_value_beside : Stmt := top 26
abbrev s_samples : Stmt := top 27
abbrev s_rows_of : Stmt := top 28
abbrev s_telling_pair : Stmt := top 29
abbrev s_matters : Stmt := top 30
abbrev s_law_cell : Stmt := top 32
abbrev s_law_box : Stmt := top 33
abbrev s_law_take : Stmt := top 34
abbrev s_law_mixed : Stmt := top 35
abbrev s_law_same : Stmt := top 36
abbrev s_law_very : Stmt := top 37
abbrev s_law_leaf : Stmt := top 38
abbrev s_law_formula : Stmt := top 39
abbrev s_law_levels : Stmt := top 40
abbrev s_law_leaves : Stmt := top 41
abbrev s_law_holds : Stmt := top 42
abbrev s_law_all_readings : Stmt := top 43
abbrev s_law_matters : Stmt := top 44
abbrev s_law_is_formula : Stmt := top 45
abbrev s_law_is_name : Stmt := top 46
abbrev s_law_is_value : Stmt := top 47
abbrev s_law_near : Stmt := top 48
abbrev s_law_asked : Stmt := top 49
abbrev s_law_formula_right : Stmt := top 50
abbrev s_law : Stmt := top 51
def d_NoFormula_init : He.DefD := ⟨("NoFormula", some "__init__"), "__init__", "NoFormula.__init__", defArgs s_NoFormula_init, defBody s_NoFormula_init, defScope s_NoFormula_init, [], []⟩
def d_is_name : He.DefD := ⟨("is_name", none), "is_name", "is_name", defArgs s_is_name, defBody s_is_name, defScope s_is_name, [], []⟩
def d_is_value : He.DefD := ⟨("is_value", none), "is_value", "is_value", defArgs s_is_value, defBody s_is_value, defScope s_is_value, [], []⟩
def d_has_form : He.DefD := ⟨("has_form", none), "has_form", "has_form", defArgs s_has_form, defBody s_has_form, defScope s_has_form, [], []⟩
def d_leaves : He.DefD := ⟨("leaves", none), "leaves", "leaves", defArgs s_leaves, defBody s_leaves, defScope s_leaves, [], []⟩
def d_is_formula : He.DefD := ⟨("is_formula", none), "is_formula", "is_formula", defArgs s_is_formula, defBody s_is_formula, defScope s_is_formula, [], []⟩
def d_need_formula : He.DefD := ⟨("need_formula", none), "need_formula", "need_formula", defArgs s_need_formula, defBody s_need_formula, defScope s_need_formula, [], []⟩
def d_keys_of : He.DefD := ⟨("keys_of", none), "keys_of", "keys_of", defArgs s_keys_of, defBody s_keys_of, defScope s_keys_of, [], []⟩
def d_is_true : He.DefD := ⟨("is_true", none), "is_true", "is_true", defArgs s_is_true, defBody s_is_true, defScope s_is_true, [], []⟩
def d_holds : He.DefD := ⟨("holds", none), "holds", "holds", defArgs s_holds, defBody s_holds, defScope s_holds, [], []⟩
def d_values_named : He.DefD := ⟨("values_named", none), "values_named", "values_named", defArgs s_values_named, defBody s_values_named, defScope s_values_named, [], []⟩
def d_value_beside : He.DefD := ⟨("value_beside", none), "value_beside", "value_beside", defArgs s_value_beside, defBody s_value_beside, defScope s_value_beside, [], []⟩
def d_samples : He.DefD := ⟨("samples", none), "samples", "samples", defArgs s_samples, defBody s_samples, defScope s_samples, [], []⟩
def d_rows_of : He.DefD := ⟨("rows_of", none), "rows_of", "rows_of", defArgs s_rows_of, defBody s_rows_of, defScope s_rows_of, [], []⟩
def d_telling_pair : He.DefD := ⟨("telling_pair", none), "telling_pair", "telling_pair", defArgs s_telling_pair, defBody s_telling_pair, defScope s_telling_pair, [], []⟩
def d_matters : He.DefD := ⟨("matters", none), "matters", "matters", defArgs s_matters, defBody s_matters, defScope s_matters, [], []⟩
def d_law_cell : He.DefD := ⟨("_law_cell", none), "_law_cell", "_law_cell", defArgs s_law_cell, defBody s_law_cell, defScope s_law_cell, [], []⟩
def d_law_box : He.DefD := ⟨("_law_box", none), "_law_box", "_law_box", defArgs s_law_box, defBody s_law_box, defScope s_law_box, [], []⟩
def d_law_take : He.DefD := ⟨("_law_take", none), "_law_take", "_law_take", defArgs s_law_take, defBody s_law_take, defScope s_law_take, [], []⟩
def d_law_mixed : He.DefD := ⟨("_law_mixed", none), "_law_mixed", "_law_mixed", defArgs s_law_mixed, defBody s_law_mixed, defScope s_law_mixed, [], []⟩
def d_law_same : He.DefD := ⟨("_law_same", none), "_law_same", "_law_same", defArgs s_law_same, defBody s_law_same, defScope s_law_same, [], []⟩
def d_law_very : He.DefD := ⟨("_law_very", none), "_law_very", "_law_very", defArgs s_law_very, defBody s_law_very, defScope s_law_very, [], []⟩
def d_law_leaf : He.DefD := ⟨("_law_leaf", none), "_law_leaf", "_law_leaf", defArgs s_law_leaf, defBody s_law_leaf, defScope s_law_leaf, [], []⟩
def d_law_formula : He.DefD := ⟨("_law_formula", none), "_law_formula", "_law_formula", defArgs s_law_formula, defBody s_law_formula, defScope s_law_formula, [], []⟩
def d_law_levels : He.DefD := ⟨("_law_levels", none), "_law_levels", "_law_levels", defArgs s_law_levels, defBody s_law_levels, defScope s_law_levels, [], []⟩
def d_law_leaves : He.DefD := ⟨("_law_leaves", none), "_law_leaves", "_law_leaves", defArgs s_law_leaves, defBody s_law_leaves, defScope s_law_leaves, [], []⟩
def d_law_holds : He.DefD := ⟨("_law_holds", none), "_law_holds", "_law_holds", defArgs s_law_holds, defBody s_law_holds, defScope s_law_holds, [], []⟩
def d_law_all_readings : He.DefD := ⟨("_law_all_readings", none), "_law_all_readings", "_law_all_readings", defArgs s_law_all_readings, defBody s_law_all_readings, defScope s_law_all_readings, [], []⟩
def d_law_matters : He.DefD := ⟨("_law_matters", none), "_law_matters", "_law_matters", defArgs s_law_matters, defBody s_law_matters, defScope s_law_matters, [], []⟩
def d_law_is_formula : He.DefD := ⟨("_law_is_formula", none), "_law_is_formula", "_law_is_formula", defArgs s_law_is_formula, defBody s_law_is_formula, defScope s_law_is_formula, [], []⟩
def d_law_is_name : He.DefD := ⟨("_law_is_name", none), "_law_is_name", "_law_is_name", defArgs s_law_is_name, defBody s_law_is_name, defScope s_law_is_name, [], []⟩
def d_law_is_value : He.DefD := ⟨("_law_is_value", none), "_law_is_value", "_law_is_value", defArgs s_law_is_value, defBody s_law_is_value, defScope s_law_is_value, [], []⟩
def d_law_near : He.DefD := ⟨("_law_near", none), "_law_near", "_law_near", defArgs s_law_near, defBody s_law_near, defScope s_law_near, [], []⟩
def d_law_asked : He.DefD := ⟨("_law_asked", none), "_law_asked", "_law_asked", defArgs s_law_asked, defBody s_law_asked, defScope s_law_asked, [], []⟩
def d_law_formula_right : He.DefD := ⟨("_law_formula_right", none), "_law_formula_right", "_law_formula_right", defArgs s_law_formula_right, defBody s_law_formula_right, defScope s_law_formula_right, [], []⟩
def d_law : He.DefD := ⟨("law", none), "law", "law", defArgs s_law, defBody s_law, defScope s_law, [], []⟩
def fn : List He.DefD := [d_NoFormula_init, d_is_name, d_is_value, d_has_form, d_leaves, d_is_formula, d_need_formula, d_keys_of, d_is_true, d_holds, d_values_named, d_value_beside, d_samples, d_rows_of, d_telling_pair, d_matters, d_law_cell, d_law_box, d_law_take, d_law_mixed, d_law_same, d_law_very, d_law_leaf, d_law_formula, d_law_levels, d_law_leaves, d_law_holds, d_law_all_readings, d_law_matters, d_law_is_formula, d_law_is_name, d_law_is_value, d_law_near, d_law_asked, d_law_formula_right, d_law]
def fa : List He.Fa := [.glo "is_name", .glo "is_value", .glo "has_form", .glo "leaves", .glo "is_formula", .glo "need_formula", .glo "keys_of", .glo "is_true", .glo "holds", .glo "values_named", .glo "value_beside", .glo "samples", .glo "rows_of", .glo "telling_pair", .glo "matters", .glo "_law_cell", .glo "_law_box", .glo "_law_take", .glo "_law_mixed", .glo "_law_same", .glo "_law_very", .glo "_law_leaf", .glo "_law_formula", .glo "_law_levels", .glo "_law_leaves", .glo "_law_holds", .glo "_law_all_readings", .glo "_law_matters", .glo "_law_is_formula", .glo "_law_is_name", .glo "_law_is_value", .glo "_law_near", .glo "_law_asked", .glo "_law_formula_right", .glo "law", .glo "LoreError", .glo "NoFormula", .free "all", .free "isinstance", .free "str", .free "len", .free "tuple", .free "sorted", .free "range", .free "abs", .free "int", .free "sum", .free "max", .free "list", .free "bool", .free "repr", .free "dict", .free "set", .free "min", .str "LETTERS" "abcdefghijklmnopqrstuvwxyz", .str "FIGURES" "0123456789", .int "LONGEST_NAME" 8, .int "LONGEST_VALUE" 12, .glo "OWN", .int "MOST_LEVELS" 6, .int "MOST_LEAVES" 6, .str "IS" "is", .str "SILENT" "silent", .str "NOT" "not", .glo "TWO", .keep "LoreError", .keep "NoFormula", .exm "NoFormula" "NoFormula" true]
def initB : Option PySem.W.CFound → Bool
  | some (.val v) => v == .builtin "ValueError.__init__"
  | _ => false
/-- an own exception class over ValueError, at any depth -/
def oexB (K : PySem.W.Frag) (C : Addr) : Bool := (match K.lookup C with
  | some ⟨.type "type", _, .cls cd, sl⟩ => (match cd.mro, sl.toList with
    | .ref C' :: bm, [_, _, _, _, some (.builtin n), _] => C' == C && n == "ValueError.__new__" && !cd.hasDel && cd.hasDict && PySem.HandSPX.refsVE bm
    | _, _ => false)
  | _ => false) && (decide (PySem.W.findIn K (.ref C) "__setattr__" = some (some (.builtin "object.__setattr__"))) && (decide (PySem.W.subIn K (.ref C) (.type "BaseException") = some true) && (decide (PySem.W.typeIn K (.ref C) = some (.type "type")) && PySem.W.keepIn K (.ref C))))
def moreL (K : PySem.W.Frag) : List Bool := [oexB K (He.ga K "NoFormula"),
  xfB K (He.ga K "NoFormula"),
  decide (PySem.W.findIn K (.ref (He.ga K "NoFormula")) "__init__" = some (some (.ref (He.ma K (He.ga K "NoFormula") "__init__")))),
  decide (PySem.W.typeIn K (.ref (He.ma K (He.ga K "NoFormula") "__init__")) = some (.type "function")),
  decide (PySem.W.findIn K (.ref (He.ga K "NoFormula")) "found" = some none),
  initB (PySem.W.findCls K (.ref (He.ga K "LoreError")) (.type "type") "__init__"),
  He.tupB K "OWN" [.str "all", .str "key", .str "days", .str "turns", .str "last", .str "ends", .str "now", .str "both", .str "either", .str "but", .str "let", .str "bar", .str "frame", .str "find", .str "known", .str "ask"],
  He.tupB K "TWO" [.str "and", .str "or"],
  PySem.W.readsIn K (He.ga K "LoreError") (.type "type"),
  decide (PySem.W.specialIn K (.ref (He.ga K "LoreError")) "__getattribute__" = some (some (.builtin "type.__getattribute__")))]
def ex (K : PySem.W.Frag) : Bool := (moreL K).all id
abbrev R : PySem.W.OpenRow := PySem.W.OpenLaw.row PySem.Challenge.rw_toldlore_k68_formulas_and_keys_that_matt
abbrev hk : PySem.W.Hook := KB.hookY 5 fa fn ex
def ob (s : PySem.W.SharedT) : He.AlX := KB.obsY 5 fa fn ex (HandSHeadRun.getT s)
theorem ob_eq (s : PySem.W.SharedT) : ob s = hk.obs s.abs := KB.obsY_eq (HandSHeadRun.getT_eq s)
def loose0 : List Str := ["LoreError", "NoFormula", "LETTERS", "FIGURES", "LONGEST_NAME", "LONGEST_VALUE", "OWN", "is_name", "is_value", "MOST_LEVELS", "MOST_LEAVES", "IS", "SILENT", "NOT", "TWO", "has_form", "leaves", "is_formula", "need_formula", "keys_of", "is_true", "holds", "values_named", "value_beside", "samples", "rows_of", "telling_pair", "matters", "_law_cell", "_law_box"]
def loose1 : List Str := ["_law_take", "_law_mixed", "_law_same", "_law_very", "_law_leaf", "_law_formula", "_law_levels", "_law_leaves", "_law_holds", "_law_all_readings", "_law_matters", "_law_is_formula", "_law_is_name", "_law_is_value", "_law_near", "_law_asked", "_law_formula_right"]
def loose : List Str := loose0 ++ loose1
theorem run (w : World) : HandSHeadRun.RunEq R (PySem.W.view R.prog [51]) hk ob 4000 loose w := by
  intro os
  kernel_rfl
end H68

set_option maxHeartbeats 4000000
/-! KB: the working layer over HandS: promises bundled, rules for operators of any kind, readings step by step. -/
namespace KB
open PySem PySem.Spec PyProof.Rows L2

/-! ### what is let out: never anything -/
theorem passN {X : Cx} : Passes (L2N.CX X.prog X.w) X E0 := fun pins σ H s e s1 I h => by
  unfold L2N.CX at h
  obtain ⟨_, _, _, _, _, _, _, _, _, _, _, _, z⟩ := h
  exact z.elim
theorem takesN0 {X : Cx} : L2N.Takes X (fun _ _ _ _ => False) := fun u s1 x => by
  unfold L2N.XE at x
  obtain ⟨_, _, _, _, _, _, _, _, _, _, _, _, _, _, _, _, z⟩ := x
  exact z.elim
/-! ### promises, bundled -/
/-- a def as it stands behind the top, with its promise -/
structure Cn (P : Program) (w : World) (K : PySem.W.Frag) (mg : Str → Option Value) (base : Heap) (k : Nat) (f : Addr) (ps : List Str) (sp : Sp) : Prop where
  ok : ∃ fd, FnOk P w K mg base (L2N.CX P w) k f fd ps sp ∧ Binds K fd ps []
  kp : PySem.W.keepIn K (.ref f) = true
theorem Cn.mono {P : Program} {w : World} {K : PySem.W.Frag} {mg : Str → Option Value} {base : Heap} {j k : Nat} {f : Addr} {ps : List Str} {sp : Sp} (c : Cn P w K mg base j f ps sp) (h : j ≤ k) : Cn P w K mg base k f ps sp := by
  obtain ⟨⟨fd, F, b⟩, kp⟩ := c
  exact ⟨⟨fd, F.mono h, b⟩, kp⟩
theorem Cn.imp {P : Program} {w : World} {K : PySem.W.Frag} {mg : Str → Option Value} {base : Heap} {k : Nat} {f : Addr} {ps : List Str} {sp sp' : Sp} (c : Cn P w K mg base k f ps sp) (h : ∀ vs H Q E, sp' vs H Q E → sp vs H Q E) : Cn P w K mg base k f ps sp' := by
  obtain ⟨⟨fd, F, b⟩, kp⟩ := c
  exact ⟨⟨fd, F.imp h, b⟩, kp⟩
/-- f(..) -/
def tCal (sp : Sp) (E : XK) (t : TA) : TE := fun σ H Q => t σ H fun vs H1 => sp vs H1 Q E
theorem pe_cn {X : Cx} {j k : Nat} {f : Addr} {ps : List Str} {sp : Sp} {E : XK} {x : Str} {p pos : Pos} {e : Expr} {es : List Expr} {t : TA} (c : Cn X.prog X.w X.K X.mg X.base k f ps sp) (hr : Room j X.A) (hk : k ≤ j) (hg : Gl X x) (hm : X.mg x = some (.ref f))
    (hx : Passes (L2N.CX X.prog X.w) X E) (ha : PA X (e :: es) t) (hdb : (x == ("__debug__" : Str)) = false := by decide) (he : starEach (e :: es) X.env = (false, eval e X.env) :: starEach es X.env := by rfl)
    (hpl : (backTo pos (starEach es X.env)).any (·.1) = false := by rfl) : PE X (.Call (.Name x p) (e :: es) [] pos) (tCal sp E t) := by
  obtain ⟨⟨fd, F, b⟩, kp⟩ := c
  have h := pe_call (pos := pos) (p := p) F (hr.mono hk) hg hm kp b .nil hx ha hdb he hpl
  refine ⟨fun pins s σ H Q I q => h.run pins s σ H Q I ?_⟩
  show t σ H fun vs H1 => sp (vs ++ []) H1 Q E
  have e0 : (fun (vs : List V) (H1 : Hp) => sp (vs ++ []) H1 Q E) = fun vs H1 => sp vs H1 Q E := by
    funext vs H1
    rw [List.append_nil]
  rw [e0]
  exact q
/-- o.m(..), o an instance of the class at C -/
def tCalM (C : Addr) (m : Str) (sp : Sp) (E : XK) (ta : TE) (t : TA) : TE := fun σ H Q => ta σ H fun x H1 => ∃ a dx fs, x = .ref a ∧ H1 a = some (.ins C dx fs) ∧ fs.lookup m = none ∧ t σ H1 fun vs H2 => sp (x :: vs) H2 Q E
theorem pe_cnm {X : Cx} {j k : Nat} {f C : Addr} {ps : List Str} {sp : Sp} {E : XK} {m : Str} {apos pos : Pos} {o e : Expr} {es : List Expr} {ta : TE} {t : TA} {pl : Sem Bool} (ho : PE X o ta) (cl : Cls X.K C) (hm : Meth X.K C m f)
    (c : Cn X.prog X.w X.K X.mg X.base k f ps sp) (hr : Room j X.A) (hk : k ≤ j) (hx : Passes (L2N.CX X.prog X.w) X E) (ha : PA X (e :: es) t)
    (hst : starEach (e :: es) X.env = (false, eval e X.env) :: starEach es X.env := by rfl) (hpl : (backTo pos (starEach es X.env)).any (·.1) = false := by rfl)
    (ht : eval (.Call (.Attribute o m apos) (e :: es) [] pos) X.env = (do
      let ov ← eval o X.env
      standAt apos.atName
      let (f, first) ← holding [ov] (getMethod ov m pl)
      callWith pos f first (backTo pos (starEach (e :: es) X.env)) (backToKw pos (keywordEach [] X.env))) := by rfl) : PE X (.Call (.Attribute o m apos) (e :: es) [] pos) (tCalM C m sp E ta t) := by
  obtain ⟨⟨fd, F, b⟩, kp⟩ := c
  have h := pe_meth (pl := pl) ho cl hm F (hr.mono hk) b .nil hx ha hst hpl ht
  refine ⟨fun pins s σ H Q I q => h.run pins s σ H Q I ?_⟩
  show ta σ H fun x H1 => ∃ a dx fs, x = .ref a ∧ H1 a = some (.ins C dx fs) ∧ fs.lookup m = none ∧ t σ H1 fun vs H2 => sp (x :: (vs ++ [])) H2 Q E
  have e0 : ∀ x : V, (fun (vs : List V) (H1 : Hp) => sp (x :: (vs ++ [])) H1 Q E) = fun vs H1 => sp (x :: vs) H1 Q E := fun x => by
    funext vs H1
    rw [List.append_nil]
  simp only [e0]
  exact q
theorem pe_cnm0 {X : Cx} {j k : Nat} {f C : Addr} {ps : List Str} {sp : Sp} {E : XK} {m : Str} {apos pos : Pos} {o : Expr} {ta : TE} {pl : Sem Bool} (ho : PE X o ta) (cl : Cls X.K C) (hm : Meth X.K C m f)
    (c : Cn X.prog X.w X.K X.mg X.base k f ps sp) (hr : Room j X.A) (hk : k ≤ j) (hx : Passes (L2N.CX X.prog X.w) X E)
    (ht : eval (.Call (.Attribute o m apos) [] [] pos) X.env = (do
      let ov ← eval o X.env
      standAt apos.atName
      let (f, first) ← holding [ov] (getMethod ov m pl)
      callWith pos f first (backTo pos (starEach [] X.env)) (backToKw pos (keywordEach [] X.env))) := by rfl) : PE X (.Call (.Attribute o m apos) [] [] pos) (tCalM C m sp E ta tNil) := by
  obtain ⟨⟨fd, F, b⟩, kp⟩ := c
  have h := pe_meth0 (pl := pl) ho cl hm F (hr.mono hk) b .nil hx ht
  refine ⟨fun pins s σ H Q I q => h.run pins s σ H Q I ?_⟩
  exact q
/-- C(..) -/
def tMak (C : Addr) (sp : Sp) (E : XK) (t : TA) : TE := fun σ H Q => t σ H fun vs H1 => ∀ x dx, H1 x = none → H1 dx = none → dx ≠ x → sp (.ref x :: vs) (upd (upd H1 dx (.own x)) x (.ins C dx [])) (fun v H2 => v = .non ∧ Q (.ref x) H2) E
theorem pe_cnk {X : Cx} {j k : Nat} {f C : Addr} {ps : List Str} {sp : Sp} {E : XK} {x : Str} {p pos : Pos} {e : Expr} {es : List Expr} {t : TA} (M : Mk X.K C f) (c : Cn X.prog X.w X.K X.mg X.base k f ps sp) (hr : Room j X.A) (hk : k + 1 ≤ j) (hg : Gl X x) (hm : X.mg x = some (.ref C))
    (hx : Passes (L2N.CX X.prog X.w) X E) (ha : PA X (e :: es) t) (hdb : (x == ("__debug__" : Str)) = false := by decide) (he : starEach (e :: es) X.env = (false, eval e X.env) :: starEach es X.env := by rfl)
    (hpl : (backTo pos (starEach es X.env)).any (·.1) = false := by rfl) : PE X (.Call (.Name x p) (e :: es) [] pos) (tMak C sp E t) := by
  obtain ⟨⟨fd, F, b⟩, kp⟩ := c
  have h := pe_make (pos := pos) (p := p) M F (hr.mono hk) hg hm b .nil hx ha hdb he hpl
  refine ⟨fun pins s σ H Q I q => h.run pins s σ H Q I ?_⟩
  show t σ H fun vs H1 => ∀ x dx, H1 x = none → H1 dx = none → dx ≠ x → sp (.ref x :: (vs ++ [])) (upd (upd H1 dx (.own x)) x (.ins C dx [])) (fun v H2 => v = .non ∧ Q (.ref x) H2) E
  simp only [List.append_nil]
  exact q

/-! ### a def keeps its promise -/
section
variable {P : Program} {w : World} {K : PySem.W.Frag} {mg : Str → Option Value} {base : Heap}
/-- the def stands -/
def Stands (K : PySem.W.Frag) (d : He.DefD) : Prop := ∃ fd, FunD K d.name d.qual d.params d.body d.scope [] [] (He.fAd K d.at_) fd
/-- a def that lets nothing out -/
theorem cnN {d : He.DefD} {N ps : List Str} {k : Nat} {sp : Sp} (F : Stands K d) (S : FnScope N ps d.scope) (len : ∀ vs H Q E, sp vs H Q E → vs.length = ps.length)
    (hb : ∀ (kV doc pm : Value) (an : Option Addr) (cdv ct : Value) (us : List Value), us.length = ps.length → bindArgs (PySem.W.fnOf d.name d.qual d.params d.body d.scope .none kV doc pm an cdv ct) ⟨us, []⟩ = pure (ps.zip us))
    (hbody : ∀ (cdv : Value) (A : Around) (outer : List Env) (s : Shared) (H : Hp) (vs : List V) (Q : VK) (E : XK), Room k (A.deeper (envOfC d.qual d.scope s.heap.objs.size (He.fAd K d.at_) cdv)) → sp vs H Q E →
      ∃ t, PSs (cxOf (L2N.CX P w) P w K mg base N d.qual d.scope (He.fAd K d.at_) cdv A outer s H E).nox d.body t ∧ t { nx := fun _ H' => Q .non H', rt := Q } (start N vs) H) : Cn P w K mg base (k + 1) (He.fAd K d.at_) ps sp := by
  obtain ⟨fd, F⟩ := F
  refine ⟨⟨fd, F.ok S len fun cdv A outer s H vs Q E hr h => ?_, F.bindsN hb⟩, F.kp⟩
  obtain ⟨t, h1, h2⟩ := hbody cdv A outer s H vs Q E hr h
  exact ⟨t, h1.nox, h2⟩
/-- what is never asked is kept -/
theorem cnZ {d : He.DefD} {N ps : List Str} {k : Nat} {sp : Sp} (F : Stands K d) (S : FnScope N ps d.scope) (len : ∀ vs H Q E, sp vs H Q E → vs.length = ps.length)
    (hb : ∀ (kV doc pm : Value) (an : Option Addr) (cdv ct : Value) (us : List Value), us.length = ps.length → bindArgs (PySem.W.fnOf d.name d.qual d.params d.body d.scope .none kV doc pm an cdv ct) ⟨us, []⟩ = pure (ps.zip us))
    (z : ∀ vs H Q E, sp vs H Q E → False) : Cn P w K mg base (k + 1) (He.fAd K d.at_) ps sp := cnN F S len hb fun _ _ _ _ H vs Q E _ h => (z vs H Q E h).elim
/-- a def that lets nothing out, its function object known -/
theorem fnN {d : He.DefD} {N ps : List Str} {k : Nat} {sp : Sp} {fd : FuncData} (F : FunD K d.name d.qual d.params d.body d.scope [] [] (He.fAd K d.at_) fd) (S : FnScope N ps d.scope) (len : ∀ vs H Q E, sp vs H Q E → vs.length = ps.length)
    (hbody : ∀ (cdv : Value) (A : Around) (outer : List Env) (s : Shared) (H : Hp) (vs : List V) (Q : VK) (E : XK), Room k (A.deeper (envOfC d.qual d.scope s.heap.objs.size (He.fAd K d.at_) cdv)) → sp vs H Q E →
      ∃ t, PSs (cxOf (L2N.CX P w) P w K mg base N d.qual d.scope (He.fAd K d.at_) cdv A outer s H E).nox d.body t ∧ t { nx := fun _ H' => Q .non H', rt := Q } (start N vs) H) : FnOk P w K mg base (L2N.CX P w) (k + 1) (He.fAd K d.at_) fd ps sp := by
  refine F.ok S len fun cdv A outer s H vs Q E hr h => ?_
  obtain ⟨t, h1, h2⟩ := hbody cdv A outer s H vs Q E hr h
  exact ⟨t, h1.nox, h2⟩
/-- the law's own def: what it lets out is never asked -/
theorem fn0 {k : Nat} {f : Addr} {fd : FuncData} {ps : List Str} {sp : Sp} (F : FnOk P w K mg base (L2N.CX P w) k f fd ps sp) (h : ∀ vs H Q E, sp vs H Q E → sp vs H Q E0) : FnOk P w K mg base L2.CX0 k f fd ps sp := by
  refine ⟨F.len, fun A outer s H args us vs Q E hr e0 hb r want => codeAny_mono (F.run A outer s H args us vs Q E0 hr e0 hb r (h _ _ _ _ want)) fun r s2 got => ?_⟩
  match r, got with
  | .ok (.ret u), got => exact got
  | .ok .next, got => exact False.elim got
  | .ok .brk, got => exact False.elim got
  | .ok .cont, got => exact False.elim got
  | .error e, got =>
    have z : L2N.CX P w outer H s E0 e s2 := got
    unfold L2N.CX at z
    obtain ⟨_, _, _, _, _, _, _, _, _, _, _, _, z⟩ := z
    exact z.elim
/-- a def that may let an exception out -/
theorem cnX {d : He.DefD} {N ps : List Str} {k : Nat} {sp : Sp} (F : Stands K d) (S : FnScope N ps d.scope) (len : ∀ vs H Q E, sp vs H Q E → vs.length = ps.length)
    (hb : ∀ (kV doc pm : Value) (an : Option Addr) (cdv ct : Value) (us : List Value), us.length = ps.length → bindArgs (PySem.W.fnOf d.name d.qual d.params d.body d.scope .none kV doc pm an cdv ct) ⟨us, []⟩ = pure (ps.zip us))
    (hbody : ∀ (cdv : Value) (A : Around) (outer : List Env) (s : Shared) (H : Hp) (vs : List V) (Q : VK) (E : XK), Room k (A.deeper (envOfC d.qual d.scope s.heap.objs.size (He.fAd K d.at_) cdv)) → sp vs H Q E →
      ∃ t, PSs (cxOf (L2N.CX P w) P w K mg base N d.qual d.scope (He.fAd K d.at_) cdv A outer s H E) d.body t ∧ t { nx := fun _ H' => Q .non H', rt := Q } (start N vs) H) : Cn P w K mg base (k + 1) (He.fAd K d.at_) ps sp := by
  obtain ⟨fd, F⟩ := F
  exact ⟨⟨fd, F.ok S len hbody, F.bindsN hb⟩, F.kp⟩
end

/-! ### promises by their arguments -/
def sp1 (R : V → Hp → VK → XK → Prop) : Sp := fun vs H Q E => ∃ a, vs = [a] ∧ R a H Q E
def sp2 (R : V → V → Hp → VK → XK → Prop) : Sp := fun vs H Q E => ∃ a b, vs = [a, b] ∧ R a b H Q E
def sp3 (R : V → V → V → Hp → VK → XK → Prop) : Sp := fun vs H Q E => ∃ a b c, vs = [a, b, c] ∧ R a b c H Q E
def sp4 (R : V → V → V → V → Hp → VK → XK → Prop) : Sp := fun vs H Q E => ∃ a b c d, vs = [a, b, c, d] ∧ R a b c d H Q E
theorem sp1_len {R} (vs : List V) (H : Hp) (Q : VK) (E : XK) (h : sp1 R vs H Q E) : vs.length = 1 := by obtain ⟨a, rfl, _⟩ := h; rfl
theorem sp2_len {R} (vs : List V) (H : Hp) (Q : VK) (E : XK) (h : sp2 R vs H Q E) : vs.length = 2 := by obtain ⟨a, b, rfl, _⟩ := h; rfl
theorem sp3_len {R} (vs : List V) (H : Hp) (Q : VK) (E : XK) (h : sp3 R vs H Q E) : vs.length = 3 := by obtain ⟨a, b, c, rfl, _⟩ := h; rfl
theorem sp4_len {R} (vs : List V) (H : Hp) (Q : VK) (E : XK) (h : sp4 R vs H Q E) : vs.length = 4 := by obtain ⟨a, b, c, d, rfl, _⟩ := h; rfl
theorem i_sp1 {R a H Q E} (h : R a H Q E) : sp1 R [a] H Q E := ⟨a, rfl, h⟩
theorem i_sp2 {R a b H Q E} (h : R a b H Q E) : sp2 R [a, b] H Q E := ⟨a, b, rfl, h⟩
theorem i_sp3 {R a b c H Q E} (h : R a b c H Q E) : sp3 R [a, b, c] H Q E := ⟨a, b, c, rfl, h⟩
theorem i_sp4 {R a b c d H Q E} (h : R a b c d H Q E) : sp4 R [a, b, c, d] H Q E := ⟨a, b, c, d, rfl, h⟩

/-! ### steps over readings -/
section
variable {σ : L2.St} {H H1 : Hp} {Q : VK} {D : Ends} {te ta tb tc : TE} {tt t1 t2 : TT} {g : TG} {t u : TS} {tas : TA} {v x y : V} {i : Nat}
theorem i_seq (h : t { D with nx := u D } σ H) : tSeq t u D σ H := h
theorem i_if (h : tt σ H fun b H1 => if b = true then t D σ H1 else u D σ H1) : tIfS tt t u D σ H := h
theorem i_ret (h : te σ H D.rt) : tRet te D σ H := h
theorem i_asg (h : te σ H fun x H1 => g x σ H1 D.nx) : tAsg te g D σ H := h
theorem i_name {R : L2.St → Hp → Prop} (h : R (σ.set i (some v)) H) : gName i v σ H R := h
theorem i_next (h : D.nx σ H) : tNext D σ H := h
theorem i_drop (h : te σ H fun _ H1 => D.nx σ H1) : tDrop te D σ H := h
theorem i_var (e : σ[i]? = some (some v)) (h : Q v H) : tVar i σ H Q := ⟨v, e, h⟩
theorem i_c (h : Q v H) : tC v σ H Q := h
theorem i_op {r : R2} (h : ta σ H fun x H1 => tb σ H1 fun y H2 => r x y H2 Q) : tOp r ta tb σ H Q := h
theorem i_un {r : V → Hp → VK → Prop} (h : ta σ H fun x H1 => r x H1 Q) : tUn r ta σ H Q := h
theorem i_nil {R : List V → Hp → Prop} (h : R [] H) : tNil σ H R := h
theorem i_cons {R : List V → Hp → Prop} (h : ta σ H fun x H1 => tas σ H1 fun xs H2 => R (x :: xs) H2) : tCons ta tas σ H R := h
theorem i_cb {r : List V → Hp → VK → Prop} (h : tas σ H fun vs H1 => r vs H1 Q) : tCB r tas σ H Q := h
theorem i_cal {sp : Sp} {E : XK} (h : tas σ H fun vs H1 => sp vs H1 Q E) : tCal sp E tas σ H Q := h
theorem i_calM {C : Addr} {m : Str} {sp : Sp} {E : XK} (h : ta σ H fun x H1 => ∃ a dx fs, x = .ref a ∧ H1 a = some (.ins C dx fs) ∧ fs.lookup m = none ∧ tas σ H1 fun vs H2 => sp (x :: vs) H2 Q E) : tCalM C m sp E ta tas σ H Q := h
theorem i_test {R : Bool → Hp → Prop} (h : te σ H fun x H' => ∃ k, x = .bl k ∧ R k H') : tTest te σ H R := h
theorem i_tb {R : Bool → Hp → Prop} (h : te σ H fun x H' => ∃ k, x = .bl k ∧ R k H') : tB te σ H R := h
theorem i_k {R : Bool → Prop} {b : Bool} (h : R b) : ∃ k, V.bl b = V.bl k ∧ R k := ⟨b, rfl, h⟩
theorem i_not {R : Bool → Hp → Prop} (h : tt σ H fun c H1 => R (!c) H1) : tNot tt σ H R := h
theorem i_and {R : Bool → Hp → Prop} (h : t1 σ H fun c H1 => if c = true then t2 σ H1 R else R false H1) : tAnd t1 t2 σ H R := h
theorem i_or {R : Bool → Hp → Prop} (h : t1 σ H fun c H1 => if c = true then R true H1 else t2 σ H1 R) : tOr t1 t2 σ H R := h
theorem i_andV (h : ta σ H fun x H1 => ∃ c, x = .bl c ∧ if c = true then tb σ H1 Q else Q (.bl false) H1) : tAndV ta tb σ H Q := h
theorem i_orV (h : ta σ H fun x H1 => ∃ c, x = .bl c ∧ if c = true then Q (.bl true) H1 else tb σ H1 Q) : tOrV ta tb σ H Q := h
theorem i_notV (h : ta σ H fun x H1 => ∃ c, x = .bl c ∧ Q (.bl (!c)) H1) : tNotV ta σ H Q := h
theorem i_ife (h : tt σ H fun c H1 => if c = true then ta σ H1 Q else tb σ H1 Q) : tIf tt ta tb σ H Q := h
theorem i_isN (h : ta σ H fun x H1 => Q (.bl (decide (x = .non))) H1) : tIsN ta σ H Q := h
theorem i_notN (h : ta σ H fun x H1 => Q (.bl (!decide (x = .non))) H1) : tNotN ta σ H Q := h
theorem i_chain {r r' : R2} (h : ta σ H fun x H1 => tb σ H1 fun y H2 => r x y H2 fun z H3 => ∃ k, z = .bl k ∧ (if k = true then tc σ H3 fun w' H4 => r' y w' H4 Q else Q (.bl false) H3)) : tChain r r' ta tb tc σ H Q := h
theorem i_tup (h : tas σ H fun xs H1 => xs.length ≤ sizeLine ∧ ∀ p, H1 p = none → Q (.ref p) (upd H1 p (.tup xs))) : tTup tas σ H Q := h
theorem i_lst (h : tas σ H fun xs H1 => xs.length ≤ sizeLine ∧ ∀ p, H1 p = none → Q (.ref p) (upd H1 p (.lst xs))) : tLst tas σ H Q := h
theorem i_sl {r : V → Option Int → Option Int → Hp → VK → Prop} {tl th : TO} (h : te σ H fun x H1 => tl σ H1 fun l H2 => th σ H2 fun u H3 => r x l u H3 Q) : tSl r te tl th σ H Q := h
theorem i_noPart {R : Option Int → Hp → Prop} (h : R none H) : tNoPart σ H R := h
theorem i_part {R : Option Int → Hp → Prop} (h : te σ H fun x H1 => ∃ i, x = .int i ∧ R (some i) H1) : tPart te σ H R := h
theorem i_ik {R : Int → Prop} {b : Int} (h : R b) : ∃ k, V.int b = V.int k ∧ R k := ⟨b, rfl, h⟩
theorem i_sk {R : Str → Prop} {b : Str} (h : R b) : ∃ k, V.str b = V.str k ∧ R k := ⟨b, rfl, h⟩
theorem i_bm0 {K : PySem.W.Frag} {T : String} {r : V → List V → Hp → VK → Prop} (h : te σ H fun x H1 => tyV K T x H1 ∧ r x [] H1 Q) : tBM0 K T r te σ H Q := h
theorem i_bm {K : PySem.W.Frag} {T : String} {r : V → List V → Hp → VK → Prop} (h : te σ H fun x H1 => tyV K T x H1 ∧ tas σ H1 fun xs H2 => r x xs H2 Q) : tBM K T r te tas σ H Q := h
theorem i_m1 {r : V → List V → Hp → VK → Prop} (h : te σ H fun x H1 => (∃ a, x = .str a) ∧ ta σ H1 fun y H2 => r x [y] H2 Q) : tM1 r te ta σ H Q := h
theorem i_m0 {r : V → List V → Hp → VK → Prop} (h : te σ H fun x H1 => (∃ a, x = .str a) ∧ r x [] H1 Q) : tM0 r te σ H Q := h
theorem i_fld {K : PySem.W.Frag} {f : Str} (h : ta σ H fun x H1 => ∃ a C dx fs v, x = .ref a ∧ H1 a = some (.ins C dx fs) ∧ Cls K C ∧ NoAttr K C f ∧ fs.lookup f = some v ∧ Q v H1) : tFld K ta f σ H Q := h
theorem i_iT {A B : Prop} {c : Bool} (e : c = true) (h : A) : if c = true then A else B := by rw [if_pos e]; exact h
theorem i_iF {A B : Prop} {c : Bool} (e : c = false) (h : B) : if c = true then A else B := by rw [e, if_neg Bool.false_ne_true]; exact h
theorem i_i2 {A B : Prop} {c : Bool} (h1 : c = true → A) (h2 : c = false → B) : if c = true then A else B := by
  cases c
  · rw [if_neg Bool.false_ne_true]; exact h2 rfl
  · rw [if_pos rfl]; exact h1 rfl
end
/-! one step of a reading by its head -/
local macro_rules | `(tactic| walk_at "kb1") => `(tactic| with_reducible first
  | refine i_var rfl ?_ | refine i_c ?_ | refine i_cons ?_ | refine i_nil ?_ | refine i_op ?_ | refine i_seq ?_ | refine i_if ?_ | refine i_ret ?_ | refine i_asg ?_ | refine i_name ?_ | refine i_next ?_ | refine i_drop ?_
  | refine i_un ?_ | refine i_cb ?_ | refine i_cal ?_ | refine i_test ?_ | refine i_tb ?_ | refine i_k ?_ | refine i_not ?_ | refine i_and ?_ | refine i_or ?_ | refine i_andV ?_ | refine i_orV ?_ | refine i_notV ?_ | refine i_ife ?_
  | refine i_isN ?_ | refine i_notN ?_ | refine i_chain ?_ | refine i_tup ?_ | refine i_lst ?_ | refine i_sl ?_ | refine i_noPart ?_ | refine i_part ?_ | refine i_ik ?_ | refine i_sk ?_ | refine i_bm0 ?_ | refine i_bm ?_ | refine i_m1 ?_ | refine i_m0 ?_ | refine i_fld ?_
  | refine i_sp1 ?_ | refine i_sp2 ?_ | refine i_sp3 ?_ | refine i_sp4 ?_)
example {D : Ends} {H : Hp} {a : V} (h : D.rt a H) : tSeq (tAsg (tVar 0) (gName 1)) (tRet (tVar 1)) D [some a, none] H := by
  repeat walk_at "kb1"
  exact h
/-! ### operators of any kind: the kinds side by side -/
section
variable {X : Cx}
def rAddStr : R2 := fun x y H Q => ∃ i j, x = .str i ∧ y = .str j ∧ i.length + j.length ≤ sizeLine ∧ Q (.str (i ++ j)) H
def rAddU : R2 := fun x y H Q => rI0 (fun i j => .int (i + j)) x y H Q ∨ (rAddStr x y H Q ∨ rCat x y H Q)
theorem op_addU : OpR X (binaryOp .Add) rAddU := OpR.or op_add (OpR.or op_add_str op_cat)
def rEqU (K : PySem.W.Frag) : R2 := fun x y H Q => rEq x y H Q ∨ rEqD K x y H Q
def rNeU (K : PySem.W.Frag) : R2 := fun x y H Q => rNe x y H Q ∨ rNeD K x y H Q
theorem op_eqU (hu : X.A.units + 64 < cLine) : OpR X (compareOp .Eq) (rEqU X.K) := OpR.or op_eq (op_eqD hu)
theorem op_neU (hu : X.A.units + 64 < cLine) : OpR X (compareOp .NotEq) (rNeU X.K) := OpR.or op_ne (op_neD hu)
def rInStr : R2 := fun x y H Q => ∃ (c : Nat) (z : Str), x = .str ⟨#[c]⟩ ∧ y = .str z ∧ Q (.bl (decide (c ∈ z.cps.toList))) H
def rNotInStr : R2 := fun x y H Q => ∃ (c : Nat) (z : Str), x = .str ⟨#[c]⟩ ∧ y = .str z ∧ Q (.bl (!decide (c ∈ z.cps.toList))) H
def rInU (K : PySem.W.Frag) : R2 := fun x y H Q => rInStr x y H Q ∨ (rIn K false x y H Q ∨ rInD K x y H Q)
def rNotInU (K : PySem.W.Frag) : R2 := fun x y H Q => rNotInStr x y H Q ∨ (rIn K true x y H Q ∨ rNotInD K x y H Q)
theorem op_inU (hu : X.A.units + 65 < cLine) : OpR X (compareOp .In) (rInU X.K) := OpR.or op_in_sign (OpR.or op_in_seq (op_inD hu))
theorem op_notInU (hu : X.A.units + 65 < cLine) : OpR X (compareOp .NotIn) (rNotInU X.K) := OpR.or op_notIn_sign (OpR.or op_notIn_seq (op_notInD hu))
def rLtU (K : PySem.W.Frag) : R2 := fun x y H Q => rI0 (fun i j => .bl (decide (i < j))) x y H Q ∨ rLtT K x y H Q
theorem op_ltU (hu : X.A.units < cLine) : OpR X (compareOp .Lt) (rLtU X.K) := OpR.or op_lt (op_ltT hu)
def rSlU (K : PySem.W.Frag) : V → Option Int → Option Int → Hp → VK → Prop := fun x lo hi H Q => rSlL K x lo hi H Q ∨ (rSlS x lo hi H Q ∨ rSlA K x lo hi H Q)
theorem sl_U : SlR X (rSlU X.K) := SlR.or sl_list (SlR.or sl_str sl_tupA)
def rLenU (K : PySem.W.Frag) : List V → Hp → VK → Prop := fun xs H Q => (∃ x n, xs = [x] ∧ LenV K x H n ∧ Q (.int n) H) ∨ (∃ a kvs, xs = [V.ref a] ∧ H a = some (.dK kvs) ∧ Q (.int kvs.length) H)
theorem call_lenU : CallR X (.builtin "len") (rLenU X.K) := CallR.or call_len call_lenD
def rIsiU (K : PySem.W.Frag) : List V → Hp → VK → Prop := fun xs H Q => rIsi K xs H Q ∨ rIsiT K xs H Q
theorem call_isiU : CallR X (.builtin "isinstance") (rIsiU X.K) := CallR.or call_isi call_isiT
def rListU (K : PySem.W.Frag) : List V → Hp → VK → Prop := fun xs H Q => ∃ p ys, xs = [.ref p] ∧ (SqL K H p ys ∨ SqT K H p ys) ∧ ∀ l, H l = none → Q (.ref l) (upd H l (.lst ys))
theorem call_listU : CallR X (.type "list") (rListU X.K) := call_list_of
def rTupU (K : PySem.W.Frag) : List V → Hp → VK → Prop := fun xs H Q => ∃ p ys, xs = [.ref p] ∧ ((SqL K H p ys ∧ ∀ l, H l = none → Q (.ref l) (upd H l (.tup ys))) ∨ (SqT K H p ys ∧ Q (.ref p) H))
theorem call_tupU : CallR X (.type "tuple") (rTupU X.K) := call_tuple_of
def rInt1 : List V → Hp → VK → Prop := fun xs H Q => (∃ i, xs = [.int i] ∧ Q (.int i) H) ∨ ∃ k, xs = [.bl k] ∧ Q (.int (if k then 1 else 0)) H
def rIntS : List V → Hp → VK → Prop := fun xs H Q => ∃ a n, xs = [.str a] ∧ PySem.intText? a = some n ∧ a.length ≤ 640 ∧ Q (.int n) H
def rIntU : List V → Hp → VK → Prop := fun xs H Q => rInt1 xs H Q ∨ rIntS xs H Q
theorem call_intU : CallR X (.type "int") rIntU := CallR.or call_int1 call_int_str
def rStrI : List V → Hp → VK → Prop := fun xs H Q => ∃ i, xs = [.int i] ∧ i.natAbs.log2 < 1920 ∧ Q (.str (toString i)) H
theorem call_strI : CallR X (.type "str") rStrI := call_str_int
def rAbs : List V → Hp → VK → Prop := fun xs H Q => ∃ i, xs = [.int i] ∧ Q (.int (if i < 0 then -i else i)) H
theorem call_absU : CallR X (.builtin "abs") rAbs := call_abs
def rMax2 : List V → Hp → VK → Prop := fun xs H Q => ∃ i j, xs = [.int i, .int j] ∧ Q (.int (if j > i then j else i)) H
theorem call_maxU (hc : X.calm = true) : CallR X (.builtin "max") rMax2 := call_max2 hc
def rMin2 : List V → Hp → VK → Prop := fun xs H Q => ∃ i j, xs = [.int i, .int j] ∧ Q (.int (if j < i then j else i)) H
theorem call_minU (hc : X.calm = true) : CallR X (.builtin "min") rMin2 := call_min2 hc

variable {K : PySem.W.Frag} {H : Hp} {Q : VK}
theorem i_addI {i j : Int} (h : Q (.int (i + j)) H) : rAddU (.int i) (.int j) H Q := .inl ⟨i, j, rfl, rfl, h⟩
theorem i_addS {i j : Str} (hz : i.length + j.length ≤ sizeLine) (h : Q (.str (i ++ j)) H) : rAddU (.str i) (.str j) H Q := .inr (.inl ⟨i, j, rfl, rfl, hz, h⟩)
theorem i_addL {a b : Addr} {xs ys : List V} (ha : H a = some (.lst xs)) (hb : H b = some (.lst ys)) (hz : xs.length + ys.length ≤ sizeLine) (h : ∀ p, H p = none → Q (.ref p) (upd H p (.lst (xs ++ ys)))) : rAddU (.ref a) (.ref b) H Q := .inr (.inr ⟨a, b, xs, ys, rfl, rfl, ha, hb, hz, h⟩)
theorem i_rI {C : Int → Int → Prop} {g : Int → Int → V} {i j : Int} (hc : C i j) (h : Q (g i j) H) : rI C g (.int i) (.int j) H Q := ⟨i, j, rfl, rfl, hc, h⟩
theorem i_rI0 {g : Int → Int → V} {i j : Int} (h : Q (g i j) H) : rI0 g (.int i) (.int j) H Q := ⟨i, j, rfl, rfl, h⟩
theorem i_rU {g : Int → V} {i : Int} (h : Q (g i) H) : rU g (.int i) H Q := ⟨i, rfl, h⟩
theorem i_eqS {x y : V} (hs : scal x y = true) (h : Q (.bl (decide (x = y))) H) : rEqU K x y H Q := .inl ⟨hs, h⟩
theorem i_eqD {x y : V} {d e : PyData} (hd : Dp K H x d) (he : Dp K H y e) (s1 : SeqAt.shaped d = true) (s2 : SeqAt.shaped e = true) (h : Q (.bl (PyData.eqv d e)) H) : rEqU K x y H Q := .inr ⟨d, e, hd, he, s1, s2, h⟩
theorem i_neS {x y : V} (hs : scal x y = true) (h : Q (.bl (!decide (x = y))) H) : rNeU K x y H Q := .inl ⟨hs, h⟩
theorem i_neD {x y : V} {d e : PyData} (hd : Dp K H x d) (he : Dp K H y e) (s1 : SeqAt.shaped d = true) (s2 : SeqAt.shaped e = true) (h : Q (.bl (!PyData.eqv d e)) H) : rNeU K x y H Q := .inr ⟨d, e, hd, he, s1, s2, h⟩
theorem i_inC {c : Nat} {z : Str} (h : Q (.bl (decide (c ∈ z.cps.toList))) H) : rInU K (.str ⟨#[c]⟩) (.str z) H Q := .inl ⟨c, z, rfl, rfl, h⟩
theorem i_notInC {c : Nat} {z : Str} (h : Q (.bl (!decide (c ∈ z.cps.toList))) H) : rNotInU K (.str ⟨#[c]⟩) (.str z) H Q := .inl ⟨c, z, rfl, rfl, h⟩
theorem i_inSq {x : V} {p : Addr} {xs : List V} (hq : SqL K H p xs ∨ SqT K H p xs) (f1 : flatV x = true) (f2 : xs.all flatV = true) (h : Q (.bl (inV x xs)) H) : rInU K x (.ref p) H Q := .inr (.inl ⟨p, xs, rfl, hq, f1, f2, h⟩)
theorem i_notInSq {x : V} {p : Addr} {xs : List V} (hq : SqL K H p xs ∨ SqT K H p xs) (f1 : flatV x = true) (f2 : xs.all flatV = true) (h : Q (.bl (!inV x xs)) H) : rNotInU K x (.ref p) H Q := .inr (.inl ⟨p, xs, rfl, hq, f1, f2, h⟩)
theorem i_inD {x : V} {p : Addr} {d : PyData} {ds : List PyData} (hd : Dp K H x d) (he : Dp K H (.ref p) (.list ds)) (s1 : SeqAt.shaped d = true) (s2 : SeqAt.shaped (.list ds) = true) (h : Q (.bl (ds.any fun z => PyData.eqv z d)) H) : rInU K x (.ref p) H Q := .inr (.inr ⟨d, ds, hd, he, s1, s2, h⟩)
theorem i_ltI {i j : Int} (h : Q (.bl (decide (i < j))) H) : rLtU K (.int i) (.int j) H Q := .inl ⟨i, j, rfl, rfl, h⟩
theorem i_ltT {a b : Addr} {ns ms : List Int} (ha : SqT K H a (ns.map V.int)) (hb : SqT K H b (ms.map V.int)) (h : Q (.bl (HT.lexLt ns ms)) H) : rLtU K (.ref a) (.ref b) H Q := .inr ⟨a, b, ns, ms, rfl, rfl, ha, hb, h⟩
theorem i_slL {a : Addr} {xs : List V} {lo hi : Option Int} (ha : SqL K H a xs) (h : ∀ p, H p = none → Q (.ref p) (upd H p (.lst (cutV xs lo hi)))) : rSlU K (.ref a) lo hi H Q := .inl ⟨a, xs, rfl, ha, h⟩
theorem i_slS {z : Str} {lo hi : Option Int} (hz : z.length ≤ sizeLine) (h : Q (.str (cutS z lo hi)) H) : rSlU K (.str z) lo hi H Q := .inr (.inl ⟨z, rfl, hz, h⟩)
theorem i_lenS {z : Str} (hz : z.length ≤ sizeLine) (h : Q (.int z.length) H) : rLenU K [.str z] H Q := .inl ⟨.str z, z.length, rfl, ⟨hz, rfl⟩, h⟩
theorem i_lenL {a : Addr} {xs : List V} (ha : SqL K H a xs) (h : Q (.int xs.length) H) : rLenU K [.ref a] H Q := .inl ⟨.ref a, xs.length, rfl, .inl ⟨xs, ha, rfl⟩, h⟩
theorem i_lenT {a : Addr} {xs : List V} (ha : SqT K H a xs) (h : Q (.int xs.length) H) : rLenU K [.ref a] H Q := .inl ⟨.ref a, xs.length, rfl, .inr ⟨xs, ha, rfl⟩, h⟩
theorem i_ixL {a : Addr} {xs : List V} {i : Int} {v : V} (ha : SqL K H a xs) (hv : atI xs i = some v) (h : Q v H) : rIx K (.ref a) (.int i) H Q := .inl ⟨a, xs, i, v, rfl, rfl, ha, hv, h⟩
theorem i_ixT {a : Addr} {xs : List V} {i : Int} {v : V} (ha : SqT K H a xs) (hv : atI xs i = some v) (h : Q v H) : rIx K (.ref a) (.int i) H Q := .inr (.inl ⟨a, xs, i, v, rfl, rfl, ha, hv, h⟩)
theorem i_ixS {z : Str} {i : Int} {c : Nat} (hz : z.length ≤ sizeLine) (hv : atI z.cps.toList i = some c) (h : Q (.str ⟨#[c]⟩) H) : rIx K (.str z) (.int i) H Q := .inr (.inr ⟨z, i, c, rfl, rfl, hz, hv, h⟩)
theorem i_isi {x : V} {T U : String} {b : Bool} (ty : TyX K H x (.type T)) (e : kitB T U = some b) (h : Q (.bl b) H) : rIsiU K [x, .ty U] H Q := .inl ⟨x, .ty U, .type T, .type U, b, rfl, .ty U, ty, kit_ty e, h⟩
theorem i_isiC {x : V} {T : String} {U : Addr} {u t : Value} {b : Bool} (cv : ClsV (.ref U) u) (ty : TyX K H x t) (e : PySem.W.kitOne K t u = some b) (h : Q (.bl b) H) : rIsiU K [x, .ref U] H Q := .inl ⟨x, .ref U, t, u, b, rfl, cv, ty, e, h⟩
/-- of two kinds -/
def kitB2 (T U V : String) : Option Bool := (kitB T U).bind fun a => (kitB T V).map fun b => a || b
theorem i_isiT {x : V} {tp : Addr} {T U W : String} {b : Bool} (ht : H tp = some (.tup [.ty U, .ty W])) (ty : TyX K H x (.type T)) (e : kitB2 T U W = some b) (h : Q (.bl b) H) : rIsiU K [x, .ref tp] H Q := by
  refine .inr ⟨x, tp, [.ty U, .ty W], .type T, [.type U, .type W], b, rfl, ht, .cons (.ty U) (.cons (.ty W) .nil), ty, ?_, h⟩
  unfold kitB2 at e
  cases e1 : kitB T U with
  | none => rw [e1] at e; cases e
  | some p =>
    cases e2 : kitB T W with
    | none => rw [e1, e2] at e; cases e
    | some q =>
      rw [e1, e2] at e
      have e3 : (p || q) = b := Option.some.inj e
      refine kitAny_cons (b := p) (kit_ty e1) (fun hp => kitAny_cons (b := q) (kit_ty e2) (fun hq => ?_) fun hq => ?_) fun hp => ?_
      · rw [← e3, hp, hq]; exact kitAny_nil
      · rw [← e3, hq, Bool.or_true]
      · rw [← e3, hp, Bool.true_or]
theorem i_listL {p : Addr} {ys : List V} (hq : SqL K H p ys) (h : ∀ l, H l = none → Q (.ref l) (upd H l (.lst ys))) : rListU K [.ref p] H Q := ⟨p, ys, rfl, .inl hq, h⟩
theorem i_listT {p : Addr} {ys : List V} (hq : SqT K H p ys) (h : ∀ l, H l = none → Q (.ref l) (upd H l (.lst ys))) : rListU K [.ref p] H Q := ⟨p, ys, rfl, .inr hq, h⟩
theorem i_tupL {p : Addr} {ys : List V} (hq : SqL K H p ys) (h : ∀ l, H l = none → Q (.ref l) (upd H l (.tup ys))) : rTupU K [.ref p] H Q := ⟨p, ys, rfl, .inl ⟨hq, h⟩⟩
theorem i_tupT {p : Addr} {ys : List V} (hq : SqT K H p ys) (h : Q (.ref p) H) : rTupU K [.ref p] H Q := ⟨p, ys, rfl, .inr ⟨hq, h⟩⟩
theorem i_intI {i : Int} (h : Q (.int i) H) : rIntU [.int i] H Q := .inl (.inl ⟨i, rfl, h⟩)
theorem i_intB {k : Bool} (h : Q (.int (if k then 1 else 0)) H) : rIntU [.bl k] H Q := .inl (.inr ⟨k, rfl, h⟩)
theorem i_intS {a : Str} {n : Int} (e : PySem.intText? a = some n) (hz : a.length ≤ 640) (h : Q (.int n) H) : rIntU [.str a] H Q := .inr ⟨a, n, rfl, e, hz, h⟩
theorem i_strI {i : Int} (hz : i.natAbs.log2 < 1920) (h : Q (.str (toString i)) H) : rStrI [.int i] H Q := ⟨i, rfl, hz, h⟩
theorem i_abs {i : Int} (h : Q (.int (if i < 0 then -i else i)) H) : rAbs [.int i] H Q := ⟨i, rfl, h⟩
theorem i_max2 {i j : Int} (h : Q (.int (if j > i then j else i)) H) : rMax2 [.int i, .int j] H Q := ⟨i, j, rfl, h⟩
theorem i_min2 {i j : Int} (h : Q (.int (if j < i then j else i)) H) : rMin2 [.int i, .int j] H Q := ⟨i, j, rfl, h⟩
theorem i_all {a : Addr} {bs : List Bool} (ha : SqL K H a (bs.map V.bl)) (h : Q (.bl (bs.all id)) H) : rAll K [.ref a] H Q := ⟨a, bs, rfl, ha, h⟩
theorem i_any {a : Addr} {bs : List Bool} (ha : SqL K H a (bs.map V.bl)) (h : Q (.bl (bs.any id)) H) : rAny K [.ref a] H Q := ⟨a, bs, rfl, ha, h⟩
theorem i_isBl {a b : Bool} (h : Q (.bl (decide (a = b))) H) : rIsB (.bl a) (.bl b) H Q := ⟨a, b, rfl, rfl, h⟩
theorem i_append {l : Addr} {xs : List V} {y : V} (hl : H l = some (.lst xs)) (hz : xs.length < sizeLine) (h : Q .non (upd H l (.lst (xs ++ [y])))) : rAppend (.ref l) [y] H Q := ⟨l, xs, y, rfl, rfl, hl, hz, h⟩
theorem i_extend {l b : Addr} {xs zs : List V} (hl : H l = some (.lst xs)) (hb : H b = some (.lst zs)) (hz : xs.length + zs.length ≤ sizeLine) (h : Q .non (upd H l (.lst (xs ++ zs)))) : rExtend (.ref l) [.ref b] H Q := ⟨l, b, xs, zs, rfl, rfl, hl, hb, hz, h⟩
theorem i_pop {l : Addr} {xs : List V} {y : V} (hl : H l = some (.lst xs)) (hy : xs[xs.length - 1]? = some y) (h : Q y (upd H l (.lst xs.dropLast))) : rPop (.ref l) [] H Q := ⟨l, xs, y, rfl, rfl, hl, hy, h⟩
theorem ty_list {p : Addr} {xs : List V} (h : SqL K H p xs) : tyV K "list" (.ref p) H := .inl ⟨rfl, xs, h⟩
end
end KB

set_option maxHeartbeats 4000000
/-! KD: data in the heap: immutable ones (Im), with lists and empty dicts (Dr); heaps that grow; comprehensions. -/
namespace KB
open PySem PySem.Spec PyProof.Rows L2

/-! ### immutable data -/
mutual
inductive Im (H : Hp) : V → PyData → Prop
  | non : Im H .non .none
  | bl (b : Bool) : Im H (.bl b) (.bool b)
  | int (i : Int) : Im H (.int i) (.int i)
  | str (x : Str) : Im H (.str x) (.str x)
  | tup {a : Addr} {vs : List V} {ds : List PyData} : H a = some (.tup vs) → ImAll H vs ds → Im H (.ref a) (.tuple ds)
inductive ImAll (H : Hp) : List V → List PyData → Prop
  | nil : ImAll H [] []
  | cons {v : V} {vs : List V} {d : PyData} {ds : List PyData} : Im H v d → ImAll H vs ds → ImAll H (v :: vs) (d :: ds)
end
/-- the tuples stay -/
def Tq (H H' : Hp) : Prop := ∀ a xs, H a = some (.tup xs) → H' a = some (.tup xs)
theorem Tq.refl (H : Hp) : Tq H H := fun _ _ h => h
theorem Tq.trans {H H1 H2 : Hp} (a : Tq H H1) (b : Tq H1 H2) : Tq H H2 := fun c o h => b c o (a c o h)
theorem Same.tq {H H' : Hp} (s : Same H H') : Tq H H' := fun a xs h => s a _ h
theorem Tq.new {H : Hp} {p : Addr} {o : HO} (h : H p = none) : Tq H (upd H p o) := fun a xs e => by
  rw [upd_ne (ne_of_none e h)]; exact e
theorem Tq.put {H : Hp} {p : Addr} {o u : HO} (h : H p = some u) (hu : ∀ xs, u ≠ .tup xs) : Tq H (upd H p o) := fun a xs e => by
  rw [upd_ne (ne_of e h fun z => hu xs z.symm)]; exact e
theorem Tq.lst {H : Hp} {p : Addr} {o : HO} {ys : List V} (h : H p = some (.lst ys)) : Tq H (upd H p o) := Tq.put h (fun _ z => by cases z)
mutual
theorem Im.mono {H H' : Hp} (s : Tq H H') : ∀ {v : V} {d : PyData}, Im H v d → Im H' v d
  | _, _, .non => .non
  | _, _, .bl b => .bl b
  | _, _, .int i => .int i
  | _, _, .str x => .str x
  | _, _, .tup h a => .tup (s _ _ h) (ImAll.mono s a)
theorem ImAll.mono {H H' : Hp} (s : Tq H H') : ∀ {vs : List V} {ds : List PyData}, ImAll H vs ds → ImAll H' vs ds
  | _, _, .nil => .nil
  | _, _, .cons h a => .cons (Im.mono s h) (ImAll.mono s a)
end
theorem ImAll.length {H : Hp} : ∀ {vs : List V} {ds : List PyData}, ImAll H vs ds → vs.length = ds.length
  | _, _, .nil => rfl
  | _, _, .cons _ a => congrArg Nat.succ (ImAll.length a)
theorem ImAll.get {H : Hp} : ∀ {vs : List V} {ds : List PyData} {i : Nat} {v : V}, ImAll H vs ds → vs[i]? = some v → ∃ d, ds[i]? = some d ∧ Im H v d
  | _, _, _, _, .nil, e => by simp at e
  | _, _, 0, _, .cons h _, e => ⟨_, rfl, by simp at e; subst e; exact h⟩
  | _, _, i + 1, v, .cons _ a, e => by
    obtain ⟨d, h1, h2⟩ := ImAll.get (i := i) a (by simpa using e)
    exact ⟨d, by simpa using h1, h2⟩
theorem ImAll.get' {H : Hp} : ∀ {vs : List V} {ds : List PyData} {i : Nat} {d : PyData}, ImAll H vs ds → ds[i]? = some d → ∃ v, vs[i]? = some v ∧ Im H v d
  | _, _, _, _, .nil, e => by simp at e
  | _, _, 0, _, .cons h _, e => ⟨_, rfl, by simp at e; subst e; exact h⟩
  | _, _, i + 1, v, .cons _ a, e => by
    obtain ⟨d, h1, h2⟩ := ImAll.get' (i := i) a (by simpa using e)
    exact ⟨d, by simpa using h1, h2⟩
theorem ImAll.append {H : Hp} : ∀ {vs us : List V} {ds es : List PyData}, ImAll H vs ds → ImAll H us es → ImAll H (vs ++ us) (ds ++ es)
  | _, _, _, _, .nil, b => b
  | _, _, _, _, .cons h a, b => .cons h (ImAll.append a b)
theorem ImAll.take {H : Hp} : ∀ {vs : List V} {ds : List PyData} (n : Nat), ImAll H vs ds → ImAll H (vs.take n) (ds.take n)
  | _, _, 0, _ => .nil
  | _, _, _ + 1, .nil => .nil
  | _, _, n + 1, .cons h a => .cons h (ImAll.take n a)
theorem ImAll.drop {H : Hp} : ∀ {vs : List V} {ds : List PyData} (n : Nat), ImAll H vs ds → ImAll H (vs.drop n) (ds.drop n)
  | _, _, 0, a => a
  | _, _, _ + 1, .nil => .nil
  | _, _, n + 1, .cons _ a => ImAll.drop n a
theorem ImAll.one {H : Hp} {v : V} {d : PyData} (h : Im H v d) : ImAll H [v] [d] := .cons h .nil
theorem ImAll.strs {H : Hp} : ∀ ss : List Str, ImAll H (ss.map V.str) (ss.map PyData.str)
  | [] => .nil
  | s :: ss => .cons (.str s) (ImAll.strs ss)
theorem ImAll.ints {H : Hp} : ∀ ns : List Int, ImAll H (ns.map V.int) (ns.map PyData.int)
  | [] => .nil
  | s :: ss => .cons (.int s) (ImAll.ints ss)
theorem ImAll.of_strs {H : Hp} : ∀ {vs : List V} {ss : List Str}, ImAll H vs (ss.map PyData.str) → vs = ss.map V.str
  | _, [], .nil => rfl
  | _, _ :: _, .cons (.str _) a => congrArg (V.str _ :: ·) (ImAll.of_strs a)
theorem ImAll.of_ints {H : Hp} : ∀ {vs : List V} {ss : List Int}, ImAll H vs (ss.map PyData.int) → vs = ss.map V.int
  | _, [], .nil => rfl
  | _, _ :: _, .cons (.int _) a => congrArg (V.int _ :: ·) (ImAll.of_ints a)
theorem ImAll.of_bls {H : Hp} : ∀ {vs : List V} {ss : List Bool}, ImAll H vs (ss.map PyData.bool) → vs = ss.map V.bl
  | _, [], .nil => rfl
  | _, _ :: _, .cons (.bl _) a => congrArg (V.bl _ :: ·) (ImAll.of_bls a)

/-! ### data with lists and empty dicts -/
mutual
inductive Dr (H : Hp) : V → PyData → Prop
  | non : Dr H .non .none
  | bl (b : Bool) : Dr H (.bl b) (.bool b)
  | int (i : Int) : Dr H (.int i) (.int i)
  | str (x : Str) : Dr H (.str x) (.str x)
  | tup {a : Addr} {vs : List V} {ds : List PyData} : H a = some (.tup vs) → DrAll H vs ds → Dr H (.ref a) (.tuple ds)
  | lst {a : Addr} {vs : List V} {ds : List PyData} : H a = some (.lst vs) → DrAll H vs ds → Dr H (.ref a) (.list ds)
  | dic {a : Addr} : H a = some (.dK []) → Dr H (.ref a) (.dict [])
inductive DrAll (H : Hp) : List V → List PyData → Prop
  | nil : DrAll H [] []
  | cons {v : V} {vs : List V} {d : PyData} {ds : List PyData} : Dr H v d → DrAll H vs ds → DrAll H (v :: vs) (d :: ds)
end
mutual
theorem Dr.mono {H H' : Hp} (s : Same H H') : ∀ {v : V} {d : PyData}, Dr H v d → Dr H' v d
  | _, _, .non => .non
  | _, _, .bl b => .bl b
  | _, _, .int i => .int i
  | _, _, .str x => .str x
  | _, _, .tup h a => .tup (s _ _ h) (DrAll.mono s a)
  | _, _, .lst h a => .lst (s _ _ h) (DrAll.mono s a)
  | _, _, .dic h => .dic (s _ _ h)
theorem DrAll.mono {H H' : Hp} (s : Same H H') : ∀ {vs : List V} {ds : List PyData}, DrAll H vs ds → DrAll H' vs ds
  | _, _, .nil => .nil
  | _, _, .cons h a => .cons (Dr.mono s h) (DrAll.mono s a)
end
mutual
theorem Im.dr {H : Hp} : ∀ {v : V} {d : PyData}, Im H v d → Dr H v d
  | _, _, .non => .non
  | _, _, .bl b => .bl b
  | _, _, .int i => .int i
  | _, _, .str x => .str x
  | _, _, .tup h a => .tup h (ImAll.dr a)
theorem ImAll.dr {H : Hp} : ∀ {vs : List V} {ds : List PyData}, ImAll H vs ds → DrAll H vs ds
  | _, _, .nil => .nil
  | _, _, .cons h a => .cons (Im.dr h) (ImAll.dr a)
end
mutual
theorem Im.dp {K : PySem.W.Frag} {H : Hp} : ∀ {v : V} {d : PyData}, Im H v d → Dp K H v d
  | _, _, .non => .non
  | _, _, .bl b => .bl b
  | _, _, .int i => .int i
  | _, _, .str x => .str x
  | _, _, .tup h a => .tup (.of h) (ImAll.dp a)
theorem ImAll.dp {K : PySem.W.Frag} {H : Hp} : ∀ {vs : List V} {ds : List PyData}, ImAll H vs ds → DpAll K H vs ds
  | _, _, .nil => .nil
  | _, _, .cons h a => .cons (Im.dp h) (ImAll.dp a)
end
theorem DrAll.length {H : Hp} : ∀ {vs : List V} {ds : List PyData}, DrAll H vs ds → vs.length = ds.length
  | _, _, .nil => rfl
  | _, _, .cons _ a => congrArg Nat.succ (DrAll.length a)
theorem DrAll.get {H : Hp} : ∀ {vs : List V} {ds : List PyData} {i : Nat} {v : V}, DrAll H vs ds → vs[i]? = some v → ∃ d, ds[i]? = some d ∧ Dr H v d
  | _, _, _, _, .nil, e => by simp at e
  | _, _, 0, _, .cons h _, e => ⟨_, rfl, by simp at e; subst e; exact h⟩
  | _, _, i + 1, v, .cons _ a, e => by
    obtain ⟨d, h1, h2⟩ := DrAll.get (i := i) a (by simpa using e)
    exact ⟨d, by simpa using h1, h2⟩
theorem DrAll.get' {H : Hp} : ∀ {vs : List V} {ds : List PyData} {i : Nat} {d : PyData}, DrAll H vs ds → ds[i]? = some d → ∃ v, vs[i]? = some v ∧ Dr H v d
  | _, _, _, _, .nil, e => by simp at e
  | _, _, 0, _, .cons h _, e => ⟨_, rfl, by simp at e; subst e; exact h⟩
  | _, _, i + 1, v, .cons _ a, e => by
    obtain ⟨d, h1, h2⟩ := DrAll.get' (i := i) a (by simpa using e)
    exact ⟨d, by simpa using h1, h2⟩
/-- the kind's name -/
def tyD : PyData → String
  | .none => "NoneType"
  | .bool _ => "bool"
  | .int _ => "int"
  | .str _ => "str"
  | .list _ => "list"
  | .tuple _ => "tuple"
  | .dict _ => "dict"
theorem Dr.ty {K : PySem.W.Frag} {H : Hp} {v : V} {d : PyData} (h : Dr H v d) : TyX K H v (.type (tyD d)) := by
  cases h with
  | non => exact .base .non
  | bl b => exact .base (.bl b)
  | int i => exact .base (.int i)
  | str x => exact .base (.str x)
  | tup h _ => exact .base (.tup h)
  | lst h _ => exact .base (.lst h)
  | dic h => exact .base (.dK h)
theorem Im.ty {K : PySem.W.Frag} {H : Hp} {v : V} {d : PyData} (h : Im H v d) : TyX K H v (.type (tyD d)) := h.dr.ty
def isTupD : PyData → Bool | .tuple _ => true | _ => false
def isLstD : PyData → Bool | .list _ => true | _ => false
def isStrD : PyData → Bool | .str _ => true | _ => false
def isBlD : PyData → Bool | .bool _ => true | _ => false
def isIntD : PyData → Bool | .int _ => true | .bool _ => true | _ => false
def isSeqD : PyData → Bool | .tuple _ => true | .list _ => true | _ => false
theorem kit_tup : ∀ d, kitB (tyD d) "tuple" = some (isTupD d) := by intro d; cases d <;> (first | (show kitB "NoneType" "tuple" = some false; decide +kernel) | (show kitB "bool" "tuple" = some false; decide +kernel) | (show kitB "int" "tuple" = some false; decide +kernel) | (show kitB "str" "tuple" = some false; decide +kernel) | (show kitB "list" "tuple" = some false; decide +kernel) | (show kitB "tuple" "tuple" = some true; decide +kernel) | (show kitB "dict" "tuple" = some false; decide +kernel))
theorem kit_lst : ∀ d, kitB (tyD d) "list" = some (isLstD d) := by intro d; cases d <;> (first | (show kitB "NoneType" "list" = some false; decide +kernel) | (show kitB "bool" "list" = some false; decide +kernel) | (show kitB "int" "list" = some false; decide +kernel) | (show kitB "str" "list" = some false; decide +kernel) | (show kitB "list" "list" = some true; decide +kernel) | (show kitB "tuple" "list" = some false; decide +kernel) | (show kitB "dict" "list" = some false; decide +kernel))
theorem kit_str : ∀ d, kitB (tyD d) "str" = some (isStrD d) := by intro d; cases d <;> (first | (show kitB "NoneType" "str" = some false; decide +kernel) | (show kitB "bool" "str" = some false; decide +kernel) | (show kitB "int" "str" = some false; decide +kernel) | (show kitB "str" "str" = some true; decide +kernel) | (show kitB "list" "str" = some false; decide +kernel) | (show kitB "tuple" "str" = some false; decide +kernel) | (show kitB "dict" "str" = some false; decide +kernel))
theorem kit_bl : ∀ d, kitB (tyD d) "bool" = some (isBlD d) := by intro d; cases d <;> (first | (show kitB "NoneType" "bool" = some false; decide +kernel) | (show kitB "bool" "bool" = some true; decide +kernel) | (show kitB "int" "bool" = some false; decide +kernel) | (show kitB "str" "bool" = some false; decide +kernel) | (show kitB "list" "bool" = some false; decide +kernel) | (show kitB "tuple" "bool" = some false; decide +kernel) | (show kitB "dict" "bool" = some false; decide +kernel))
theorem kit_int : ∀ d, kitB (tyD d) "int" = some (isIntD d) := by intro d; cases d <;> (first | (show kitB "NoneType" "int" = some false; decide +kernel) | (show kitB "bool" "int" = some true; decide +kernel) | (show kitB "int" "int" = some true; decide +kernel) | (show kitB "str" "int" = some false; decide +kernel) | (show kitB "list" "int" = some false; decide +kernel) | (show kitB "tuple" "int" = some false; decide +kernel) | (show kitB "dict" "int" = some false; decide +kernel))
theorem kit_seq (d : PyData) : kitB2 (tyD d) "list" "tuple" = some (isSeqD d) := by
  unfold kitB2
  rw [kit_lst, kit_tup]
  cases d <;> rfl
section
variable {K : PySem.W.Frag} {H : Hp} {Q : VK} {v : V} {d : PyData}
theorem j_isTup (h : Dr H v d) (q : Q (.bl (isTupD d)) H) : rIsiU K [v, .ty "tuple"] H Q := i_isi h.ty (kit_tup d) q
theorem j_isLst (h : Dr H v d) (q : Q (.bl (isLstD d)) H) : rIsiU K [v, .ty "list"] H Q := i_isi h.ty (kit_lst d) q
theorem j_isStr (h : Dr H v d) (q : Q (.bl (isStrD d)) H) : rIsiU K [v, .ty "str"] H Q := i_isi h.ty (kit_str d) q
theorem j_isBl (h : Dr H v d) (q : Q (.bl (isBlD d)) H) : rIsiU K [v, .ty "bool"] H Q := i_isi h.ty (kit_bl d) q
theorem j_isInt (h : Dr H v d) (q : Q (.bl (isIntD d)) H) : rIsiU K [v, .ty "int"] H Q := i_isi h.ty (kit_int d) q
theorem j_isSeq {tp : Addr} (ht : H tp = some (.tup [.ty "list", .ty "tuple"])) (h : Dr H v d) (q : Q (.bl (isSeqD d)) H) : rIsiU K [v, .ref tp] H Q := i_isiT ht h.ty (kit_seq d) q
end

/-! ### heaps -/
theorem Same.new {H : Hp} {p : Addr} {o : HO} (h : H p = none) : Same H (upd H p o) := fun b x e => by
  rw [upd_ne (ne_of_none e h)]; exact e
/-- a store to what is new since H -/
theorem Same.put {H H1 : Hp} {p : Addr} {o : HO} (s : Same H H1) (h : H p = none) : Same H (upd H1 p o) := fun b x e => by
  rw [upd_ne (ne_of_none e h)]; exact s b x e
theorem Same.seqT {K : PySem.W.Frag} {H H' : Hp} {a : Addr} {xs : List V} (e : Same H H') (h : SqT K H a xs) : SqT K H' a xs := by
  rcases h with (h | ⟨o, h⟩) | h
  · exact .inl (.inl (e _ _ h))
  · exact .inl (.inr ⟨o, e _ _ h⟩)
  · exact .inr h
/-- all but what stands at b is as it was -/
def SameBut (b : Addr) (H H' : Hp) : Prop := ∀ c o, c ≠ b → H c = some o → H' c = some o
theorem SameBut.refl (b : Addr) (H : Hp) : SameBut b H H := fun _ _ _ h => h
theorem SameBut.trans {b : Addr} {H H1 H2 : Hp} (a : SameBut b H H1) (c : SameBut b H1 H2) : SameBut b H H2 := fun d o n h => c d o n (a d o n h)
theorem Same.but {b : Addr} {H H' : Hp} (s : Same H H') : SameBut b H H' := fun c o _ h => s c o h
theorem SameBut.self {b : Addr} {H : Hp} {o : HO} : SameBut b H (upd H b o) := fun c o' n h => by rw [upd_ne n]; exact h
theorem SameBut.put {b : Addr} {H H1 : Hp} {p : Addr} {o : HO} (s : SameBut b H H1) (h : H p = none) : SameBut b H (upd H1 p o) := fun c x n e => by
  rw [upd_ne (ne_of_none e h)]; exact s c x n e
theorem SameBut.tq {b : Addr} {H H' : Hp} {xs : List V} (s : SameBut b H H') (hb : H b = some (.lst xs)) : Tq H H' := fun a ys h => s a _ (ne_of h hb (by intro z; cases z)) h

/-! ### comprehensions -/
/-- where a comprehension stands: all that stood ahead of it stands, the new list at D holds the immutable data ds -/
structure CI (H1 : Hp) (D : Addr) (ds : List PyData) (H : Hp) : Prop where
  same : Same H1 H
  acc : ∃ ys, H D = some (.lst ys) ∧ ImAll H ys ds
theorem CI.start {H1 : Hp} {D : Addr} (hD : H1 D = none) : CI H1 D [] (upd H1 D (.lst [])) := ⟨Same.new hD, [], upd_same, .nil⟩
theorem CI.on {H1 H H' : Hp} {D : Addr} {ds : List PyData} (c : CI H1 D ds H) (s : Same H H') : CI H1 D ds H' := by
  obtain ⟨s0, ys, hy, im⟩ := c
  exact ⟨s0.trans s, ys, s _ _ hy, im.mono (Same.tq s)⟩
theorem CI.add {H1 H H' : Hp} {D : Addr} {ds : List PyData} {y : V} {d : PyData} {Nx : Hp → Prop} (hD : H1 D = none) (c : CI H1 D ds H) (s : Same H H') (hz : ds.length < sizeLine) (im : Im H' y d) (hn : ∀ H2, CI H1 D (ds ++ [d]) H2 → Nx H2) :
    ∃ acc, H' D = some (.lst acc) ∧ acc.length < sizeLine ∧ Nx (upd H' D (.lst (acc ++ [y]))) := by
  obtain ⟨s0, ys, hy, ia⟩ := c.on s
  exact ⟨ys, hy, by rw [ia.length]; exact hz, hn _ ⟨Same.put s0 hD, _, upd_same, (ia.append (.one im)).mono (Tq.lst hy)⟩⟩
/-- a comprehension over anything that takes n turns, whose items are immutable data: F i what the new list holds ahead of turn i -/
theorem lc_gen {J : L2.It} {n : Nat} {g : TG} {tt : TT} {te : TE} {vs : List Nat} {σ : L2.St} {H1 : Hp} {D : Addr} {Qd : Hp → Prop} (hD : H1 D = none) (F : Nat → List PyData) (h0 : F 0 = [])
    (hstop : ∀ H, Same H1 H → J.stop n H) (hgo : ∀ i H, i < n → Same H1 H → J.go i H)
    (hs : ∀ i x H H', i < n → CI H1 D (F i) H → J.yld i H x H' → g x (wipe σ vs) H' fun σ2 H2 => wipe σ2 vs = wipe σ vs ∧ tt σ2 H2 fun b H3 =>
      if b = true then te σ2 H3 fun y H4 => ∃ acc, H4 D = some (.lst acc) ∧ acc.length < sizeLine ∧ CI H1 D (F (i + 1)) (upd H4 D (.lst (acc ++ [y]))) else CI H1 D (F (i + 1)) H3)
    (hd : ∀ H ys, Same H1 H → H D = some (.lst ys) → ImAll H ys (F n) → Qd H) :
    ∃ W : Nat → Nat → Hp → Prop, (∃ m, W 0 m (upd H1 D (.lst []))) ∧ ∀ i m H, W i m H →
      (J.stop i H ∧ Qd H) ∨ (J.go i H ∧ ∃ Nx : Hp → Prop, (∀ H', Nx H' → ∃ m', m' < m ∧ W (i + 1) m' H') ∧ ∀ x H', J.yld i H x H' → g x (wipe σ vs) H' fun σ2 H2 => wipe σ2 vs = wipe σ vs ∧ tt σ2 H2 fun b H3 =>
        if b = true then te σ2 H3 fun y H4 => ∃ acc, H4 D = some (.lst acc) ∧ acc.length < sizeLine ∧ Nx (upd H4 D (.lst (acc ++ [y]))) else Nx H3) := by
  refine ⟨fun i m H => m = n - i ∧ i ≤ n ∧ CI H1 D (F i) H, ⟨n, by simp, Nat.zero_le _, by rw [h0]; exact .start hD⟩, ?_⟩
  rintro i m H ⟨rfl, hi, c⟩
  by_cases hlt : i < n
  · exact .inr ⟨hgo i H hlt c.same, CI H1 D (F (i + 1)), fun H' c' => ⟨n - (i + 1), by omega, rfl, hlt, c'⟩, fun x H' y => hs i x H H' hlt c y⟩
  · have e : i = n := by omega
    subst e
    obtain ⟨s, ys, hy, im⟩ := c
    exact .inl ⟨hstop H s, hd H ys s hy im⟩
/-- over a list of immutable data -/
theorem lc_lst {K : PySem.W.Frag} {a : Addr} {xs : List V} {ds : List PyData} {g : TG} {tt : TT} {te : TE} {vs : List Nat} {σ : L2.St} {H1 : Hp} {D : Addr} {Qd : Hp → Prop} (ha : SqL K H1 a xs) (im : ImAll H1 xs ds) (hD : H1 D = none) (F : Nat → List PyData) (h0 : F 0 = [])
    (hs : ∀ i x d H, ds[i]? = some d → Im H x d → CI H1 D (F i) H → g x (wipe σ vs) H fun σ2 H2 => wipe σ2 vs = wipe σ vs ∧ tt σ2 H2 fun b H3 =>
      if b = true then te σ2 H3 fun y H4 => ∃ acc, H4 D = some (.lst acc) ∧ acc.length < sizeLine ∧ CI H1 D (F (i + 1)) (upd H4 D (.lst (acc ++ [y]))) else CI H1 D (F (i + 1)) H3)
    (hd : ∀ H ys, Same H1 H → H D = some (.lst ys) → ImAll H ys (F ds.length) → Qd H) :
    ∃ W : Nat → Nat → Hp → Prop, (∃ m, W 0 m (upd H1 D (.lst []))) ∧ ∀ i m H, W i m H →
      ((Itl K a).stop i H ∧ Qd H) ∨ ((Itl K a).go i H ∧ ∃ Nx : Hp → Prop, (∀ H', Nx H' → ∃ m', m' < m ∧ W (i + 1) m' H') ∧ ∀ x H', (Itl K a).yld i H x H' → g x (wipe σ vs) H' fun σ2 H2 => wipe σ2 vs = wipe σ vs ∧ tt σ2 H2 fun b H3 =>
        if b = true then te σ2 H3 fun y H4 => ∃ acc, H4 D = some (.lst acc) ∧ acc.length < sizeLine ∧ Nx (upd H4 D (.lst (acc ++ [y]))) else Nx H3) := by
  have hl := im.length
  refine lc_gen (n := ds.length) hD F h0 (fun H s => ⟨xs, s.seq ha, by omega⟩) (fun i H hi s => ⟨xs, xs[i], s.seq ha, List.getElem?_eq_getElem (by omega)⟩) (fun i x H H' hi c y => ?_) hd
  obtain ⟨rfl, y⟩ := y
  have hx := y xs (c.same.seq ha)
  obtain ⟨d, hd', imd⟩ := im.get hx
  exact hs i x d _ hd' (imd.mono (Same.tq c.same)) c
/-- over a text -/
theorem lc_txt {z : Str} {g : TG} {tt : TT} {te : TE} {vs : List Nat} {σ : L2.St} {H1 : Hp} {D : Addr} {Qd : Hp → Prop} (hD : H1 D = none) (F : Nat → List PyData) (h0 : F 0 = [])
    (hs : ∀ i c H, z.cps.toList[i]? = some c → CI H1 D (F i) H → g (.str ⟨#[c]⟩) (wipe σ vs) H fun σ2 H2 => wipe σ2 vs = wipe σ vs ∧ tt σ2 H2 fun b H3 =>
      if b = true then te σ2 H3 fun y H4 => ∃ acc, H4 D = some (.lst acc) ∧ acc.length < sizeLine ∧ CI H1 D (F (i + 1)) (upd H4 D (.lst (acc ++ [y]))) else CI H1 D (F (i + 1)) H3)
    (hd : ∀ H ys, Same H1 H → H D = some (.lst ys) → ImAll H ys (F z.cps.toList.length) → Qd H) :
    ∃ W : Nat → Nat → Hp → Prop, (∃ m, W 0 m (upd H1 D (.lst []))) ∧ ∀ i m H, W i m H →
      ((Its z).stop i H ∧ Qd H) ∨ ((Its z).go i H ∧ ∃ Nx : Hp → Prop, (∀ H', Nx H' → ∃ m', m' < m ∧ W (i + 1) m' H') ∧ ∀ x H', (Its z).yld i H x H' → g x (wipe σ vs) H' fun σ2 H2 => wipe σ2 vs = wipe σ vs ∧ tt σ2 H2 fun b H3 =>
        if b = true then te σ2 H3 fun y H4 => ∃ acc, H4 D = some (.lst acc) ∧ acc.length < sizeLine ∧ Nx (upd H4 D (.lst (acc ++ [y]))) else Nx H3) := by
  refine lc_gen (n := z.cps.toList.length) hD F h0 (fun H s => by show z.cps.size ≤ _; simp) (fun i H hi s => by show i < z.cps.size; simpa using hi) (fun i x H H' hi c y => ?_) hd
  obtain ⟨rfl, k, hk, rfl⟩ := y
  exact hs i k _ (by simpa using hk) c
/-- over a range -/
theorem lc_rng {lo : Int} {n : Nat} {g : TG} {tt : TT} {te : TE} {vs : List Nat} {σ : L2.St} {H1 : Hp} {D : Addr} {Qd : Hp → Prop} (hD : H1 D = none) (F : Nat → List PyData) (h0 : F 0 = [])
    (hs : ∀ i H, i < n → CI H1 D (F i) H → g (.int (lo + i)) (wipe σ vs) H fun σ2 H2 => wipe σ2 vs = wipe σ vs ∧ tt σ2 H2 fun b H3 =>
      if b = true then te σ2 H3 fun y H4 => ∃ acc, H4 D = some (.lst acc) ∧ acc.length < sizeLine ∧ CI H1 D (F (i + 1)) (upd H4 D (.lst (acc ++ [y]))) else CI H1 D (F (i + 1)) H3)
    (hd : ∀ H ys, Same H1 H → H D = some (.lst ys) → ImAll H ys (F n) → Qd H) :
    ∃ W : Nat → Nat → Hp → Prop, (∃ m, W 0 m (upd H1 D (.lst []))) ∧ ∀ i m H, W i m H →
      ((Itr lo n).stop i H ∧ Qd H) ∨ ((Itr lo n).go i H ∧ ∃ Nx : Hp → Prop, (∀ H', Nx H' → ∃ m', m' < m ∧ W (i + 1) m' H') ∧ ∀ x H', (Itr lo n).yld i H x H' → g x (wipe σ vs) H' fun σ2 H2 => wipe σ2 vs = wipe σ vs ∧ tt σ2 H2 fun b H3 =>
        if b = true then te σ2 H3 fun y H4 => ∃ acc, H4 D = some (.lst acc) ∧ acc.length < sizeLine ∧ Nx (upd H4 D (.lst (acc ++ [y]))) else Nx H3) := by
  refine lc_gen (n := n) hD F h0 (fun H s => Nat.le_refl _) (fun i H hi s => hi) (fun i x H H' hi c y => ?_) hd
  obtain ⟨rfl, rfl⟩ := y
  exact hs i _ hi c
end KB

set_option maxHeartbeats 4000000
/-! KR: the rules with the written part as a letter (so that a reading within a comprehension names no state), and some rules more. -/
namespace KB
open PySem PySem.Spec PyProof.Rows L2
section
variable {X : Cx} {K : PySem.W.Frag}
theorem rU65 {k : Nat} {A : Around} (r : Room k A) : A.units + 65 < cLine := by have := r.un; omega
theorem rU1 {k : Nat} {A : Around} (r : Room k A) : A.units + 1 < cLine := by have := r.un; omega
/-- a module's constant -/
theorem e_gc {v : V} {x : Str} {pos : Pos} (hg : Gl X x) (h : ∃ u, X.mg x = some u ∧ RelV v u) (hd : (x == ("__debug__" : Str)) = false := by decide) : PE X (.Name x pos) (tC v) := by
  obtain ⟨u, hm, r⟩ := h
  exact pe_glob hg hm r hd
theorem o_eq (hK : X.K = K) (hu : X.A.units + 64 < cLine) : OpR X (compareOp .Eq) (rEqU K) := hK ▸ op_eqU hu
theorem o_ne (hK : X.K = K) (hu : X.A.units + 64 < cLine) : OpR X (compareOp .NotEq) (rNeU K) := hK ▸ op_neU hu
theorem o_in (hK : X.K = K) (hu : X.A.units + 65 < cLine) : OpR X (compareOp .In) (rInU K) := hK ▸ op_inU hu
theorem o_notIn (hK : X.K = K) (hu : X.A.units + 65 < cLine) : OpR X (compareOp .NotIn) (rNotInU K) := hK ▸ op_notInU hu
theorem o_lt (hK : X.K = K) (hu : X.A.units < cLine) : OpR X (compareOp .Lt) (rLtU K) := hK ▸ op_ltU hu
theorem x_seq (hK : X.K = K) : IxR X (rIx K) := hK ▸ ix_seq
theorem s_seq (hK : X.K = K) : SlR X (rSlU K) := hK ▸ sl_U
theorem c_len (hK : X.K = K) : CallR X (.builtin "len") (rLenU K) := hK ▸ call_lenU
theorem c_isi (hK : X.K = K) : CallR X (.builtin "isinstance") (rIsiU K) := hK ▸ call_isiU
theorem c_list (hK : X.K = K) : CallR X (.type "list") (rListU K) := hK ▸ call_listU
theorem c_tuple (hK : X.K = K) : CallR X (.type "tuple") (rTupU K) := hK ▸ call_tupU
theorem c_all (hK : X.K = K) (hc : X.calm = true) : CallR X (.builtin "all") (rAll K) := hK ▸ cr_all hc
theorem c_any (hK : X.K = K) (hc : X.calm = true) : CallR X (.builtin "any") (rAny K) := hK ▸ cr_any hc
theorem c_sum (hK : X.K = K) (hc : X.calm = true) : CallR X (.builtin "sum") (rSum K) := hK ▸ cr_sum hc
theorem e_fld {e : Expr} {ta : TE} {f : Str} {pos : Pos} (hK : X.K = K) (he : PE X e ta) (hb : attributeBase e f X.env (eval e X.env) = eval e X.env := by rfl) : PE X (.Attribute e f pos) (tFld K ta f) := hK ▸ pe_fld he hb
theorem w_list {tg l : Expr} {tl : TE} (hK : X.K = K) (hl : PE X l tl) : PI X tg l (iList K tl) := hK ▸ pi_list hl
theorem w_tup {tg l : Expr} {tl : TE} (hK : X.K = K) (hl : PE X l tl) : PI X tg l (iTup K tl) := hK ▸ pi_tup hl
theorem w_enum {e : Expr} {ta : TA} {p pos tpos : Pos} {elts : List Expr} {kk : Nat} (hK : X.K = K) (hg : Gl X "enumerate") (hm : X.mg "enumerate" = none) (ha : PA X [e] ta) (hs : starEach [e] X.env = [(false, eval e X.env)] := by rfl) :
    PI X (.Tuple elts kk tpos) (.Call (.Name "enumerate" p) [e] [] pos) (iEnum K ta) := hK ▸ pi_enum hg hm ha hs
theorem w_zip {e e2 : Expr} {ta : TA} {p pos tpos : Pos} {elts : List Expr} {kk : Nat} (hK : X.K = K) (hg : Gl X "zip") (hm : X.mg "zip" = none) (ha : PA X [e, e2] ta)
    (hs : starEach [e, e2] X.env = (false, eval e X.env) :: starEach [e2] X.env := by rfl) (hpl : (backTo pos (starEach [e2] X.env)).any (·.1) = false := by rfl) :
    PI X (.Tuple elts kk tpos) (.Call (.Name "zip" p) [e, e2] [] pos) (iZip K ta) := hK ▸ pi_zip hg hm ha hs hpl
theorem g_tup {es : List Expr} {k : Nat} {t : TGs} {n : Nat} {pos : Pos} (hK : X.K = K) (hc : X.calm = true) (h : PGs X es t) (hn : (assignEach es X.env).length = n := by rfl) (hst : (assignEach es X.env).findIdx? (·.1) = none := by rfl) : PG X (.Tuple es k pos) (gTup K n t) := hK ▸ pg_tup hc h hn hst
/-- a test by a value's truth -/
def tTru (K : PySem.W.Frag) (te : TE) : TT := fun σ H Q => te σ H fun x H' => ∃ k, TruV K x H' k ∧ Q k H'
theorem t_tru {a : Expr} {ta : TE} (hK : X.K = K) (ha : PE X a ta) (he : ∀ whole, isTrue a X.env whole = (do let v ← whole; standAt a.pos; holding [v] (truthy v)) := by intro _; rfl) : PT X a (tTru K ta) := hK ▸ pt_truth ha he
theorem i_tru {σ : L2.St} {H : Hp} {te : TE} {Q : Bool → Hp → Prop} (h : te σ H fun x H' => ∃ k, TruV K x H' k ∧ Q k H') : tTru K te σ H Q := h
/-- sep.join(list) -/
def rJoin (K : PySem.W.Frag) : V → List V → Hp → VK → Prop := fun x xs H Q => ∃ a p, ∃ ys : List Str, x = .str a ∧ xs = [.ref p] ∧ (SqL K H p (ys.map V.str) ∨ SqT K H p (ys.map V.str)) ∧ (ys.map (·.length)).sum + ys.length * a.length ≤ 16777216 ∧ Q (.str (Txt.join a ys)) H
theorem e_join {o e : Expr} {to te : TE} {apos pos : Pos} (hK : X.K = K) (ho : PE X o to) (he : PE X e te) (hs : starEach [e] X.env = [(false, eval e X.env)] := by rfl) (hbase : attributeBase o "join" X.env (eval o X.env) = eval o X.env := by rfl) (hline : (apos.endLine == pos.line) = true := by rfl) :
    PE X (.Call (.Attribute o "join" apos) [e] [] pos) (tM1 (rJoin K) to te) := hK ▸ pe_join ho he hs hbase hline
def rSplit : V → List V → Hp → VK → Prop := fun x xs H Q => ∃ a b, x = .str a ∧ xs = [.str b] ∧ (b.length == 0) = false ∧ a.length + 2 ≤ sizeLine ∧ rNewStrs (Txt.split a b) H Q
theorem e_split {o e : Expr} {to te : TE} {apos pos : Pos} (ho : PE X o to) (he : PE X e te) (hs : starEach [e] X.env = [(false, eval e X.env)] := by rfl) (hbase : attributeBase o "split" X.env (eval o X.env) = eval o X.env := by rfl) (hline : (apos.endLine == pos.line) = true := by rfl) :
    PE X (.Call (.Attribute o "split" apos) [e] [] pos) (tM1 rSplit to te) := pe_split ho he hs hbase hline
def rStarts : V → List V → Hp → VK → Prop := fun x xs H Q => ∃ a b, x = .str a ∧ xs = [.str b] ∧ Q (.bl (Txt.startswith a b)) H
theorem e_starts {o e : Expr} {to te : TE} {apos pos : Pos} (ho : PE X o to) (he : PE X e te) (hs : starEach [e] X.env = [(false, eval e X.env)] := by rfl) (hbase : attributeBase o "startswith" X.env (eval o X.env) = eval o X.env := by rfl) (hline : (apos.endLine == pos.line) = true := by rfl) :
    PE X (.Call (.Attribute o "startswith" apos) [e] [] pos) (tM1 rStarts to te) := pe_m1 PySem.F.slot_str_startswith PySem.F.type_str_startswith mt_startswith ho he hs hbase hline
theorem e_append {o e : Expr} {to te : TE} {apos cpos : Pos} (hK : X.K = K) (ho : PE X o to) (he : PE X e te) (hb : attributeBase o "append" X.env (eval o X.env) = eval o X.env := by rfl) (hl : (apos.endLine == cpos.line) = true := by rfl)
    (hs : starEach [e] X.env = (false, eval e X.env) :: starEach [] X.env := by rfl) : PE X (.Call (.Attribute o "append" apos) [e] [] cpos) (tBM K "list" rAppend to (tCons te tNil)) :=
  hK ▸ pe_bm PySem.F.plainAttrs_list PySem.F.slot_list_append PySem.F.type_list_append mt_append ho (pa_cons he pa_nil hs) hb (by rw [hs]; rfl) hl hs rfl
theorem e_extend {o e : Expr} {to te : TE} {apos cpos : Pos} (hK : X.K = K) (ho : PE X o to) (he : PE X e te) (hb : attributeBase o "extend" X.env (eval o X.env) = eval o X.env := by rfl) (hl : (apos.endLine == cpos.line) = true := by rfl)
    (hs : starEach [e] X.env = (false, eval e X.env) :: starEach [] X.env := by rfl) : PE X (.Call (.Attribute o "extend" apos) [e] [] cpos) (tBM K "list" rExtend to (tCons te tNil)) :=
  hK ▸ pe_bm PySem.F.plainAttrs_list PySem.F.slot_list_extend PySem.F.type_list_extend mt_extend ho (pa_cons he pa_nil hs) hb (by rw [hs]; rfl) hl hs rfl
theorem e_popAt {o e : Expr} {to te : TE} {apos cpos : Pos} (hK : X.K = K) (ho : PE X o to) (he : PE X e te) (hb : attributeBase o "pop" X.env (eval o X.env) = eval o X.env := by rfl) (hl : (apos.endLine == cpos.line) = true := by rfl)
    (hs : starEach [e] X.env = (false, eval e X.env) :: starEach [] X.env := by rfl) : PE X (.Call (.Attribute o "pop" apos) [e] [] cpos) (tBM K "list" rPopAt to (tCons te tNil)) :=
  hK ▸ pe_bm PySem.F.plainAttrs_list PySem.F.slot_list_pop PySem.F.type_list_pop mt_popAt ho (pa_cons he pa_nil hs) hb (by rw [hs]; rfl) hl hs rfl
theorem e_lindex {o e : Expr} {to te : TE} {apos cpos : Pos} (hK : X.K = K) (ho : PE X o to) (he : PE X e te) (hb : attributeBase o "index" X.env (eval o X.env) = eval o X.env := by rfl) (hl : (apos.endLine == cpos.line) = true := by rfl)
    (hs : starEach [e] X.env = (false, eval e X.env) :: starEach [] X.env := by rfl) : PE X (.Call (.Attribute o "index" apos) [e] [] cpos) (tBM K "list" (rIndex K) to (tCons te tNil)) :=
  hK ▸ pe_bm PySem.F.plainAttrs_list PySem.F.slot_list_index PySem.F.type_list_index mt_index ho (pa_cons he pa_nil hs) hb (by rw [hs]; rfl) hl hs rfl
theorem e_pop {o : Expr} {to : TE} {apos cpos : Pos} (hK : X.K = K) (ho : PE X o to) (hb : attributeBase o "pop" X.env (eval o X.env) = eval o X.env := by rfl) (hl : (apos.endLine == cpos.line) = true := by rfl) : PE X (.Call (.Attribute o "pop" apos) [] [] cpos) (tBM0 K "list" rPop to) :=
  hK ▸ pe_bm0 PySem.F.plainAttrs_list PySem.F.slot_list_pop PySem.F.type_list_pop mt_pop ho hb hl
theorem i_join {a : Str} {p : Addr} {ys : List Str} {H : Hp} {Q : VK} (h1 : SqL K H p (ys.map V.str)) (hz : (ys.map (·.length)).sum + ys.length * a.length ≤ 16777216) (h : Q (.str (Txt.join a ys)) H) : rJoin K (.str a) [.ref p] H Q := ⟨a, p, ys, rfl, rfl, .inl h1, hz, h⟩
theorem i_split {a b : Str} {H : Hp} {Q : VK} (hb : (b.length == 0) = false) (hz : a.length + 2 ≤ sizeLine) (h : ∀ p, H p = none → Q (.ref p) (upd H p (.lst ((Txt.split a b).map V.str)))) : rSplit (.str a) [.str b] H Q := ⟨a, b, rfl, rfl, hb, hz, h⟩
theorem i_starts {a b : Str} {H : Hp} {Q : VK} (h : Q (.bl (Txt.startswith a b)) H) : rStarts (.str a) [.str b] H Q := ⟨a, b, rfl, rfl, h⟩
end
end KB

set_option maxHeartbeats 4000000
namespace H68
open PySem PySem.Spec PyProof.Rows L2 KB
theorem moreL_get {K : PySem.W.Frag} (m : ex K = true) (i : Nat) {b : Bool} (e : (moreL K)[i]? = some b) : b = true := by
  have h := List.all_eq_true.mp m b (List.mem_of_getElem? e)
  exact h
theorem initB_ok {r : Option PySem.W.CFound} (h : initB r = true) : r = some (.val (.builtin "ValueError.__init__")) := by
  unfold initB at h
  split at h
  · rw [beq_iff_eq.mp h]
  · cases h
theorem oexB_ok {K : PySem.W.Frag} {C : Addr} (h : oexB K C = true) : OexC K C := by
  unfold oexB at h
  obtain ⟨h1, h2⟩ := Bool.and_eq_true_iff.mp h
  obtain ⟨h3, h4⟩ := Bool.and_eq_true_iff.mp h2
  obtain ⟨h5, h6⟩ := Bool.and_eq_true_iff.mp h4
  obtain ⟨h7, h8⟩ := Bool.and_eq_true_iff.mp h6
  refine ⟨?_, of_decide_eq_true h3, of_decide_eq_true h5, of_decide_eq_true h7, h8⟩
  split at h1
  · rename_i dd cd sl ho
    split at h1
    · rename_i C' bm k0 k1 k2 k3 n k5 e1 e2
      obtain ⟨g1, g2⟩ := Bool.and_eq_true_iff.mp h1
      obtain ⟨g3, g4⟩ := Bool.and_eq_true_iff.mp g1
      obtain ⟨g5, g6⟩ := Bool.and_eq_true_iff.mp g3
      obtain ⟨g7, g8⟩ := Bool.and_eq_true_iff.mp g5
      have a1 : C' = C := beq_iff_eq.mp g7
      have a2 : n = "ValueError.__new__" := beq_iff_eq.mp g8
      have a3 : cd.hasDel = false := by simpa using g6
      obtain ⟨nm, bs, mro, N, qn, hd, sn, sub, ab, col, del⟩ := cd
      dsimp only at e1 a3 g4
      subst e1 a3 g4 a1 a2
      have es : sl = #[k0, k1, k2, k3, some (.builtin "ValueError.__new__"), k5] := by
        obtain ⟨l⟩ := sl
        simp only at e2
        rw [e2]
      subst es
      exact ⟨nm, qn, N, bs, bm, sn, sub, ab, col, dd, k0, k1, k2, k3, k5, ho, g2⟩
    · cases h1
  · cases h1
/-- what the walk asks of the top -/
structure Tx (K : PySem.W.Frag) (mg : Str → Option Value) : Prop where
  g_is_name : mg "is_name" = some (.ref (He.ga K "is_name"))
  g_is_value : mg "is_value" = some (.ref (He.ga K "is_value"))
  g_has_form : mg "has_form" = some (.ref (He.ga K "has_form"))
  g_leaves : mg "leaves" = some (.ref (He.ga K "leaves"))
  g_is_formula : mg "is_formula" = some (.ref (He.ga K "is_formula"))
  g_need_formula : mg "need_formula" = some (.ref (He.ga K "need_formula"))
  g_keys_of : mg "keys_of" = some (.ref (He.ga K "keys_of"))
  g_is_true : mg "is_true" = some (.ref (He.ga K "is_true"))
  g_holds : mg "holds" = some (.ref (He.ga K "holds"))
  g_values_named : mg "values_named" = some (.ref (He.ga K "values_named"))
  g_value_beside : mg "value_beside" = some (.ref (He.ga K "value_beside"))
  g_samples : mg "samples" = some (.ref (He.ga K "samples"))
  g_rows_of : mg "rows_of" = some (.ref (He.ga K "rows_of"))
  g_telling_pair : mg "telling_pair" = some (.ref (He.ga K "telling_pair"))
  g_matters : mg "matters" = some (.ref (He.ga K "matters"))
  g_law_cell : mg "_law_cell" = some (.ref (He.ga K "_law_cell"))
  g_law_box : mg "_law_box" = some (.ref (He.ga K "_law_box"))
  g_law_take : mg "_law_take" = some (.ref (He.ga K "_law_take"))
  g_law_mixed : mg "_law_mixed" = some (.ref (He.ga K "_law_mixed"))
  g_law_same : mg "_law_same" = some (.ref (He.ga K "_law_same"))
  g_law_very : mg "_law_very" = some (.ref (He.ga K "_law_very"))
  g_law_leaf : mg "_law_leaf" = some (.ref (He.ga K "_law_leaf"))
  g_law_formula : mg "_law_formula" = some (.ref (He.ga K "_law_formula"))
  g_law_levels : mg "_law_levels" = some (.ref (He.ga K "_law_levels"))
  g_law_leaves : mg "_law_leaves" = some (.ref (He.ga K "_law_leaves"))
  g_law_holds : mg "_law_holds" = some (.ref (He.ga K "_law_holds"))
  g_law_all_readings : mg "_law_all_readings" = some (.ref (He.ga K "_law_all_readings"))
  g_law_matters : mg "_law_matters" = some (.ref (He.ga K "_law_matters"))
  g_law_is_formula : mg "_law_is_formula" = some (.ref (He.ga K "_law_is_formula"))
  g_law_is_name : mg "_law_is_name" = some (.ref (He.ga K "_law_is_name"))
  g_law_is_value : mg "_law_is_value" = some (.ref (He.ga K "_law_is_value"))
  g_law_near : mg "_law_near" = some (.ref (He.ga K "_law_near"))
  g_law_asked : mg "_law_asked" = some (.ref (He.ga K "_law_asked"))
  g_law_formula_right : mg "_law_formula_right" = some (.ref (He.ga K "_law_formula_right"))
  g_law : mg "law" = some (.ref (He.ga K "law"))
  g_LoreError : mg "LoreError" = some (.ref (He.ga K "LoreError"))
  g_NoFormula : mg "NoFormula" = some (.ref (He.ga K "NoFormula"))
  f_all : mg "all" = none
  f_isinstance : mg "isinstance" = none
  f_str : mg "str" = none
  f_len : mg "len" = none
  f_tuple : mg "tuple" = none
  f_sorted : mg "sorted" = none
  f_range : mg "range" = none
  f_abs : mg "abs" = none
  f_int : mg "int" = none
  f_sum : mg "sum" = none
  f_max : mg "max" = none
  f_list : mg "list" = none
  f_bool : mg "bool" = none
  f_repr : mg "repr" = none
  f_dict : mg "dict" = none
  f_set : mg "set" = none
  f_min : mg "min" = none
  c_LETTERS : ∃ u, mg "LETTERS" = some u ∧ RelV (.str "abcdefghijklmnopqrstuvwxyz") u
  c_FIGURES : ∃ u, mg "FIGURES" = some u ∧ RelV (.str "0123456789") u
  c_LONGEST_NAME : ∃ u, mg "LONGEST_NAME" = some u ∧ RelV (.int 8) u
  c_LONGEST_VALUE : ∃ u, mg "LONGEST_VALUE" = some u ∧ RelV (.int 12) u
  g_OWN : mg "OWN" = some (.ref (He.ga K "OWN"))
  c_OWN : ∃ u, mg "OWN" = some u ∧ RelV (.ref (He.ga K "OWN")) u
  c_MOST_LEVELS : ∃ u, mg "MOST_LEVELS" = some u ∧ RelV (.int 6) u
  c_MOST_LEAVES : ∃ u, mg "MOST_LEAVES" = some u ∧ RelV (.int 6) u
  c_IS : ∃ u, mg "IS" = some u ∧ RelV (.str "is") u
  c_SILENT : ∃ u, mg "SILENT" = some u ∧ RelV (.str "silent") u
  c_NOT : ∃ u, mg "NOT" = some u ∧ RelV (.str "not") u
  g_TWO : mg "TWO" = some (.ref (He.ga K "TWO"))
  c_TWO : ∃ u, mg "TWO" = some u ∧ RelV (.ref (He.ga K "TWO")) u
  kp_LoreError : PySem.W.keepIn K (.ref (He.ga K "LoreError")) = true
  kp_NoFormula : PySem.W.keepIn K (.ref (He.ga K "NoFormula")) = true
  em_NoFormula_NoFormula : PySem.W.exmOne K (.ref (He.ga K "NoFormula")) (.ref (He.ga K "NoFormula")) = some true
  st_NoFormula_init : Stands K d_NoFormula_init
  st_is_name : Stands K d_is_name
  st_is_value : Stands K d_is_value
  st_has_form : Stands K d_has_form
  st_leaves : Stands K d_leaves
  st_is_formula : Stands K d_is_formula
  st_need_formula : Stands K d_need_formula
  st_keys_of : Stands K d_keys_of
  st_is_true : Stands K d_is_true
  st_holds : Stands K d_holds
  st_values_named : Stands K d_values_named
  st_value_beside : Stands K d_value_beside
  st_samples : Stands K d_samples
  st_rows_of : Stands K d_rows_of
  st_telling_pair : Stands K d_telling_pair
  st_matters : Stands K d_matters
  st_law_cell : Stands K d_law_cell
  st_law_box : Stands K d_law_box
  st_law_take : Stands K d_law_take
  st_law_mixed : Stands K d_law_mixed
  st_law_same : Stands K d_law_same
  st_law_very : Stands K d_law_very
  st_law_leaf : Stands K d_law_leaf
  st_law_formula : Stands K d_law_formula
  st_law_levels : Stands K d_law_levels
  st_law_leaves : Stands K d_law_leaves
  st_law_holds : Stands K d_law_holds
  st_law_all_readings : Stands K d_law_all_readings
  st_law_matters : Stands K d_law_matters
  st_law_is_formula : Stands K d_law_is_formula
  st_law_is_name : Stands K d_law_is_name
  st_law_is_value : Stands K d_law_is_value
  st_law_near : Stands K d_law_near
  st_law_asked : Stands K d_law_asked
  st_law_formula_right : Stands K d_law_formula_right
  st_law : Stands K d_law
  ox_NoFormula : OexC K (He.ga K "NoFormula")
  xf_NoFormula : XfC K (He.ga K "NoFormula")
  in_NoFormula : PySem.W.findIn K (.ref (He.ga K "NoFormula")) "__init__" = some (some (.ref (He.ma K (He.ga K "NoFormula") "__init__")))
  ti_NoFormula : PySem.W.typeIn K (.ref (He.ma K (He.ga K "NoFormula") "__init__")) = some (.type "function")
  nf_NoFormula_found : PySem.W.findIn K (.ref (He.ga K "NoFormula")) "found" = some none
  li : PySem.W.findCls K (.ref (He.ga K "LoreError")) (.type "type") "__init__" = some (.val (.builtin "ValueError.__init__"))
  t_OWN : ∀ H : Hp, SqT K H (He.ga K "OWN") [.str "all", .str "key", .str "days", .str "turns", .str "last", .str "ends", .str "now", .str "both", .str "either", .str "but", .str "let", .str "bar", .str "frame", .str "find", .str "known", .str "ask"]
  t_TWO : ∀ H : Hp, SqT K H (He.ga K "TWO") [.str "and", .str "or"]
  rd_LoreError : PySem.W.readsIn K (He.ga K "LoreError") (.type "type") = true
  sp_LoreError : PySem.W.specialIn K (.ref (He.ga K "LoreError")) "__getattribute__" = some (some (.builtin "type.__getattribute__"))
theorem tx_of {w : World} {K : PySem.W.Frag} {mg : Str → Option Value} {h h0 : Heap} (X : K.In h) (G : h.Ns mainGlobals mg) (s : He.SaysX fa fn [] [] ex w h0 K) : Tx K mg := by
  have c : He.SaysD fa fn K := s.t.d
  have m : ex K = true := s.more
  exact {
    g_is_name := He.glo_ok X G (c.fact 0 (f := .glo "is_name") rfl)
    g_is_value := He.glo_ok X G (c.fact 1 (f := .glo "is_value") rfl)
    g_has_form := He.glo_ok X G (c.fact 2 (f := .glo "has_form") rfl)
    g_leaves := He.glo_ok X G (c.fact 3 (f := .glo "leaves") rfl)
    g_is_formula := He.glo_ok X G (c.fact 4 (f := .glo "is_formula") rfl)
    g_need_formula := He.glo_ok X G (c.fact 5 (f := .glo "need_formula") rfl)
    g_keys_of := He.glo_ok X G (c.fact 6 (f := .glo "keys_of") rfl)
    g_is_true := He.glo_ok X G (c.fact 7 (f := .glo "is_true") rfl)
    g_holds := He.glo_ok X G (c.fact 8 (f := .glo "holds") rfl)
    g_values_named := He.glo_ok X G (c.fact 9 (f := .glo "values_named") rfl)
    g_value_beside := He.glo_ok X G (c.fact 10 (f := .glo "value_beside") rfl)
    g_samples := He.glo_ok X G (c.fact 11 (f := .glo "samples") rfl)
    g_rows_of := He.glo_ok X G (c.fact 12 (f := .glo "rows_of") rfl)
    g_telling_pair := He.glo_ok X G (c.fact 13 (f := .glo "telling_pair") rfl)
    g_matters := He.glo_ok X G (c.fact 14 (f := .glo "matters") rfl)
    g_law_cell := He.glo_ok X G (c.fact 15 (f := .glo "_law_cell") rfl)
    g_law_box := He.glo_ok X G (c.fact 16 (f := .glo "_law_box") rfl)
    g_law_take := He.glo_ok X G (c.fact 17 (f := .glo "_law_take") rfl)
    g_law_mixed := He.glo_ok X G (c.fact 18 (f := .glo "_law_mixed") rfl)
    g_law_same := He.glo_ok X G (c.fact 19 (f := .glo "_law_same") rfl)
    g_law_very := He.glo_ok X G (c.fact 20 (f := .glo "_law_very") rfl)
    g_law_leaf := He.glo_ok X G (c.fact 21 (f := .glo "_law_leaf") rfl)
    g_law_formula := He.glo_ok X G (c.fact 22 (f := .glo "_law_formula") rfl)
    g_law_levels := He.glo_ok X G (c.fact 23 (f := .glo "_law_levels") rfl)
    g_law_leaves := He.glo_ok X G (c.fact 24 (f := .glo "_law_leaves") rfl)
    g_law_holds := He.glo_ok X G (c.fact 25 (f := .glo "_law_holds") rfl)
    g_law_all_readings := He.glo_ok X G (c.fact 26 (f := .glo "_law_all_readings") rfl)
    g_law_matters := He.glo_ok X G (c.fact 27 (f := .glo "_law_matters") rfl)
    g_law_is_formula := He.glo_ok X G (c.fact 28 (f := .glo "_law_is_formula") rfl)
    g_law_is_name := He.glo_ok X G (c.fact 29 (f := .glo "_law_is_name") rfl)
    g_law_is_value := He.glo_ok X G (c.fact 30 (f := .glo "_law_is_value") rfl)
    g_law_near := He.glo_ok X G (c.fact 31 (f := .glo "_law_near") rfl)
    g_law_asked := He.glo_ok X G (c.fact 32 (f := .glo "_law_asked") rfl)
    g_law_formula_right := He.glo_ok X G (c.fact 33 (f := .glo "_law_formula_right") rfl)
    g_law := He.glo_ok X G (c.fact 34 (f := .glo "law") rfl)
    g_LoreError := He.glo_ok X G (c.fact 35 (f := .glo "LoreError") rfl)
    g_NoFormula := He.glo_ok X G (c.fact 36 (f := .glo "NoFormula") rfl)
    f_all := He.free_ok X G (c.fact 37 (f := .free "all") rfl)
    f_isinstance := He.free_ok X G (c.fact 38 (f := .free "isinstance") rfl)
    f_str := He.free_ok X G (c.fact 39 (f := .free "str") rfl)
    f_len := He.free_ok X G (c.fact 40 (f := .free "len") rfl)
    f_tuple := He.free_ok X G (c.fact 41 (f := .free "tuple") rfl)
    f_sorted := He.free_ok X G (c.fact 42 (f := .free "sorted") rfl)
    f_range := He.free_ok X G (c.fact 43 (f := .free "range") rfl)
    f_abs := He.free_ok X G (c.fact 44 (f := .free "abs") rfl)
    f_int := He.free_ok X G (c.fact 45 (f := .free "int") rfl)
    f_sum := He.free_ok X G (c.fact 46 (f := .free "sum") rfl)
    f_max := He.free_ok X G (c.fact 47 (f := .free "max") rfl)
    f_list := He.free_ok X G (c.fact 48 (f := .free "list") rfl)
    f_bool := He.free_ok X G (c.fact 49 (f := .free "bool") rfl)
    f_repr := He.free_ok X G (c.fact 50 (f := .free "repr") rfl)
    f_dict := He.free_ok X G (c.fact 51 (f := .free "dict") rfl)
    f_set := He.free_ok X G (c.fact 52 (f := .free "set") rfl)
    f_min := He.free_ok X G (c.fact 53 (f := .free "min") rfl)
    c_LETTERS := (let ⟨t, e⟩ := He.str_ok X G (c.fact 54 (f := .str "LETTERS" "abcdefghijklmnopqrstuvwxyz") rfl); ⟨_, e, t, rfl⟩)
    c_FIGURES := (let ⟨t, e⟩ := He.str_ok X G (c.fact 55 (f := .str "FIGURES" "0123456789") rfl); ⟨_, e, t, rfl⟩)
    c_LONGEST_NAME := (let ⟨t, e⟩ := He.int_ok X G (c.fact 56 (f := .int "LONGEST_NAME" 8) rfl); ⟨_, e, t, rfl⟩)
    c_LONGEST_VALUE := (let ⟨t, e⟩ := He.int_ok X G (c.fact 57 (f := .int "LONGEST_VALUE" 12) rfl); ⟨_, e, t, rfl⟩)
    g_OWN := He.glo_ok X G (c.fact 58 (f := .glo "OWN") rfl)
    c_OWN := ⟨_, He.glo_ok X G (c.fact 58 (f := .glo "OWN") rfl), rfl⟩
    c_MOST_LEVELS := (let ⟨t, e⟩ := He.int_ok X G (c.fact 59 (f := .int "MOST_LEVELS" 6) rfl); ⟨_, e, t, rfl⟩)
    c_MOST_LEAVES := (let ⟨t, e⟩ := He.int_ok X G (c.fact 60 (f := .int "MOST_LEAVES" 6) rfl); ⟨_, e, t, rfl⟩)
    c_IS := (let ⟨t, e⟩ := He.str_ok X G (c.fact 61 (f := .str "IS" "is") rfl); ⟨_, e, t, rfl⟩)
    c_SILENT := (let ⟨t, e⟩ := He.str_ok X G (c.fact 62 (f := .str "SILENT" "silent") rfl); ⟨_, e, t, rfl⟩)
    c_NOT := (let ⟨t, e⟩ := He.str_ok X G (c.fact 63 (f := .str "NOT" "not") rfl); ⟨_, e, t, rfl⟩)
    g_TWO := He.glo_ok X G (c.fact 64 (f := .glo "TWO") rfl)
    c_TWO := ⟨_, He.glo_ok X G (c.fact 64 (f := .glo "TWO") rfl), rfl⟩
    kp_LoreError := He.keep_ok (c.fact 65 (f := .keep "LoreError") rfl)
    kp_NoFormula := He.keep_ok (c.fact 66 (f := .keep "NoFormula") rfl)
    em_NoFormula_NoFormula := He.exm_ok (c.fact 67 (f := .exm "NoFormula" "NoFormula" true) rfl)
    st_NoFormula_init := c.def_ 0 (d := d_NoFormula_init) rfl
    st_is_name := c.def_ 1 (d := d_is_name) rfl
    st_is_value := c.def_ 2 (d := d_is_value) rfl
    st_has_form := c.def_ 3 (d := d_has_form) rfl
    st_leaves := c.def_ 4 (d := d_leaves) rfl
    st_is_formula := c.def_ 5 (d := d_is_formula) rfl
    st_need_formula := c.def_ 6 (d := d_need_formula) rfl
    st_keys_of := c.def_ 7 (d := d_keys_of) rfl
    st_is_true := c.def_ 8 (d := d_is_true) rfl
    st_holds := c.def_ 9 (d := d_holds) rfl
    st_values_named := c.def_ 10 (d := d_values_named) rfl
    st_value_beside := c.def_ 11 (d := d_value_beside) rfl
    st_samples := c.def_ 12 (d := d_samples) rfl
    st_rows_of := c.def_ 13 (d := d_rows_of) rfl
    st_telling_pair := c.def_ 14 (d := d_telling_pair) rfl
    st_matters := c.def_ 15 (d := d_matters) rfl
    st_law_cell := c.def_ 16 (d := d_law_cell) rfl
    st_law_box := c.def_ 17 (d := d_law_box) rfl
    st_law_take := c.def_ 18 (d := d_law_take) rfl
    st_law_mixed := c.def_ 19 (d := d_law_mixed) rfl
    st_law_same := c.def_ 20 (d := d_law_same) rfl
    st_law_very := c.def_ 21 (d := d_law_very) rfl
    st_law_leaf := c.def_ 22 (d := d_law_leaf) rfl
    st_law_formula := c.def_ 23 (d := d_law_formula) rfl
    st_law_levels := c.def_ 24 (d := d_law_levels) rfl
    st_law_leaves := c.def_ 25 (d := d_law_leaves) rfl
    st_law_holds := c.def_ 26 (d := d_law_holds) rfl
    st_law_all_readings := c.def_ 27 (d := d_law_all_readings) rfl
    st_law_matters := c.def_ 28 (d := d_law_matters) rfl
    st_law_is_formula := c.def_ 29 (d := d_law_is_formula) rfl
    st_law_is_name := c.def_ 30 (d := d_law_is_name) rfl
    st_law_is_value := c.def_ 31 (d := d_law_is_value) rfl
    st_law_near := c.def_ 32 (d := d_law_near) rfl
    st_law_asked := c.def_ 33 (d := d_law_asked) rfl
    st_law_formula_right := c.def_ 34 (d := d_law_formula_right) rfl
    st_law := c.def_ 35 (d := d_law) rfl
    ox_NoFormula := oexB_ok (moreL_get m 0 rfl)
    xf_NoFormula := xfB_ok (moreL_get m 1 rfl)
    in_NoFormula := of_decide_eq_true (moreL_get m 2 rfl)
    ti_NoFormula := of_decide_eq_true (moreL_get m 3 rfl)
    nf_NoFormula_found := of_decide_eq_true (moreL_get m 4 rfl)
    li := initB_ok (moreL_get m 5 rfl)
    t_OWN := fun H => He.tupB_ok (vs := [.str "all", .str "key", .str "days", .str "turns", .str "last", .str "ends", .str "now", .str "both", .str "either", .str "but", .str "let", .str "bar", .str "frame", .str "find", .str "known", .str "ask"]) (moreL_get m 6 rfl) H
    t_TWO := fun H => He.tupB_ok (vs := [.str "and", .str "or"]) (moreL_get m 7 rfl) H
    rd_LoreError := moreL_get m 8 rfl
    sp_LoreError := of_decide_eq_true (moreL_get m 9 rfl)
  }
end H68

set_option maxHeartbeats 4000000
/-! KC: comprehensions by a test and a value of immutable data. -/
namespace KB
open PySem PySem.Spec PyProof.Rows L2
/-- a turn of a comprehension: x the item, d what it tells -/
def LcStep (g : TG) (tt : TT) (te : TE) (vs : List Nat) (σ : L2.St) (H1 : Hp) (D : Addr) (ds : List PyData) (p : PyData → Bool) (f : PyData → PyData) : Prop :=
  ∀ (i : Nat) (x : V) (d : PyData) (H : Hp), ds[i]? = some d → Im H x d → Same H1 H → ∀ N : Hp → Prop, (p d = false → ∀ H3, Same H H3 → N H3) →
    (p d = true → ∀ y H4, Same H H4 → Im H4 y (f d) → ∃ acc, H4 D = some (.lst acc) ∧ acc.length < sizeLine ∧ N (upd H4 D (.lst (acc ++ [y])))) →
    g x (wipe σ vs) H fun σ2 H2 => wipe σ2 vs = wipe σ vs ∧ tt σ2 H2 fun b H3 => if b = true then te σ2 H3 fun y H4 => ∃ acc, H4 D = some (.lst acc) ∧ acc.length < sizeLine ∧ N (upd H4 D (.lst (acc ++ [y]))) else N H3
/-- what a comprehension over J asks for -/
def LcGo (J : L2.It) (g : TG) (tt : TT) (te : TE) (vs : List Nat) (σ : L2.St) (H1 : Hp) (Q : VK) : Prop := ∀ D, H1 D = none → ∃ W : Nat → Nat → Hp → Prop, (∃ m, W 0 m (upd H1 D (.lst []))) ∧ ∀ i m H, W i m H →
  (J.stop i H ∧ Q (.ref D) H) ∨ (J.go i H ∧ ∃ Nx : Hp → Prop, (∀ H', Nx H' → ∃ m', m' < m ∧ W (i + 1) m' H') ∧ ∀ x H', J.yld i H x H' → g x (wipe σ vs) H' fun σ2 H2 => wipe σ2 vs = wipe σ vs ∧ tt σ2 H2 fun b H3 =>
    if b = true then te σ2 H3 fun y H4 => ∃ acc, H4 D = some (.lst acc) ∧ acc.length < sizeLine ∧ Nx (upd H4 D (.lst (acc ++ [y]))) else Nx H3)
theorem take_succ_get {α : Type} {xs : List α} {i : Nat} {x : α} (h : xs[i]? = some x) : xs.take (i + 1) = xs.take i ++ [x] := by
  rw [List.take_succ, h]; rfl
theorem lc_fm {J : L2.It} {g : TG} {tt : TT} {te : TE} {vs : List Nat} {σ : L2.St} {H1 : Hp} {D : Addr} {ds : List PyData} {p : PyData → Bool} {f : PyData → PyData} {Qd : Hp → Prop} (hD : H1 D = none) (hz : ds.length ≤ sizeLine)
    (hstop : ∀ H, Same H1 H → J.stop ds.length H) (hgo : ∀ i H, i < ds.length → Same H1 H → J.go i H)
    (hy : ∀ i x H H', i < ds.length → Same H1 H → J.yld i H x H' → ∃ d, ds[i]? = some d ∧ Same H H' ∧ Im H' x d) (hs : LcStep g tt te vs σ H1 D ds p f)
    (hd : ∀ H ys, Same H1 H → H D = some (.lst ys) → ImAll H ys ((ds.filter p).map f) → Qd H) :
    ∃ W : Nat → Nat → Hp → Prop, (∃ m, W 0 m (upd H1 D (.lst []))) ∧ ∀ i m H, W i m H →
      (J.stop i H ∧ Qd H) ∨ (J.go i H ∧ ∃ Nx : Hp → Prop, (∀ H', Nx H' → ∃ m', m' < m ∧ W (i + 1) m' H') ∧ ∀ x H', J.yld i H x H' → g x (wipe σ vs) H' fun σ2 H2 => wipe σ2 vs = wipe σ vs ∧ tt σ2 H2 fun b H3 =>
        if b = true then te σ2 H3 fun y H4 => ∃ acc, H4 D = some (.lst acc) ∧ acc.length < sizeLine ∧ Nx (upd H4 D (.lst (acc ++ [y]))) else Nx H3) := by
  refine lc_gen (n := ds.length) hD (fun i => ((ds.take i).filter p).map f) rfl hstop hgo (fun i x H H' hi c y => ?_) (fun H ys s hy2 im => hd H ys s hy2 (by rw [List.take_length] at im; exact im))
  obtain ⟨d, ed, sm, im⟩ := hy i x H H' hi c.same y
  have et := take_succ_get ed
  refine hs i x d H' ed im (c.same.trans sm) _ (fun pf H3 s3 => ?_) (fun pt y H4 s4 iy => ?_)
  · have e1 : ((ds.take (i + 1)).filter p).map f = ((ds.take i).filter p).map f := by
      rw [et, List.filter_append, List.map_append]; simp [List.filter, pf]
    show CI H1 D (((ds.take (i + 1)).filter p).map f) H3
    rw [e1]
    exact c.on (sm.trans s3)
  · have e1 : ((ds.take (i + 1)).filter p).map f = ((ds.take i).filter p).map f ++ [f d] := by
      rw [et, List.filter_append, List.map_append]; simp [List.filter, pt]
    show ∃ acc, H4 D = some (.lst acc) ∧ acc.length < sizeLine ∧ CI H1 D (((ds.take (i + 1)).filter p).map f) (upd H4 D (.lst (acc ++ [y])))
    rw [e1]
    refine CI.add hD c (sm.trans s4) ?_ iy (fun H2 c2 => c2)
    have h1 := List.length_filter_le p (ds.take i)
    have h2 : (ds.take i).length ≤ i := by simp; omega
    rw [List.length_map]
    omega
section
variable {K : PySem.W.Frag} {g : TG} {tt : TT} {te te0 : TE} {vs : List Nat} {σ : L2.St} {H : Hp} {Q : VK}
/-- over a list -/
theorem i_lcL {a : Addr} {xs : List V} {ds : List PyData} {H1 : Hp} (p : PyData → Bool) (f : PyData → PyData) (ha : SqL K H1 a xs) (im : ImAll H1 xs ds) (hz : ds.length ≤ sizeLine)
    (hs : ∀ D, H1 D = none → LcStep g tt te vs σ H1 D ds p f) (hd : ∀ D H ys, H1 D = none → Same H1 H → H D = some (.lst ys) → ImAll H ys ((ds.filter p).map f) → Q (.ref D) H) :
    ∃ a', V.ref a = .ref a' ∧ (∃ xs, SqL K H1 a' xs) ∧ LcGo (Itl K a') g tt te vs σ H1 Q := by
  refine ⟨a, rfl, ⟨xs, ha⟩, fun D hD => ?_⟩
  have hl := im.length
  refine lc_fm hD hz (fun H s => ⟨xs, s.seq ha, by omega⟩) (fun i H hi s => ⟨xs, xs[i], s.seq ha, List.getElem?_eq_getElem (by omega)⟩) (fun i x H H' hi s y => ?_) (hs D hD) (fun H ys s hy im => hd D H ys hD s hy im)
  obtain ⟨rfl, y⟩ := y
  obtain ⟨d, hd', imd⟩ := im.get (y xs (s.seq ha))
  exact ⟨d, hd', fun _ _ h => h, imd.mono (Same.tq s)⟩
def chD (c : Nat) : PyData := .str ⟨#[c]⟩
/-- over a text -/
theorem i_lcS {z : Str} {H1 : Hp} (p : PyData → Bool) (f : PyData → PyData) (hz : z.length ≤ sizeLine)
    (hs : ∀ D, H1 D = none → LcStep g tt te vs σ H1 D (z.cps.toList.map chD) p f) (hd : ∀ D H ys, H1 D = none → Same H1 H → H D = some (.lst ys) → ImAll H ys (((z.cps.toList.map chD).filter p).map f) → Q (.ref D) H) :
    LcGo (Its z) g tt te vs σ H1 Q := by
  intro D hD
  have hl : (z.cps.toList.map chD).length = z.cps.size := by simp
  refine lc_fm hD (by rw [hl]; exact hz) (fun H s => by show z.cps.size ≤ _; omega) (fun i H hi s => by show i < z.cps.size; omega) (fun i x H H' hi s y => ?_) (hs D hD) (fun H ys s hy im => hd D H ys hD s hy im)
  obtain ⟨rfl, c, hc, rfl⟩ := y
  exact ⟨chD c, by simp [hc], fun _ _ h => h, .str _⟩
def rngD (lo : Int) (n : Nat) : List PyData := (List.range n).map fun i => .int (lo + (i : Nat))
/-- over a range -/
theorem lc_rngD {lo : Int} {n : Nat} {H1 : Hp} (p : PyData → Bool) (f : PyData → PyData) (hz : n ≤ sizeLine)
    (hs : ∀ D, H1 D = none → LcStep g tt te vs σ H1 D (rngD lo n) p f) (hd : ∀ D H ys, H1 D = none → Same H1 H → H D = some (.lst ys) → ImAll H ys (((rngD lo n).filter p).map f) → Q (.ref D) H) :
    LcGo (Itr lo n) g tt te vs σ H1 Q := by
  intro D hD
  have hl : (rngD lo n).length = n := by simp [rngD]
  refine lc_fm hD (by rw [hl]; exact hz) (fun H s => by show n ≤ _; omega) (fun i H hi s => by show i < n; omega) (fun i x H H' hi s y => ?_) (hs D hD) (fun H ys s hy im => hd D H ys hD s hy im)
  obtain ⟨rfl, rfl⟩ := y
  exact ⟨.int (lo + (i : Nat)), by rw [hl] at hi; simp [rngD, hi], fun _ _ h => h, .int _⟩
def zipD : List PyData → List PyData → List PyData := List.zipWith fun x y => .tuple [x, y]
/-- over zip(a, b) -/
theorem i_lcZ {a b : Addr} {xs ys : List V} {ds es : List PyData} {H1 : Hp} (p : PyData → Bool) (f : PyData → PyData) (ha : SqL K H1 a xs) (ia : ImAll H1 xs ds) (hb : SqL K H1 b ys) (ib : ImAll H1 ys es) (hz : ds.length ≤ sizeLine)
    (hs : ∀ D, H1 D = none → LcStep g tt te vs σ H1 D (zipD ds es) p f) (hd : ∀ D H zs, H1 D = none → Same H1 H → H D = some (.lst zs) → ImAll H zs (((zipD ds es).filter p).map f) → Q (.ref D) H) :
    ∃ a' b' xs ys, [V.ref a, V.ref b] = [.ref a', .ref b'] ∧ SqL K H1 a' xs ∧ SqL K H1 b' ys ∧ LcGo (Itz K a' b') g tt te vs σ H1 Q := by
  refine ⟨a, b, xs, ys, rfl, ha, hb, fun D hD => ?_⟩
  have la := ia.length
  have lb := ib.length
  have hl : (zipD ds es).length = min ds.length es.length := by simp [zipD]
  refine lc_fm hD (by rw [hl]; omega) (fun H s => ⟨xs, ys, s.seq ha, s.seq hb, by omega⟩) (fun i H hi s => ⟨xs, ys, xs[i], ys[i], s.seq ha, s.seq hb, List.getElem?_eq_getElem (by omega), List.getElem?_eq_getElem (by omega)⟩) (fun i x H H' hi s y => ?_) (hs D hD) (fun H zs s hy im => hd D H zs hD s hy im)
  obtain ⟨T, u, v, rfl, hT, rfl, hu, hv⟩ := y
  obtain ⟨d, hd', imd⟩ := ia.get (hu xs (s.seq ha))
  obtain ⟨e, he', ime⟩ := ib.get (hv ys (s.seq hb))
  exact ⟨.tuple [d, e], by simp [zipD, List.getElem?_zipWith, hd', he'], Same.new hT, .tup upd_same (.cons (imd.mono ((Same.tq s).trans (Tq.new hT))) (.one (ime.mono ((Same.tq s).trans (Tq.new hT)))))⟩
/-- the sign of a one-sign text stands in t -/
def inD (t : Str) : PyData → Bool | .str s => decide (s.cps.toList.head?.getD 0 ∈ t.cps.toList) | _ => false
theorem inD_ch {t : Str} {c : Nat} : inD t (chD c) = decide (c ∈ t.cps.toList) := rfl
theorem filter_yes {α : Type} (l : List α) : (l.filter fun _ => true) = l := List.filter_eq_self.mpr fun _ _ => rfl
theorem chD_get {l : List Nat} {i : Nat} {d : PyData} (h : (l.map chD)[i]? = some d) : ∃ c, c ∈ l ∧ d = chD c := by
  obtain ⟨c, hc, e⟩ := List.mem_map.mp (List.mem_of_getElem? h)
  exact ⟨c, hc, e.symm⟩
theorem all_in (z t : Str) : ((z.cps.toList.map chD).filter fun _ => true).map (fun d => PyData.bool (inD t d)) = (z.cps.toList.map fun c => decide (c ∈ t.cps.toList)).map PyData.bool := by
  rw [filter_yes, List.map_map, List.map_map]; rfl
theorem all_id (z : Str) (f : Nat → Bool) : (z.cps.toList.map f).all id = z.cps.toList.all f := by
  rw [List.all_map]; rfl
theorem not_in (z t : Str) : ((z.cps.toList.map chD).filter fun d => !inD t d).map (fun d => d) = (z.cps.toList.filter fun c => !decide (c ∈ t.cps.toList)).map chD := by
  rw [List.map_id', List.filter_map]; rfl
theorem i_wp {a b : L2.St} {P : Prop} (e : wipe a vs = wipe b vs) (h : P) : wipe a vs = wipe b vs ∧ P := ⟨e, h⟩
theorem i_yes {R : Bool → Hp → Prop} (h : R true H) : tYes σ H R := h
/-- what a loop over J asks for -/
def ForGo (J : L2.It) (g : TG) (tb : TS) (D : Ends) (σ : L2.St) (H1 : Hp) : Prop := ∃ W : Nat → Nat → L2.St → Hp → Prop, (∃ m, W 0 m σ H1) ∧ ∀ i m σ H, W i m σ H →
  (J.stop i H ∧ D.nx σ H) ∨ (J.go i H ∧ ∃ N : L2.St → Hp → Prop, (∀ σ' H', N σ' H' → ∃ m', m' < m ∧ W (i + 1) m' σ' H') ∧ ∀ x H', J.yld i H x H' → g x σ H' fun σ2 H2 => tb { D with nx := N, ct := N, bk := D.nx } σ2 H2)
section
variable {tb : TS} {D : Ends} {H1 : Hp}
theorem i_for0L (h : te0 σ H fun x H1 => ∃ a, x = .ref a ∧ (∃ xs, SqL K H1 a xs) ∧ ForGo (Itl K a) g tb D σ H1) : tFor (iList K te0) g tb D σ H := h
theorem i_for0E {ta : TA} (h : ta σ H fun ws H1 => ∃ a xs, ws = [.ref a] ∧ SqL K H1 a xs ∧ ForGo (Ite K a) g tb D σ H1) : tFor (iEnum K ta) g tb D σ H := h
theorem i_for0R {ta : TA} (h : ta σ H fun ws H1 => ∃ j : Int, ws = [.int j] ∧ -(2 ^ 62) ≤ j ∧ j < 2 ^ 62 ∧ ForGo (Itr 0 j.toNat) g tb D σ H1) : tFor (iRng1 ta) g tb D σ H := h
theorem i_forL {a : Addr} {xs : List V} (Pv : Nat → L2.St → Hp → Prop) (hx : SqL K H1 a xs) (h0 : Pv 0 σ H1) (hl : ∀ i σ H, i ≤ xs.length → Pv i σ H → SqL K H a xs)
    (hs : ∀ i x σ H, xs[i]? = some x → Pv i σ H → g x σ H fun σ2 H2 => tb { D with nx := Pv (i + 1), ct := Pv (i + 1), bk := D.nx } σ2 H2) (hd : ∀ σ H, Pv xs.length σ H → D.nx σ H) :
    ∃ a', V.ref a = .ref a' ∧ (∃ xs, SqL K H1 a' xs) ∧ ForGo (Itl K a') g tb D σ H1 := ⟨a, rfl, ⟨xs, hx⟩, for_list Pv h0 hl hs hd⟩
theorem i_forR {j : Int} (Pv : Nat → L2.St → Hp → Prop) (hj : -(2 ^ 62) ≤ j ∧ j < 2 ^ 62) (h0 : Pv 0 σ H1)
    (hs : ∀ i σ H, i < j.toNat → Pv i σ H → g (.int (0 + (i : Nat))) σ H fun σ2 H2 => tb { D with nx := Pv (i + 1), ct := Pv (i + 1), bk := D.nx } σ2 H2) (hd : ∀ σ H, Pv j.toNat σ H → D.nx σ H) :
    ∃ k : Int, [V.int j] = [.int k] ∧ -(2 ^ 62) ≤ k ∧ k < 2 ^ 62 ∧ ForGo (Itr 0 k.toNat) g tb D σ H1 := ⟨j, rfl, hj.1, hj.2, for_range Pv h0 hs hd⟩
theorem i_forE {a : Addr} {xs : List V} (Pv : Nat → L2.St → Hp → Prop) (hx : SqL K H1 a xs) (h0 : Pv 0 σ H1) (hl : ∀ i σ H, i ≤ xs.length → Pv i σ H → SqL K H a xs)
    (hs : ∀ i x σ H T, xs[i]? = some x → Pv i σ H → H T = none → g (.ref T) σ (upd H T (.tup [.int (i : Nat), x])) fun σ2 H2 => tb { D with nx := Pv (i + 1), ct := Pv (i + 1), bk := D.nx } σ2 H2) (hd : ∀ σ H, Pv xs.length σ H → D.nx σ H) :
    ∃ a' ys, [V.ref a] = [.ref a'] ∧ SqL K H1 a' ys ∧ ForGo (Ite K a') g tb D σ H1 := by
  refine ⟨a, xs, rfl, hx, fun i m σ H => m = xs.length - i ∧ i ≤ xs.length ∧ Pv i σ H, ⟨xs.length, by simp, Nat.zero_le _, h0⟩, ?_⟩
  rintro i m σ H ⟨rfl, hi, pv⟩
  have hq := hl i σ H hi pv
  by_cases hlt : i < xs.length
  · refine .inr ⟨⟨xs, xs[i], hq, List.getElem?_eq_getElem hlt⟩, Pv (i + 1), fun σ' H' q => ⟨xs.length - (i + 1), by omega, rfl, hlt, q⟩, ?_⟩
    rintro v H' ⟨T, x, rfl, hT, rfl, hx'⟩
    exact hs i x σ H T (hx' xs hq) pv hT
  · have e : i = xs.length := by omega
    subst e
    exact .inl ⟨⟨xs, hq, Nat.le_refl _⟩, hd σ H pv⟩
end
theorem i_gT {n : Nat} {gs : TGs} {a : Addr} {xs : List V} {R : L2.St → Hp → Prop} (ha : SqT K H a xs) (hl : xs.length = n) (h : gs xs σ H R) : gTup K n gs (.ref a) σ H R := ⟨a, xs, rfl, ha, hl, h⟩
theorem i_gC {gs : TGs} {x : V} {xs : List V} {R : L2.St → Hp → Prop} (h : g x σ H fun σ' H' => gs xs σ' H' R) : gCons g gs (x :: xs) σ H R := ⟨x, xs, rfl, h⟩
theorem i_gN {R : L2.St → Hp → Prop} (h : R σ H) : gNil [] σ H R := ⟨rfl, h⟩
theorem i_lc0L (h : te0 σ H fun x H1 => ∃ a, x = .ref a ∧ (∃ xs, SqL K H1 a xs) ∧ LcGo (Itl K a) g tt te vs σ H1 Q) : tLc (iList K te0) g tt te vs σ H Q := h
theorem i_lc0S (h : te0 σ H fun v H1 => ∃ x, v = .str x ∧ LcGo (Its x) g tt te vs σ H1 Q) : tLc (iStr te0) g tt te vs σ H Q := h
theorem i_lc0Z {ta : TA} (h : ta σ H fun ws H1 => ∃ a b xs ys, ws = [.ref a, .ref b] ∧ SqL K H1 a xs ∧ SqL K H1 b ys ∧ LcGo (Itz K a b) g tt te vs σ H1 Q) : tLc (iZip K ta) g tt te vs σ H Q := h
end
end KB

set_option maxHeartbeats 4000000
/-! KQ: rules more: what is never reached, LoreError.__init__, raise, a tuple's index, calls within try. -/
namespace KB
open PySem PySem.Spec PyProof.Rows L2
section
variable {X : Cx} {K : PySem.W.Frag}
/-! ### what is never reached -/
theorem ps_dead {st : Stmt} : PS X st (fun _ _ _ => False) := ⟨fun _ _ _ _ _ _ h => h.elim⟩
theorem pss_dead {st : List Stmt} : PSs X st (fun _ _ _ => False) := ⟨fun _ _ _ _ _ _ h => h.elim⟩
theorem pe_dead {e : Expr} : PE X e (fun _ _ _ => False) := ⟨fun _ _ _ _ _ _ h => h.elim⟩
/-! ### C.__init__(self, ..), C a class over ValueError without an own __init__ -/
theorem e_lorei {C : Addr} {x : Str} {es : List Expr} {e : Expr} {p1 p2 pos : Pos} {ta : TA} {pl : Sem Bool} (hK : X.K = K) (hg : Gl X x) (hm : X.mg x = some (.ref C)) (rd : PySem.W.readsIn K C (.type "type") = true)
    (sg : PySem.W.specialIn K (.ref C) "__getattribute__" = some (some (.builtin "type.__getattribute__"))) (li : PySem.W.findCls K (.ref C) (.type "type") "__init__" = some (.val (.builtin "ValueError.__init__"))) (ha : PA X (e :: es) ta)
    (hc : eval (.Call (.Attribute (.Name x p1) "__init__" p2) (e :: es) [] pos) X.env = (do
      let ov ← eval (.Name x p1) X.env
      standAt p2.atName
      let (f, first) ← holding [ov] (getMethod ov "__init__" pl)
      callWith pos f first (backTo pos (starEach (e :: es) X.env)) (backToKw pos (keywordEach [] X.env))) := by rfl)
    (hdb : (x == ("__debug__" : Str)) = false := by decide) (he : starEach (e :: es) X.env = (false, eval e X.env) :: starEach es X.env := by rfl) (hpl : (backTo pos (starEach es X.env)).any (·.1) = false := by rfl) :
    PE X (.Call (.Attribute (.Name x p1) "__init__" p2) (e :: es) [] pos) (tVeI K ta) := by
  subst hK
  constructor
  intro pins s σ H Q I h
  refine PySem.W.methodCall_KW (ld_glob I hg hm ?_ hdb) hc
  obtain ⟨m, fr⟩ := I.fr
  refine PySem.W.method_of_cls fr I.ok.mod.kin sg (PySem.W.cls_value I.kIn rd li rfl ?_)
  refine PyProof.Rows.callWith_method1 (thn (ha.run pos pins _ σ H _ (I.tok _) h) ?_) he hpl
  rintro us s1 ⟨vs, H1, I1, r1, a, C', ws, rfl, hl, T, ea, q⟩
  cases r1 with
  | @cons _ u0 _ ur ra rs =>
    cases (ra : u0 = Value.ref a)
    have hlen := Paired.length rs
    exact oinit_ok T I1 ea (by rw [← hlen, sizeLine_eq]; omega) fun s' J => ⟨.non, H1, J, rfl, q⟩
theorem i_lorei {ta : TA} {σ : L2.St} {H : Hp} {Q : VK} (h : ta σ H fun vs H1 => ∃ (a C : Addr) (ws : List V), vs = .ref a :: ws ∧ ws.length ≤ 1000 ∧ OexC K C ∧ H1 a = some (exo a C none) ∧ Q .non H1) : tVeI K ta σ H Q := h
/-! ### raise C(e), C's own __init__ keeping sp -/
theorem mk_cn {C fI : Addr} {j k : Nat} {ps : List Str} {sp : Sp} {x : Str} {e : Expr} {es : List Expr} {ta : TA} {p pos : Pos} (T : OexC X.K C) (iC : PySem.W.findIn X.K (.ref C) "__init__" = some (some (.ref fI)))
    (tI : PySem.W.typeIn X.K (.ref fI) = some (.type "function")) (c : Cn X.prog X.w X.K X.mg X.base k fI ps sp) (hr : Room j X.A) (hk : k + 1 ≤ j) (hx : Passes (L2N.CX X.prog X.w) X (fun _ _ _ => False)) (hg : Gl X x) (hm : X.mg x = some (.ref C)) (ha : PA X (e :: es) ta)
    (hdb : (x == ("__debug__" : Str)) = false := by decide) (he : starEach (e :: es) X.env = (false, eval e X.env) :: starEach es X.env := by rfl) (hpl : (backTo pos (starEach es X.env)).any (·.1) = false := by rfl) :
    L2N.PMk X (.Call (.Name x p) (e :: es) [] pos) (tMkO C sp [] ta) := by
  obtain ⟨⟨fd, F, b⟩, kp⟩ := c
  have rm := hr.mono hk
  intro pins s σ H Q I want
  have tc := T.cls
  obtain ⟨_, _, _, _, bm, _, _, _, _, _, _, _, _, _, _, clsAt, bmOk⟩ := tc
  refine wpAny_Call_Name_kw (ld_glob I hg hm ?_ hdb)
  refine PySem.W.callWith_K (h₀ := X.base) I.ok.mod.kin T.kC (thn (ha.run pos pins s σ H _ I want) fun us s1 got => ⟨got.elim fun _ g => g.elim fun _ g => g.1.kIn, ?_⟩) he hpl
  obtain ⟨vs, H1, J1, rel, few, ask⟩ := got
  show wpAny _ _ (call (.ref C) us) _ _ _
  obtain ⟨hp, gn, dr, tk, os⟩ := s1
  have mine : H1 (hp.objs.size + 1) = none := J1.hok.fresh (Nat.le_succ _)
  have ask1 := ask (hp.objs.size + 1) mine
  rw [List.append_nil] at ask1
  have stay : ∀ b o, hp.get? b = some o → ((hp.push (PySem.W.kdv_tup us)).push (PySem.HandSPX.excO C hp.objs.size)).get? b = some o := fun b o q => Heap.get?_push_of_some _ (Heap.get?_push_of_some _ q)
  have there : ((hp.push (PySem.W.kdv_tup us)).push (PySem.HandSPX.excO C hp.objs.size)).get? (hp.objs.size + 1) = some (PySem.HandSPX.excO C hp.objs.size) := by heap_get
  have J2 : Inv X pins σ (upd H1 (hp.objs.size + 1) (exo (hp.objs.size + 1) C none)) ⟨(hp.push (PySem.W.kdv_tup us)).push (PySem.HandSPX.excO C hp.objs.size), gn, dr, tk, os⟩ :=
    J1.laid (t' := tk) (a := hp.objs.size + 1) (h' := (hp.push (PySem.W.kdv_tup us)).push (PySem.HandSPX.excO C hp.objs.size)) stay (Nat.le_succ _) (exo_ok there)
  have rel2 : Vals (V.ref (hp.objs.size + 1) :: vs) (Value.ref (hp.objs.size + 1) :: us) := .cons rfl rel
  have cnt : (Value.ref (hp.objs.size + 1) :: us).length = ps.length := by rw [← rel2.length]; exact F.len _ _ _ _ ask1
  have fit : us.length ≤ sizeLine := by rw [← Paired.length rel, sizeLine_eq]; omega
  have bnd := b _ (Value.ref (hp.objs.size + 1) :: us) J2.kIn (by rw [List.append_nil]; exact cnt)
  rw [List.append_nil] at bnd
  have inside := F.run _ X.stack _ _ ⟨Value.ref (hp.objs.size + 1) :: us, []⟩ _ _ _ (fun _ _ _ => False) (rm.make C us []) (J2.env0.make C us []) bnd rel2 ask1
  refine wpAny_call (PySem.HandSPX.call_own PySem.F.excBase_ValueError (fun Y => PySem.HandSPX.refsVE_contains Y bm bmOk) (J1.kIn _ _ clsAt) (PySem.W.looks_findIn J1.kIn iC) (fun self => PySem.W.bind_fn J1.kIn self tI) fit (codeAny_mono inside fun r s2 out => ?_))
  match r, out with
  | .error u, out => exact hx pins σ _ _ u s2 J2 out
  | .ok (.ret u), ⟨v, H2, o2, bare2, un2, hok2, rv, ⟨ev, d, fs, ea, ed, hd1, q2⟩⟩ =>
    subst ev
    obtain ⟨h2, g2, d2, t2, _⟩ := s2
    obtain ⟨t0, G, JG, kG, noG, obj, free⟩ := mk_end0 (d2 := d2) (t2 := t2) J1 (Nat.le_succ _) stay un2 hok2 o2 bare2 ea ed hd1
    exact ⟨rv, hp.objs.size + 1, _, _, ⟨G, g2, d2, t2, _⟩, _, .ref C, some d, rfl, JG, kG, noG, obj, ⟨rfl, rfl, fun ws e => by cases e; rfl⟩, rfl, rfl, free, rfl, bare2, raises_own T.exC T.tyC, q2⟩
  | .ok .next, out => exact False.elim out
  | .ok .brk, out => exact False.elim out
  | .ok .cont, out => exact False.elim out
/-! ### tuple(list): a new tuple, no dict on it; its index -/
def rTupF (K : PySem.W.Frag) : List V → Hp → VK → Prop := fun xs H Q => ∃ p ys, xs = [.ref p] ∧ SqL K H p ys ∧ ∀ l o, H l = none → o.dict = none → o.cls = .type "tuple" → Q (.ref l) (upd H l (.frz o (.tup ys)))
theorem c_tupF (hK : X.K = K) : CallR X (.type "tuple") (rTupF K) := by
  subst hK
  intro pins s σ H xs us Q I r h
  obtain ⟨p, ys, rfl, hq, q⟩ := h
  obtain ⟨u, rfl, rx⟩ := vals1 r
  cases rx
  obtain ⟨its, r', pl, hz⟩ := I.list hq
  have hlen := r'.length
  refine call_tuple_list pl.isList (fun h' kp => ?_) (by simp only [List.size_toArray] <;> omega)
  have I1 : Inv X pins σ H { s with heap := h' } := I.kept (t' := s.toks) kp
  have hg := Heap.get?_push_size h' (o := { cls := .type "tuple", data := .seq its.toArray }) rfl
  refine ⟨.ref h'.objs.size, upd H h'.objs.size (.frz { cls := .type "tuple", data := .seq its.toArray } (.tup ys)), ?_, rfl, q _ _ (I1.hok.fresh (Nat.le_refl _)) rfl rfl⟩
  refine I1.laid (t' := s.toks) (o := .frz { cls := .type "tuple", data := .seq its.toArray } (.tup ys)) (fun b o e => Heap.get?_push_of_some _ e) (Nat.le_refl _) ?_
  exact ⟨hg, hz, its, r', IsTup.new _ _⟩
/-- t.index(x), t a tuple of texts without a dict -/
def tTix (to te : TE) : TE := fun σ H Q => to σ H fun x H1 => ∃ (p : Addr) (o : Obj) (ys : List Str), x = .ref p ∧ H1 p = some (.frz o (.tup (ys.map V.str))) ∧ o.dict = none ∧ o.cls = .type "tuple" ∧
  te σ H1 fun y H2 => ∃ z, y = .str z ∧ H2 p = some (.frz o (.tup (ys.map V.str))) ∧ z ∈ ys ∧ Q (.int (ys.idxOf z : Nat)) H2
theorem i_tix {to te : TE} {σ : L2.St} {H : Hp} {Q : VK} (h : to σ H fun x H1 => ∃ (p : Addr) (o : Obj) (ys : List Str), x = .ref p ∧ H1 p = some (.frz o (.tup (ys.map V.str))) ∧ o.dict = none ∧ o.cls = .type "tuple" ∧
  te σ H1 fun y H2 => ∃ z, y = .str z ∧ H2 p = some (.frz o (.tup (ys.map V.str))) ∧ z ∈ ys ∧ Q (.int (ys.idxOf z : Nat)) H2) : tTix to te σ H Q := h
theorem s_fld {o value : Expr} {ta tv : TE} {f : Str} {pos pos' : Pos} (hK : X.K = K) (ha : PE X o ta) (hv : PE X value tv) (hs : swapsWith value (some (.Attribute o f pos')) pos.line X.env = pure false := by rfl) : PS X (.Assign [.Attribute o f pos'] value pos) (sFld K ta tv f) := hK ▸ ps_fld ha hv hs
theorem s_ost {o e : Expr} {to te : TE} {f : Str} {pos p' : Pos} (hK : X.K = K) (ho : PE X o to) (he : PE X e te) (hs : swapsWith e (some (.Attribute o f p')) pos.line X.env = pure false := by rfl) : PS X (.Assign [.Attribute o f p'] e pos) (tOst K f to te) := hK ▸ ps_ost ho he hs
theorem i_sFld {ta tv : TE} {f : Str} {D : Ends} {σ : L2.St} {H : Hp} (h : tv σ H fun y H1 => ta σ H1 fun x H2 => ∃ a C dx fs, x = .ref a ∧ H2 a = some (.ins C dx fs) ∧ Cls K C ∧ NoAttr K C f ∧ fs.length < 1000 ∧ D.nx σ (upd H2 a (.ins C dx (putF f y fs)))) : sFld K ta tv f D σ H := h
section
variable {σ : L2.St} {H : Hp} {Q : VK}
theorem i_js0 {acc : Str} {R : Str → Hp → Prop} (h : R acc H) : tJs [] acc σ H R := h
theorem i_js {t : TE} {ts : List TE} {acc : Str} {R : Str → Hp → Prop} (h : t σ H fun x H1 => ∃ y : Str, x = .str y ∧ (acc ++ y).length ≤ sizeLine ∧ tJs ts (acc ++ y) σ H1 R) : tJs (t :: ts) acc σ H R := h
theorem i_fmt {te : TE} (h : te σ H fun x H1 => (∃ y : Str, x = .str y ∧ y.length ≤ sizeLine ∧ Q (.str y) H1) ∨ ∃ i : Int, x = .int i ∧ i.natAbs.log2 < 1920 ∧ Q (.str (toString i)) H1) : tFmt te σ H Q := h
theorem i_fmtS {y : Str} {R : Str → Prop} {S : Int → Prop} (hz : y.length ≤ sizeLine) (h : R y) : (∃ y' : Str, V.str y = .str y' ∧ y'.length ≤ sizeLine ∧ R y') ∨ ∃ i : Int, V.str y = .int i ∧ i.natAbs.log2 < 1920 ∧ S i := .inl ⟨y, rfl, hz, h⟩
theorem i_fmtI {i : Int} {R : Str → Prop} {S : Int → Prop} (hz : i.natAbs.log2 < 1920) (h : S i) : (∃ y' : Str, V.int i = .str y' ∧ y'.length ≤ sizeLine ∧ R y') ∨ ∃ j : Int, V.int i = .int j ∧ j.natAbs.log2 < 1920 ∧ S j := .inr ⟨i, rfl, hz, h⟩
theorem i_par {i j : Nat} {ta : TA} {D : Ends} (h : ta σ H fun vs H1 => ∃ v w, vs = [v, w] ∧ D.nx ((σ.set i (some v)).set j (some w)) H1) : tPar i j ta D σ H := h
theorem i_v2 {v w : V} {R : V → V → Prop} (h : R v w) : ∃ v' w', [v, w] = [v', w'] ∧ R v' w' := ⟨v, w, rfl, h⟩
theorem i_par3 {i j l : Nat} {ta : TA} {D : Ends} (h : ta σ H fun vs H1 => ∃ u v w, vs = [u, v, w] ∧ D.nx (((σ.set i (some u)).set j (some v)).set l (some w)) H1) : tPar3 i j l ta D σ H := h
theorem i_v3 {u v w : V} {R : V → V → V → Prop} (h : R u v w) : ∃ u' v' w', [u, v, w] = [u', v', w'] ∧ R u' v' w' := ⟨u, v, w, rfl, h⟩
theorem i_mS {z : Str} {P : Prop} (h : P) : (∃ a, V.str z = .str a) ∧ P := ⟨⟨z, rfl⟩, h⟩
theorem i_mkO {C : Addr} {sp : Sp} {ta : TA} {R : XK} (h : ta σ H fun vs H1 => vs.length ≤ 1000 ∧ ∀ a, H1 a = none → sp (.ref a :: (vs ++ [])) (upd H1 a (exo a C none))
  (fun v H2 => v = .non ∧ ∃ (d : Addr) (fs : List (Str × V)), H2 a = some (exo a C (some d)) ∧ H2 d = some (exd d fs) ∧ H1 d = none ∧ R (.ref C) (some d) (upd (del H2 a) d (.xd fs))) (fun _ _ _ => False)) : tMkO C sp [] ta σ H R := h
theorem i_ost {f : Str} {to te : TE} {D : Ends} (h : te σ H fun y H1 => to σ H1 fun x H2 => ∃ a C : Addr, x = .ref a ∧ OexC K C ∧ PySem.W.findIn K (.ref C) f = some none ∧
  ((H2 a = some (exo a C none) ∧ ∀ dx, H2 dx = none → dx ≠ a → D.nx σ (upd (upd H2 dx (exd dx [(f, y)])) a (exo a C (some dx)))) ∨
    ∃ (dx : Addr) (fs : List (Str × V)), H2 a = some (exo a C (some dx)) ∧ H2 dx = some (exd dx fs) ∧ fs.length ≤ 900 ∧ D.nx σ (upd H2 dx (exd dx ((f, y) :: fs))))) : tOst K f to te D σ H := h
end
theorem idxOf_first {α : Type} [BEq α] [LawfulBEq α] {z : α} : ∀ {ys : List α}, z ∈ ys → ys[ys.idxOf z]? = some z ∧ ∀ m, m < ys.idxOf z → ys[m]? ≠ some z
  | y :: ys, h => by
    by_cases e : y = z
    · subst e
      rw [List.idxOf_cons_self]
      exact ⟨rfl, fun m hm => by omega⟩
    · have h' : z ∈ ys := by
        rcases List.mem_cons.mp h with h | h
        · exact absurd h.symm e
        · exact h
      obtain ⟨h1, h2⟩ := idxOf_first h'
      have ei : (y :: ys).idxOf z = ys.idxOf z + 1 := by rw [List.idxOf_cons, beq_false_of_ne e]; rfl
      rw [ei]
      refine ⟨by simpa using h1, fun m hm => ?_⟩
      cases m with
      | zero => simpa using e
      | succ m => simpa using h2 m (by omega)
theorem e_tindex {o e : Expr} {to te : TE} {apos cpos : Pos} (ho : PE X o to) (he : PE X e te) (hb : attributeBase o "index" X.env (eval o X.env) = eval o X.env := by rfl) (hl : (apos.endLine == cpos.line) = true := by rfl)
    (hs : starEach [e] X.env = (false, eval e X.env) :: starEach [] X.env := by rfl) : PE X (.Call (.Attribute o "index" apos) [e] [] cpos) (tTix to te) := by
  constructor
  intro pins s σ H Q I h
  unfold tTix at h
  refine wpAny_Call_method_late hb (by rw [hs]; rfl) hl rfl (thn (ho.run pins s σ H _ I h) ?_)
  rintro v s1 ⟨x, H1, I1, r1, p, ob, ys, rfl, hp, hd, hc, q1⟩
  cases r1
  have hg := (I1.hok p _ hp).1
  refine ⟨"tuple", _, PySem.F.plainAttrs_tuple, PySem.F.slot_tuple_index, PySem.F.type_tuple_index, ⟨ob, hg, hc⟩, fun a e => ?_, ?_⟩
  · cases e
    exact ⟨ob, hg, hd⟩
  · have hA := (pa_cons he pa_nil hs).run cpos pins s1 σ H1 (fun xs H2 => match xs with | [y] => ∃ z, y = .str z ∧ H2 p = some (.frz ob (.tup (ys.map V.str))) ∧ z ∈ ys ∧ Q (.int (ys.idxOf z : Nat)) H2 | _ => False) I1 q1
    rw [hs] at hA ⊢
    refine Calls.callWith_builtin rfl (Calls.evalArgs_plain (thn hA ?_))
    rintro us s2 ⟨vs, H2, I2, r2, q2⟩
    match vs, r2, q2 with
    | [y], r2, ⟨z, ey, hp2, hz, q2⟩ =>
      subst ey
      obtain ⟨f1, f2⟩ := idxOf_first hz
      exact mt_tup_index pins s2 σ H2 (.ref p) [.str z] (.ref p) us Q I2 rfl r2 ⟨p, ys, z, ys.idxOf z, rfl, rfl, .inl (.inr ⟨ob, hp2⟩), f1, f2, q2⟩
/-! ### a call within a try: what it lets out is told by the slots -/
def tCalS (sp : Sp) (E : L2.St → XK) (t : TA) : TE := fun σ H Q => t σ H fun vs H1 => sp vs H1 Q (E σ)
theorem pe_cnS {j k : Nat} {f : Addr} {ps : List Str} {sp : Sp} {E : L2.St → XK} {x : Str} {p pos : Pos} {e : Expr} {es : List Expr} {t : TA} (c : Cn X.prog X.w X.K X.mg X.base k f ps sp) (hr : Room j X.A) (hk : k ≤ j) (hg : Gl X x) (hm : X.mg x = some (.ref f))
    (hx : ∀ σ, PassesAt (L2N.CX X.prog X.w) X σ (E σ)) (ha : PA X (e :: es) t) (hdb : (x == ("__debug__" : Str)) = false := by decide) (he : starEach (e :: es) X.env = (false, eval e X.env) :: starEach es X.env := by rfl)
    (hpl : (backTo pos (starEach es X.env)).any (·.1) = false := by rfl) : PE X (.Call (.Name x p) (e :: es) [] pos) (tCalS sp E t) := by
  obtain ⟨⟨fd, F, b⟩, kp⟩ := c
  exact pe_callS F (hr.mono hk) hg hm kp b hx ha hdb he hpl
end
end KB

set_option maxHeartbeats 4000000
/-! KS: len(set(l)), l a list of distinct texts. -/
namespace KB
open PySem PySem.Spec PyProof.Rows L2
theorem take_mem_succ {ks : List Str} {i : Nat} (hi : i < ks.length) (k : Str) : (decide (k ∈ ks.take i) || decide (k = ks.getD i Str.empty)) = decide (k ∈ ks.take (i + 1)) := by
  have e : ks[i]? = some (ks.getD i Str.empty) := by simp [List.getElem?_eq_getElem hi]
  rw [take_succ_get e, Bool.eq_iff_iff]
  simp
theorem take_not {ks : List Str} (hd : ks.Nodup) {i : Nat} (hi : i < ks.length) : ¬ ks.getD i Str.empty ∈ ks.take i := by
  intro h
  have e : ks.getD i Str.empty = ks[i] := by simp [hi]
  rw [e] at h
  obtain ⟨j, hj, ej⟩ := List.mem_take_iff_getElem.mp h
  have := (List.getElem_inj hd (h₀ := by omega) (h₁ := hi)).mp ej
  omega
section
variable {P : Program} {w : World} {A : Around} {R : Result → Shared → Prop} {J D : Addr} {fp wr : List Addr} {G : Array GenState → Array GenState → Prop} {n : Nat} {Pr : Nat → Value → Prop} {St : Nat → Shared → Prop}
theorem addLoop (W : WalksS P w A.in1 J fp wr G n Pr St) (nD : D ∉ fp) {ks : List Str} (hk : ks.length = n) (hd : ks.Nodup) (room : n + 1 < scanBound) (hv : ∀ i v, Pr i v → ∃ t, v = .str (ks.getD i Str.empty) t) :
    ∀ (left i : Nat) (s : Shared), i + left = n → St i s → s.heap.SetOf (strKind P w) D (fun k => decide (k ∈ ks.take i)) i →
      (∀ z, Moved (D :: wr) G s z → z.heap.SetOf (strKind P w) D (fun k => decide (k ∈ ks.take n)) n → R (.ok (.ret .none)) z) → codeAny (model P w) A (.builtin "set.update.loop" ⟨[.ref D, .ref J], []⟩) R s := by
  have nw : D ∉ wr := fun m => nD (W.sub _ m)
  have wide : ∀ b ∈ wr, b ∈ D :: wr := fun b m => List.mem_cons_of_mem _ m
  have on : ∀ {z z' : Shared} {S : Str → Bool} {m : Nat}, Moved wr G z z' → z.heap.SetOf (strKind P w) D S m → z'.heap.SetOf (strKind P w) D S m := fun mv st => by
    obtain ⟨o, es, ep, tb, ho, more⟩ := st
    exact ⟨o, es, ep, tb, mv.heap D _ nw ho, more⟩
  intro left
  induction left with
  | zero =>
    intro i s hi st hS fin
    cases (show i = n by omega)
    refine codeAny_builtin (PyProof.Rows.F.entry_set_update_loop) ?_
    rw [Around.under_plainId (PyProof.Rows.F.plain_set_update_loop) _]
    show wpAny _ (A.in1) (pyNext (.ref J) >>= _) _ _ s
    exact wpAny_bind (W.done s _ _ st fun z mv => show wpAny _ _ (ret Value.none) _ _ z from wpAny_pure (fin z (mv.mono wide) (on mv hS)))
  | succ left ih =>
    intro i s hi st hS fin
    have lt : i < n := by omega
    refine codeAny_builtin (PyProof.Rows.F.entry_set_update_loop) ?_
    rw [Around.under_plainId (PyProof.Rows.F.plain_set_update_loop) _]
    show wpAny _ (A.in1) (pyNext (.ref J) >>= _) _ _ s
    refine wpAny_bind (W.item i s _ _ lt st fun v z pv stz mv => ?_)
    obtain ⟨t, rfl⟩ := hv i v pv
    have hSz := on mv hS
    show wpAny _ (A.in1) (holding [Value.str (ks.getD i Str.empty) t] (setAdd D (.str (ks.getD i Str.empty) t)) >>= _) _ _ z
    refine wpAny_bind (wpAny_holding ?_)
    unfold setAdd
    refine wpAny_holding (wpAny_bind ((strKind P w).pyHash (k := ks.getD i Str.empty) (strKind_is _ _ _ _) ?_))
    refine wpAny_setAddHashed_of (knd := strKind P w) (s := { z with toks := z.toks + 1 }) (strKind_is _ _ _ _) rfl hSz (by omega) fun h2 sb hS2 => ?_
    have hS3 : h2.SetOf (strKind P w) D (fun k => decide (k ∈ ks.take (i + 1))) (i + 1) := by
      refine SetOf_congr hS2 (fun k => take_mem_succ (by omega) k) ?_
      exact if_neg (by rw [decide_eq_true_iff]; exact take_not hd (by omega))
    have keep : ∀ b, b ≠ D → ∀ o, z.heap.get? b = some o → h2.get? b = some o := fun b nb o e => by rw [sb.2 b nb]; exact e
    refine wpAny_pure ⟨plainId_quiet (PyProof.Rows.F.plain_set_update_loop) _, ih (i + 1) _ (by omega) (W.frame _ z _ _ stz (Nat.le_succ _) fun b m o e => keep b (fun q => nD (q ▸ m)) o e) hS3 fun y mv2 hS4 => ?_⟩
    exact fin y (Moved.trans W.gtrans ((mv.mono wide).then_heap (Nat.le_succ _) fun b o nb e => keep b (fun q => nb (q ▸ List.mem_cons_self)) o e) mv2) hS4
end
section
variable {P : Program} {w : World} {A : Around} {E : Value → Shared → Prop} {s : Shared}
theorem strs_getD : ∀ {us : List Value} {ks : List Str}, StrsAre us ks → ∀ (i : Nat) (v : Value), us[i]? = some v → ∃ t, v = .str (ks.getD i Str.empty) t
  | _, _, .nil, i, v, h => by simp at h
  | _, _, .cons _ t _, 0, v, h => ⟨t, by simp at h; exact h.symm⟩
  | _, _, .cons _ _ r, i + 1, v, h => by
    obtain ⟨t, e⟩ := strs_getD r i v (by simpa using h)
    exact ⟨t, by simpa using e⟩
abbrev setO (led : Bool) : Obj := { cls := .type "set", dict := none, data := .set #[] 0 (.fresh 0 0 led) }
theorem call_set_strs {l : Addr} {items : Array Value} {ks : List Str} {Q : Value → Shared → Prop} (hh : A.handled = none) (hl : s.heap.IsList l items) (hi : StrsAre items.toList ks) (hd : ks.Nodup) (room : ks.length + 1 < scanBound)
    (h : ∀ (h' : Heap) (tk : Nat), h'.SetOf (strKind P w) s.heap.objs.size (fun k => decide (k ∈ ks.take ks.length)) ks.length → (∀ b o, s.heap.get? b = some o → h'.get? b = some o) → Q (.ref s.heap.objs.size) { s with heap := h', toks := tk }) :
    wpAny (model P w) A (call (.type "set") [.ref l]) Q E s := by
  have hsz : ks.length = items.size := by rw [← StrsAre.len_eq hi, Array.length_toList]
  obtain ⟨c, tl, hmro⟩ := PySem.F.called_set.mro
  have a1 := PySem.F.called_set.made
  have a2 := PySem.F.called_set.sub
  refine wpAny_call (codeAny_of_tree (show wpAny _ _ (callAny (.type "set") _) _ _ _ from wpAny_pure ⟨Code.quiet_builtin _ (by decide +kernel), codeAny_builtin PySem.F.entry_type_call ?_⟩))
  rw [Around.under_plain (weight_type_call_type "set" [.ref l] []) rfl]
  have a3 := PySem.F.called_set.notType
  have a4 := PySem.F.called_set.canCreate
  have a5 := PySem.F.typeCall_set_1 (.ref l)
  repeat (any_goals (first | assumption | wp_step))
  refine codeAny_mono (code_set_new_1 (.ref l) (E := E) (Q₁ := fun ob z => ∃ led : Bool, ob = .ref s.heap.objs.size ∧ z = { s with heap := s.heap.push (setO led) }) fun led => ⟨led, rfl, rfl⟩) fun r z hz => ?_
  match r, hz with
  | .error _, hz => exact hz
  | .ok .next, hz => exact hz.elim
  | .ok .brk, hz => exact hz.elim
  | .ok .cont, hz => exact hz.elim
  | .ok (.ret ob), hz =>
    obtain ⟨led, rfl, rfl⟩ := hz
    have gS : (s.heap.push (setO led)).get? s.heap.objs.size = some (setO led) := Heap.get?_push_size _ rfl
    have tS : Shared.TypeIs { s with heap := s.heap.push (setO led) } (.ref s.heap.objs.size) "set" := ⟨_, gS, rfl⟩
    have b1 := PySem.F.called_set.init.lookup
    have b2 := PySem.F.called_set.init.bind (.ref s.heap.objs.size)
    repeat (any_goals (first | assumption | wp_step))
    refine codeAny_mono (codeAny_call_builtin (R := wants (fun r y => r = .none ∧ ∃ h' tk, y = { s with heap := h', toks := tk } ∧ h'.SetOf (strKind P w) s.heap.objs.size (fun k => decide (k ∈ ks.take ks.length)) ks.length ∧
        (∀ b o, s.heap.get? b = some o → h'.get? b = some o)) E) PySem.F.called_set.init.plain PySem.F.entry_set_init (check_set_init_1 tS ?_)) fun r y hy => ?_
    · obtain ⟨⟨oc, od, dt, sl⟩, hol, hcl, nl, hdl⟩ := hl
      cases hcl
      cases hdl
      have gl : (s.heap.push (setO led)).get? l = some { cls := .type "list", dict := od, data := .seq items nl, slots := sl } := Heap.get?_push_of_some _ hol
      have c1 := PySem.F.sub_list_set
      have c2 := PySem.F.sub_list_frozenset
      have c3 : (Value.type "list" == Value.type "dict") = false := by decide
      have il : (s.heap.push (setO led)).IsList l items := ⟨_, gl, rfl, nl, rfl⟩
      unfold Builtin.«set.__init__» noKeywords Builtin.Frozenset.updateFrom
      generalize hg : pyIter = PI
      wp_walk
      subst hg
      refine wpAny_pyIter_list il (wpAny_bind (wpAny_runValue ?_))
      have ll : l < s.heap.objs.size := Heap.lt_size hol
      have h3 : A.in1.in1.in1.handled = none := by simp [hh]
      have sp : (s.heap.push (setO led)).objs.size = s.heap.objs.size + 1 := Heap.size_push ..
      have nI : l ≠ (s.heap.push (setO led)).objs.size := fun e => Nat.ne_of_lt (Nat.lt_succ_of_lt ll) (e.trans sp)
      have nS : s.heap.objs.size ∉ [(s.heap.push (setO led)).objs.size, l] := by
        intro m
        rcases List.mem_cons.mp m with e | m
        · exact Nat.ne_of_lt (Nat.lt_succ_self _) (e.trans sp)
        · exact Nat.ne_of_gt ll (List.mem_singleton.mp m)
      refine addLoop ((Walks.list h3 _ l nI items).toS) nS hsz hd (by omega) (fun i v pv => strs_getD hi i v (by rw [Array.getElem?_toList]; exact pv)) items.size 0 _ (by omega) ⟨⟨_, Heap.get?_push_size _ rfl, rfl, rfl⟩, (il.push _)⟩ ?_ ?_
      · exact SetOf_congr ((setObjOf_fresh (knd := strKind P w) led).setOf (Heap.get?_push_of_some _ gS) (by unfold scanBound; omega)) (fun k => by simp) rfl
      · rintro ⟨h', g', d', tk', os'⟩ mv hS'
        cases (mv.gens : g' = s.gens)
        cases (mv.drawn : d' = s.drawn)
        cases (mv.os : os' = s.os)
        refine wpAny_pure (show wpAny _ _ (ret Value.none) _ _ _ from wpAny_pure ⟨rfl, h', tk', rfl, by rw [hsz]; exact hS', fun b o e => ?_⟩)
        have lb := Heap.lt_size e
        refine mv.heap b o ?_ (Heap.get?_push_of_some _ (Heap.get?_push_of_some _ e))
        intro m
        rcases List.mem_cons.mp m with e2 | m
        · exact Nat.ne_of_lt lb e2
        · exact Nat.ne_of_lt (Nat.lt_succ_of_lt lb) ((List.mem_singleton.mp m).trans sp)
    · match r, hy with
      | .error _, hy => exact hy
      | .ok .next, hy => exact hy.elim
      | .ok .brk, hy => exact hy.elim
      | .ok .cont, hy => exact hy.elim
      | .ok (.ret r), hy =>
        obtain ⟨rfl, h', tk, rfl, hS', keep⟩ := hy
        repeat (any_goals (first | assumption | wp_step))
        exact h _ _ hS' keep
end
/-- len(set(l)) -/
def tLenSetD (K : PySem.W.Frag) (te : TE) : TE := fun σ H Q => te σ H fun v H1 => ∃ (a : Addr) (ks : List Str), v = .ref a ∧ SqL K H1 a (ks.map V.str) ∧ ks.Nodup ∧ ks.length ≤ 1000 ∧ Q (.int ks.length) H1
theorem e_lenset {X : Cx} {K : PySem.W.Frag} {a : Expr} {ta : TE} {p p2 q pos : Pos} (hK : X.K = K) (hc : X.calm = true) (hg : Gl X "len") (hm : X.mg "len" = none) (hg2 : Gl X "set") (hm2 : X.mg "set" = none) (ha : PE X a ta)
    (na : starEach [a] X.env = (false, eval a X.env) :: starEach [] X.env := by rfl) : PE X (.Call (.Name "len" p) [.Call (.Name "set" p2) [a] [] q] [] pos) (tLenSetD K ta) := by
  subst hK
  constructor
  intro pins s σ H Q I h
  refine Call_ (ld_blt I hg hm boot_len (PyProof.Rows.callWith_builtin1 (PyProof.Rows.args_cons ?_ rfl) rfl rfl))
  refine Call_ (ld_blt I hg2 hm2 boot_set (PyProof.Rows.callWith_type1 (PyProof.Rows.args_cons (thn (ha.run pins s σ H _ I h) ?_) na) na rfl))
  rintro v s1 ⟨x, H1, I1, r1, l, ks, rfl, hq, hd, hz, q1⟩
  cases r1
  refine PyProof.Rows.args_nil ?_
  obtain ⟨its, r, pl, _⟩ := I1.list hq
  refine call_set_strs (I1.ok.hd hc) pl.isList (by simpa using strsAre_of r) hd (by unfold scanBound; omega) fun h' tk hS keep => ?_
  refine PyProof.Rows.args_nil ?_
  obtain ⟨o, es, ep, t, ho, hex, hdt, _, _, _, hf, hn⟩ := hS
  have I2 : Inv X pins σ H1 { s1 with heap := h', toks := tk } := I1.kept keep
  exact call_len_set ho hex hdt hf (by rw [hn]; omega) ⟨.int ks.length, H1, I2.tok _, ⟨_, by rw [hn]⟩, q1⟩
theorem i_lenset {K : PySem.W.Frag} {te : TE} {σ : L2.St} {H : Hp} {Q : VK} (h : te σ H fun v H1 => ∃ (a : Addr) (ks : List Str), v = .ref a ∧ SqL K H1 a (ks.map V.str) ∧ ks.Nodup ∧ ks.length ≤ 1000 ∧ Q (.int ks.length) H1) : tLenSetD K te σ H Q := h
end KB

set_option maxHeartbeats 4000000
/-! KT: steps and rules for the law's own defs. -/
namespace KB
open PySem PySem.Spec PyProof.Rows L2
section
variable {K : PySem.W.Frag} {σ : L2.St} {H : Hp} {Q : VK} {D : Ends} {td ty tv te ta : TE} {g : TG} {tt : TT} {vs : List Nat}
theorem i_mak {C : Addr} {sp : Sp} {E : XK} {tas : TA} (h : tas σ H fun vs H1 => ∀ x dx, H1 x = none → H1 dx = none → dx ≠ x → sp (.ref x :: vs) (upd (upd H1 dx (.own x)) x (.ins C dx [])) (fun v H2 => v = .non ∧ Q (.ref x) H2) E) : tMak C sp E tas σ H Q := h
theorem i_mod {i j : Int} {g : Int → Int → V} (hc : 0 < j) (h : Q (g i j) H) : rI (fun _ j => 0 < j) g (.int i) (.int j) H Q := i_rI hc h
theorem i_mulL {i j : Int} {g : Int → Int → V} (hc : -(2 ^ 64) < i ∧ i < 2 ^ 64) (h : Q (g i j) H) : rI CMul g (.int i) (.int j) H Q := i_rI (.inl hc) h
theorem i_mulR {i j : Int} {g : Int → Int → V} (hc : -(2 ^ 64) < j ∧ j < 2 ^ 64) (h : Q (g i j) H) : rI CMul g (.int i) (.int j) H Q := i_rI (.inr hc) h
theorem i_dget (h : td σ H fun x H1 => ty σ H1 fun y H2 => ∃ a v, x = .ref a ∧ DGet H2 a y (some v) ∧ Q v H2) : tDGet td ty σ H Q := h
theorem i_din (h : ty σ H fun y H1 => td σ H1 fun x H2 => ∃ a o, x = .ref a ∧ DGet H2 a y o ∧ Q (.bl o.isSome) H2) : tDIn ty td σ H Q := h
theorem i_dnotin (h : ty σ H fun y H1 => td σ H1 fun x H2 => ∃ a o, x = .ref a ∧ DGet H2 a y o ∧ Q (.bl (!o.isSome)) H2) : tDNotIn ty td σ H Q := h
theorem i_dput (h : tv σ H fun v H1 => td σ H1 fun x H2 => ty σ H2 fun y H3 => ∃ a H4, x = .ref a ∧ DPut H3 a y v H4 ∧ D.nx σ H4) : sDPut td ty tv D σ H := h
theorem i_dnewT (h : ∀ p, H p = none → Q (.ref p) (upd H p (.dT []))) : tDNewT σ H Q := h
theorem i_sub {to ti : TE} {t : TSet} {v : V} {R : L2.St → Hp → Prop} (h : to σ H fun o H1 => ti σ H1 fun i H2 => t o i v H2 fun H3 => R σ H3) : gSub to ti t v σ H R := h
theorem i_setL {p : Addr} {xs : List V} {k : Int} {j : Nat} {v : V} {R : Hp → Prop} (hp : H p = some (.lst xs)) (hj : ixN xs.length k = some j) (h : R (upd H p (.lst (xs.set j v)))) : rSetL (.ref p) (.int k) v H R := ⟨p, xs, k, j, rfl, rfl, hp, hj, h⟩
theorem i_rng1 {ta : TA} (h : ta σ H fun ws H1 => ∃ j : Int, ws = [.int j] ∧ -(2 ^ 62) ≤ j ∧ j < 2 ^ 62 ∧ LcGo (Itr 0 j.toNat) g tt te vs σ H1 Q) : tLc (iRng1 ta) g tt te vs σ H Q := h
theorem i_rng2 {ta : TA} (h : ta σ H fun ws H1 => ∃ i j : Int, ws = [.int i, .int j] ∧ (-(2 ^ 62) ≤ i ∧ i < 2 ^ 62 ∧ -(2 ^ 62) ≤ j ∧ j < 2 ^ 62) ∧ LcGo (Itr i (j - i).toNat) g tt te vs σ H1 Q) : tLc (iRng2 ta) g tt te vs σ H Q := h
theorem i_lcR {j : Int} (p : PyData → Bool) (f : PyData → PyData) (h0 : 0 ≤ j) (hz : j ≤ 2000000)
    (hs : ∀ D, H D = none → LcStep g tt te vs σ H D (rngD 0 j.toNat) p f) (hd : ∀ D H' ys, H D = none → Same H H' → H' D = some (.lst ys) → ImAll H' ys (((rngD 0 j.toNat).filter p).map f) → Q (.ref D) H') :
    ∃ k : Int, [V.int j] = [.int k] ∧ -(2 ^ 62) ≤ k ∧ k < 2 ^ 62 ∧ LcGo (Itr 0 k.toNat) g tt te vs σ H Q := ⟨j, rfl, by omega, by omega, lc_rngD p f (by rw [sizeLine_eq]; omega) hs hd⟩
theorem i_lcR2 {i j : Int} (p : PyData → Bool) (f : PyData → PyData) (hb : 0 ≤ i ∧ i ≤ 2000000 ∧ 0 ≤ j ∧ j ≤ 2000000)
    (hs : ∀ D, H D = none → LcStep g tt te vs σ H D (rngD i (j - i).toNat) p f) (hd : ∀ D H' ys, H D = none → Same H H' → H' D = some (.lst ys) → ImAll H' ys (((rngD i (j - i).toNat).filter p).map f) → Q (.ref D) H') :
    ∃ k l : Int, [V.int i, V.int j] = [.int k, .int l] ∧ (-(2 ^ 62) ≤ k ∧ k < 2 ^ 62 ∧ -(2 ^ 62) ≤ l ∧ l < 2 ^ 62) ∧ LcGo (Itr k (l - k).toNat) g tt te vs σ H Q := ⟨i, j, rfl, by omega, lc_rngD p f (by rw [sizeLine_eq]; omega) hs hd⟩
theorem rngD_get {lo : Int} {n i : Nat} {d : PyData} (h : (rngD lo n)[i]? = some d) : i < n ∧ d = .int (lo + (i : Nat)) := by
  unfold rngD at h
  rw [List.getElem?_map] at h
  obtain ⟨x, hx, rfl⟩ := Option.map_eq_some_iff.mp h
  obtain ⟨h1, h2⟩ := List.getElem?_eq_some_iff.mp hx
  rw [List.getElem_range] at h2
  subst h2
  exact ⟨by simpa using h1, rfl⟩
theorem i_popAt {l : Addr} {xs : List V} {i : Nat} {y : V} (hl : H l = some (.lst xs)) (hy : xs[i]? = some y) (hz : xs.length ≤ 100000) (h : Q y (upd H l (.lst (xs.eraseIdx i)))) : rPopAt (.ref l) [.int (i : Nat)] H Q := by
  have hi : i < xs.length := (List.getElem?_eq_some_iff.mp hy).1
  have e : ixN xs.length (i : Int) = some i := by
    unfold ixN
    rw [if_pos (by omega), if_pos (by omega)]
    rfl
  exact ⟨l, xs, i, i, y, rfl, rfl, hl, by omega, by omega, (ixN_seq e).1, hy, h⟩
theorem i_for0R3 {tb : TS} {ta : TA} (h : ta σ H fun ws H1 => ∃ (i j c : Int) (n : Nat), ws = [.int i, .int j, .int c] ∧ RgC i j c n ∧ ForGo (Itc i c n) g tb D σ H1) : tFor (iRng3 ta) g tb D σ H := h
theorem i_forDown {tb : TS} {i j : Int} (Pv : Nat → L2.St → Hp → Prop) (hb : -100000 ≤ i ∧ i ≤ 100000 ∧ -100000 ≤ j ∧ j ≤ 100000) (h0 : Pv 0 σ H)
    (hs : ∀ m σ H, m < (i - j).toNat → Pv m σ H → g (.int (i + (m : Nat) * (-1))) σ H fun σ2 H2 => tb { D with nx := Pv (m + 1), ct := Pv (m + 1), bk := D.nx } σ2 H2) (hd : ∀ σ H, Pv (i - j).toNat σ H → D.nx σ H) :
    ∃ (i' j' c : Int) (n : Nat), [V.int i, V.int j, V.int (-1)] = [.int i', .int j', .int c] ∧ RgC i' j' c n ∧ ForGo (Itc i' c n) g tb D σ H := ⟨i, j, -1, _, rfl, RgC.neg (by omega) (by omega) (by omega) (by omega), for_rangeC Pv h0 hs hd⟩
theorem i_rev {te : TE} (h : te σ H fun x H1 => ∃ a xs, x = .ref a ∧ SqL K H1 a xs ∧ ∀ p, H1 p = none → Q (.ref p) (upd H1 p (.lst xs.reverse))) : tRevL K te σ H Q := h
end
/-! ### tuples of ints, one after the other -/
def geI (ns ms : List Int) : Bool := Ob.lexAt (fun j => decide (ns.getD j 0 = ms.getD j 0)) (fun j => decide (ms.getD j 0 ≤ ns.getD j 0)) (decide (ns.length ≥ ms.length)) 0 (min ns.length ms.length)
def rGeT (K : PySem.W.Frag) : R2 := fun x y H Q => ∃ (a b : Addr) (ns ms : List Int), x = .ref a ∧ y = .ref b ∧ SqT K H a (ns.map V.int) ∧ SqT K H b (ms.map V.int) ∧ Q (.bl (geI ns ms)) H
theorem o_geT {X : Cx} {K : PySem.W.Frag} (hK : X.K = K) (hu : X.A.units < cLine) : OpR X (compareOp .GtE) (rGeT K) := by
  subst hK
  intro pins s σ H x y v u Q I rx ry h
  obtain ⟨a, b, ns, ms, rfl, rfl, ha, hb, q⟩ := h
  cases rx
  cases ry
  obtain ⟨us, r1, p1, _⟩ := I.tuple ha
  obtain ⟨ws, r2, p2, _⟩ := I.tuple hb
  have k1 := Vals.ints r1
  have k2 := Vals.ints r2
  have get : ∀ {zs : List Value} {l : List Int}, IntsAre zs l → ∀ j (h : j < zs.toArray.size), ∃ t, zs.toArray[j] = .int (l.getD j 0) t := fun k j h => PyProof.Rows.IntsAre.int_at k j _ (by simp at h; simp [h])
  have R := Ob.RcOp.tuples_ge (A := X.A) (s := s) (e := fun j => decide (ns.getD j 0 = ms.getD j 0)) (r := fun j => decide (ms.getD j 0 ≤ ns.getD j 0)) p1 p2 hu
    (fun j h1 h2 => by
      obtain ⟨t, et⟩ := get k1 j h1
      obtain ⟨t', et'⟩ := get k2 j h2
      rw [et, et', show decide (ns.getD j 0 = ms.getD j 0) = (ns.getD j 0 == ms.getD j 0) from by rw [Bool.eq_iff_iff, decide_eq_true_iff, beq_iff_eq]]
      exact SeqAt.EqAt.int_int _ _ _ _)
    (fun j h1 h2 _ => by
      obtain ⟨t, et⟩ := get k1 j h1
      obtain ⟨t', et'⟩ := get k2 j h2
      rw [et, et']
      exact Ob.RcOp.ge_int _ _ _ _)
  rw [List.size_toArray, List.size_toArray, k1.length, k2.length] at R
  exact R X.prog X.w X.xe (EP X pins σ Q) ⟨.bl _, H, I, rfl, q⟩
theorem leLt (a x : Int) : decide (x ≤ a) = !decide (a < x) := by
  rw [Bool.eq_iff_iff]; simp
theorem ge3 (a b c x y z : Int) : geI [a, b, c] [x, y, z] = !HT.lexLt [a, b, c] [x, y, z] := by
  show (if decide (a = x) = true then (if decide (b = y) = true then (if decide (c = z) = true then true else decide (z ≤ c)) else decide (y ≤ b)) else decide (x ≤ a)) = !(if a = x then (if b = y then (if c = z then false else decide (c < z)) else decide (b < y)) else decide (a < x))
  by_cases h1 : a = x
  · by_cases h2 : b = y
    · by_cases h3 : c = z
      · simp [h1, h2, h3]
      · simp only [h1, h2, h3, decide_true, decide_false, if_true, if_false, Bool.false_eq_true]; exact leLt _ _
    · simp only [h1, h2, decide_true, decide_false, if_true, if_false, Bool.false_eq_true]; exact leLt _ _
  · simp only [h1, decide_false, if_false, Bool.false_eq_true]; exact leLt _ _
/-! ### a list beside an empty one -/
def rNeN (K : PySem.W.Frag) : R2 := fun x y H Q => ∃ a b xs, x = .ref a ∧ y = .ref b ∧ SqL K H a xs ∧ SqL K H b [] ∧ Q (.bl (!xs.isEmpty)) H
def rEqN (K : PySem.W.Frag) : R2 := fun x y H Q => ∃ a b xs, x = .ref a ∧ y = .ref b ∧ SqL K H a xs ∧ SqL K H b [] ∧ Q (.bl xs.isEmpty) H
theorem nil_items {us : List Value} (h : Vals [] us) : us = [] := by cases h; rfl
theorem o_neN {X : Cx} {K : PySem.W.Frag} (hK : X.K = K) (hu : X.A.units < cLine) : OpR X (compareOp .NotEq) (rNeN K) := by
  subst hK
  intro pins s σ H x y v u Q I rx ry h
  obtain ⟨a, b, xs, rfl, rfl, ha, hb, q⟩ := h
  cases rx
  cases ry
  obtain ⟨us, r1, p1, _⟩ := I.list ha
  obtain ⟨ws, r2, p2, _⟩ := I.list hb
  cases nil_items r2
  cases r1 with
  | nil => exact SeqAt.RcNeAt.lists (e := fun _ => true) p1.isList p2.isList rfl hu (fun j h1 _ => absurd h1 (Nat.not_lt_zero j)) _ _ _ _ ⟨.bl false, H, I, rfl, q⟩
  | cons _ _ => exact SeqAt.RcNeAt.lists_lengths p1.isList p2.isList (by simp) hu _ _ _ _ ⟨.bl true, H, I, rfl, q⟩
theorem o_eqN {X : Cx} {K : PySem.W.Frag} (hK : X.K = K) (hu : X.A.units < cLine) : OpR X (compareOp .Eq) (rEqN K) := by
  subst hK
  intro pins s σ H x y v u Q I rx ry h
  obtain ⟨a, b, xs, rfl, rfl, ha, hb, q⟩ := h
  cases rx
  cases ry
  obtain ⟨us, r1, p1, _⟩ := I.list ha
  obtain ⟨ws, r2, p2, _⟩ := I.list hb
  cases nil_items r2
  cases r1 with
  | nil => exact SeqAt.RcAt.lists (e := fun _ => true) p1.isList p2.isList rfl hu (fun j h1 _ => absurd h1 (Nat.not_lt_zero j)) _ _ _ _ ⟨.bl true, H, I, rfl, q⟩
  | cons _ _ => exact SeqAt.RcAt.lists_lengths p1.isList p2.isList (by simp) hu _ _ _ _ ⟨.bl false, H, I, rfl, q⟩
theorem str_pos {z : Str} (h : ¬ z = "") : 1 ≤ z.length := by
  cases z with
  | mk c =>
    rcases Nat.eq_zero_or_pos c.size with e | e
    · exact absurd (by rw [Array.eq_empty_of_size_eq_zero e]; rfl) h
    · exact e
theorem at_nat {α : Type} {xs : List α} {n : Nat} {v : α} (h : xs[n]? = some v) : atI xs (n : Nat) = some v := by
  have hn : n < xs.length := (List.getElem?_eq_some_iff.mp h).1
  unfold atI ixN
  rw [if_pos (by omega), if_pos (by omega)]
  exact h
theorem at_0 {α : Type} {a : α} {r : List α} : atI (a :: r) 0 = some a := at_nat (n := 0) rfl
theorem at_1 {α : Type} {a b : α} {r : List α} : atI (a :: b :: r) 1 = some b := at_nat (n := 1) rfl
theorem at_2 {α : Type} {a b c : α} {r : List α} : atI (a :: b :: c :: r) 2 = some c := at_nat (n := 2) rfl
theorem at_3 {α : Type} {a b c d : α} {r : List α} : atI (a :: b :: c :: d :: r) 3 = some d := at_nat (n := 3) rfl
theorem cut_one {z : Str} {m : Nat} (h : m < z.cps.toList.length) : cutS z (some (0 + (m : Int))) (some (0 + (m : Int) + 1)) = ⟨#[z.cps.toList[m]]⟩ := by
  have hl : z.length = z.cps.toList.length := by rw [Array.length_toList]; rfl
  unfold cutS
  have e1 : HT.sIx z.length 0 (some (0 + (m : Int))) = m := by
    rw [show (0 + (m : Int)) = ((m : Nat) : Int) from by omega, HT.sIx_nat]; omega
  have e2 : HT.sIx z.length z.length (some (0 + (m : Int) + 1)) = m + 1 := by
    rw [show (0 + (m : Int) + 1) = ((m + 1 : Nat) : Int) from by omega, HT.sIx_nat]; omega
  rw [e1, e2, show m + 1 - m = 1 from by omega, List.drop_eq_getElem_cons h]
  rfl
theorem starts0 {z : Str} {c : Nat} (h : z.cps.toList[0]? = some c) : Txt.startswith z "0" = decide (c = 48) := by
  obtain ⟨⟨l⟩⟩ := z
  cases l with
  | nil => cases h
  | cons a r =>
    cases h
    have e : (Str.ofString "0") = ⟨#[48]⟩ := by decide +kernel
    unfold Txt.startswith
    rw [e]
    have h1 : decide (0 + (⟨#[48]⟩ : Str).length ≤ (⟨⟨c :: r⟩⟩ : Str).length) = true := by
      rw [decide_eq_true_iff]; show 1 ≤ (c :: r).length; simp
    rw [h1, Bool.true_and]
    simp only [PySem.Builtin.Str.subAt]
    show (((⟨c :: r⟩ : Array Nat).extract 0 (0 + 1)) == #[48]) = _
    rw [Bool.eq_iff_iff, beq_iff_eq, decide_eq_true_iff]
    constructor
    · intro h
      have := congrArg Array.toList h
      simpa using this
    · rintro rfl
      simp
theorem head_at {z : Str} (h : 1 ≤ z.length) : ∃ c, z.cps.toList[0]? = some c ∧ atI z.cps.toList 0 = some c := by
  obtain ⟨⟨l⟩⟩ := z
  cases l with
  | nil => exact absurd h (by decide)
  | cons c r =>
    refine ⟨c, rfl, ?_⟩
    unfold atI ixN
    rw [if_pos (by decide), if_pos (by show (0 : Int) < ((c :: r).length : Nat); simp)]
    rfl
theorem e_rev {X : Cx} {K : PySem.W.Frag} {e : Expr} {te : TE} {k : Nat} {p1 p2 p3 pos : Pos} (hK : X.K = K) (he : PE X e te) : PE X (.Subscript e (.Slice none none (some (.UnaryOp .USub (.Constant (.int 1) k p1) p2)) p3) pos) (tRevL K te) := hK ▸ pe_revL he
end KB

set_option maxHeartbeats 4000000
/-! KY: try with several clauses that name the exception. -/
namespace KB
open PySem PySem.Spec PyProof.Rows L2
abbrev ClsT : Type := Addr → Value → Option Addr → TS
/-- behind a clause its name is gone -/
def offI (i : Nat) (D : Ends) : Ends := { nx := fun σ H => D.nx (σ.set i none) H, rt := D.rt, bk := fun σ H => D.bk (σ.set i none) H, ct := fun σ H => D.ct (σ.set i none) H }
/-- what the clauses wish of an exception -/
def wNamed (K : PySem.W.Frag) (i : Nat) (Wo : WX) (D : Ends) : List (Value × ClsT) → WX
  | [] => Wo
  | p :: r => fun cls d σ H => ∃ k, PySem.W.exmOne K cls p.1 = some k ∧ (k = true → ∀ a, H a = none → p.2 a cls d (offI i D) (σ.set i (some (.ref a))) H) ∧ (k = false → wNamed K i Wo D r cls d σ H)
inductive NmOk (X : Cx) (n : Str) : List ExceptHandler → List (Value × ClsT) → Prop
  | nil : NmOk X n [] []
  | cons {x : Str} {c : Value} {ts : ClsT} {b₀ : Stmt} {sub : List Stmt} {np pp : Pos} {hds : List ExceptHandler} {l : List (Value × ClsT)} (hc : Names X x c)
      (ok : ∀ (a : Addr) (oe : Obj) (cls : Value) (d : Option Addr) (pn : List (Addr × Obj)), L2N.Zn cls d oe → (∃ vs, oe.data = .fields vs) → PSs (X.suite a ((a, oe) :: pn)) (b₀ :: sub) (ts a cls d)) (r : NmOk X n hds l) :
      NmOk X n (.ExceptHandler (some (.Name x np)) (some n) (b₀ :: sub) pp :: hds) ((c, ts) :: l)
section
variable {X : Cx} {n : Str} {i : Nat} {body : List Stmt} {h0 : ExceptHandler} {hds : List ExceptHandler} {l : List (Value × ClsT)} {pos : Pos} {tb : WX → TS} {Wo : WX}
theorem ps_try_named (hs : X.stack = X.env :: X.outer) (hf : X.env.frame = some X.env.locals) (hN : X.N.Nodup) (hi : X.N[i]? = some n) (hln : X.env.kindOf n = some .local) (tk : L2N.Takes X Wo)
    (hb : ∀ (W : WX) (pn : List (Addr × Obj)) (xe : Value → Shared → Prop), L2N.Takes (X.tr pn xe) W → PassesOwn (model X.prog X.w) X.A X.env xe → PSs (X.tr pn xe) body (tb W)) (hh : NmOk X n (h0 :: hds) l) :
    PS X (.Try body (h0 :: hds) [] [] pos) (fun D σ H => tb (wNamed X.K i Wo D l) D σ H) := by
  constructor
  intro pins s σ H D I h
  have ok := I.ok
  have fr : X.A.frames = some (X.env :: X.outer) := ok.frames.trans (congrArg some hs)
  have loc : Loc X.env.scope n := .inl hln
  refine wpAny_Try_except ?_
  let XE2 : Value → Shared → Prop := fun e z => wpAny (model X.prog X.w) X.A (noteFrame e X.env) (fun _ z2 => wpAny (model X.prog X.w) X.A (setFlight e none) (fun _ z3 => wpAny (model X.prog X.w) X.A (handleBy e X.env (h0 :: hds)) (SP X pins D) X.xe z3) X.xe z2) X.xe z
  have back : ∀ {f : Flow} {z : Shared}, SP (X.tr (X.pn ++ pins) XE2) [] D f z → SP X pins D f z := fun {f z} q => by
    match f, q with
    | .next, ⟨σ', H', J, q⟩ => exact ⟨σ', H', J.ofTry ok, q⟩
    | .brk, ⟨σ', H', J, q⟩ => exact ⟨σ', H', J.ofTry ok, q⟩
    | .cont, ⟨σ', H', J, q⟩ => exact ⟨σ', H', J.ofTry ok, q⟩
    | .ret u, ⟨v, σ', H', J, r, q⟩ => exact ⟨v, σ', H', J.ofTry ok, r, q⟩
  refine wpAny_mono ((hb (wNamed X.K i Wo D l) (X.pn ++ pins) XE2 (fun u z xx => ?_) PassesOwn.looking).run [] s σ H D (I.toTry _) h) (fun f z q => ?_) (fun _ _ z => z)
  · obtain ⟨a, B, sI, _, σ1, H1, cls, d, rfl, JT, nb, up, sky, na, os, ag, w⟩ := xx
    have J : Inv X pins σ1 H1 sI := JT.ofTry ok
    rw [hs] at sky
    show wpAny _ X.A (noteFrame (.ref a) X.env) _ _ _
    refine L2N.Sky.land L2N.Zn.steady fr hf sky fun h3 fl up3 => ?_
    have J3 : Inv X pins σ1 H1 { z with heap := h3 } := J.landed nb fl.1 (up.trans up3) os ag
    obtain ⟨oe, vs, ge, gz, gd⟩ := fl.there
    have off : a ∉ frs (X.env :: X.outer) := fun m => by
      obtain ⟨_, o, e1, e2⟩ := fl.2.2.1.mem m
      rw [ge] at e1
      exact e2 vs (Option.some.inj e1 ▸ gd)
    have oL : a ≠ X.env.locals := fun e => off (List.mem_filterMap.mpr ⟨X.env, .head _, e ▸ hf⟩)
    have oF : a ∉ X.fs := fun m => by
      obtain ⟨e, he, q⟩ := List.mem_filterMap.mp m
      exact off (List.mem_filterMap.mpr ⟨e, .tail _ he, q⟩)
    have S3 := J3.suite ge gd na oL oF
    have go : ∀ {hs2 : List ExceptHandler} {l2 : List (Value × ClsT)}, NmOk X n hs2 l2 → wNamed X.K i Wo D l2 cls d σ1 H1 → wpAny (model X.prog X.w) X.A (handleBy (.ref a) X.env hs2) (SP X pins D) X.xe { z with heap := h3 } := by
      intro hs2 l2 hk
      induction hk with
      | nil =>
        intro w
        obtain ⟨_, _, _, ob, us, tb2, _, _, g1, _, g3, g4, _⟩ := id fl
        have again : wpAny (model X.prog X.w) X.A (setFlight (.ref a) X.env.frame) (fun _ y => wpAny (model X.prog X.w) X.A (throw (.ref a) : Sem Flow) (SP X pins D) X.xe y) X.xe { z with heap := h3 } := by
          rw [hf]
          refine HandSPX.setFlight_upZ fl fun h4 fl4 up4 => wpAny_throw (tk _ _ ⟨a, B, sI, pins, σ1, H1, cls, d, rfl, J, nb, (up.trans up3).trans up4, .inr (.inr (hs ▸ fl4)), na, os, ag, w⟩)
        refine wpAny_handleBy_nil ?_
        unfold PySem.passOn
        refine wpAny_bind (wpAny_field g1 g3 g4 ?_)
        rw [if_neg (by simp : ¬ ((Value.ref tb2 == Value.none) = true))]
        first
          | exact wpAny_bind (wpAny_pure (wpAny_bind again))
          | exact wpAny_bind again
      | @cons x c ts b₀ sub np pp hs3 l3 hc hsub r ih =>
        rintro ⟨k, e1, yes, no⟩
        refine wpAny_handleBy_cons (codeAny_handlers_test ?_) (by intro q; cases q)
        have LM := PySem.W.exm_one (M := model X.prog X.w) J3.kIn (fun A Q E y kk q => wpAny_typeOf_ref (kk _ _ ge) (by rw [gz.1]; exact q)) e1
        have named : ∀ {Q E : Value → Shared → Prop}, Q c { z with heap := h3 } → wpAny (model X.prog X.w) (X.A.mark (some (.ref a))) (eval (.Name x np) X.env) Q E { z with heap := h3 } := fun {Q E} q => by
          rcases hc with ⟨u1, u2, u3 | ⟨u3, u4, u5⟩⟩
          · exact ld_glob (X := X.suite a ((a, oe) :: (X.pn ++ pins))) S3 u1 u3 q u2
          · exact ld_blt (X := X.suite a ((a, oe) :: (X.pn ++ pins))) S3 u1 u3 u4 q u5 u2
        refine named (LM.here ?_)
        cases k with
        | false => exact ih (no rfl)
        | true =>
          refine codeAny_handlers_suite_as (HandSPX.lands_againZ fl fun h4 fl4 up4 => ?_)
          have J4 : Inv X pins σ1 H1 { z with heap := h4 } := J.landed nb fl4.1 ((up.trans up3).trans up4) os ag
          obtain ⟨oe4, vs4, ge4, gz4, gd4⟩ := fl4.there
          refine store_ok (X := X.suite a ((a, oe4) :: (X.pn ++ pins))) (v := .ref a) (J4.suite ge4 gd4 na oL oF) hN hi loc rfl (fun y S5 => ?_) (.inr hln)
          refine wpAny_mono ((hsub a oe4 cls d (X.pn ++ pins) gz4 ⟨_, gd4⟩).run [] y _ H1 _ S5 (yes rfl a na)) (fun f y2 q => ?_) (fun _ _ q => False.elim q)
          match f, q with
          | .next, ⟨σ6, H6, S6, q6⟩ => exact gone_ok (S6.unsuite ok) hN hi hln fun y3 J7 => ⟨_, _, J7, q6⟩
          | .brk, ⟨σ6, H6, S6, q6⟩ => exact gone_ok (S6.unsuite ok) hN hi hln fun y3 J7 => ⟨_, _, J7, q6⟩
          | .cont, ⟨σ6, H6, S6, q6⟩ => exact gone_ok (S6.unsuite ok) hN hi hln fun y3 J7 => ⟨_, _, J7, q6⟩
          | .ret u, ⟨v6, σ6, H6, S6, r6, q6⟩ => exact gone_ok (S6.unsuite ok) hN hi hln fun y3 J7 => ⟨_, _, _, J7, r6, q6⟩
    exact go hh w
  · have q2 := back q
    match f, q2 with
    | .next, q2 => exact wpAny_execs_nil q2
    | .brk, q2 => exact q2
    | .cont, q2 => exact q2
    | .ret u, q2 => exact q2
end
/-! ### f(b = .., a = ..): both of two parameters by name, the last one first -/
def rev2 {α : Type} : List α → List α → List α := fun us ws => us ++ ws.reverse
structure CnR (P : Program) (w : World) (K : PySem.W.Frag) (mg : Str → Option Value) (base : Heap) (k : Nat) (f : Addr) (ps : List Str) (sp : Sp) : Prop where
  ok : ∃ fd, FnOk P w K mg base (L2N.CX P w) k f fd ps sp ∧ Binds K fd ps [] ∧ KBinds K fd ps ps.reverse rev2 rev2
  kp : PySem.W.keepIn K (.ref f) = true
theorem CnR.cn {P : Program} {w : World} {K : PySem.W.Frag} {mg : Str → Option Value} {base : Heap} {k : Nat} {f : Addr} {ps : List Str} {sp : Sp} (c : CnR P w K mg base k f ps sp) : Cn P w K mg base k f ps sp := by
  obtain ⟨⟨fd, F, b, _⟩, kp⟩ := c
  exact ⟨⟨fd, F, b⟩, kp⟩
theorem vals_rev : ∀ {vs : List V} {us : List Value}, Vals vs us → Vals vs.reverse us.reverse
  | _, _, .nil => .nil
  | _, _, .cons r t => by
    rw [List.reverse_cons, List.reverse_cons]
    exact (vals_rev t).append (.cons r .nil)
section
variable {P : Program} {w : World} {K : PySem.W.Frag} {mg : Str → Option Value} {base : Heap}
theorem cnXR {d : He.DefD} {N ps : List Str} {k : Nat} {sp : Sp} (F : Stands K d) (S : FnScope N ps d.scope) (len : ∀ vs H Q E, sp vs H Q E → vs.length = ps.length)
    (hb : ∀ (kV doc pm : Value) (an : Option Addr) (cdv ct : Value) (us : List Value), us.length = ps.length → bindArgs (PySem.W.fnOf d.name d.qual d.params d.body d.scope .none kV doc pm an cdv ct) ⟨us, []⟩ = pure (ps.zip us))
    (hbody : ∀ (cdv : Value) (A : Around) (outer : List Env) (s : Shared) (H : Hp) (vs : List V) (Q : VK) (E : XK), Room k (A.deeper (envOfC d.qual d.scope s.heap.objs.size (He.fAd K d.at_) cdv)) → sp vs H Q E →
      ∃ t, PSs (cxOf (L2N.CX P w) P w K mg base N d.qual d.scope (He.fAd K d.at_) cdv A outer s H E) d.body t ∧ t { nx := fun _ H' => Q .non H', rt := Q } (start N vs) H)
    (hr : ∀ (kV doc pm : Value) (an : Option Addr) (cdv ct : Value) (us ws : List Value), us.length + ws.length = ps.length → bindArgs (PySem.W.fnOf d.name d.qual d.params d.body d.scope .none kV doc pm an cdv ct) ⟨us, ps.reverse.zip ws⟩ = pure (ps.zip (us ++ ws.reverse))) : CnR P w K mg base (k + 1) (He.fAd K d.at_) ps sp := by
  obtain ⟨fd, F⟩ := F
  refine ⟨⟨fd, F.ok S len hbody, F.bindsN hb, ?_, ?_⟩, F.kp⟩
  · intro s us ws hK hl
    obtain ⟨oc, od, dV, kV, doc, pm, an, cdv, ct, osl, rfl, lk, hcd, hD, hKw⟩ := F.ex
    have hl' : us.length + ws.length = ps.length := by
      rw [← hl]
      show _ = (us ++ ws.reverse).length
      rw [List.length_append, List.length_reverse]
    rcases hD with ⟨_, rfl⟩ | ⟨e, _⟩
    · exact .of_eq (hr kV doc pm an cdv ct us ws hl')
    · exact absurd rfl e
  · intro vs us zs ws r1 r
    exact r1.append (vals_rev r)
end
def tCalR (sp : Sp) (E : XK) (t : TA) : TE := fun σ H Q => t σ H fun zs H1 => sp (rev2 [] zs) H1 Q E
theorem pe_cnR {X : Cx} {j k : Nat} {f : Addr} {ps : List Str} {sp : Sp} {E : XK} {x : Str} {p pos : Pos} {kws : List Keyword} {tk : TA} (c : CnR X.prog X.w X.K X.mg X.base k f ps sp) (hr : Room j X.A) (hk : k ≤ j) (hg : Gl X x) (hm : X.mg x = some (.ref f))
    (hx : Passes (L2N.CX X.prog X.w) X E) (hkw : PK X kws tk) (hks : (backToKw pos (keywordEach kws X.env)).filterMap (·.1) = ps.reverse := by rfl) (hall : (backToKw pos (keywordEach kws X.env)).all (·.1.isSome) = true := by rfl)
    (hdb : (x == ("__debug__" : Str)) = false := by decide) (hpl : ((backTo pos (starEach [] X.env)).any (·.1) || (backToKw pos (keywordEach kws X.env)).any (·.1.isNone)) = false := by rfl) :
    PE X (.Call (.Name x p) [] kws pos) (tCalR sp E tk) := by
  obtain ⟨⟨fd, F, b, kb⟩, kp⟩ := c
  constructor
  intro pins s σ H Q I h
  refine wpAny_Call_Name_kw (ld_glob I hg hm ?_ hdb)
  refine PySem.W.callWith_KW0 (h₀ := X.base) I.ok.mod.kin kp hall (thn (hkw.run pos pins s σ H _ I h) ?_) hpl
  rintro ws s2 ⟨zs, H2, I2, rz, q2⟩
  refine ⟨I2.kIn, ?_⟩
  rw [hks]
  exact run_fnk (us := []) (vs := []) F (hr.mono hk) kb hx I2 .nil rz q2
theorem i_calR {sp : Sp} {E : XK} {t : TA} {σ : L2.St} {H : Hp} {Q : VK} (h : t σ H fun zs H1 => sp (rev2 [] zs) H1 Q E) : tCalR sp E t σ H Q := h
/-- the same within a try -/
def tCalRS (sp : Sp) (E : L2.St → XK) (t : TA) : TE := fun σ H Q => t σ H fun zs H1 => sp (rev2 [] zs) H1 Q (E σ)
theorem pe_cnRS {X : Cx} {j k : Nat} {f : Addr} {ps : List Str} {sp : Sp} {E : L2.St → XK} {x : Str} {p pos : Pos} {kws : List Keyword} {tk : TA} (c : CnR X.prog X.w X.K X.mg X.base k f ps sp) (hr : Room j X.A) (hk : k ≤ j) (hg : Gl X x) (hm : X.mg x = some (.ref f))
    (hx : ∀ σ, PassesAt (L2N.CX X.prog X.w) X σ (E σ)) (hkw : PK X kws tk) (hks : (backToKw pos (keywordEach kws X.env)).filterMap (·.1) = ps.reverse := by rfl) (hall : (backToKw pos (keywordEach kws X.env)).all (·.1.isSome) = true := by rfl)
    (hdb : (x == ("__debug__" : Str)) = false := by decide) (hpl : ((backTo pos (starEach [] X.env)).any (·.1) || (backToKw pos (keywordEach kws X.env)).any (·.1.isNone)) = false := by rfl) :
    PE X (.Call (.Name x p) [] kws pos) (tCalRS sp E tk) := by
  obtain ⟨⟨fd, F, b, kb⟩, kp⟩ := c
  constructor
  intro pins s σ H Q I h
  refine wpAny_Call_Name_kw (ld_glob I hg hm ?_ hdb)
  refine PySem.W.callWith_KW0 (h₀ := X.base) I.ok.mod.kin kp hall (thn (hkw.run pos pins s σ H _ I h) ?_) hpl
  rintro ws s2 ⟨zs, H2, I2, rz, q2⟩
  refine ⟨I2.kIn, ?_⟩
  rw [hks]
  have r2 := kb.rel (vs := []) (us := []) .nil rz
  have hl : (rev2 [] ws).length = ps.length := r2.length.symm.trans (F.len _ _ _ _ q2)
  refine wpAny_call (codeAny_mono (F.run X.A X.stack s2 H2 ⟨[], ps.reverse.zip ws⟩ _ _ Q (E σ) (hr.mono hk) I2.env0 (kb.to s2 [] ws I2.kIn hl) r2 q2) fun r z hq => ?_)
  match r, hq with
  | .error e, hq => exact hx σ pins H2 s2 e z I2 hq
  | .ok (.ret u), hq => exact I2.after hq
  | .ok .next, hq => exact False.elim hq
  | .ok .brk, hq => exact False.elim hq
  | .ok .cont, hq => exact False.elim hq
theorem i_calRS {sp : Sp} {E : L2.St → XK} {t : TA} {σ : L2.St} {H : Hp} {Q : VK} (h : t σ H fun zs H1 => sp (rev2 [] zs) H1 Q (E σ)) : tCalRS sp E t σ H Q := h
theorem i_calS {sp : Sp} {E : L2.St → XK} {t : TA} {σ : L2.St} {H : Hp} {Q : VK} (h : t σ H fun zs H1 => sp zs H1 Q (E σ)) : tCalS sp E t σ H Q := h
theorem i_xf {a : Addr} {cls : Value} {d : Option Addr} {C : Addr} {f : Str} {te : TE} {σ : L2.St} {H : Hp} {Q : VK} (h : te σ H fun x H1 => x = .ref a ∧ cls = .ref C ∧ ∃ (dd : Addr) (fs : List (Str × V)) (v : V), d = some dd ∧ H1 dd = some (.xd fs) ∧ fs.lookup f = some v ∧ Q v H1) : tXf a cls d C f te σ H Q := h
end KB

set_option maxHeartbeats 4000000
/-! KG: repr of an empty dict; the guards that stand around are taken from the context. -/
namespace KB
open PySem PySem.Spec PyProof.Rows L2
theorem wpAny_guards {α : Type} {M : Model} {A : Around} {t : Sem α} {Q : α → Shared → Prop} {E : Value → Shared → Prop} {s : Shared} (h : ∀ g, wpAny M { A with guards := some g } t Q E s) : wpAny M A t Q E s := by
  intro Γ p hΓ
  exact h (Γ.code.guards ++ guardsOf Γ.below) Γ p ⟨hΓ.1, hΓ.2.1, hΓ.2.2.1, fun g e => Option.some.inj e, hΓ.2.2.2.2⟩
def gX (X : Cx) (g : List Code) : Cx := { X with A := { X.A with guards := some g } }
theorem Inv.toG {X : Cx} {pins : List (Addr × Obj)} {σ : L2.St} {H : Hp} {s : Shared} {g : List Code} (I : Inv X pins σ H s) : Inv (gX X g) pins σ H s :=
  { ok := { I.ok with hd := I.ok.hd, frames := I.ok.frames }, os := I.os, bare := I.bare, base := I.base, loc := I.loc, cell := I.cell, free := I.free, freeC := I.freeC, pin := I.pin, hok := I.hok, len := I.len }
theorem Inv.ofG {X : Cx} {pins : List (Addr × Obj)} {σ : L2.St} {H : Hp} {s : Shared} {g : List Code} (I : Inv (gX X g) pins σ H s) : Inv X pins σ H s :=
  { ok := { I.ok with hd := I.ok.hd, frames := I.ok.frames }, os := I.os, bare := I.bare, base := I.base, loc := I.loc, cell := I.cell, free := I.free, freeC := I.freeC, pin := I.pin, hok := I.hok, len := I.len }
theorem pe_guards {X : Cx} {e : Expr} {t : List Code → TE} (h : ∀ g, PE (gX X g) e (t g)) : PE X e (fun σ H Q => ∀ g, t g σ H Q) := by
  constructor
  intro pins s σ H Q I q
  refine wpAny_guards fun g => ?_
  refine wpAny_mono ((h g).run pins s σ H Q (Inv.toG I) (q g)) (fun v z r => ?_) (fun _ _ z => z)
  obtain ⟨v', H', J, r1, q1⟩ := r
  exact ⟨v', H', Inv.ofG J, r1, q1⟩
/-- what repr of an empty dict at a gives, within these guards -/
def reprE (g : List Code) (a : Addr) : Str := if (g.any fun c => dictGuardF (.ref a) (c, default)) = true then "{...}" else "{}"
section
variable {P : Program} {w : World} {A : Around} {E : Value → Shared → Prop} {s : Shared} {a : Addr} {o : Obj} {g : List Code} {n : Nat}
theorem call_dict_e {Q : Value → Shared → Prop} (ha : s.heap.get? a = some o) (hc : o.cls = .type "dict") (hd : o.data = .dict #[] n) (hsys : (a == sysModules) = false) (hg : A.guards = some g)
    (hQ : ∀ z tk, Q (.str (reprE g a) z) { s with toks := tk }) : wpAny (model P w) A (call (.builtin "dict.__repr__") [.ref a]) Q E s := by
  refine wpAny_call (codeAny_call_builtin_own (Code.quiet_builtin _ (by decide +kernel)) F.entry_dict_repr (F.slot_dict_repr.check _ _ _ _ _ _ _ _ ⟨o, ha, hc⟩ (F.args_dict_repr_1 _) ?_))
  have hTy : s.TypeIs (.ref a) "dict" := ⟨o, ha, hc⟩
  show wpOwn _ _ _ (Builtin.dictReprAt 0 ⟨[.ref a], []⟩) _ _ _
  unfold Builtin.dictReprAt
  refine wpOwn_bind (wpOwn_of_wpAny ?_)
  unfold Builtin.Dict.dictSlotNone
  refine wpAny_bind (wpAny_notOrdered_dict hTy (show wpAny _ _ (pure (Value.ref a)) _ _ s from wpAny_pure ?_))
  rw [dictReprRunning_eq]
  refine wpOwn_bind (wpOwn_stackTailAny hg (dictGuardF_off _) (dictGuardF_pos _) ?_)
  cases hb : (g.any fun c => dictGuardF (.ref a) (c, default)) with
  | true =>
    refine wpOwn_of_wpAny ?_
    rw [if_pos rfl]
    have e : reprE g a = "{...}" := if_pos hb
    rw [e] at hQ
    refine wpAny_bind (wpAny_rule ?_)
    unfold retStr
    refine wpAny_bind (wpAny_mkStr (wpAny_pure ?_) (by decide +kernel))
    exact hQ _ _
  | false =>
    refine wpOwn_of_wpAny ?_
    rw [if_neg Bool.false_ne_true]
    have e : reprE g a = "{}" := by unfold reprE; rw [hb]; rfl
    rw [e] at hQ
    show wpAny _ _ (Builtin.Dict.addrOf (.ref a) >>= _) _ _ s
    refine wpAny_bind (wpAny_pure ?_)
    unfold Builtin.Dict.showsAll
    rw [if_neg (by rw [hsys]; exact Bool.false_ne_true)]
    refine wpAny_bind (wpAny_pure (wpAny_bind (wpAny_dictEpoch ha hd (wpAny_bind (wpAny_dictEntries ha hd (wpAny_bind ?_))))))
    rw [Std.Legacy.Range.forIn_eq_forIn_range']
    refine wpAny_pure ?_
    unfold retStr
    refine wpAny_bind (wpAny_mkStr (wpAny_pure ?_) (by decide +kernel))
    have e2 : Str.ofString "{" ++ (Str.ofString ", ").join (#[] : Array Str).toList ++ Str.ofString "}" = ("{}" : Str) := by decide +kernel
    show Q (.str (Str.ofString "{" ++ (Str.ofString ", ").join (#[] : Array Str).toList ++ Str.ofString "}") _) _
    rw [e2]
    exact hQ _ _
theorem call_repr_e {Q : Value → Shared → Prop} (ha : s.heap.get? a = some o) (hc : o.cls = .type "dict") (hd : o.data = .dict #[] n) (hsys : (a == sysModules) = false) (hg : A.guards = some g) (hu : A.units + 8 < cLine)
    (hQ : ∀ z tk, Q (.str (reprE g a) z) { s with toks := tk }) : wpAny (model P w) A (call (.builtin "repr") [.ref a]) Q E s := by
  have hTy : s.TypeIs (.ref a) "dict" := ⟨o, ha, hc⟩
  refine Calls.call_function_entry F.kind_repr F.plain_repr F.entry_repr (F.args_repr1 _) ?_
  unfold Builtin.«repr»
  refine wpAny_bind (m := oneArg "repr" _) (wpAny_pure ?_)
  refine wpAny_bind (wpAny_cRoomFor ?_ ?_)
  · show A.units + 1 < cLine
    omega
  refine wpAny_bind (wpAny_specialOf (name := Str.ofString "__repr__") hTy F.slot_dict_repr.lookup ?_)
  refine wpAny_bind (m := callSpecialIfBound? (.ref a) (Str.ofString "__repr__")) (wpAny_callSpecialIfBound?_slotG (name := Str.ofString "__repr__") hTy F.slot_dict_repr (call_dict_e ha hc hd hsys hg fun z tk => ?_))
  exact wpAny_bind (wpAny_isInstance (T := "str") (b := true) rfl isSubtype_str_str (wpAny_pure ⟨_, rfl, hQ z tk⟩))
end
def rReprE (g : List Code) : List V → Hp → VK → Prop := fun xs H Q => ∃ a, xs = [.ref a] ∧ H a = some (.dK []) ∧ Q (.str (reprE g a)) H
theorem rU8 {k : Nat} {A : Around} (r : Room k A) : A.units + 8 < cLine := by have := r.un; omega
theorem call_reprE {X : Cx} {g : List Code} (hg : X.A.guards = some g) (hu : X.A.units + 8 < cLine) : CallR X (.builtin "repr") (rReprE g) := by
  intro pins s σ H xs us Q I r h
  obtain ⟨a, rfl, ha, q⟩ := h
  obtain ⟨u, rfl, rx⟩ := vals1 r
  cases rx
  obtain ⟨_, hsys, vs, kv, o, es, ep, ho, hex, hd, _, hp, _⟩ := I.hok a _ ha
  cases kv
  have e0 : es = #[] := by
    exact Array.toList_eq_nil_iff.mp (List.eq_nil_of_length_eq_zero hp.length)
  subst e0
  exact call_repr_e ho hex.1 hd hsys hg hu fun z tk => ⟨.str (reprE g a), H, I.tok tk, ⟨z, rfl⟩, q⟩
end KB

set_option maxHeartbeats 4000000
/-! KW: a display whose first item gives a token out (text.replace behind it); lengths of joined and split texts. -/
namespace KB
open PySem PySem.Spec PyProof.Rows L2 CwR
/-- behind e a token is out -/
def PE1 (X : Cx) (e : Expr) (t : TE) : Prop := ∀ (pins : List (Addr × Obj)) (s : Shared) (σ : L2.St) (H : Hp) (Q : VK), Inv X pins σ H s → t σ H Q → wpAny (model X.prog X.w) X.A (eval e X.env) (fun v s1 => 1 ≤ s1.toks ∧ EP X pins σ Q v s1) X.xe s
section
variable {X : Cx} {e : Expr} {te : TE} {es : List Expr} {ta : TA}
/-- e op "c" -/
theorem pe1_opC {op : Operator} {r : R2} {c : Str} {j : Nat} {cp pos : Pos} (ho : OpR X (binaryOp op) r) (ha : PE X e te) : PE1 X (.BinOp e op (.Constant (.str c) j cp) pos) (tOp r te (tC (.str c))) := by
  intro pins s σ H Q I h
  refine wpAny_BinOp (thn (ha.run pins s σ H _ I h) fun v s1 ⟨x, H1, I1, r1, q1⟩ => ?_)
  refine Calls.Constant_str ?_
  refine wpAny_mono (PySem.wpAny_toks (ho pins { s1 with toks := s1.toks + 1 } σ H1 x (.str c) v (.str c s1.toks) Q (I1.tok _) r1 ⟨_, rfl⟩ q1)) (fun v2 s2 q => ⟨?_, q.2⟩) fun _ _ z => z.2
  have hk : s1.toks + 1 ≤ s2.toks := q.1
  omega
theorem pa1_cons (ha : PE1 X e te) (hr : PAT X es ta) (hs : starEach (e :: es) X.env = (false, eval e X.env) :: starEach es X.env := by rfl) : PA X (e :: es) (tCons te ta) := by
  constructor
  intro pos pins s σ H Q I h
  rw [hs]
  show wpAny _ _ (spliced ((false, eval e X.env) :: backTo pos (starEach es X.env))) _ _ s
  refine Calls.spliced_cons (thn (ha pins s σ H _ I h) fun v s1 ⟨h1, x, H1, I1, r1, q1⟩ => ?_)
  exact thn (hr pos pins s1 σ H1 _ h1 I1 q1) fun us s2 ⟨xs, H2, I2, r2, q2⟩ => ⟨x :: xs, H2, I2, .cons r1 r2, q2⟩
theorem pat_e (ha : PE X e te) (hr : PAT X es ta) (hs : starEach (e :: es) X.env = (false, eval e X.env) :: starEach es X.env := by rfl) : PAT X (e :: es) (tCons te ta) := pat_cons (PET.of ha) hr hs
end
theorem i_replC {to : TE} {y z : Str} {σ : L2.St} {H : Hp} {Q : VK} (h : to σ H fun v H1 => ∃ x, v = .str x ∧ x.length + (x.length + 1) * z.length ≤ 16777216 ∧ Q (.str (Txt.replace x y z)) H1) : tReplC to y z σ H Q := h
/-! ### lengths -/
theorem join_len : ∀ (sep : Str) (ws : List Str), (Str.join sep ws).length + sep.length = if ws = [] then sep.length else (ws.map (·.length)).sum + ws.length * sep.length
  | sep, [] => by show 0 + sep.length = _; simp
  | sep, [w] => by show w.length + sep.length = _; simp
  | sep, a :: b :: r => by
    have ih := join_len sep (b :: r)
    rw [if_neg (by simp)] at ih ⊢
    show (a ++ sep ++ Str.join sep (b :: r)).length + sep.length = _
    rw [Str.length_append, Str.length_append]
    simp only [List.map_cons, List.sum_cons, List.length_cons, Nat.succ_mul] at ih ⊢
    omega
theorem tjoin_eq (sep : Str) (ws : List Str) : Txt.join sep ws = Str.join sep ws := TL.join_eq _ _
/-- the parts of a text by a sign -/
theorem split_sum {z sep : Str} (hs : sep.length = 1) : ((Txt.split z sep).map (·.length)).sum + (Txt.split z sep).length ≤ z.length + 1 := by
  have h1 := join_len sep (Txt.split z sep)
  rw [StrLaws.join_split] at h1
  split at h1
  · rename_i e
    rw [e]
    simp
  · rw [hs, Nat.mul_one] at h1
    omega
theorem tjoin_len (sep : Str) (ws : List Str) : (Txt.join sep ws).length ≤ (ws.map (·.length)).sum + ws.length * sep.length := by
  rw [tjoin_eq]
  have h := join_len sep ws
  split at h
  · omega
  · omega
theorem sum_append (a b : List Nat) : (a ++ b).sum = a.sum + b.sum := List.sum_append_nat
theorem sum_take_drop (ws : List Str) (n : Nat) : ((ws.take n).map (·.length)).sum + ((ws.drop n).map (·.length)).sum = (ws.map (·.length)).sum := by
  rw [← List.sum_append_nat, ← List.map_append, List.take_append_drop]
/-- the weight of texts: their signs, and one more each -/
def wt (ws : List Str) : Nat := (ws.map (·.length)).sum + ws.length
theorem wt_app (a b : List Str) : wt (a ++ b) = wt a + wt b := by
  unfold wt
  rw [List.map_append, List.sum_append_nat, List.length_append]
  omega
theorem wt_one (a : Str) : wt [a] = a.length + 1 := by simp [wt]
theorem wt_rev (a : List Str) : wt a.reverse = wt a := by
  unfold wt
  rw [List.map_reverse, List.sum_reverse, List.length_reverse]
theorem wt_split {z sep : Str} (hs : sep.length = 1) : wt (Txt.split z sep) ≤ z.length + 1 := split_sum hs
theorem wt_mem {ws : List Str} {w : Str} (h : w ∈ ws) : w.length + 1 ≤ wt ws := by
  obtain ⟨a, b, rfl⟩ := List.append_of_mem h
  rw [wt_app, show w :: b = [w] ++ b from rfl, wt_app, wt_one]
  omega
theorem wt_join {sep : Str} (hs : sep.length = 1) (ws : List Str) : (Txt.join sep ws).length ≤ wt ws := by
  have h := tjoin_len sep ws
  rw [hs, Nat.mul_one] at h
  exact h
/-- a part of a list of texts -/
theorem cut_strs (ws : List Str) (lo hi : Option Int) : ∃ us, cutV (ws.map V.str) lo hi = us.map V.str ∧ wt us ≤ wt ws := by
  refine ⟨(ws.drop (HT.sIx ws.length 0 lo)).take (HT.sIx ws.length ws.length hi - HT.sIx ws.length 0 lo), ?_, ?_⟩
  · unfold cutV
    rw [List.length_map, ← List.map_drop, ← List.map_take]
  · have h1 : wt ws = wt (ws.take (HT.sIx ws.length 0 lo)) + wt (ws.drop (HT.sIx ws.length 0 lo)) := by rw [← wt_app, List.take_append_drop]
    have h2 : wt (ws.drop (HT.sIx ws.length 0 lo)) = wt ((ws.drop (HT.sIx ws.length 0 lo)).take (HT.sIx ws.length ws.length hi - HT.sIx ws.length 0 lo)) + wt ((ws.drop (HT.sIx ws.length 0 lo)).drop (HT.sIx ws.length ws.length hi - HT.sIx ws.length 0 lo)) := by rw [← wt_app, List.take_append_drop]
    omega
theorem i_joinW {K : PySem.W.Frag} {a : Str} {p : Addr} {ys : List Str} {H : Hp} {Q : VK} (ha : a.length = 1) (h1 : H p = some (.lst (ys.map V.str))) (hz : wt ys ≤ 1000000) (h : (Txt.join a ys).length ≤ wt ys → Q (.str (Txt.join a ys)) H) : rJoin K (.str a) [.ref p] H Q :=
  ⟨a, p, ys, rfl, rfl, .inl (.inl (.inl h1)), by unfold wt at hz; rw [ha]; omega, h (wt_join ha ys)⟩
end KB

set_option maxHeartbeats 4000000
/-! KX: where an exception is handled: defs called there, comprehensions over a range there. -/
namespace KB
open PySem PySem.Spec PyProof.Rows L2 L2H
theorem hotU {k : Nat} {A : Around} (r : RoomH k A) : A.units + 64 < cLine := by have := r.un; omega
theorem hotU0 {k : Nat} {A : Around} (r : RoomH k A) : A.units < cLine := by have := r.un; omega
theorem hotU1 {k : Nat} {A : Around} (r : RoomH k A) : A.units + 1 < cLine := by have := r.un; omega
theorem hotU8 {k : Nat} {A : Around} (r : RoomH k A) : A.units + 8 < cLine := by have := r.un; omega
theorem hotU65 {k : Nat} {A : Around} (r : RoomH k A) : A.units + 65 < cLine := by have := r.un; omega
/-! ### promises -/
structure CnH (P : Program) (w : World) (K : PySem.W.Frag) (mg : Str → Option Value) (base : Heap) (k : Nat) (f : Addr) (ps : List Str) (sp : Sp) : Prop where
  ok : ∃ fd, FnH P w K mg base (L2N.CX P w) k f fd ps sp ∧ Binds K fd ps []
  kp : PySem.W.keepIn K (.ref f) = true
/-- a def that lets nothing out, called while p's exception is handled -/
theorem cnNH {P : Program} {w : World} {K : PySem.W.Frag} {mg : Str → Option Value} {base : Heap} {d : He.DefD} {N ps : List Str} {k : Nat} {sp : Sp} (F : Stands K d) (S : FnScope N ps d.scope) (len : ∀ vs H Q E, sp vs H Q E → vs.length = ps.length)
    (hb : ∀ (kV doc pm : Value) (an : Option Addr) (cdv ct : Value) (us : List Value), us.length = ps.length → bindArgs (PySem.W.fnOf d.name d.qual d.params d.body d.scope .none kV doc pm an cdv ct) ⟨us, []⟩ = pure (ps.zip us))
    (hbody : ∀ (cdv : Value) (A : Around) (outer : List Env) (s : Shared) (H : Hp) (vs : List V) (Q : VK) (E : XK) (p : Addr × Obj), Hot1 A p → RoomH k (A.deeper (envOfC d.qual d.scope s.heap.objs.size (He.fAd K d.at_) cdv)) → sp vs H Q E →
      ∃ t, PSs (cxH (L2N.CX P w) P w K mg base N d.qual d.scope (He.fAd K d.at_) cdv A outer s H E p).nox d.body t ∧ t { nx := fun _ H' => Q .non H', rt := Q } (start N vs) H) : CnH P w K mg base (k + 1) (He.fAd K d.at_) ps sp := by
  obtain ⟨fd, D⟩ := F
  obtain ⟨_, _, _, _, _, _, _, cdv, _, _, e1, e2, e3, _, _⟩ := id D.ex
  refine ⟨⟨fd, ?_, D.bindsN hb⟩, D.kp⟩
  subst e1
  refine fn_ofH e2 e3 S len fun A outer s H vs Q E p hot hr h => ?_
  obtain ⟨t, h1, h2⟩ := hbody cdv A outer s H vs Q E p hot hr h
  exact ⟨t, h1.nox, h2⟩
theorem cnZH {P : Program} {w : World} {K : PySem.W.Frag} {mg : Str → Option Value} {base : Heap} {d : He.DefD} {N ps : List Str} {k : Nat} {sp : Sp} (F : Stands K d) (S : FnScope N ps d.scope) (len : ∀ vs H Q E, sp vs H Q E → vs.length = ps.length)
    (hb : ∀ (kV doc pm : Value) (an : Option Addr) (cdv ct : Value) (us : List Value), us.length = ps.length → bindArgs (PySem.W.fnOf d.name d.qual d.params d.body d.scope .none kV doc pm an cdv ct) ⟨us, []⟩ = pure (ps.zip us))
    (z : ∀ vs H Q E, sp vs H Q E → False) : CnH P w K mg base (k + 1) (He.fAd K d.at_) ps sp := cnNH F S len hb fun _ _ _ _ H vs Q E _ _ _ h => (z vs H Q E h).elim
theorem CnH.mono {P : Program} {w : World} {K : PySem.W.Frag} {mg : Str → Option Value} {base : Heap} {j k : Nat} {f : Addr} {ps : List Str} {sp : Sp} (c : CnH P w K mg base j f ps sp) (h : j ≤ k) : CnH P w K mg base k f ps sp := by
  obtain ⟨⟨fd, F, b⟩, kp⟩ := c
  exact ⟨⟨fd, ⟨F.len, fun A outer s H args us vs Q E p hr => F.run A outer s H args us vs Q E p (hr.mono h)⟩, b⟩, kp⟩
theorem pe_cnH {X : Cx} {j k : Nat} {f : Addr} {ps : List Str} {sp : Sp} {E : XK} {x : Str} {p pos : Pos} {e : Expr} {es : List Expr} {t : TA} (c : CnH X.prog X.w X.K X.mg X.base k f ps sp) (hr : RoomH j X.A) (hk : k ≤ j) (hot : HotC X) (hg : Gl X x) (hm : X.mg x = some (.ref f))
    (hx : Passes (L2N.CX X.prog X.w) X E) (ha : PA X (e :: es) t) (hdb : (x == ("__debug__" : Str)) = false := by decide) (he : starEach (e :: es) X.env = (false, eval e X.env) :: starEach es X.env := by rfl)
    (hpl : (backTo pos (starEach es X.env)).any (·.1) = false := by rfl) : PE X (.Call (.Name x p) (e :: es) [] pos) (tCal sp E t) := by
  obtain ⟨⟨fd, F, b⟩, kp⟩ := c
  have h := pe_callH (pos := pos) (q := p) (E := fun _ => E) F (hr.mono hk) hot hg hm kp b (fun σ pins H s u s1 I q => hx pins σ H s u s1 I q) ha hdb he hpl
  exact ⟨fun pins s σ H Q I q => h.run pins s σ H Q I q⟩
/-- within a clause the handled exception is known -/
theorem hot_suite {X : Cx} {a : Addr} {oe : Obj} {cls : Value} {d : Option Addr} {pn : List (Addr × Obj)} (hz : L2N.Zn cls d oe) (hd : ∃ vs, oe.data = .fields vs) : HotC (X.suite a ((a, oe) :: pn)) := by
  obtain ⟨vs, e⟩ := hd
  exact ⟨(a, oe), ⟨rfl, vs, e, hz.2.2 vs e⟩, List.mem_cons_self⟩
/-! ### [.. for x in range(..) if ..] there -/
theorem ok_pins {X : Cx} (o : X.Ok) (l : List (Addr × Obj)) : ({ X with pn := l } : Cx).Ok :=
  ⟨o.mod, o.kind, o.glob, o.blt, o.above, o.inj, o.has, o.cab, o.hd, o.frames, o.stk, o.exf, o.bs, o.bsz, o.noex, o.exfs, o.funs, o.frf⟩
/-- the block's context, p carried -/
abbrev blkH (X : Cx) (s : Shared) (H : Hp) (scope : Scope) (ce : Env) (fp : List Addr) (p : Addr × Obj) : Cx := { X.blk s H scope ce fp with pn := [p] }
section
variable {X : Cx} {elt tg iter : Expr} {ifs : List Expr} {scope : Scope} {own : List (Str × Nat)} {pos : Pos} {wi : TI} {g : TG} {tt : TT} {te : TE} {p : Addr × Obj}
theorem pe_lcH (hot : Hot1 X.A p) (hp : p ∈ X.pn) (hN : X.N.Nodup) (hi : PIH X tg iter wi) (bo : BlkOk X.N X.env.scope scope own)
    (hg : ∀ (s : Shared) (H : Hp) (C : Addr) (cl : List (Str × Addr)) (fp : List Addr), PG (blkH X s H scope (compEnvC scope cl C X.env) fp p) tg g)
    (ht : ∀ (s : Shared) (H : Hp) (C : Addr) (cl : List (Str × Addr)) (fp : List Addr), PTs (blkH X s H scope (compEnvC scope cl C X.env) fp p) ifs tt)
    (hv : ∀ (s : Shared) (H : Hp) (C : Addr) (cl : List (Str × Addr)) (fp : List Addr), PE (blkH X s H scope (compEnvC scope cl C X.env) fp p) elt te)
    (hs : ∀ x, foldedSetIterable iter X.env x = pure x := by intro _; rfl) : PE X (.ListComp elt [⟨tg, iter, ifs, 0⟩] scope pos) (tLc wi g tt te (own.map (·.2))) := by
  constructor
  intro pins s σ H Q I0 want
  rw [eval_ListComp]
  have clo : ∀ y ∈ scope.names, y.2 = .free → ∃ c, X.env.cells.lookup y.1 = some c := by
    intro y hy ey
    exact (bo.free y hy ey).elim (fun k => I0.ok.has _ (.inl k)) (fun k => I0.ok.has _ (.inr k))
  refine wpAny_comprehension_free rfl hs (closure_ok clo) bo.kind (fun y hy ey => by rw [bo.uniq y hy, ey]) (thn (hi.run pins s σ H _ I0 want) fun _ _ w1 => thn w1 fun itv sA got => ?_)
  obtain ⟨it, fp, tn, J, HA, rfl, IA, T, stA, fA, ask⟩ := got
  refine wpAny_newObj_type (newEnv_comp ?_) (by decide : 0 ≤ sizeLine)
  obtain ⟨D, eD⟩ : ∃ D, sA.heap.objs.size = D := ⟨_, rfl⟩
  rw [eD]
  have freshD : HA D = none := IA.hok.fresh (Nat.le_of_eq eD)
  obtain ⟨W, ⟨m0, start0⟩, turn⟩ := ask D freshD
  obtain ⟨sB, eB⟩ : ∃ sB : Shared, ({ sA with heap := sA.heap.push { cls := .type "list", data := .seq ([] : List Value).toArray } } : Shared) = sB := ⟨_, rfl⟩
  have hB : sB.heap = sA.heap.push { cls := .type "list", data := .seq ([] : List Value).toArray } := by rw [← eB]
  have IB : Inv X pins σ (upd HA D (.lst [])) sB := by
    subst eB
    exact IA.laid (t' := sA.toks) (fun b o e => Heap.get?_push_of_some _ e) (Nat.le_of_eq eD) ⟨Nat.zero_le _, [], 0, .nil, eD ▸ Heap.get?_push_size _ rfl⟩
  have older : ∀ b ∈ fp, b < sA.heap.objs.size := by
    intro b hb
    obtain ⟨o, e, _⟩ := T.obj 0 _ stA b hb
    exact Heap.lt_size e
  have fB : ∀ b ∈ fp, FpOk X pins (upd HA D (.lst [])) b ∧ b < sB.heap.objs.size := by
    intro b hb
    have lt := older b hb
    refine ⟨⟨?_, (fA b hb).2⟩, ?_⟩
    · rw [upd_ne (Nat.ne_of_lt (eD ▸ lt))]
      exact (fA b hb).1
    · rw [hB, Heap.size_push]
      exact Nat.lt_succ_of_lt lt
  have stB : tn 0 sB.heap := T.keep 0 _ _ stA fun b _ o e => hB ▸ Heap.get?_push_of_some _ e
  have bs0 := block_start IB bo hN fB
  have pin0 := IB.pin p (List.mem_append_left _ hp)
  obtain ⟨HB, eH⟩ : ∃ HB, upd HA D (.lst []) = HB := ⟨_, rfl⟩
  rw [eH] at IB fB bs0 pin0 start0
  have qg := hg sB HB sB.heap.objs.size (cellsFrom (sB.heap.objs.size + 1) scope.names (cloFrom X.env.cells scope.names [])) fp
  have qt := ht sB HB sB.heap.objs.size (cellsFrom (sB.heap.objs.size + 1) scope.names (cloFrom X.env.cells scope.names [])) fp
  have qv := hv sB HB sB.heap.objs.size (cellsFrom (sB.heap.objs.size + 1) scope.names (cloFrom X.env.cells scope.names [])) fp
  have stayC : ∀ b o, sB.heap.get? b = some o → (pushCells (sB.heap.push { cls := .type "dict", data := .dict #[] }) scope.names).get? b = some o := fun b o e => pushCells_keeps _ _ _ _ (Heap.get?_push_of_some _ e)
  have locs : (compEnvC scope (cellsFrom (sB.heap.objs.size + 1) scope.names (cloFrom X.env.cells scope.names [])) sB.heap.objs.size X.env).locals = sB.heap.objs.size := rfl
  rw [eB]
  show codeAny _ _ (.compStart (.ListComp elt [⟨tg, iter, ifs, 0⟩] scope pos) 0 (.ref it) (.ref D) (compEnvC scope (cellsFrom (sB.heap.objs.size + 1) scope.names (cloFrom X.env.cells scope.names [])) sB.heap.objs.size X.env)) _ { sB with heap := pushCells (sB.heap.push { cls := .type "dict", data := .dict #[] }) scope.names }
  revert bs0 qg qt qv locs
  generalize compEnvC scope (cellsFrom (sB.heap.objs.size + 1) scope.names (cloFrom X.env.cells scope.names [])) sB.heap.objs.size X.env = ce
  intro bs0 qg qt qv locs
  obtain ⟨sC, eC⟩ : ∃ sC : Shared, ({ sB with heap := pushCells (sB.heap.push { cls := .type "dict", data := .dict #[] }) scope.names } : Shared) = sC := ⟨_, rfl⟩
  rw [eC] at bs0 ⊢
  have hC : ∀ b o, sB.heap.get? b = some o → sC.heap.get? b = some o := fun b o e => by rw [← eC]; exact stayC b o e
  have IC : Inv (blkH X sB HB scope ce fp p) [] (wipe σ (own.map (·.2))) HB sC := by
    refine ⟨ok_pins bs0.ok [p], bs0.os, bs0.bare, bs0.base, bs0.loc, bs0.cell, bs0.free, bs0.freeC, fun q hq => ?_, bs0.hok, bs0.len⟩
    have eq : q = p := by
      have hq' : q ∈ [p] ++ ([] : List (Addr × Obj)) := hq
      simpa using hq'
    subst eq
    refine ⟨hC _ _ pin0.1, pin0.2.1, ?_, fun hm => ?_, pin0.2.2.2.2⟩
    · show q.1 ≠ ce.locals
      rw [locs]
      exact Nat.ne_of_lt (Heap.lt_size pin0.1)
    · rcases List.mem_cons.mp (IB.stkSub q.1 hm) with z | z
      · exact pin0.2.2.1 z
      · exact pin0.2.2.2.1 z
  have hotB : HotC (blkH X sB HB scope ce fp p) := ⟨p, hot, List.mem_singleton.mpr rfl⟩
  have stC : tn 0 sC.heap := T.keep 0 _ _ stB fun b _ o e => hC b o e
  have nfp : ∀ b ∈ fp, HB b = none := fun b hb => (fB b hb).1.1
  have calm : ∀ {τ : L2.St} {G : Hp} {z : Shared}, Inv (blkH X sB HB scope ce fp p) [] τ G z → (∀ b ∈ fp, G b = none) → ∀ b ∈ fp, FpOk (blkH X sB HB scope ce fp p) [] G b := by
    intro τ G z IZ none b hb
    refine ⟨none b hb, (IZ.ok.exf b hb).1, IZ.ok.exfs b hb, .inl hb, fun x c e => (IZ.ok.exf b hb).2 x c e, fun q hq => ?_⟩
    have eq : q = p := by
      have hq' : q ∈ [p] ++ ([] : List (Addr × Obj)) := hq
      simpa using hq'
    rw [eq]
    exact (fB b hb).1.2.2.2.2.2 p (List.mem_append_left _ hp)
  refine codeAny_compStart_list ?loop (T.self X.A 0 _ _ _ stC ?loop)
  refine compLoop_any (fun n z => ∃ i G, Inv (blkH X sB HB scope ce fp p) [] (wipe σ (own.map (·.2))) G z ∧ tn i z.heap ∧ (∀ b ∈ fp, G b = none) ∧ W i n G) ?_ m0 ⟨0, HB, IC, stC, nfp, start0⟩
  rintro n z1 ⟨i, G1, I1, st1, n1, w1⟩
  rcases turn i n G1 w1 with ⟨stop, fin⟩ | ⟨go, Nx, less, step⟩
  · have over := T.done (blkH X sB HB scope ce fp p) rfl rfl rfl hotB i [] z1 _ G1 (fun _ _ => False) I1 (calm I1 n1) st1 stop
    refine thnF over fun r z2 ⟨er, I2⟩ => ?_
    subst er
    have back : Inv X pins σ G1 z2 := IB.call' (ch := fp) I2.os I2.base I2.hok I2.bare fun b hb => ⟨(fB b hb).1.2.2.2.1, (fB b hb).1.2.1, (fB b hb).1.2.2.2.2.1, (fB b hb).1.2.2.2.2.2⟩
    have noC : G1 sB.heap.objs.size = none := locs ▸ I2.free
    obtain ⟨m, ns, _⟩ := I2.loc
    have ns' : z2.heap.Ns sB.heap.objs.size m := locs ▸ ns
    show compPost _ _ _ _ _ _ sB.heap.objs.size _ _
    refine ⟨m, ns', fun h2 sb => ?_⟩
    obtain ⟨a0, a1, a2, a3, a4, a5⟩ := IB.fpOk (Nat.le_refl _) noC
    exact ⟨.ref D, G1, back.turned (t' := z2.toks) (fun b o hb e => (sb.2 b hb).trans e) a0 a1 a3 a4 a5, rfl, fin⟩
  · have next := T.item (blkH X sB HB scope ce fp p) rfl rfl rfl hotB i [] z1 _ G1 (fun _ _ => False) I1 (calm I1 n1) st1 go
    refine thnF next fun r z2 ⟨u, er, w2⟩ => ?_
    subst er
    refine thnF w2 fun _ z3 ⟨x, G3, I3, r3, y3, st3, n3⟩ => ?_
    have I3p := I3.pinned (calm I3 n3) (T.obj _ _ st3)
    refine thnF (qg.run _ z3 _ G3 x u _ I3p r3 (step x G3 y3)) fun _ z4 ⟨τ, G4, I4, same, q4⟩ => ?_
    refine thnF (qt.run _ z4 τ G4 _ I4 q4) fun b z5 ⟨G5, I5, q5⟩ => ?_
    have again : ∀ {z : Shared} {G : Hp}, Inv (blkH X sB HB scope ce fp p) ([] ++ pinsAt fp z3.heap) τ G z → Nx G → ∃ m, m < n ∧ ∃ i G, Inv (blkH X sB HB scope ce fp p) [] (wipe σ (own.map (·.2))) G z ∧ tn i z.heap ∧ (∀ b ∈ fp, G b = none) ∧ W i m G := by
      intro z G IZ nx
      obtain ⟨m, lt, wz⟩ := less G nx
      have held : ∀ b ∈ fp, ∀ o, z3.heap.get? b = some o → z.heap.get? b = some o ∧ G b = none := by
        intro b hb o e
        have := IZ.pin (b, o) (List.mem_append_right _ (List.mem_append_right _ (mem_pinsAt hb e)))
        exact ⟨this.1, this.2.1⟩
      have ln : (wipe σ (own.map (·.2))).length = τ.length := by rw [← same, wipe_length]
      refine ⟨m, lt, i + 1, G, (IZ.unpinned (pins := [])).weak ln (fun k v e => (wipe_some (same ▸ e)).1), T.keep _ _ _ st3 fun b hb o e => (held b hb o e).1, fun b hb => ?_, wz⟩
      obtain ⟨o, e, _⟩ := T.obj _ _ st3 b hb
      exact (held b hb o e).2
    cases b with
    | false =>
      rw [if_neg Bool.false_ne_true] at q5 ⊢
      exact again I5 q5
    | true =>
      rw [if_pos rfl] at q5 ⊢
      refine thnF (qv.run _ z5 τ G5 _ I5 q5) fun c z6 ⟨yv, G6, I6, r6, acc, hD6, few, nx⟩ => ?_
      exact app_ok (X := blkH X sB HB scope ce fp p) I6 hD6 few r6 fun z7 I7 => again I7 nx
end
end KB

set_option maxHeartbeats 4000000
/-! KV: sets of texts: set comprehensions, sorted. -/
namespace KB
open PySem PySem.Spec PyProof.Rows L2
/-! ### what a set of texts is -/
def txtOf (e : Int × Value) : Str := match e.2 with | .str k _ => k | _ => Str.empty
/-- the members es are the texts l, in some order -/
structure Txs (w : World) (es : Array (Int × Value)) (l : List Str) : Prop where
  good : ∀ e ∈ es.toList, ∃ k tk, e.2 = Value.str k tk ∧ e.1 = hashStr w k
  perm : (es.toList.map txtOf).Perm l
  nd : l.Nodup
  few : l.length < scanBound
/-- the table may be walked -/
structure Tab (w : World) (n : Nat) (t : SetTable) : Prop where
  fits : t.fits n = true
  ris : Ris t.place.toList
  led : w.params.followText "set-order" = true ∨ t.led = true
def TxtSet (w : World) (h : Heap) (a : Addr) (l : List Str) : Prop := ∃ o es ep t, h.get? a = some o ∧ o.ExactSet ∧ o.data = .set es ep t ∧ Txs w es l ∧ Tab w es.size t
section
variable {P : Program} {w : World} {es es' : Array (Int × Value)} {l : List Str} {k : Str} {tk : Tok} {h h' : Heap} {a : Addr}
theorem Txs.size (x : Txs w es l) : es.size = l.length := by rw [← x.perm.length_eq, List.length_map, Array.length_toList]
theorem Txs.els (x : Txs w es l) : ElemsOf (strKind P w) es.toList := fun e he => by
  obtain ⟨k, tk, e1, e2⟩ := x.good e he
  refine ⟨⟨k, ?_, e2⟩, ?_⟩
  · rw [e1]; exact strKind_is P w k tk
  · rw [e1]; rfl
theorem Txs.isIt (x : Txs w es l) {e : Int × Value} (he : e ∈ es.toList) (k : Str) : (strKind P w).is k e.2 = true ↔ txtOf e = k := by
  obtain ⟨j, tk, e1, _⟩ := x.good e he
  unfold txtOf
  rw [e1]
  show ((j == k) = true) ↔ j = k
  exact beq_iff_eq
theorem Txs.has (x : Txs w es l) (k : Str) : k ∈ l ↔ ∃ e ∈ es.toList, (strKind P w).is k e.2 = true := by
  rw [← x.perm.mem_iff, List.mem_map]
  exact ⟨fun ⟨e, he, q⟩ => ⟨e, he, (x.isIt he k).mpr q⟩, fun ⟨e, he, q⟩ => ⟨e, he, (x.isIt he k).mp q⟩⟩
theorem Txs.moved (x : Txs w es l) (p : es'.toList.Perm es.toList) : Txs w es' l :=
  ⟨fun e he => x.good e (p.mem_iff.mp he), (p.map txtOf).trans x.perm, x.nd, x.few⟩
theorem Txs.more (x : Txs w es l) (hk : k ∉ l) (room : l.length + 1 < scanBound) (p : es'.toList.Perm ((hashStr w k, Value.str k tk) :: es.toList)) : Txs w es' (k :: l) := by
  refine ⟨fun e he => ?_, (p.map txtOf).trans (x.perm.cons k), List.nodup_cons.mpr ⟨hk, x.nd⟩, room⟩
  rcases List.mem_cons.mp (p.mem_iff.mp he) with q | q
  · subst q; exact ⟨k, tk, rfl, rfl⟩
  · exact x.good e q
theorem TxtSet.kept (R : TxtSet w h a l) (k : ∀ o, h.get? a = some o → h'.get? a = some o) : TxtSet w h' a l := by
  obtain ⟨o, es, ep, t, ho, r⟩ := R
  exact ⟨o, es, ep, t, k o ho, r⟩
theorem TxtSet.obj (R : TxtSet w h a l) : ∃ o, h.get? a = some o := by
  obtain ⟨o, _, _, _, ho, _⟩ := R
  exact ⟨o, ho⟩
end
section
variable {P : Program} {w : World} {A : Around} {E : Value → Shared → Prop} {s : Shared} {a : Addr} {l : List Str} {k : Str} {tk : Tok}
/-- laid, and laid anew where it is too full -/
theorem txt_lay {gw : Bool → Sem Unit} (free : ∀ (b : Bool) (z : Shared) (K : Unit → Shared → Prop), K () z → wpAny (model P w) A (gw b) K E z) {o : Obj} {es : Array (Int × Value)} {ep : Nat} {t : SetTable}
    (ho : s.heap.get? a = some o) (hx : o.ExactSet) (hd : o.data = .set es ep t) {fs : Array (Int × Value)} {u : SetTable} (X : Txs w fs l) (T : Tab w fs.size u) {was : Bool} {R : Option Bool → Shared → Prop}
    (done : ∀ h', Heap.SameBut a s.heap h' → TxtSet w h' a l → R (some true) { s with heap := h' }) :
    wpAny (model P w) A (do
      storeSet a fs u
      if (!was && u.tooFull) = true then do
        gw (relayAll u fs (SetTable.grown fs.size)).2.2
        storeSet a (relayAll u fs (SetTable.grown fs.size)).1 (relayAll u fs (SetTable.grown fs.size)).2.1
        pure (some true)
      else pure (some true)) R E s := by
  have few : fs.size < scanBound := by rw [X.size]; exact X.few
  have one := Heap.SameBut.update s.heap a (Obj.putSet fs u)
  have at1 := store_at (es' := fs) (t' := u) ho hd
  refine wpAny_bind (wpAny_storeSet_of ho hd ?_ (fits_of_scanBound few))
  by_cases full : (!was && u.tooFull) = true
  · rw [if_pos full]
    have q1 := relayAll_perm u fs (SetTable.grown fs.size)
    have q2 := relayAll_fits u fs (SetTable.grown fs.size)
    have q3 := relayAll_ris u fs (SetTable.grown fs.size)
    have q4 := relayAll_led u fs (SetTable.grown fs.size)
    revert q1 q2 q3 q4
    generalize relayAll u fs (SetTable.grown fs.size) = Z
    obtain ⟨gs, v, gave⟩ := Z
    intro q1 q2 q3 q4
    have X2 := X.moved q1
    have few2 : gs.size < scanBound := by rw [X2.size]; exact X2.few
    refine wpAny_bind (free _ _ _ (wpAny_bind (wpAny_storeSet_of at1 rfl ?_ (fits_of_scanBound few2))))
    refine wpAny_pure (done _ (one.trans (Heap.SameBut.update _ a _)) ⟨_, gs, _, v, store_at (es' := gs) (t' := v) at1 rfl, hx, rfl, X2, q2, q3, ?_⟩)
    exact T.led.imp id fun z => q4.trans z
  · rw [if_neg full]
    exact wpAny_pure (done _ one ⟨_, fs, _, u, at1, hx, rfl, X, T⟩)
theorem txt_add_hashed {Q : Bool → Shared → Prop} (R : TxtSet w s.heap a l) (room : l.length + 1 < scanBound)
    (done : ∀ h' b, Heap.SameBut a s.heap h' → TxtSet w h' a (if k ∈ l then l else k :: l) → Q b { s with heap := h' }) : wpAny (model P w) A (setAddHashed a (.str k tk) (hashStr w k)) Q E s := by
  obtain ⟨o, es, ep, t, ho, hx, hd, X, T⟩ := R
  have few : es.size < scanBound := by rw [X.size]; exact X.few
  have els : ElemsOf (strKind P w) es.toList := X.els
  have scan : (Value.str k tk).scannable = true := rfl
  have free : ∀ (b : Bool) {z : Shared} {K : Unit → Shared → Prop}, K () z → wpAny (model P w) A (match b with | true => rule "set.scan.the-table-gave-way" | false => pure ()) K E z := by
    intro b z K q
    cases b with
    | true => exact wpAny_rule q
    | false => exact wpAny_pure q
  unfold setAddHashed setAddHashedIn
  refine wpAny_holding (wpAny_bind (wpAny_setState_of ho hd T.fits ?_))
  dsimp only
  rw [byScan_of scan few els]
  simp only [↓reduceIte]
  unfold setAddByScan
  refine wpAny_bind (wpAny_bind (wpAny_rule (wpAny_bind (wpAny_setScan_of (knd := strKind P w) (k := k) (strKind_is P w k tk) ho hd T.fits els ?_))))
  cases found : List.findIdx? (fun e => (strKind P w).is k e.2) es.toList with
  | some j =>
    obtain ⟨lt, yes, _⟩ := List.findIdx?_eq_some_iff_getElem.mp found
    have inL : k ∈ l := (X.has (P := P) k).mpr ⟨_, List.getElem_mem lt, yes⟩
    dsimp only
    refine wpAny_pure (wpAny_pure (done s.heap _ (Heap.SameBut.refl a s.heap) ?_))
    rw [if_pos inL]
    exact ⟨o, es, ep, t, ho, hx, hd, X, T⟩
  | none =>
    have notL : k ∉ l := fun m => by
      obtain ⟨e, he, q⟩ := (X.has (P := P) k).mp m
      have := List.findIdx?_eq_none_iff.mp found e he
      rw [q] at this
      cases this
    dsimp only
    have q1 := layNew_perm t es (hashStr w k) (.str k tk)
    have q2 := layNew_fits t es (hashStr w k) (.str k tk)
    have q3 := layNew_ris t es (hashStr w k) (.str k tk) T.ris
    have q4 := layNew_led t es (hashStr w k) (.str k tk)
    show wpAny _ _ (match layNew t es (hashStr w k) (.str k tk) with | (_, _, _, _) => _) _ _ _
    revert q1 q2 q3 q4
    generalize layNew t es (hashStr w k) (.str k tk) = Z
    obtain ⟨fs, u, was, gave⟩ := Z
    intro q1 q2 q3 q4
    dsimp only at q1 q2 q3 q4 ⊢
    rw [Array.toList_push] at q1
    have X1 : Txs w fs (k :: l) := X.more (tk := tk) notL room (q1.trans (List.perm_append_singleton _ _))
    have led1 : w.params.followText "set-order" = true ∨ u.led = true := T.led.imp id fun z => q4.trans z
    have fin : ∀ h', Heap.SameBut a s.heap h' → TxtSet w h' a (k :: l) → Q true { s with heap := h' } := fun h' sb r => done h' true sb (by rw [if_neg notL]; exact r)
    refine wpAny_bind (free _ ?_)
    by_cases plain : u.plain = true
    · rw [if_pos plain]
      refine wpAny_bind ?_
      rw [hashByValue_scannable 8 scan]
      refine wpAny_pure ?_
      refine txt_lay (fun b z K q => free b q) ho hx hd X1 ?_ (fun h' sb r => by dsimp only; exact wpAny_pure (fin h' sb r))
      refine ⟨?_, ?_, ?_⟩
      · split
        · exact q2
        · exact SetTable.fits_plain_off q2
      · split <;> exact q3
      · split <;> exact led1
    · rw [if_neg plain]
      refine wpAny_bind (wpAny_pure ?_)
      simp only [↓reduceIte]
      exact txt_lay (fun b z K q => free b q) ho hx hd X1 ⟨q2, q3, led1⟩ (fun h' sb r => by dsimp only; exact wpAny_pure (fin h' sb r))
theorem TxtSet.ty (R : TxtSet w s.heap a l) : s.TypeIs (.ref a) "set" := by
  obtain ⟨o, _, _, _, ho, hx, _⟩ := R
  exact ⟨o, ho, hx.1⟩
/-- S.add(k) -/
theorem txt_add {Q : Value → Shared → Prop} (R : TxtSet w s.heap a l) (room : l.length + 1 < scanBound)
    (done : ∀ h', Heap.SameBut a s.heap h' → TxtSet w h' a (if k ∈ l then l else k :: l) → Q .none { s with heap := h', toks := s.toks + 1 }) : wpAny (model P w) A (call (.builtin "set.add") [.ref a, .str k tk]) Q E s := by
  refine wpAny_call_entry PySem.F.slot_set_add R.ty PySem.F.entry_set_add ?_ (PySem.F.args_set_add_2 _ _)
  unfold Builtin.«set.add» Builtin.Frozenset.oneOther Builtin.Frozenset.addrOf setAdd
  simp only [List.isEmpty_nil, bind_assoc]
  refine wpAny_bind (wpAny_pure ?_)
  refine wpAny_bind (wpAny_pure ?_)
  refine wpAny_bind (wpAny_holding (wpAny_bind ((strKind P w).pyHash (strKind_is P w k tk) ?_)))
  refine txt_add_hashed (s := { s with toks := s.toks + 1 }) R room fun h' b sb r => ?_
  show wpAny _ _ (ret Value.none) _ _ _
  exact wpAny_pure ⟨_, rfl, done h' sb r⟩
/-- sorted(S) -/
theorem txt_sorted {Q : Value → Shared → Prop} (R : TxtSet w s.heap a l) (hh : A.handled = none) (h64 : l.length < 64)
    (done : ∀ s' p (out : Array Value) (c : Nat) (ys : List Str), (∀ b o, s.heap.get? b = some o → s'.heap.get? b = some o) → s'.gens = s.gens → s'.os = s.os → s.heap.objs.size ≤ p →
      s'.heap.get? p = some (seqObj "list" out c) → StrsAre out.toList ys → ys.Perm l → sortedS ys = true → Q (.ref p) s') :
    wpAny (model P w) A (call (.builtin "sorted") [.ref a]) Q E s := by
  obtain ⟨o, es, ep, t, ho, hx, hd, X, T⟩ := R
  have few : es.size < scanBound := by rw [X.size]; exact X.few
  refine Calls.call_function_entry kind_sorted plain_sorted entry_sorted (args_sorted1 _) ?_
  unfold Builtin.«sorted»
  refine wpAny_bind (m := checkCount "sorted" 1 1 _) (wpAny_pure (wpAny_bind (collect_set (A := A.in1) hh ⟨o, ho, hx.1, hd⟩ T.fits few T.ris T.led fun z vs keep big gens os pm => ?_)))
  have ln : vs.length = l.length := by rw [pm.length_eq, List.length_map, Array.length_toList, X.size]
  have allS : ∀ (us : List Value), (∀ v ∈ us, ∃ k tk, v = Value.str k tk) → StrsAre us (us.map strOf) := by
    intro us
    induction us with
    | nil => exact fun _ => .nil
    | cons v r ih =>
      intro hv
      obtain ⟨k, tk, rfl⟩ := hv v List.mem_cons_self
      exact .cons k tk (ih fun u hu => hv u (List.mem_cons_of_mem _ hu))
  have S : StrsAre vs (vs.map strOf) := allS vs fun v hv => by
    obtain ⟨e, he, q⟩ := List.mem_map.mp (pm.mem_iff.mp hv)
    obtain ⟨k, tk, e1, _⟩ := X.good e he
    exact ⟨k, tk, by rw [← q]; exact e1⟩
  have pl : (vs.map strOf).Perm l := by
    refine List.Perm.trans (pm.map strOf) ?_
    rw [List.map_map]
    refine List.Perm.trans (List.Perm.of_eq (List.map_congr_left fun e he => ?_)) X.perm
    obtain ⟨k, tk, e1, _⟩ := X.good e he
    show strOf e.2 = txtOf e
    unfold txtOf
    rw [e1]
    rfl
  refine wpAny_bind (wpAny_newList ?_ (by rw [ln, sizeLine_eq]; omega))
  have atL : (z.heap.push (seqObj "list" vs.toArray 0)).get? z.heap.objs.size = some (seqObj "list" vs.toArray 0) := Heap.get?_push_size _ rfl
  refine wpAny_bind (wpAny_holding (wpAny_call_entry slot_list_sort ⟨_, atL, rfl⟩ entry_list_sort (list_sort_treeK strKind_oneLt atL S.keysOf (fun v₁ v₂ rest e => keyKind_strs (by rw [← e]; exact S)) (by rw [ln]; exact h64) fun st' hp hs => ⟨_, rfl, ?_⟩) (args_list_sort _)))
  obtain ⟨ys, y1, y2, y3⟩ := sorted_out_str S hp hs
  obtain ⟨c, hc⟩ := sortedHeap_at (vs := vs) (out := (arrOf st').map (·.2)) atL
  refine wpAny_pure ⟨_, rfl, done _ z.heap.objs.size _ c ys (fun b u e => ?_) gens os big hc y1 (y2.trans pl) y3⟩
  have q := keep b u e
  have lt := Heap.lt_size q
  show (sortedHeap (z.heap.push (seqObj "list" vs.toArray 0)) z.heap.objs.size vs _).get? b = some u
  rw [sortedHeap_old (Nat.ne_of_lt lt) (by rw [size_push']; exact Nat.lt_succ_of_lt lt)]
  exact Heap.get?_push_of_some _ q
theorem txt_new {h : Heap} (w : World) : TxtSet w (h.push { cls := .type "set", dict := none, data := .set #[] 0 (.fresh 0 0 (!w.params.followText "set-order")) }) h.objs.size [] := by
  refine ⟨_, #[], 0, _, Heap.get?_push_size _ rfl, ⟨rfl, rfl, rfl⟩, rfl, ⟨fun e he => (List.not_mem_nil he).elim, .nil, .nil, by decide⟩, rfl, List.Pairwise.nil, ?_⟩
  show _ ∨ (!w.params.followText "set-order") = true
  cases w.params.followText "set-order"
  · exact .inr rfl
  · exact .inl rfl
end
/-! ### as a tracked thing -/
def TxtO (w : World) (a : Addr) (l : List Str) : HO := .ext fun h => TxtSet w h a l
theorem txtO_ok {w : World} {P : Program} {H : Hp} {h : Heap} {a : Addr} {l : List Str} (R : TxtSet w h a l) : ObjOk P w H h a (TxtO w a l) := ⟨R, R.obj, fun _ _ p k => TxtSet.kept p k⟩
def rSortT (w : World) : List V → Hp → VK → Prop := fun xs H Q => ∃ (a : Addr) (l : List Str), xs = [.ref a] ∧ H a = some (TxtO w a l) ∧ l.length < 64 ∧ ∀ (ys : List Str) (p : Addr), ys.Perm l → sortedS ys = true → H p = none → Q (.ref p) (upd H p (.lst (ys.map V.str)))
section
variable {X : Cx}
theorem c_sortT (hc : X.calm = true) : CallR X (.builtin "sorted") (rSortT X.w) := by
  intro pins s σ H vs us Q I r h
  obtain ⟨a, l, rfl, ha, h64, q⟩ := h
  have R : TxtSet X.w s.heap a l := (I.hok a _ ha).1
  rw [Vals.ref1 r]
  refine txt_sorted R (I.ok.hd hc) h64 fun z p out c ys keep gens os big atp S pm so => ?_
  have free : H p = none := I.hok.fresh big
  have rel : Vals (ys.map V.str) out.toList := by
    have : ∀ {us : List Value} {ss : List Str}, StrsAre us ss → Vals (ss.map V.str) us := by
      intro us ss x
      induction x with
      | nil => exact .nil
      | cons k tk _ ih => exact .cons ⟨tk, rfl⟩ ih
    exact this S
  have ez : z = { s with heap := z.heap, gens := z.gens, drawn := z.drawn, toks := z.toks } := by
    cases z
    cases s
    cases os
    rfl
  have J : Inv X pins σ (upd H p (.lst (ys.map V.str))) { s with heap := z.heap, gens := z.gens, drawn := z.drawn, toks := z.toks } :=
    I.call (ch := []) (Un.laid keep big free) (I.hok.laid keep big ⟨by rw [List.length_map, pm.length_eq, sizeLine_eq]; omega, out.toList, c, rel, atp⟩) (by rw [gens]; exact I.bare) (fun _ q => nomatch q)
  rw [ez]
  exact ⟨.ref p, _, J, rfl, q ys p pm so free⟩
/-- {elt for target in iter if ..}, texts: D the new set -/
def tScT (w : World) (wi : TI) (g : TG) (tt : TT) (te : TE) (vs : List Nat) : TE := fun σ H Q => wi σ H fun J H1 => ∀ D, H1 D = none → ∃ W : Nat → Nat → Hp → Prop, (∃ m, W 0 m (upd H1 D (TxtO w D []))) ∧ ∀ i m H, W i m H →
  (J.stop i H ∧ Q (.ref D) H) ∨ (J.go i H ∧ ∃ Nx : Hp → Prop, (∀ H', Nx H' → ∃ m', m' < m ∧ W (i + 1) m' H') ∧ ∀ x H', J.yld i H x H' → g x (wipe σ vs) H' fun σ2 H2 => wipe σ2 vs = wipe σ vs ∧ tt σ2 H2 fun b H3 =>
    if b = true then te σ2 H3 fun y H4 => ∃ (k : Str) (l : List Str), y = .str k ∧ H4 D = some (TxtO w D l) ∧ l.length + 1 < scanBound ∧ Nx (upd H4 D (TxtO w D (if k ∈ l then l else k :: l))) else Nx H3)
variable {elt tg iter : Expr} {ifs : List Expr} {scope : Scope} {own : List (Str × Nat)} {pos : Pos} {wi : TI} {g : TG} {tt : TT} {te : TE}
theorem pe_scT (hc : X.calm = true) (hN : X.N.Nodup) (hi : PI X tg iter wi) (bo : BlkOk X.N X.env.scope scope own)
    (hg : ∀ (s : Shared) (H : Hp) (C : Addr) (cl : List (Str × Addr)) (fp : List Addr), PG (X.blk s H scope (compEnvC scope cl C X.env) fp) tg g)
    (ht : ∀ (s : Shared) (H : Hp) (C : Addr) (cl : List (Str × Addr)) (fp : List Addr), PTs (X.blk s H scope (compEnvC scope cl C X.env) fp) ifs tt)
    (hv : ∀ (s : Shared) (H : Hp) (C : Addr) (cl : List (Str × Addr)) (fp : List Addr), PE (X.blk s H scope (compEnvC scope cl C X.env) fp) elt te)
    (hs : ∀ x, foldedSetIterable iter X.env x = pure x := by intro _; rfl) : PE X (.SetComp elt [⟨tg, iter, ifs, 0⟩] scope pos) (tScT X.w wi g tt te (own.map (·.2))) := by
  constructor
  intro pins s σ H Q I0 want
  rw [PpSet.eval_SetComp]
  have clo : ∀ y ∈ scope.names, y.2 = .free → ∃ c, X.env.cells.lookup y.1 = some c := by
    intro y hy ey
    exact (bo.free y hy ey).elim (fun k => I0.ok.has _ (.inl k)) (fun k => I0.ok.has _ (.inr k))
  refine wpAny_comprehension_free rfl hs (closure_ok clo) bo.kind (fun y hy ey => by rw [bo.uniq y hy, ey]) (thn (hi.run pins s σ H _ I0 want) fun _ _ w1 => thn w1 fun itv sA got => ?_)
  obtain ⟨it, fp, tn, J, HA, rfl, IA, T, stA, fA, ask⟩ := got
  refine PpSet.newSet_ok (newEnv_comp ?_)
  obtain ⟨D, eD⟩ : ∃ D, sA.heap.objs.size = D := ⟨_, rfl⟩
  rw [eD]
  have freshD : HA D = none := IA.hok.fresh (Nat.le_of_eq eD)
  obtain ⟨W, ⟨m0, start0⟩, turn⟩ := ask D freshD
  obtain ⟨sB, eB⟩ : ∃ sB : Shared, ({ sA with heap := sA.heap.push { cls := .type "set", dict := none, data := .set #[] 0 (.fresh 0 0 (!X.w.params.followText "set-order")) } } : Shared) = sB := ⟨_, rfl⟩
  have hB : sB.heap = sA.heap.push { cls := .type "set", dict := none, data := .set #[] 0 (.fresh 0 0 (!X.w.params.followText "set-order")) } := by rw [← eB]
  have IB : Inv X pins σ (upd HA D (TxtO X.w D [])) sB := by
    subst eB
    exact IA.laid (t' := sA.toks) (fun b o e => Heap.get?_push_of_some _ e) (Nat.le_of_eq eD) (txtO_ok (eD ▸ txt_new X.w))
  have older : ∀ b ∈ fp, b < sA.heap.objs.size := by
    intro b hb
    obtain ⟨o, e, _⟩ := T.obj 0 _ stA b hb
    exact Heap.lt_size e
  have fB : ∀ b ∈ fp, FpOk X pins (upd HA D (TxtO X.w D [])) b ∧ b < sB.heap.objs.size := by
    intro b hb
    have lt := older b hb
    refine ⟨⟨?_, (fA b hb).2⟩, ?_⟩
    · rw [upd_ne (Nat.ne_of_lt (eD ▸ lt))]
      exact (fA b hb).1
    · rw [hB, Heap.size_push]
      exact Nat.lt_succ_of_lt lt
  have stB : tn 0 sB.heap := T.keep 0 _ _ stA fun b _ o e => hB ▸ Heap.get?_push_of_some _ e
  have IC := block_start IB bo hN fB
  obtain ⟨HB, eH⟩ : ∃ HB, upd HA D (TxtO X.w D []) = HB := ⟨_, rfl⟩
  rw [eH] at IB fB IC start0
  have qg := hg sB HB sB.heap.objs.size (cellsFrom (sB.heap.objs.size + 1) scope.names (cloFrom X.env.cells scope.names [])) fp
  have qt := ht sB HB sB.heap.objs.size (cellsFrom (sB.heap.objs.size + 1) scope.names (cloFrom X.env.cells scope.names [])) fp
  have qv := hv sB HB sB.heap.objs.size (cellsFrom (sB.heap.objs.size + 1) scope.names (cloFrom X.env.cells scope.names [])) fp
  have stayC : ∀ b o, sB.heap.get? b = some o → (pushCells (sB.heap.push { cls := .type "dict", data := .dict #[] }) scope.names).get? b = some o := fun b o e => pushCells_keeps _ _ _ _ (Heap.get?_push_of_some _ e)
  have locs : (compEnvC scope (cellsFrom (sB.heap.objs.size + 1) scope.names (cloFrom X.env.cells scope.names [])) sB.heap.objs.size X.env).locals = sB.heap.objs.size := rfl
  rw [eB]
  show codeAny _ _ (.compStart (.SetComp elt [⟨tg, iter, ifs, 0⟩] scope pos) 0 (.ref it) (.ref D) (compEnvC scope (cellsFrom (sB.heap.objs.size + 1) scope.names (cloFrom X.env.cells scope.names [])) sB.heap.objs.size X.env)) _ { sB with heap := pushCells (sB.heap.push { cls := .type "dict", data := .dict #[] }) scope.names }
  revert IC qg qt qv locs
  generalize compEnvC scope (cellsFrom (sB.heap.objs.size + 1) scope.names (cloFrom X.env.cells scope.names [])) sB.heap.objs.size X.env = ce
  intro IC qg qt qv locs
  obtain ⟨sC, eC⟩ : ∃ sC : Shared, ({ sB with heap := pushCells (sB.heap.push { cls := .type "dict", data := .dict #[] }) scope.names } : Shared) = sC := ⟨_, rfl⟩
  rw [eC] at IC ⊢
  have hC : ∀ b o, sB.heap.get? b = some o → sC.heap.get? b = some o := fun b o e => by rw [← eC]; exact stayC b o e
  have stC : tn 0 sC.heap := T.keep 0 _ _ stB fun b _ o e => hC b o e
  have nfp : ∀ b ∈ fp, HB b = none := fun b hb => (fB b hb).1.1
  have calm : ∀ {τ : L2.St} {G : Hp} {z : Shared}, Inv (X.blk sB HB scope ce fp) [] τ G z → (∀ b ∈ fp, G b = none) → ∀ b ∈ fp, FpOk (X.blk sB HB scope ce fp) [] G b := by
    intro τ G z IZ none b hb
    exact ⟨none b hb, (IZ.ok.exf b hb).1, IZ.ok.exfs b hb, .inl hb, fun x c e => (IZ.ok.exf b hb).2 x c e, fun q hq => (List.not_mem_nil (show q ∈ ([] : List (Addr × Obj)) from hq)).elim⟩
  refine PpSet.codeAny_compStart_set ?loop (T.self X.A 0 _ _ _ stC ?loop)
  refine PpSet.compLoopS_any (fun n z => ∃ i G, Inv (X.blk sB HB scope ce fp) [] (wipe σ (own.map (·.2))) G z ∧ tn i z.heap ∧ (∀ b ∈ fp, G b = none) ∧ W i n G) ?_ m0 ⟨0, HB, IC, stC, nfp, start0⟩
  rintro n z1 ⟨i, G1, I1, st1, n1, w1⟩
  rcases turn i n G1 w1 with ⟨stop, fin⟩ | ⟨go, Nx, less, step⟩
  · have over := T.done (X.blk sB HB scope ce fp) rfl rfl rfl hc i [] z1 _ G1 (fun _ _ => False) I1 (calm I1 n1) st1 stop
    refine thnF over fun r z2 ⟨er, I2⟩ => ?_
    subst er
    have back : Inv X pins σ G1 z2 := IB.call' (ch := fp) I2.os I2.base I2.hok I2.bare fun b hb => ⟨(fB b hb).1.2.2.2.1, (fB b hb).1.2.1, (fB b hb).1.2.2.2.2.1, (fB b hb).1.2.2.2.2.2⟩
    have noC : G1 sB.heap.objs.size = none := locs ▸ I2.free
    obtain ⟨m, ns, _⟩ := I2.loc
    have ns' : z2.heap.Ns sB.heap.objs.size m := locs ▸ ns
    show compPost _ _ _ _ _ _ sB.heap.objs.size _ _
    refine ⟨m, ns', fun h2 sb => ?_⟩
    obtain ⟨a0, a1, a2, a3, a4, a5⟩ := IB.fpOk (Nat.le_refl _) noC
    exact ⟨.ref D, G1, back.turned (t' := z2.toks) (fun b o hb e => (sb.2 b hb).trans e) a0 a1 a3 a4 a5, rfl, fin⟩
  · have next := T.item (X.blk sB HB scope ce fp) rfl rfl rfl hc i [] z1 _ G1 (fun _ _ => False) I1 (calm I1 n1) st1 go
    refine thnF next fun r z2 ⟨u, er, w2⟩ => ?_
    subst er
    refine thnF w2 fun _ z3 ⟨x, G3, I3, r3, y3, st3, n3⟩ => ?_
    have I3p := I3.pinned (calm I3 n3) (T.obj _ _ st3)
    refine thnF (qg.run _ z3 _ G3 x u _ I3p r3 (step x G3 y3)) fun _ z4 ⟨τ, G4, I4, same, q4⟩ => ?_
    refine thnF (qt.run _ z4 τ G4 _ I4 q4) fun b z5 ⟨G5, I5, q5⟩ => ?_
    have again : ∀ {z : Shared} {G : Hp}, Inv (X.blk sB HB scope ce fp) ([] ++ pinsAt fp z3.heap) τ G z → Nx G → ∃ m, m < n ∧ ∃ i G, Inv (X.blk sB HB scope ce fp) [] (wipe σ (own.map (·.2))) G z ∧ tn i z.heap ∧ (∀ b ∈ fp, G b = none) ∧ W i m G := by
      intro z G IZ nx
      obtain ⟨m, lt, wz⟩ := less G nx
      have held : ∀ b ∈ fp, ∀ o, z3.heap.get? b = some o → z.heap.get? b = some o ∧ G b = none := by
        intro b hb o e
        have := IZ.pin (b, o) (List.mem_append_right _ (List.mem_append_right _ (mem_pinsAt hb e)))
        exact ⟨this.1, this.2.1⟩
      have ln : (wipe σ (own.map (·.2))).length = τ.length := by rw [← same, wipe_length]
      refine ⟨m, lt, i + 1, G, (IZ.unpinned (pins := [])).weak ln (fun k v e => (wipe_some (same ▸ e)).1), T.keep _ _ _ st3 fun b hb o e => (held b hb o e).1, fun b hb => ?_, wz⟩
      obtain ⟨o, e, _⟩ := T.obj _ _ st3 b hb
      exact (held b hb o e).2
    cases b with
    | false =>
      rw [if_neg Bool.false_ne_true] at q5 ⊢
      exact again I5 q5
    | true =>
      rw [if_pos rfl] at q5 ⊢
      refine thnF (qv.run _ z5 τ G5 _ I5 q5) fun c z6 ⟨yv, G6, I6, r6, k, l, ey, hD6, few, nx⟩ => ?_
      subst ey
      obtain ⟨tk, rfl⟩ := r6
      have R : TxtSet X.w z6.heap D l := (I6.hok D _ hD6).1
      exact txt_add R few fun h' sb new => again (I6.write (e := D) (t' := z6.toks + 1) (by rw [hD6]; trivial) (.inl rfl) (fun b u hb hu => (sb.2 b hb).trans hu) new.obj (txtO_ok new)) nx
end
theorem i_sortT {w : World} {a : Addr} {l : List Str} {H : Hp} {Q : VK} (ha : H a = some (TxtO w a l)) (h64 : l.length < 64) (h : ∀ (ys : List Str) (p : Addr), ys.Perm l → sortedS ys = true → H p = none → Q (.ref p) (upd H p (.lst (ys.map V.str)))) : rSortT w [.ref a] H Q := ⟨a, l, rfl, ha, h64, h⟩
end KB

set_option maxHeartbeats 4000000
/-! KM: what the laws of this program have in common: words, values, names, numbers as texts, frames' keys, the law's box and form, bounds of data. -/
namespace KB
open PySem PySem.Spec PyProof.Rows L2
theorem fresh_of {H H' : Hp} {p : Addr} (s : Same H H') (h : H' p = none) : H p = none := by
  cases e : H p with
  | none => rfl
  | some o => rw [s _ _ e] at h; cases h
def isWholeD : PyData → Bool | .int _ => true | _ => false
def isWithinD : PyData → Int → Int → Bool | .int i, a, b => decide (a ≤ i) && decide (i ≤ b) | _, _, _ => false
def vLow : Str := "abcdefghijklmnopqrstuvwxyz"
def vFig : Str := "0123456789"
def vSigns : Str := vLow ++ vFig
def isValueS (s : Str) : Bool := decide (1 ≤ s.length) && decide (s.length ≤ 12) && s.cps.toList.all fun c => decide (c ∈ vSigns.cps.toList)
def isValueD : PyData → Bool | .str s => isValueS s | _ => false
def Sm (s : Str) : Prop := s.length ≤ 1000000
theorem Sm.z {s : Str} (h : Sm s) : s.length ≤ sizeLine := Nat.le_trans h (by decide)
def okS : PyData → Prop | .str s => Sm s | _ => True
def ownV : List V := [.str "all", .str "key", .str "days", .str "turns", .str "last", .str "ends", .str "now", .str "both", .str "either", .str "but", .str "let", .str "bar", .str "frame", .str "find", .str "known", .str "ask"]
def isNameS (s : Str) : Bool := decide (1 ≤ s.length) && decide (s.length ≤ 8) && !inV (.str s) ownV && s.cps.toList.all fun c => decide (c ∈ vLow.cps.toList)
def wordS (s : Str) : Bool := decide (1 ≤ s.length) && decide (s.length ≤ 3) && (s.cps.toList.all fun c => decide (c ∈ vFig.cps.toList)) && !(!decide (s = "0") && Txt.startswith s "0")
def wordN (s : Str) : Int := (PySem.intText? s).getD 0
theorem fig_mem {c : Nat} : c ∈ vFig.cps.toList ↔ 48 ≤ c ∧ c ≤ 57 := by
  have e : vFig.cps.toList = [48, 49, 50, 51, 52, 53, 54, 55, 56, 57] := by decide +kernel
  rw [e]
  simp only [List.mem_cons, List.not_mem_nil, or_false]
  omega
theorem word_int {s : Str} (h : wordS s = true) : PySem.intText? s = some (wordN s) := by
  simp only [wordS, Bool.and_eq_true, decide_eq_true_iff] at h
  obtain ⟨⟨⟨h1, h2⟩, h3⟩, h4⟩ := h
  have hd : PySem.NumText.AllDigits s.cps.toList := fun c hc => by
    have := List.all_eq_true.mp h3 c hc
    exact fig_mem.mp (of_decide_eq_true this)
  have hn : s.cps.toList ≠ [] := fun e => by
    have : s.cps.size = 0 := by rw [← Array.length_toList, e]; rfl
    have h1' : 1 ≤ s.cps.size := h1
    omega
  have e := PySem.intText_digits hd hn (by omega)
  unfold wordN
  rw [e]; rfl
def numV : Option Int → V | none => .non | some n => .int n
def numD : Option Int → PyData | Option.none => PyData.none | Option.some n => PyData.int n
theorem im_num {H : Hp} (o : Option Int) : Im H (numV o) (numD o) := by cases o <;> constructor
def okKeys (ks : List Str) : Bool := decide (1 ≤ ks.length) && decide (ks.length ≤ 12) && ks.all isNameS && decide ks.Nodup
structure Fr where
  keys : List Str
  days : Int
  turns : Int
structure okF (F : Fr) : Prop where
  keys : okKeys F.keys = true
  d1 : 1 ≤ F.days
  d2 : F.days ≤ 400
  t1 : 1 ≤ F.turns
  t2 : F.turns ≤ 400
theorem flat_strs (ks : List Str) : (ks.map V.str).all flatV = true := by
  rw [List.all_map, List.all_eq_true]; intro x _; rfl
theorem inV_strs (s : Str) (ks : List Str) : inV (.str s) (ks.map V.str) = decide (s ∈ ks) := by
  unfold inV
  rw [List.any_map, Bool.eq_iff_iff, List.any_eq_true, decide_eq_true_iff]
  constructor
  · rintro ⟨x, hx, e⟩
    have e' : (x == s) = true := e
    rw [← eq_of_beq e']; exact hx
  · intro h
    exact ⟨s, h, show (s == s) = true from beq_self_eq_true s⟩
inductive Sd (H : Hp) : V → PyData → Prop
  | im {v : V} {d : PyData} : Im H v d → Sd H v d
  | lst {a : Addr} {vs : List V} {ds : List PyData} : H a = some (.lst vs) → ImAll H vs ds → Sd H (.ref a) (.list ds)
  | dic {a : Addr} : H a = some (.dK []) → Sd H (.ref a) (.dict [])
theorem Sd.dr {H : Hp} {v : V} {d : PyData} (h : Sd H v d) : Dr H v d := by
  cases h with
  | im h => exact h.dr
  | lst h a => exact .lst h a.dr
  | dic h => exact .dic h
theorem Sd.mono {H H' : Hp} {v : V} {d : PyData} (s : Same H H') (h : Sd H v d) : Sd H' v d := by
  cases h with
  | im h => exact .im (h.mono (Same.tq s))
  | lst h a => exact .lst (s _ _ h) (a.mono (Same.tq s))
  | dic h => exact .dic (s _ _ h)
def sN (i : Int) : Str := toString i
theorem sN_lt : ∀ n < 401, (sN (n : Nat)).length ≤ 4 ∧ (sN (-(n : Nat))).length ≤ 4 := by decide +kernel
theorem sN_len {i : Int} (h : i.natAbs ≤ 400) : (sN i).length ≤ 4 := by
  rcases Int.natAbs_eq i with e | e
  · rw [e]; exact (sN_lt _ (by omega)).1
  · rw [e]; exact (sN_lt _ (by omega)).2
theorem log_le {i : Int} (h : i.natAbs ≤ 400) : i.natAbs.log2 < 1920 := by
  rcases Nat.eq_zero_or_pos i.natAbs with e | e
  · rw [e]; decide
  · exact Nat.lt_of_le_of_lt (Nat.log2_le_self _) (by omega)
theorem okF_name {F : Fr} (h : okF F) {k : Str} (hk : k ∈ F.keys) : isNameS k = true := by
  have h1 := h.keys
  simp only [okKeys, Bool.and_eq_true] at h1
  exact List.all_eq_true.mp h1.1.2 k hk
theorem okF_k8 {F : Fr} (h : okF F) {k : Str} (hk : k ∈ F.keys) : k.length ≤ 8 := by
  have h1 := okF_name h hk
  simp only [isNameS, Bool.and_eq_true, decide_eq_true_iff] at h1
  exact h1.1.1.2
theorem okF_key {F : Fr} (h : okF F) {k : Str} (hk : k ∈ F.keys) : Sm k := Nat.le_trans (okF_k8 h hk) (by decide)
theorem value_len {v : Str} (h : isValueS v = true) : v.length ≤ 12 := by
  simp only [isValueS, Bool.and_eq_true, decide_eq_true_iff] at h
  exact h.1.2
theorem drop_get {α : Type} : ∀ {xs : List α} {i : Nat} {x : α}, xs[i]? = some x → xs.drop i = x :: xs.drop (i + 1)
  | y :: ys, 0, x, h => by cases h; rfl
  | y :: ys, i + 1, x, h => by
    rw [List.drop_succ_cons, List.drop_succ_cons]
    exact drop_get (by simpa using h)
def Box (H : Hp) (b : Addr) : Prop := ∃ i j k : Int, H b = some (.lst [.int i, .int j, .int k]) ∧ 0 ≤ i ∧ 0 ≤ j
theorem Box.tq {b : Addr} {H H' : Hp} (x : Box H b) (s : SameBut b H H') : Tq H H' := by
  obtain ⟨i, j, k, h, _⟩ := x
  exact s.tq h
theorem Box.same {b : Addr} {H H' : Hp} (x : Box H b) (s : Same H H') : Box H' b := by
  obtain ⟨i, j, k, h, r⟩ := x
  exact ⟨i, j, k, s _ _ h, r⟩
theorem Box.keep {b a : Addr} {H H' : Hp} {o : HO} (x : Box H b) (s : SameBut b H H') (h : H a = some o) (n : ∀ i j k : Int, o ≠ .lst [.int i, .int j, .int k]) : H' a = some o := by
  obtain ⟨i, j, k, hb, _⟩ := x
  exact s a o (fun e => by rw [e, hb] at h; exact n i j k (Option.some.inj h).symm) h
def Form (H : Hp) (v : V) (F : Fr) : Prop := ∃ f kl, v = .ref f ∧ H f = some (.lst [.ref kl, .int F.days, .int F.turns]) ∧ H kl = some (.lst (F.keys.map V.str))
theorem Form.mono {H H' : Hp} {v : V} {F : Fr} (s : Same H H') (h : Form H v F) : Form H' v F := by
  obtain ⟨f, kl, e, h1, h2⟩ := h
  exact ⟨f, kl, e, s _ _ h1, s _ _ h2⟩
theorem strs_ne {ks : List Str} {i j k : Int} : HO.lst (ks.map V.str) ≠ HO.lst [.int i, .int j, .int k] := by
  intro e
  cases ks with
  | nil => cases e
  | cons a r => injection e with e; injection e with e1 e2; cases e1
theorem Form.but {H H' : Hp} {v : V} {F : Fr} {b : Addr} (x : Box H b) (s : SameBut b H H') (h : Form H v F) : Form H' v F := by
  obtain ⟨f, kl, e, h1, h2⟩ := h
  exact ⟨f, kl, e, x.keep s h1 (fun _ _ _ => nofun), x.keep s h2 (fun _ _ _ => strs_ne)⟩
structure okFs (F : Fr) : Prop where
  ok : okF F
  d7 : F.days ≤ 7
  t8 : F.turns ≤ 8
  k3 : F.keys.length ≤ 3
def vals : List Str := ["r", "x1", "7"]
def numS (w : Str) (m : Int) : Option Int := if wordS w = true then (if wordN w < m then some (wordN w) else none) else none
def okD : Nat → PyData → Prop
  | 0, _ => False
  | _ + 1, .none => True
  | _ + 1, .bool _ => True
  | _ + 1, .int _ => True
  | _ + 1, .str s => Sm s
  | n + 1, .list ds => ds.length ≤ 2000000 ∧ ∀ d ∈ ds, okD n d
  | n + 1, .tuple ds => ds.length ≤ 2000000 ∧ ∀ d ∈ ds, okD n d
  | _ + 1, .dict _ => False
theorem okD_up : ∀ (n : Nat) (d : PyData), okD n d → okD (n + 1) d
  | 0, d, h => by cases d <;> exact (show False from h).elim
  | n + 1, d, h => by
    cases d with
    | none => exact h
    | bool b => exact h
    | int i => exact h
    | str s => exact h
    | list ds => exact ⟨h.1, fun d hd => okD_up n d (h.2 d hd)⟩
    | tuple ds => exact ⟨h.1, fun d hd => okD_up n d (h.2 d hd)⟩
    | dict ds => exact h
theorem filter_none {l : List Nat} {p : Nat → Bool} (h : l.all p = true) : (l.filter fun c => !p c) = [] := by
  rw [List.filter_eq_nil_iff]
  intro c hc
  rw [List.all_eq_true.mp h c hc]
  exact Bool.false_ne_true
theorem all_of_filter {l : List Nat} {p : Nat → Bool} (h : (l.filter fun c => !p c).length = 0) : l.all p = true := by
  rw [List.all_eq_true]
  intro c hc
  have e := List.eq_nil_of_length_eq_zero h
  rw [List.filter_eq_nil_iff] at e
  have := e c hc
  simpa using this
theorem i_idx {K : PySem.W.Frag} {H : Hp} {Q : VK} {a : Addr} {ks : List Str} {s : Str} (ha : SqL K H a (ks.map V.str)) (hs : s ∈ ks) (q : Q (.int (ks.idxOf s : Nat)) H) : rIndex K (.ref a) [.str s] H Q := by
  obtain ⟨h1, h2⟩ := idxOf_first hs
  refine ⟨a, ks.map V.str, .str s, ks.idxOf s, .str s, rfl, rfl, ha, rfl, flat_strs ks, by rw [List.getElem?_map, h1]; rfl, ?_, fun m z hm hz => ?_, q⟩
  · exact beq_self_eq_true s
  · rw [List.getElem?_map] at hz
    obtain ⟨y, hy, rfl⟩ := Option.map_eq_some_iff.mp hz
    have ne : y ≠ s := fun e => h2 m hm (by rw [hy, e])
    exact beq_false_of_ne ne
theorem wordS_sN : ∀ n < 400, wordS (sN (n : Nat)) = true := by decide +kernel
theorem wordN_sN {n : Int} (h0 : 0 ≤ n) (h1 : n ≤ 399) : wordN (sN n) = n := by
  unfold wordN
  rw [show PySem.intText? (sN n) = some n from PySem.W.KIN.num_reads h0 (by omega)]
  rfl
theorem wordS_sN' {n : Int} (h0 : 0 ≤ n) (h1 : n ≤ 399) : wordS (sN n) = true := by
  obtain ⟨m, rfl⟩ := Int.eq_ofNat_of_zero_le h0
  exact wordS_sN m (by omega)
theorem fin1 : ∀ a < 10, sN ((a : Nat) : Int) = ⟨#[48 + a]⟩ := by decide +kernel
theorem fin2 : ∀ a < 10, a ≠ 0 → ∀ b < 10, sN ((10 * a + b : Nat) : Int) = ⟨#[48 + a, 48 + b]⟩ := by decide +kernel
theorem fin3 : ∀ a < 10, a ≠ 0 → ∀ b < 10, ∀ c < 10, sN ((100 * a + 10 * b + c : Nat) : Int) = ⟨#[48 + a, 48 + b, 48 + c]⟩ := by decide +kernel
theorem word_back {s : Str} (h : wordS s = true) : sN (wordN s) = s := by
  have hw := word_int h
  simp only [wordS, Bool.and_eq_true, decide_eq_true_iff] at h
  obtain ⟨⟨⟨h1, h2⟩, h3⟩, h4⟩ := h
  have hd : PySem.NumText.AllDigits s.cps.toList := fun c hc => fig_mem.mp (of_decide_eq_true (List.all_eq_true.mp h3 c hc))
  have hn : s.cps.toList ≠ [] := fun e => by
    have : s.cps.size = 0 := by rw [← Array.length_toList, e]; rfl
    have h1' : 1 ≤ s.cps.size := h1
    omega
  have e := PySem.intText_digits hd hn (by omega)
  rw [hw] at e
  have e' := Option.some.inj e
  rw [e']
  have h2' : s.cps.toList.length ≤ 3 := by rw [Array.length_toList]; exact h2
  have lead : ∀ c r, s.cps.toList = c :: r → r ≠ [] → c ≠ 48 := by
    intro c r es hr hc
    have st : Txt.startswith s "0" = true := by rw [starts0 (c := c) (by rw [es]; rfl), decide_eq_true hc]
    have n0 : ¬ s = "0" := fun e => by
      rw [e] at es
      have : (Str.ofString "0").cps.toList = [48] := by decide +kernel
      rw [this] at es
      injection es with _ es
      exact hr es.symm
    rw [st, decide_eq_false n0] at h4
    cases h4
  obtain ⟨⟨L⟩⟩ := s
  match L, hd, h2', lead with
  | [], _, _, _ => exact absurd rfl hn
  | [a], hd, _, _ =>
    have ha := hd a (List.mem_singleton.mpr rfl)
    have := fin1 (a - 48) (by omega)
    show sN ((0 * 10 + (a - 48) : Nat) : Int) = _
    rw [show 0 * 10 + (a - 48) = a - 48 from by omega, this, show 48 + (a - 48) = a from by omega]
  | [a, b], hd, _, lead =>
    have ha := hd a (by simp)
    have hb := hd b (by simp)
    have l := lead a [b] rfl (by simp)
    have := fin2 (a - 48) (by omega) (by omega) (b - 48) (by omega)
    show sN (((0 * 10 + (a - 48)) * 10 + (b - 48) : Nat) : Int) = _
    rw [show (0 * 10 + (a - 48)) * 10 + (b - 48) = 10 * (a - 48) + (b - 48) from by omega, this, show 48 + (a - 48) = a from by omega, show 48 + (b - 48) = b from by omega]
  | [a, b, c], hd, _, lead =>
    have ha := hd a (by simp)
    have hb := hd b (by simp)
    have hc := hd c (by simp)
    have l := lead a [b, c] rfl (by simp)
    have := fin3 (a - 48) (by omega) (by omega) (b - 48) (by omega) (c - 48) (by omega)
    show sN ((((0 * 10 + (a - 48)) * 10 + (b - 48)) * 10 + (c - 48) : Nat) : Int) = _
    rw [show ((0 * 10 + (a - 48)) * 10 + (b - 48)) * 10 + (c - 48) = 100 * (a - 48) + 10 * (b - 48) + (c - 48) from by omega, this, show 48 + (a - 48) = a from by omega, show 48 + (b - 48) = b from by omega, show 48 + (c - 48) = c from by omega]
  | _ :: _ :: _ :: _ :: _, _, h, _ => simp at h
theorem numD_int {o : Option Int} {n : Int} (h : numD o = .int n) : o = some n := by
  cases o with
  | none => cases h
  | some m => cases h; rfl
theorem low_eq : vLow.cps.toList = [97, 98, 99, 100, 101, 102, 103, 104, 105, 106, 107, 108, 109, 110, 111, 112, 113, 114, 115, 116, 117, 118, 119, 120, 121, 122] := by decide +kernel
theorem low_gt {c : Nat} (h : c ∈ vLow.cps.toList) : 97 ≤ c ∧ c ≤ 122 := by
  rw [low_eq] at h
  simp only [List.mem_cons, List.not_mem_nil, or_false] at h
  omega
theorem signs_gt {c : Nat} (h : c ∈ vSigns.cps.toList) : 48 ≤ c ∧ c ≤ 122 := by
  unfold vSigns at h
  rw [Str.cps_append, Array.toList_append] at h
  rcases List.mem_append.mp h with h | h
  · have := low_gt h; omega
  · have := fig_mem.mp h; omega
def Dark (s : Str) : Prop := ∀ c ∈ s.cps.toList, 33 ≤ c ∧ c ≤ 200
theorem dark_name {k : Str} (h : isNameS k = true) : Dark k := by
  intro c hc
  simp only [isNameS, Bool.and_eq_true] at h
  have := low_gt (of_decide_eq_true (List.all_eq_true.mp h.2 c hc))
  omega
theorem dark_value {k : Str} (h : isValueS k = true) : Dark k := by
  intro c hc
  simp only [isValueS, Bool.and_eq_true] at h
  have := signs_gt (of_decide_eq_true (List.all_eq_true.mp h.2 c hc))
  omega
theorem dark_word {k : Str} (h : wordS k = true) : Dark k := by
  intro c hc
  simp only [wordS, Bool.and_eq_true] at h
  have := fig_mem.mp (of_decide_eq_true (List.all_eq_true.mp h.1.2 c hc))
  omega
theorem dark_num {n : Int} (h0 : 0 ≤ n) (h1 : n ≤ 399) : Dark (sN n) := dark_word (wordS_sN' h0 h1)
instance (s : Str) : Decidable (Dark s) := by unfold Dark; infer_instance
theorem dark_nothing : Dark "nothing" := by decide +kernel
theorem dark_known : Dark "known" := by decide +kernel
theorem blank_eq : TL.tl " " = 32 :: [] := by decide +kernel
theorem feed_eq : TL.tl "\n" = 10 :: [] := by decide +kernel
theorem dark_no {s : Str} (h : Dark s) {c : Nat} (hc : c ≤ 32) : c ∉ TL.tl s := fun m => by
  have := h c m
  omega
theorem join_no {c : Nat} {sep : Str} (hs : c ∉ TL.tl sep) : ∀ ws : List Str, (∀ w ∈ ws, c ∉ TL.tl w) → c ∉ TL.tl (Str.join sep ws)
  | [], _ => by intro m; exact absurd m (by simp [Str.join, Str.empty, TL.tl])
  | [w], h => h w (List.mem_singleton.mpr rfl)
  | a :: b :: r, h => by
    have ih := join_no hs (b :: r) fun w hw => h w (List.mem_cons_of_mem _ hw)
    intro m
    have m' : c ∈ (a ++ sep ++ Str.join sep (b :: r)).cps.toList := m
    rw [Str.cps_append, Str.cps_append, Array.toList_append, Array.toList_append] at m'
    rcases List.mem_append.mp m' with m' | m'
    · rcases List.mem_append.mp m' with m' | m'
      · exact h a List.mem_cons_self m'
      · exact hs m'
    · exact ih m'
def isNameD : PyData → Bool | .str s => isNameS s | _ => false
/-- a number of up to three figures, at most m -/
def plainS (m : Int) (s : Str) : Option Int := if wordS s = true then (if wordN s > m then none else some (wordN s)) else none
theorem wordN_nonneg {w : Str} (h : wordS w = true) : 0 ≤ wordN w := by
  have hw' := h
  simp only [wordS, Bool.and_eq_true, decide_eq_true_iff] at hw'
  obtain ⟨⟨⟨h1, h2⟩, h3⟩, h4⟩ := hw'
  have hd : PySem.NumText.AllDigits w.cps.toList := fun c hc => fig_mem.mp (of_decide_eq_true (List.all_eq_true.mp h3 c hc))
  have hn : w.cps.toList ≠ [] := fun e => by
    have : w.cps.size = 0 := by rw [← Array.length_toList, e]; rfl
    have h1' : 1 ≤ w.cps.size := h1
    omega
  have e := PySem.intText_digits hd hn (by omega)
  unfold wordN
  rw [e]
  exact Int.natCast_nonneg _
theorem plain_nonneg {w : Str} {m n : Int} (h : plainS m w = some n) : 0 ≤ n ∧ n ≤ m := by
  unfold plainS at h
  split at h
  · rename_i hw
    split at h
    · cases h
    · cases h
      exact ⟨wordN_nonneg hw, by omega⟩
  · cases h
theorem plain_sN {n m : Int} (h0 : 0 ≤ n) (h1 : n ≤ 400) (hm : n ≤ m) : plainS m (sN n) = some n := by
  obtain ⟨k, rfl⟩ := Int.eq_ofNat_of_zero_le h0
  have hw : wordS (sN (k : Nat)) = true := by
    rcases (by omega : k < 400 ∨ k = 400) with h | h
    · exact wordS_sN k h
    · subst h; decide +kernel
  have hn : wordN (sN (k : Nat)) = (k : Nat) := by
    unfold wordN
    rw [show PySem.intText? (sN (k : Nat)) = some ((k : Nat) : Int) from PySem.W.KIN.num_reads h0 (by omega)]
    rfl
  unfold plainS
  rw [if_pos hw, hn, if_neg (by omega)]
theorem plain_back {s : Str} {m n : Int} (h : plainS m s = some n) : s = sN n := by
  unfold plainS at h
  split at h
  · rename_i hw
    split at h
    · cases h
    · cases h
      exact (word_back hw).symm
  · cases h
theorem dark_num4 {n : Int} (h0 : 0 ≤ n) (h1 : n ≤ 400) : Dark (sN n) := by
  rcases (by omega : n ≤ 399 ∨ n = 400) with h | rfl
  · exact dark_num h0 h
  · decide +kernel
/-- C's __init__ sets the field f -/
def sp_init (f C : Str) (K : PySem.W.Frag) : Sp := sp2 fun self x H Q E => ∃ a, self = .ref a ∧ H a = some (exo a (He.ga K C) none) ∧ ∀ dx, H dx = none → dx ≠ a → Q .non (upd (upd H dx (exd dx [(f, x)])) a (exo a (He.ga K C) (some dx)))
theorem mkO_init {K : PySem.W.Frag} {f C : Str} {x : V} {E : XK} {H : Hp} (h : ∀ H2 d, Same H H2 → H d = none → H2 d = some (.xd [(f, x)]) → E (.ref (He.ga K C)) (some d) H2) : [x].length ≤ 1000 ∧ ∀ a, H a = none → sp_init f C K (.ref a :: ([x] ++ [])) (upd H a (exo a (He.ga K C) none))
    (fun v H2 => v = .non ∧ ∃ (d : Addr) (fs : List (Str × V)), H2 a = some (exo a (He.ga K C) (some d)) ∧ H2 d = some (exd d fs) ∧ H d = none ∧ E (.ref (He.ga K C)) (some d) (upd (del H2 a) d (.xd fs))) (fun _ _ _ => False) := by
  refine ⟨by show 1 ≤ 1000; decide, fun a ha => ⟨_, _, rfl, a, rfl, upd_same, fun dx hdx hn => ⟨rfl, dx, [(f, x)], upd_same, ?_, ?_, ?_⟩⟩⟩
  · rw [upd_ne hn, upd_same]
  · rw [upd_ne hn] at hdx; exact hdx
  · have hdx' : H dx = none := by rw [upd_ne hn] at hdx; exact hdx
    refine h _ dx (fun b o hb => ?_) hdx' upd_same
    have n1 : b ≠ dx := ne_of_none hb hdx'
    have n2 : b ≠ a := ne_of_none hb ha
    rw [upd_ne n1, del_ne n2, upd_ne n2, upd_ne n1, upd_ne n2]
    exact hb
/-- what an own exception tells: its field f holds v -/
def XOwn (C f : Str) (K : PySem.W.Frag) (E : XK) (H : Hp) (v : V) : Prop := ∀ (H' : Hp) (d : Addr) (fs : List (Str × V)), Same H H' → H d = none → H' d = some (.xd fs) → fs.lookup f = some v → E (.ref (He.ga K C)) (some d) H'
theorem XOwn.at {C f : Str} {K : PySem.W.Frag} {E : XK} {H H' : Hp} {v : V} (h : XOwn C f K E H v) (s : Same H H') : XOwn C f K E H' v := fun H2 d fs s2 hd e l => h H2 d fs (s.trans s2) (fresh_of s hd) e l
theorem XOwn.mk {C f : Str} {K : PySem.W.Frag} {E : XK} {H : Hp} {v : V} (h : XOwn C f K E H v) : ∀ H2 d, Same H H2 → H d = none → H2 d = some (.xd [(f, v)]) → E (.ref (He.ga K C)) (some d) H2 := fun H2 d s hd e => h H2 d _ s hd e (by
  show (match f == f with | true => some v | false => none) = some v
  rw [beq_self_eq_true])
theorem box_ne {H : Hp} {x p : Addr} (b : Box H x) (h : H p = none) : p ≠ x := fun e => by
  obtain ⟨i, j, k, hb, _⟩ := b
  rw [e, hb] at h
  cases h
theorem box_neV {H : Hp} {x p : Addr} (b : Box H x) (h : H p = none) : V.ref p ≠ V.ref x := fun e => box_ne b h (by injection e)
theorem SameBut.old {x : Addr} {H0 H H' : Hp} (s : SameBut x H H') (s0 : Same H0 H) (n : H0 x = none) : Same H0 H' := fun a o h => s a o (ne_of_none h n) (s0 a o h)
theorem if_tell {c : Bool} {ta tb : TE} {σ : L2.St} {H : Hp} {Q : VK} (P : VK → Prop) (h1 : P Q → ta σ H Q) (h2 : P Q → tb σ H Q) (h : P Q) : if c = true then ta σ H Q else tb σ H Q := by
  cases c
  · rw [if_neg Bool.false_ne_true]; exact h2 h
  · rw [if_pos rfl]; exact h1 h
theorem okD_tup {n : Nat} {ds : List PyData} (hl : ds.length ≤ 2000000) (h : ∀ d ∈ ds, okD n d) : okD (n + 1) (.tuple ds) := ⟨hl, h⟩
theorem okD_lst {n : Nat} {ds : List PyData} (hl : ds.length ≤ 2000000) (h : ∀ d ∈ ds, okD n d) : okD (n + 1) (.list ds) := ⟨hl, h⟩
theorem strOk_small {k : Str} (h : ∀ c ∈ k.cps.toList, c < 1000) : PyData.strOk k = true := by
  unfold PyData.strOk
  rw [← Array.all_toList, List.all_eq_true]
  intro c hc
  have := h c hc
  exact decide_eq_true (by omega)
end KB

set_option maxHeartbeats 4000000
/-! KF: formulas, as data and as words. -/
namespace KB
open PySem PySem.Spec PyProof.Rows L2
inductive Fm
  | is (k v : Str)
  | sil (k : Str)
  | no (f : Fm)
  | two (o : Bool) (a b : Fm)
  deriving DecidableEq
def twoW (o : Bool) : Str := if o = true then "or" else "and"
namespace Fm
def d : Fm → PyData
  | .is k v => .tuple [.str "is", .str k, .str v]
  | .sil k => .tuple [.str "silent", .str k]
  | .no f => .tuple [.str "not", f.d]
  | .two o a b => .tuple [.str (twoW o), a.d, b.d]
def ok : Fm → Bool
  | .is k v => isNameS k && isValueS v
  | .sil k => isNameS k
  | .no f => f.ok
  | .two _ a b => a.ok && b.ok
def lev : Fm → Nat
  | .is _ _ => 1
  | .sil _ => 1
  | .no f => f.lev + 1
  | .two _ a b => max a.lev b.lev + 1
def size : Fm → Nat
  | .is _ _ => 1
  | .sil _ => 1
  | .no f => f.size + 1
  | .two _ a b => a.size + b.size + 1
def leaves : Fm → List Fm
  | .is k v => [.is k v]
  | .sil k => [.sil k]
  | .no f => f.leaves
  | .two _ a b => a.leaves ++ b.leaves
def key : Fm → Str
  | .is k _ => k
  | .sil k => k
  | _ => ""
def isLeaf : Fm → Bool
  | .is _ _ => true
  | .sil _ => true
  | _ => false
def keys (f : Fm) : List Str := f.leaves.map key
def kids : Fm → List Fm
  | .no f => [f]
  | .two _ a b => [a, b]
  | _ => []
def word : Fm → Str
  | .is _ _ => "is"
  | .sil _ => "silent"
  | .no _ => "not"
  | .two o _ _ => twoW o
theorem lev_pos : ∀ f : Fm, 1 ≤ f.lev
  | .is _ _ => Nat.le_refl _
  | .sil _ => Nat.le_refl _
  | .no f => Nat.le_add_left ..
  | .two _ a b => Nat.le_add_left ..
theorem size_pos : ∀ f : Fm, 1 ≤ f.size
  | .is _ _ => Nat.le_refl _
  | .sil _ => Nat.le_refl _
  | .no f => Nat.le_add_left ..
  | .two _ a b => Nat.le_add_left ..
theorem leaves_pos : ∀ f : Fm, 1 ≤ f.leaves.length
  | .is _ _ => Nat.le_refl _
  | .sil _ => Nat.le_refl _
  | .no f => f.leaves_pos
  | .two _ a b => by
    have := a.leaves_pos
    show 1 ≤ (a.leaves ++ b.leaves).length
    rw [List.length_append]; omega
theorem leaves_le : ∀ f : Fm, f.leaves.length ≤ f.size
  | .is _ _ => Nat.le_refl _
  | .sil _ => Nat.le_refl _
  | .no f => Nat.le_trans f.leaves_le (Nat.le_succ _)
  | .two _ a b => by
    have h1 := a.leaves_le
    have h2 := b.leaves_le
    show (a.leaves ++ b.leaves).length ≤ a.size + b.size + 1
    rw [List.length_append]; omega
theorem size_lt : ∀ f : Fm, f.size < 2 ^ f.lev
  | .is _ _ => (by decide : 1 < 2 ^ 1)
  | .sil _ => (by decide : 1 < 2 ^ 1)
  | .no f => by
    have := f.size_lt
    show f.size + 1 < 2 ^ (f.lev + 1)
    rw [Nat.pow_succ]; omega
  | .two _ a b => by
    have h1 := a.size_lt
    have h2 := b.size_lt
    have p1 : 2 ^ a.lev ≤ 2 ^ max a.lev b.lev := Nat.pow_le_pow_right (by decide) (Nat.le_max_left _ _)
    have p2 : 2 ^ b.lev ≤ 2 ^ max a.lev b.lev := Nat.pow_le_pow_right (by decide) (Nat.le_max_right _ _)
    show a.size + b.size + 1 < 2 ^ (max a.lev b.lev + 1)
    rw [Nat.pow_succ]; omega
theorem leaf_leaves : ∀ {f : Fm} {l : Fm}, l ∈ f.leaves → l.isLeaf = true ∧ (f.ok = true → l.ok = true)
  | .is _ _, l, h => by rw [List.mem_singleton.mp h]; exact ⟨rfl, id⟩
  | .sil _, l, h => by rw [List.mem_singleton.mp h]; exact ⟨rfl, id⟩
  | .no f, l, h => leaf_leaves (f := f) h
  | .two _ a b, l, h => by
    rcases List.mem_append.mp (show l ∈ a.leaves ++ b.leaves from h) with h | h
    · exact ⟨(leaf_leaves h).1, fun z => (leaf_leaves h).2 (Bool.and_eq_true_iff.mp (show (a.ok && b.ok) = true from z)).1⟩
    · exact ⟨(leaf_leaves h).1, fun z => (leaf_leaves h).2 (Bool.and_eq_true_iff.mp (show (a.ok && b.ok) = true from z)).2⟩
/-- one more level: the children, each in brackets -/
def words : Fm → List Str
  | .is k v => ["is", k, v]
  | .sil k => ["silent", k]
  | .no f => "not" :: "(" :: (f.words ++ [(")" : Str)])
  | .two o a b => twoW o :: "(" :: (a.words ++ ((")" : Str) :: "(" :: (b.words ++ [(")" : Str)])))
end Fm
def leaf1 : PyData → Option Fm
  | .str k => if isNameS k = true then some (.sil k) else none
  | _ => none
def leaf2 : PyData → PyData → Option Fm
  | .str k, .str v => if (isNameS k && isValueS v) = true then some (.is k v) else none
  | _, _ => none
def both (o : Bool) : Option Fm → Option Fm → Option Fm
  | some x, some y => some (.two o x y)
  | _, _ => none
/-- the formula that data is, of at most n levels -/
def fmOf : Nat → PyData → Option Fm
  | n + 1, .tuple [.str w, a] => if w = "silent" then leaf1 a else if w = "not" then (fmOf n a).map Fm.no else none
  | n + 1, .tuple [.str w, a, b] => if w = "is" then leaf2 a b else if w = "and" then both false (fmOf n a) (fmOf n b) else if w = "or" then both true (fmOf n a) (fmOf n b) else none
  | _, _ => none
theorem leaf1_some {a : PyData} {f : Fm} (h : leaf1 a = some f) : ∃ k, a = .str k ∧ f = .sil k ∧ isNameS k = true := by
  unfold leaf1 at h
  split at h
  · split at h
    · rename_i k hk
      exact ⟨k, rfl, (Option.some.inj h).symm, hk⟩
    · cases h
  · cases h
theorem leaf2_some {a b : PyData} {f : Fm} (h : leaf2 a b = some f) : ∃ k v, a = .str k ∧ b = .str v ∧ f = .is k v ∧ (isNameS k && isValueS v) = true := by
  unfold leaf2 at h
  split at h
  · split at h
    · rename_i k v hk
      exact ⟨k, v, rfl, rfl, (Option.some.inj h).symm, hk⟩
    · cases h
  · cases h
theorem both_some {o : Bool} {x y : Option Fm} {f : Fm} (h : both o x y = some f) : ∃ a b, x = some a ∧ y = some b ∧ f = .two o a b := by
  unfold both at h
  split at h
  · exact ⟨_, _, rfl, rfl, (Option.some.inj h).symm⟩
  · cases h
theorem fm_shape {n : Nat} {d : PyData} {f : Fm} (h : fmOf n d = some f) : ∃ m, n = m + 1 ∧ ((∃ w a, d = .tuple [.str w, a]) ∨ ∃ w a b, d = .tuple [.str w, a, b]) := by
  unfold fmOf at h
  split at h
  · exact ⟨_, rfl, .inl ⟨_, _, rfl⟩⟩
  · exact ⟨_, rfl, .inr ⟨_, _, _, rfl⟩⟩
  · cases h
def hasForm (n : Nat) (d : PyData) : Bool := (fmOf n d).isSome
theorem ne_sil_not : ¬ (("not" : Str) = "silent") := by decide +kernel
theorem ne_and_is : ¬ (("and" : Str) = "is") := by decide +kernel
theorem ne_or_is : ¬ (("or" : Str) = "is") := by decide +kernel
theorem ne_or_and : ¬ (("or" : Str) = "and") := by decide +kernel
theorem twoW_t : twoW true = "or" := rfl
theorem twoW_f : twoW false = "and" := rfl
theorem fmOf_some : ∀ {n : Nat} {d : PyData} {f : Fm}, fmOf n d = some f → d = f.d ∧ f.ok = true ∧ f.lev ≤ n
  | 0, d, f, h => by
    obtain ⟨m, hm, _⟩ := fm_shape h
    cases hm
  | n + 1, d, f, h => by
    obtain ⟨_, _, ⟨w, a, rfl⟩ | ⟨w, a, b, rfl⟩⟩ := fm_shape h
    · have h' : (if w = "silent" then leaf1 a else if w = "not" then (fmOf n a).map Fm.no else none) = some f := h
      by_cases h1 : w = "silent"
      · rw [if_pos h1] at h'
        obtain ⟨k, rfl, rfl, hk⟩ := leaf1_some h'
        subst h1
        exact ⟨rfl, hk, Nat.le_add_left ..⟩
      · rw [if_neg h1] at h'
        by_cases h2 : w = "not"
        · rw [if_pos h2] at h'
          obtain ⟨g, hg, rfl⟩ := Option.map_eq_some_iff.mp h'
          obtain ⟨e1, e2, e3⟩ := fmOf_some hg
          subst h2 e1
          exact ⟨rfl, e2, Nat.succ_le_succ e3⟩
        · rw [if_neg h2] at h'
          cases h'
    · have h' : (if w = "is" then leaf2 a b else if w = "and" then both false (fmOf n a) (fmOf n b) else if w = "or" then both true (fmOf n a) (fmOf n b) else none) = some f := h
      have two : ∀ {o : Bool}, both o (fmOf n a) (fmOf n b) = some f → w = twoW o → PyData.tuple [.str w, a, b] = f.d ∧ f.ok = true ∧ f.lev ≤ n + 1 := by
        intro o hb hw
        obtain ⟨x, y, hx, hy, rfl⟩ := both_some hb
        obtain ⟨a1, a2, a3⟩ := fmOf_some hx
        obtain ⟨b1, b2, b3⟩ := fmOf_some hy
        subst hw a1 b1
        exact ⟨rfl, Bool.and_eq_true_iff.mpr ⟨a2, b2⟩, Nat.succ_le_succ (Nat.max_le.mpr ⟨a3, b3⟩)⟩
      by_cases h1 : w = "is"
      · rw [if_pos h1] at h'
        obtain ⟨k, v, rfl, rfl, rfl, hk⟩ := leaf2_some h'
        subst h1
        exact ⟨rfl, hk, Nat.le_add_left ..⟩
      · rw [if_neg h1] at h'
        by_cases h2 : w = "and"
        · rw [if_pos h2] at h'
          exact two h' h2
        · rw [if_neg h2] at h'
          by_cases h3 : w = "or"
          · rw [if_pos h3] at h'
            exact two h' h3
          · rw [if_neg h3] at h'
            cases h'
theorem fmOf_of : ∀ {f : Fm} {n : Nat}, f.ok = true → f.lev ≤ n → fmOf n f.d = some f
  | f, 0, _, h => absurd (Nat.le_trans f.lev_pos h) (by decide)
  | .is k v, n + 1, h, _ => by
    have h' : (isNameS k && isValueS v) = true := h
    show (if ("is" : Str) = "is" then (if (isNameS k && isValueS v) = true then some (Fm.is k v) else none) else _) = _
    rw [if_pos rfl, if_pos h']
  | .sil k, n + 1, h, _ => by
    have h' : isNameS k = true := h
    show (if ("silent" : Str) = "silent" then (if isNameS k = true then some (Fm.sil k) else none) else _) = _
    rw [if_pos rfl, if_pos h']
  | .no f, n + 1, h, hl => by
    show (if ("not" : Str) = "silent" then _ else if ("not" : Str) = "not" then (fmOf n f.d).map Fm.no else none) = _
    rw [if_neg ne_sil_not, if_pos rfl, fmOf_of (f := f) h (Nat.le_of_succ_le_succ hl)]
    rfl
  | .two o a b, n + 1, h, hl => by
    obtain ⟨h1, h2⟩ := Bool.and_eq_true_iff.mp (show (a.ok && b.ok) = true from h)
    obtain ⟨l1, l2⟩ := Nat.max_le.mp (Nat.le_of_succ_le_succ (show max a.lev b.lev + 1 ≤ n + 1 from hl))
    cases o with
    | false =>
      show (if ("and" : Str) = "is" then _ else if ("and" : Str) = "and" then both false (fmOf n a.d) (fmOf n b.d) else _) = _
      rw [if_neg ne_and_is, if_pos rfl, fmOf_of h1 l1, fmOf_of h2 l2]
      rfl
    | true =>
      show (if ("or" : Str) = "is" then _ else if ("or" : Str) = "and" then _ else if ("or" : Str) = "or" then both true (fmOf n a.d) (fmOf n b.d) else _) = _
      rw [if_neg ne_or_is, if_neg ne_or_and, if_pos rfl, fmOf_of h1 l1, fmOf_of h2 l2]
      rfl
theorem hasForm_of {f : Fm} {n : Nat} (h : f.ok = true) (hl : f.lev ≤ n) : hasForm n f.d = true := by
  unfold hasForm
  rw [fmOf_of h hl]
  rfl
theorem hasForm_ex {d : PyData} {n : Nat} (h : hasForm n d = true) : ∃ f : Fm, d = f.d ∧ f.ok = true ∧ f.lev ≤ n ∧ fmOf n d = some f := by
  obtain ⟨f, hf⟩ := Option.isSome_iff_exists.mp h
  obtain ⟨h1, h2, h3⟩ := fmOf_some hf
  exact ⟨f, h1, h2, h3, hf⟩
/-! ### as the program asks it -/
theorem hf_zero (d : PyData) : hasForm 0 d = false := by unfold hasForm fmOf; rfl
section
variable {n : Nat} {w : Str} {a b : PyData}
theorem hf_short {ds : List PyData} (h : ds.length < 2) : hasForm n (.tuple ds) = false := by
  cases n with
  | zero => exact hf_zero _
  | succ n =>
    match ds, h with
    | [], _ => rfl
    | [x], _ => cases x <;> rfl
theorem hf_first {x : PyData} {ds : List PyData} (h : isStrD x = false) : hasForm n (.tuple (x :: ds)) = false := by
  cases n with
  | zero => exact hf_zero _
  | succ n =>
    cases x with
    | str s => cases h
    | _ =>
      match ds with
      | [] => rfl
      | [_] => rfl
      | [_, _] => rfl
      | _ :: _ :: _ :: _ => rfl
theorem hf_long {c d : PyData} {ds : List PyData} : hasForm n (.tuple (c :: a :: b :: d :: ds)) = false := by
  cases n with
  | zero => exact hf_zero _
  | succ n => cases c <;> rfl
theorem hf_sil2 (h : w = "silent") : hasForm (n + 1) (.tuple [.str w, a]) = isNameD a := by
  unfold hasForm
  show (if w = "silent" then leaf1 a else _).isSome = _
  rw [if_pos h]
  cases a with
  | str k =>
    show (if isNameS k = true then some (Fm.sil k) else none).isSome = isNameS k
    cases isNameS k <;> rfl
  | _ => rfl
theorem hf_not2 (h0 : ¬ w = "silent") (h : w = "not") : hasForm (n + 1) (.tuple [.str w, a]) = hasForm n a := by
  unfold hasForm
  show (if w = "silent" then _ else if w = "not" then (fmOf n a).map Fm.no else none).isSome = _
  rw [if_neg h0, if_pos h, Option.isSome_map]
theorem hf_else2 (h0 : ¬ w = "silent") (h : ¬ w = "not") : hasForm (n + 1) (.tuple [.str w, a]) = false := by
  unfold hasForm
  show (if w = "silent" then _ else if w = "not" then (fmOf n a).map Fm.no else none).isSome = _
  rw [if_neg h0, if_neg h]
  rfl
theorem hf_is3 (h : w = "is") : hasForm (n + 1) (.tuple [.str w, a, b]) = (isNameD a && isValueD b) := by
  unfold hasForm
  show (if w = "is" then leaf2 a b else _).isSome = _
  rw [if_pos h]
  cases a with
  | str k =>
    cases b with
    | str v =>
      show (if (isNameS k && isValueS v) = true then some (Fm.is k v) else none).isSome = (isNameS k && isValueS v)
      cases (isNameS k && isValueS v) <;> rfl
    | _ => exact (Bool.and_false _).symm
  | _ => rfl
theorem hf_two3 (h0 : ¬ w = "is") (h : w = "and" ∨ w = "or") : hasForm (n + 1) (.tuple [.str w, a, b]) = (hasForm n a && hasForm n b) := by
  unfold hasForm
  show (if w = "is" then _ else if w = "and" then both false (fmOf n a) (fmOf n b) else if w = "or" then both true (fmOf n a) (fmOf n b) else none).isSome = _
  rw [if_neg h0]
  by_cases h1 : w = "and"
  · rw [if_pos h1]
    cases fmOf n a <;> cases fmOf n b <;> rfl
  · rw [if_neg h1]
    rcases h with h | h
    · exact absurd h h1
    · rw [if_pos h]
      cases fmOf n a <;> cases fmOf n b <;> rfl
theorem hf_else3 (h0 : ¬ w = "is") (h : ¬ (w = "and" ∨ w = "or")) : hasForm (n + 1) (.tuple [.str w, a, b]) = false := by
  unfold hasForm
  show (if w = "is" then _ else if w = "and" then _ else if w = "or" then _ else none).isSome = _
  rw [if_neg h0, if_neg (fun e => h (.inl e)), if_neg (fun e => h (.inr e))]
  rfl
end
/-! ### formulas of at most six levels and leaves -/
def formOf (d : PyData) : Option Fm := match fmOf 6 d with | some f => if f.leaves.length ≤ 6 then some f else none | none => none
def isFormD (d : PyData) : Bool := (formOf d).isSome
structure FmOk (f : Fm) : Prop where
  ok : f.ok = true
  lev : f.lev ≤ 6
  six : f.leaves.length ≤ 6
theorem FmOk.size {f : Fm} (h : FmOk f) : f.size < 64 := Nat.lt_of_lt_of_le f.size_lt (Nat.pow_le_pow_right (by decide) h.lev)
theorem formOf_some {d : PyData} {f : Fm} : formOf d = some f ↔ d = f.d ∧ FmOk f := by
  unfold formOf
  constructor
  · intro h
    split at h
    · rename_i g hg
      split at h
      · cases h
        rename_i h6
        obtain ⟨h1, h2, h3⟩ := fmOf_some hg
        exact ⟨h1, h2, h3, h6⟩
      · cases h
    · cases h
  · rintro ⟨rfl, h1, h2, h3⟩
    rw [fmOf_of h1 h2]
    show (if f.leaves.length ≤ 6 then some f else none) = some f
    rw [if_pos h3]
theorem isForm_of {f : Fm} (h : FmOk f) : isFormD f.d = true := by
  unfold isFormD
  rw [formOf_some.mpr ⟨rfl, h⟩]
  rfl
theorem isForm_ex {d : PyData} (h : isFormD d = true) : ∃ f : Fm, d = f.d ∧ FmOk f := by
  obtain ⟨f, hf⟩ := Option.isSome_iff_exists.mp h
  exact ⟨f, formOf_some.mp hf⟩
theorem isForm_eq (d : PyData) : isFormD d = (hasForm 6 d && (match fmOf 6 d with | some f => decide (f.leaves.length ≤ 6) | none => false)) := by
  unfold isFormD formOf hasForm
  cases fmOf 6 d with
  | none => rfl
  | some f =>
    show (if f.leaves.length ≤ 6 then some f else none).isSome = (true && decide (f.leaves.length ≤ 6))
    by_cases h : f.leaves.length ≤ 6
    · rw [if_pos h, decide_eq_true h]; rfl
    · rw [if_neg h, decide_eq_false h]; rfl
/-- what is a formula's data is immutable -/
theorem Fm.im : ∀ {f : Fm} {H : Hp} {v : V}, Dr H v f.d → Im H v f.d
  | .is _ _, H, v, h => by
    cases h with
    | tup h a =>
      cases a with
      | cons h1 a => cases a with
        | cons h2 a => cases a with
          | cons h3 a => cases a; cases h1; cases h2; cases h3; exact .tup h (.cons (.str _) (.cons (.str _) (.one (.str _))))
  | .sil _, H, v, h => by
    cases h with
    | tup h a =>
      cases a with
      | cons h1 a => cases a with
        | cons h2 a => cases a; cases h1; cases h2; exact .tup h (.cons (.str _) (.one (.str _)))
  | .no f, H, v, h => by
    cases h with
    | tup h a =>
      cases a with
      | cons h1 a => cases a with
        | cons h2 a => cases a; cases h1; exact .tup h (.cons (.str _) (.one (Fm.im h2)))
  | .two o a b, H, v, h => by
    cases h with
    | tup h a =>
      cases a with
      | cons h1 a => cases a with
        | cons h2 a => cases a with
          | cons h3 a => cases a; cases h1; exact .tup h (.cons (.str _) (.cons (Fm.im h2) (.one (Fm.im h3))))
/-- bounds of a formula's data -/
theorem Fm.okD_at : ∀ {f : Fm}, f.ok = true → ∀ n, f.lev ≤ n → okD (n + 1) f.d
  | .is k v, h, n, hl => by
    obtain ⟨h1, h2⟩ := Bool.and_eq_true_iff.mp (show (isNameS k && isValueS v) = true from h)
    cases n with
    | zero => exact absurd (show 1 ≤ 0 from hl) (by decide)
    | succ n =>
      refine okD_tup (by simp) fun d hd => ?_
      simp only [List.mem_cons, List.not_mem_nil, or_false] at hd
      rcases hd with rfl | rfl | rfl
      · exact (by decide +kernel : (Str.ofString "is").length ≤ 1000000)
      · have : k.length ≤ 8 := by simp only [isNameS, Bool.and_eq_true, decide_eq_true_iff] at h1; exact h1.1.1.2
        exact Nat.le_trans this (by decide)
      · exact Nat.le_trans (value_len h2) (by decide)
  | .sil k, h, n, hl => by
    cases n with
    | zero => exact absurd (show 1 ≤ 0 from hl) (by decide)
    | succ n =>
      refine okD_tup (by simp) fun d hd => ?_
      simp only [List.mem_cons, List.not_mem_nil, or_false] at hd
      rcases hd with rfl | rfl
      · exact (by decide +kernel : (Str.ofString "silent").length ≤ 1000000)
      · have h1 : isNameS k = true := h
        have : k.length ≤ 8 := by simp only [isNameS, Bool.and_eq_true, decide_eq_true_iff] at h1; exact h1.1.1.2
        exact Nat.le_trans this (by decide)
  | .no f, h, n, hl => by
    cases n with
    | zero => exact absurd hl (Nat.not_succ_le_zero _)
    | succ n =>
      refine okD_tup (by simp) fun d hd => ?_
      simp only [List.mem_cons, List.not_mem_nil, or_false] at hd
      rcases hd with rfl | rfl
      · exact (by decide +kernel : (Str.ofString "not").length ≤ 1000000)
      · exact Fm.okD_at (f := f) h n (Nat.le_of_succ_le_succ hl)
  | .two o a b, h, n, hl => by
    obtain ⟨h1, h2⟩ := Bool.and_eq_true_iff.mp (show (a.ok && b.ok) = true from h)
    cases n with
    | zero => exact absurd hl (Nat.not_succ_le_zero _)
    | succ n =>
      obtain ⟨l1, l2⟩ := Nat.max_le.mp (Nat.le_of_succ_le_succ (show max a.lev b.lev + 1 ≤ n + 1 from hl))
      refine okD_tup (by simp) fun d hd => ?_
      simp only [List.mem_cons, List.not_mem_nil, or_false] at hd
      rcases hd with rfl | rfl | rfl
      · show Sm (twoW o)
        cases o
        · exact (by decide +kernel : (Str.ofString "and").length ≤ 1000000)
        · exact (by decide +kernel : (Str.ofString "or").length ≤ 1000000)
      · exact Fm.okD_at h1 n l1
      · exact Fm.okD_at h2 n l2
end KB

set_option maxHeartbeats 4000000
/-! KP: formulas and questions read from words: the program's way and the law's way are one. -/
namespace KB
open PySem PySem.Spec PyProof.Rows L2
abbrev Rd1 : Type := Option (Fm × List Str)
def isP : List Str → Rd1
  | k :: v :: r => some (.is k v, r)
  | _ => none
def silP : List Str → Rd1
  | k :: r => some (.sil k, r)
  | _ => none
def shut : Rd1 → Rd1
  | some (f, c :: r) => if c = ")" then some (f, r) else none
  | _ => none
/-- a part in brackets -/
def part (p : List Str → Rd1) : List Str → Rd1
  | o :: r => if o = "(" then shut (p r) else none
  | [] => none
def noP (x : Rd1) : Rd1 := match x with | some (f, r) => some (.no f, r) | none => none
def twoP (o : Bool) (p : List Str → Rd1) (r : List Str) : Rd1 := match part p r with
  | some (a, r1) => (match part p r1 with | some (b, r2) => some (.two o a b, r2) | none => none)
  | none => none
def headP (pi ps pr : List Str → Rd1) : List Str → Rd1
  | w :: r => if w = "is" then pi r else if w = "silent" then ps r else if w = "not" then noP (part pr r) else if w = "and" then twoP false pr r else if w = "or" then twoP true pr r else none
  | [] => none
/-- the program's reader: n brackets deep at most -/
def parse : Nat → List Str → Rd1
  | 0, _ => none
  | n + 1, ws => headP isP silP (parse n) ws
def isL : List Str → Rd1
  | k :: v :: r => if (isNameS k && isValueS v) = true then some (.is k v, r) else none
  | _ => none
def silL : List Str → Rd1
  | k :: r => if isNameS k = true then some (.sil k, r) else none
  | _ => none
/-- the law's reader: n levels at most -/
def lparse : Nat → List Str → Rd1
  | 0, _ => none
  | n + 1, ws => headP isL silL (lparse n) ws
theorem shut_some {x : Rd1} {f : Fm} {r : List Str} (h : shut x = some (f, r)) : x = some (f, (")" : Str) :: r) := by
  unfold shut at h
  split at h
  · split at h
    · rename_i hc
      cases h
      rw [hc]
    · cases h
  · cases h
theorem part_some {p : List Str → Rd1} {ws : List Str} {f : Fm} {r : List Str} (h : part p ws = some (f, r)) : ∃ r1, ws = ("(" : Str) :: r1 ∧ p r1 = some (f, (")" : Str) :: r) := by
  cases ws with
  | nil => cases h
  | cons o r1 =>
    have h' : (if o = "(" then shut (p r1) else none) = some (f, r) := h
    by_cases ho : o = "("
    · rw [if_pos ho] at h'
      exact ⟨r1, by rw [ho], shut_some h'⟩
    · rw [if_neg ho] at h'
      cases h'
theorem part_of {p : List Str → Rd1} {f : Fm} {r r1 : List Str} (h : p r1 = some (f, (")" : Str) :: r)) : part p (("(" : Str) :: r1) = some (f, r) := by
  show (if ("(" : Str) = "(" then shut (p r1) else none) = _
  rw [if_pos rfl, h]
  show (if (")" : Str) = ")" then some (f, r) else none) = _
  rw [if_pos rfl]
theorem noP_some {x : Rd1} {f : Fm} {r : List Str} (h : noP x = some (f, r)) : ∃ g, x = some (g, r) ∧ f = .no g := by
  unfold noP at h
  split at h
  · cases h; exact ⟨_, rfl, rfl⟩
  · cases h
theorem twoP_some {o : Bool} {p : List Str → Rd1} {ws : List Str} {f : Fm} {r : List Str} (h : twoP o p ws = some (f, r)) : ∃ a b r1, part p ws = some (a, r1) ∧ part p r1 = some (b, r) ∧ f = .two o a b := by
  unfold twoP at h
  split at h
  · rename_i a r1 h1
    split at h
    · rename_i b r2 h2
      cases h
      exact ⟨a, b, r1, h1, h2, rfl⟩
    · cases h
  · cases h
theorem headP_some {pi ps pr : List Str → Rd1} {ws : List Str} {f : Fm} {r : List Str} (h : headP pi ps pr ws = some (f, r)) : ∃ w r1, ws = w :: r1 ∧
    ((w = "is" ∧ pi r1 = some (f, r)) ∨ (w = "silent" ∧ ps r1 = some (f, r)) ∨ (w = "not" ∧ noP (part pr r1) = some (f, r)) ∨ ∃ o, w = twoW o ∧ twoP o pr r1 = some (f, r)) := by
  cases ws with
  | nil => cases h
  | cons w r1 =>
    refine ⟨w, r1, rfl, ?_⟩
    have h' : (if w = "is" then pi r1 else if w = "silent" then ps r1 else if w = "not" then noP (part pr r1) else if w = "and" then twoP false pr r1 else if w = "or" then twoP true pr r1 else none) = some (f, r) := h
    by_cases h1 : w = "is"
    · rw [if_pos h1] at h'; exact .inl ⟨h1, h'⟩
    rw [if_neg h1] at h'
    by_cases h2 : w = "silent"
    · rw [if_pos h2] at h'; exact .inr (.inl ⟨h2, h'⟩)
    rw [if_neg h2] at h'
    by_cases h3 : w = "not"
    · rw [if_pos h3] at h'; exact .inr (.inr (.inl ⟨h3, h'⟩))
    rw [if_neg h3] at h'
    by_cases h4 : w = "and"
    · rw [if_pos h4] at h'; exact .inr (.inr (.inr ⟨false, h4, h'⟩))
    rw [if_neg h4] at h'
    by_cases h5 : w = "or"
    · rw [if_pos h5] at h'; exact .inr (.inr (.inr ⟨true, h5, h'⟩))
    rw [if_neg h5] at h'
    cases h'
theorem headP_cons {pi ps pr : List Str → Rd1} {w : Str} {r : List Str} : headP pi ps pr (w :: r) = (if w = "is" then pi r else if w = "silent" then ps r else if w = "not" then noP (part pr r) else if w = "and" then twoP false pr r else if w = "or" then twoP true pr r else none) := rfl
section
variable {pi ps pr : List Str → Rd1} {r : List Str}
theorem head_is : headP pi ps pr (("is" : Str) :: r) = pi r := by
  rw [headP_cons, if_pos rfl]
theorem head_sil : headP pi ps pr (("silent" : Str) :: r) = ps r := by
  rw [headP_cons, if_neg (by decide +kernel), if_pos rfl]
theorem head_not : headP pi ps pr (("not" : Str) :: r) = noP (part pr r) := by
  rw [headP_cons, if_neg (by decide +kernel), if_neg (by decide +kernel), if_pos rfl]
theorem head_two (o : Bool) : headP pi ps pr (twoW o :: r) = twoP o pr r := by
  cases o with
  | false =>
    show headP pi ps pr (("and" : Str) :: r) = _
    rw [headP_cons, if_neg (by decide +kernel), if_neg (by decide +kernel), if_neg (by decide +kernel), if_pos rfl]
  | true =>
    show headP pi ps pr (("or" : Str) :: r) = _
    rw [headP_cons, if_neg (by decide +kernel), if_neg (by decide +kernel), if_neg (by decide +kernel), if_neg (by decide +kernel), if_pos rfl]
theorem head_else {w : Str} (h1 : ¬ w = "is") (h2 : ¬ w = "silent") (h3 : ¬ w = "not") (h4 : ¬ w = "and") (h5 : ¬ w = "or") : headP pi ps pr (w :: r) = none := by
  rw [headP_cons, if_neg h1, if_neg h2, if_neg h3, if_neg h4, if_neg h5]
end
/-- what is read are the words of what is read -/
theorem parse_words : ∀ {n : Nat} {ws : List Str} {f : Fm} {r : List Str}, parse n ws = some (f, r) → ws = f.words ++ r
  | 0, ws, f, r, h => by cases h
  | n + 1, ws, f, r, h0 => by
    obtain ⟨w, r1, rfl, ⟨rfl, h⟩ | ⟨rfl, h⟩ | ⟨rfl, h⟩ | ⟨o, rfl, h⟩⟩ := headP_some (show headP isP silP (parse n) ws = some (f, r) from h0)
    · unfold isP at h
      split at h
      · cases h; rfl
      · cases h
    · unfold silP at h
      split at h
      · cases h; rfl
      · cases h
    · obtain ⟨g, hg, rfl⟩ := noP_some h
      obtain ⟨r2, rfl, h2⟩ := part_some hg
      rw [parse_words h2]
      simp [Fm.words]
    · obtain ⟨a, b, r2, ha, hb, rfl⟩ := twoP_some h
      obtain ⟨r3, rfl, h3⟩ := part_some ha
      obtain ⟨r4, rfl, h4⟩ := part_some hb
      rw [parse_words h3, parse_words h4]
      simp [Fm.words]
theorem lparse_words : ∀ {n : Nat} {ws : List Str} {f : Fm} {r : List Str}, lparse n ws = some (f, r) → ws = f.words ++ r ∧ f.ok = true ∧ f.lev ≤ n
  | 0, ws, f, r, h => by cases h
  | n + 1, ws, f, r, h0 => by
    obtain ⟨w, r1, rfl, ⟨rfl, h⟩ | ⟨rfl, h⟩ | ⟨rfl, h⟩ | ⟨o, rfl, h⟩⟩ := headP_some (show headP isL silL (lparse n) ws = some (f, r) from h0)
    · unfold isL at h
      split at h
      · split at h
        · rename_i hk
          cases h; exact ⟨rfl, hk, Nat.le_add_left ..⟩
        · cases h
      · cases h
    · unfold silL at h
      split at h
      · split at h
        · rename_i hk
          cases h; exact ⟨rfl, hk, Nat.le_add_left ..⟩
        · cases h
      · cases h
    · obtain ⟨g, hg, rfl⟩ := noP_some h
      obtain ⟨r2, rfl, h2⟩ := part_some hg
      obtain ⟨e1, e2, e3⟩ := lparse_words h2
      exact ⟨by rw [e1]; simp [Fm.words], e2, Nat.succ_le_succ e3⟩
    · obtain ⟨a, b, r2, ha, hb, rfl⟩ := twoP_some h
      obtain ⟨r3, rfl, h3⟩ := part_some ha
      obtain ⟨r4, rfl, h4⟩ := part_some hb
      obtain ⟨e1, e2, e3⟩ := lparse_words h3
      obtain ⟨g1, g2, g3⟩ := lparse_words h4
      exact ⟨by rw [e1, g1]; simp [Fm.words], Bool.and_eq_true_iff.mpr ⟨e2, g2⟩, Nat.succ_le_succ (Nat.max_le.mpr ⟨e3, g3⟩)⟩
theorem parse_of : ∀ {f : Fm} {n : Nat} {r : List Str}, f.lev ≤ n → parse n (f.words ++ r) = some (f, r)
  | f, 0, r, h => absurd (Nat.le_trans f.lev_pos h) (by decide)
  | .is k v, n + 1, r, h => head_is (r := k :: v :: r)
  | .sil k, n + 1, r, h => head_sil (r := k :: r)
  | .no f, n + 1, r, h => by
    have e : (Fm.no f).words ++ r = ("not" : Str) :: ("(" : Str) :: (f.words ++ ((")" : Str) :: r)) := by simp [Fm.words]
    rw [e]
    show headP isP silP (parse n) _ = _
    rw [head_not, part_of (parse_of (f := f) (Nat.le_of_succ_le_succ h))]
    rfl
  | .two o a b, n + 1, r, h => by
    obtain ⟨l1, l2⟩ := Nat.max_le.mp (Nat.le_of_succ_le_succ (show max a.lev b.lev + 1 ≤ n + 1 from h))
    have e : (Fm.two o a b).words ++ r = twoW o :: ("(" : Str) :: (a.words ++ ((")" : Str) :: ("(" : Str) :: (b.words ++ ((")" : Str) :: r)))) := by simp [Fm.words]
    rw [e]
    show headP isP silP (parse n) _ = _
    rw [head_two]
    unfold twoP
    rw [part_of (parse_of (f := a) l1)]
    show (match part (parse n) (("(" : Str) :: (b.words ++ ((")" : Str) :: r))) with | some (b, r2) => some (Fm.two o a b, r2) | none => none) = _
    rw [part_of (parse_of (f := b) l2)]
theorem lparse_of : ∀ {f : Fm} {n : Nat} {r : List Str}, f.ok = true → f.lev ≤ n → lparse n (f.words ++ r) = some (f, r)
  | f, 0, r, _, h => absurd (Nat.le_trans f.lev_pos h) (by decide)
  | .is k v, n + 1, r, hk, h => by
    have hk' : (isNameS k && isValueS v) = true := hk
    refine (head_is (r := k :: v :: r)).trans ?_
    show (if (isNameS k && isValueS v) = true then some (Fm.is k v, r) else none) = _
    rw [if_pos hk']
  | .sil k, n + 1, r, hk, h => by
    have hk' : isNameS k = true := hk
    refine (head_sil (r := k :: r)).trans ?_
    show (if isNameS k = true then some (Fm.sil k, r) else none) = _
    rw [if_pos hk']
  | .no f, n + 1, r, hk, h => by
    have e : (Fm.no f).words ++ r = ("not" : Str) :: ("(" : Str) :: (f.words ++ ((")" : Str) :: r)) := by simp [Fm.words]
    rw [e]
    show headP isL silL (lparse n) _ = _
    rw [head_not, part_of (lparse_of (f := f) hk (Nat.le_of_succ_le_succ h))]
    rfl
  | .two o a b, n + 1, r, hk, h => by
    obtain ⟨l1, l2⟩ := Nat.max_le.mp (Nat.le_of_succ_le_succ (show max a.lev b.lev + 1 ≤ n + 1 from h))
    obtain ⟨k1, k2⟩ := Bool.and_eq_true_iff.mp (show (a.ok && b.ok) = true from hk)
    have e : (Fm.two o a b).words ++ r = twoW o :: ("(" : Str) :: (a.words ++ ((")" : Str) :: ("(" : Str) :: (b.words ++ ((")" : Str) :: r)))) := by simp [Fm.words]
    rw [e]
    show headP isL silL (lparse n) _ = _
    rw [head_two]
    unfold twoP
    rw [part_of (lparse_of (f := a) k1 l1)]
    show (match part (lparse n) ("(" :: (b.words ++ ((")" : Str) :: r))) with | some (b, r2) => some (Fm.two o a b, r2) | none => none) = _
    rw [part_of (lparse_of (f := b) k2 l2)]
/-! ### brackets -/
def edges : Fm → Nat
  | .is _ _ => 0
  | .sil _ => 0
  | .no f => edges f + 1
  | .two _ a b => edges a + edges b + 2
def cnt (ws : List Str) : Nat := List.count (("(" : Str)) ws
theorem cnt_app (a b : List Str) : cnt (a ++ b) = cnt a + cnt b := List.count_append
theorem cnt_cons_ne {w : Str} (h : w ≠ "(") (r : List Str) : cnt (w :: r) = cnt r := List.count_cons_of_ne h
theorem cnt_cons_eq (r : List Str) : cnt (("(" : Str) :: r) = cnt r + 1 := List.count_cons_self
theorem name_ne {k : Str} (h : isNameS k = true) : k ≠ "(" := fun e => by
  rw [e] at h
  exact absurd h (by decide +kernel)
theorem value_ne {k : Str} (h : isValueS k = true) : k ≠ "(" := fun e => by
  rw [e] at h
  exact absurd h (by decide +kernel)
theorem cnt_nil : cnt [] = 0 := rfl
theorem cnt_words : ∀ {f : Fm}, f.ok = true → cnt f.words = edges f
  | .is k v, h => by
    obtain ⟨h1, h2⟩ := Bool.and_eq_true_iff.mp (show (isNameS k && isValueS v) = true from h)
    show cnt ["is", k, v] = 0
    rw [cnt_cons_ne (by decide +kernel), cnt_cons_ne (name_ne h1), cnt_cons_ne (value_ne h2)]
    rfl
  | .sil k, h => by
    show cnt ["silent", k] = 0
    rw [cnt_cons_ne (by decide +kernel), cnt_cons_ne (name_ne h)]
    rfl
  | .no f, h => by
    show cnt ("not" :: "(" :: (f.words ++ [(")" : Str)])) = _
    rw [cnt_cons_ne (by decide +kernel), cnt_cons_eq, cnt_app, cnt_words (f := f) h, cnt_cons_ne (by decide +kernel)]
    rfl
  | .two o a b, h => by
    obtain ⟨h1, h2⟩ := Bool.and_eq_true_iff.mp (show (a.ok && b.ok) = true from h)
    have ho : twoW o ≠ "(" := by cases o <;> decide +kernel
    show cnt (twoW o :: "(" :: (a.words ++ ((")" : Str) :: "(" :: (b.words ++ [(")" : Str)])))) = edges a + edges b + 2
    rw [cnt_cons_ne ho, cnt_cons_eq, cnt_app, cnt_cons_ne (by decide +kernel), cnt_cons_eq, cnt_app, cnt_cons_ne (by decide +kernel), cnt_words h1, cnt_words h2, cnt_nil]
    omega
theorem edges_len : ∀ f : Fm, 2 * edges f ≤ f.words.length
  | .is _ _ => Nat.zero_le _
  | .sil _ => Nat.zero_le _
  | .no f => by
    have := edges_len f
    simp only [edges, Fm.words, List.length_cons, List.length_append, List.length_nil]
    omega
  | .two o a b => by
    have h1 := edges_len a
    have h2 := edges_len b
    simp only [edges, Fm.words, List.length_cons, List.length_append, List.length_nil]
    omega
theorem edges_le : ∀ f : Fm, edges f + f.leaves.length ≤ f.leaves.length * f.lev
  | .is _ _ => Nat.le_refl _
  | .sil _ => Nat.le_refl _
  | .no f => by
    have h1 := edges_le f
    have h2 := f.leaves_pos
    show edges f + 1 + f.leaves.length ≤ f.leaves.length * (f.lev + 1)
    rw [Nat.mul_succ]
    omega
  | .two o a b => by
    have h1 := edges_le a
    have h2 := edges_le b
    have p1 := a.leaves_pos
    have p2 := b.leaves_pos
    have m1 : a.leaves.length * a.lev ≤ a.leaves.length * max a.lev b.lev := Nat.mul_le_mul_left _ (Nat.le_max_left _ _)
    have m2 : b.leaves.length * b.lev ≤ b.leaves.length * max a.lev b.lev := Nat.mul_le_mul_left _ (Nat.le_max_right _ _)
    show edges a + edges b + 2 + (a.leaves ++ b.leaves).length ≤ (a.leaves ++ b.leaves).length * (max a.lev b.lev + 1)
    rw [List.length_append, Nat.mul_succ, Nat.add_mul]
    omega
theorem FmOk.edges {f : Fm} (h : FmOk f) : KB.edges f ≤ 36 := by
  have h1 := edges_le f
  have h2 : f.leaves.length * f.lev ≤ 6 * 6 := Nat.mul_le_mul h.six h.lev
  omega
theorem len_words : ∀ f : Fm, f.words.length ≤ 6 * f.size
  | .is _ _ => by show 3 ≤ 6; decide
  | .sil _ => by show 2 ≤ 6; decide
  | .no f => by
    have := len_words f
    simp only [Fm.size, Fm.words, List.length_cons, List.length_append, List.length_nil]
    omega
  | .two o a b => by
    have h1 := len_words a
    have h2 := len_words b
    simp only [Fm.size, Fm.words, List.length_cons, List.length_append, List.length_nil]
    omega
theorem d_inj : ∀ {f g : Fm}, f.d = g.d → f = g := by
  have two : ∀ {a b c e : PyData}, PyData.tuple [a, b] = .tuple [c, e] → a = c ∧ b = e := fun h => by
    have h1 := PyData.tuple.inj h
    exact ⟨(List.cons.inj h1).1, (List.cons.inj (List.cons.inj h1).2).1⟩
  have three : ∀ {a b c x y z : PyData}, PyData.tuple [a, b, c] = .tuple [x, y, z] → a = x ∧ b = y ∧ c = z := fun h => by
    have h1 := PyData.tuple.inj h
    have h2 := (List.cons.inj h1).2
    exact ⟨(List.cons.inj h1).1, (List.cons.inj h2).1, (List.cons.inj (List.cons.inj h2).2).1⟩
  have no23 : ∀ {a b x y z : PyData}, PyData.tuple [a, b] = .tuple [x, y, z] → False := fun h => by
    have h1 := congrArg List.length (PyData.tuple.inj h)
    exact absurd h1 (by simp)
  intro f
  induction f with
  | is k v =>
    intro g h
    cases g with
    | is k' v' =>
      obtain ⟨_, e1, e2⟩ := three h
      rw [PyData.str.inj e1, PyData.str.inj e2]
    | two o a b =>
      obtain ⟨e, _, _⟩ := three h
      exact absurd (PyData.str.inj e) (by cases o <;> decide +kernel)
    | sil k' => exact (no23 h.symm).elim
    | no g => exact (no23 h.symm).elim
  | sil k =>
    intro g h
    cases g with
    | sil k' =>
      obtain ⟨_, e1⟩ := two h
      rw [PyData.str.inj e1]
    | no g =>
      obtain ⟨e, _⟩ := two h
      exact absurd (PyData.str.inj e) (by decide +kernel)
    | is k' v' => exact (no23 h).elim
    | two o a b => exact (no23 h).elim
  | no f ih =>
    intro g h
    cases g with
    | no g =>
      obtain ⟨_, e1⟩ := two h
      rw [ih e1]
    | sil k' =>
      obtain ⟨e, _⟩ := two h
      exact absurd (PyData.str.inj e) (by decide +kernel)
    | is k' v' => exact (no23 h).elim
    | two o a b => exact (no23 h).elim
  | two o a b iha ihb =>
    intro g h
    cases g with
    | two o' a' b' =>
      obtain ⟨e0, e1, e2⟩ := three h
      have e0 := PyData.str.inj e0
      have : o = o' := by
        cases o <;> cases o'
        · rfl
        · exact absurd e0 (by decide +kernel)
        · exact absurd e0 (by decide +kernel)
        · rfl
      rw [this, iha e1, ihb e2]
    | is k' v' =>
      obtain ⟨e, _, _⟩ := three h
      exact absurd (PyData.str.inj e) (by cases o <;> decide +kernel)
    | sil k' => exact (no23 h.symm).elim
    | no g => exact (no23 h.symm).elim
/-! ### both readers -/
def progRead (ws : List Str) : Option Fm := if cnt ws > ws.length / 2 ∨ cnt ws > 64 then none else (match parse 66 ws with | some (f, []) => formOf f.d | _ => none)
def lawRead (ws : List Str) : Option Fm := match lparse 6 ws with | some (f, []) => if f.leaves.length ≤ 6 then some f else none | _ => none
theorem progRead_iff {ws : List Str} {f : Fm} : progRead ws = some f ↔ ws = f.words ∧ FmOk f := by
  unfold progRead
  constructor
  · intro h
    split at h
    · cases h
    · split at h
      · rename_i g hg
        obtain ⟨e, hf⟩ := formOf_some.mp h
        have := d_inj e
        subst this
        have := parse_words hg
        rw [List.append_nil] at this
        exact ⟨this, hf⟩
      · cases h
  · rintro ⟨rfl, hf⟩
    have h1 := cnt_words hf.ok
    have h2 := edges_len f
    have h3 := hf.edges
    rw [if_neg (by rw [h1]; omega)]
    have := parse_of (f := f) (n := 66) (r := []) (Nat.le_trans hf.lev (by decide))
    rw [List.append_nil] at this
    rw [this]
    exact formOf_some.mpr ⟨rfl, hf⟩
theorem lawRead_iff {ws : List Str} {f : Fm} : lawRead ws = some f ↔ ws = f.words ∧ FmOk f := by
  unfold lawRead
  constructor
  · intro h
    split at h
    · rename_i g hg
      split at h
      · rename_i h6
        cases h
        obtain ⟨e1, e2, e3⟩ := lparse_words hg
        rw [List.append_nil] at e1
        exact ⟨e1, e2, e3, h6⟩
      · cases h
    · cases h
  · rintro ⟨rfl, hf⟩
    have := lparse_of (f := f) (n := 6) (r := []) hf.ok hf.lev
    rw [List.append_nil] at this
    rw [this]
    exact if_pos hf.six
theorem reads_same (ws : List Str) : progRead ws = lawRead ws := by
  cases h : lawRead ws with
  | some f => exact progRead_iff.mpr (lawRead_iff.mp h)
  | none =>
    cases h' : progRead ws with
    | none => rfl
    | some f =>
      rw [lawRead_iff.mpr (progRead_iff.mp h')] at h
      cases h
/-- words are read as one formula at most -/
theorem words_inj {f g : Fm} (h : f.words = g.words) : f = g := by
  have h1 := parse_of (f := f) (n := max f.lev g.lev) (r := []) (Nat.le_max_left _ _)
  have h2 := parse_of (f := g) (n := max f.lev g.lev) (r := []) (Nat.le_max_right _ _)
  rw [h] at h1
  rw [h1] at h2
  exact (Prod.mk.inj (Option.some.inj h2)).1
theorem read_bad {f : Fm} (h : ¬ FmOk f) : progRead f.words = none := by
  cases e : progRead f.words with
  | none => rfl
  | some g =>
    obtain ⟨e1, e2⟩ := progRead_iff.mp e
    rw [words_inj e1] at h
    exact absurd e2 h
/-! ### questions -/
def asks : List Str := ["days", "count", "first", "every", "some"]
def qD (w : Str) (f : Fm) (a b c : Int) : PyData := .tuple [.str w, f.d, .int a, .int b, .int c]
def isQuestD (F : Fr) : PyData → Bool
  | .tuple [.str w, x, a, b, c] => decide (w ∈ asks) && (match formOf x with
    | some f => f.keys.all (fun k => decide (k ∈ F.keys)) && (isWithinD b 1 F.days && (isWithinD a 0 (match b with | .int n => n - 1 | _ => 0) && isWithinD c 0 (F.turns - 1)))
    | none => false)
  | _ => false
structure QnOk (F : Fr) (w : Str) (f : Fm) (a b c : Int) : Prop where
  word : w ∈ asks
  fm : FmOk f
  keys : ∀ k ∈ f.keys, k ∈ F.keys
  b1 : 1 ≤ b
  b2 : b ≤ F.days
  a1 : 0 ≤ a
  a2 : a ≤ b - 1
  c1 : 0 ≤ c
  c2 : c ≤ F.turns - 1
theorem isQuest_q {F : Fr} {w : Str} {f : Fm} {a b c : Int} (hf : FmOk f) : isQuestD F (qD w f a b c) = true ↔ QnOk F w f a b c := by
  have e : isQuestD F (qD w f a b c) = (decide (w ∈ asks) && (f.keys.all (fun k => decide (k ∈ F.keys)) && ((decide (1 ≤ b) && decide (b ≤ F.days)) && ((decide (0 ≤ a) && decide (a ≤ b - 1)) && (decide (0 ≤ c) && decide (c ≤ F.turns - 1)))))) := by
    show (decide (w ∈ asks) && (match formOf f.d with | some f => _ | none => false)) = _
    rw [formOf_some.mpr ⟨rfl, hf⟩]
    rfl
  rw [e]
  simp only [Bool.and_eq_true, decide_eq_true_iff, List.all_eq_true]
  constructor
  · rintro ⟨h1, h2, ⟨h3, h4⟩, ⟨h5, h6⟩, h7, h8⟩
    exact ⟨h1, hf, h2, h3, h4, h5, h6, h7, h8⟩
  · rintro ⟨h1, _, h2, h3, h4, h5, h6, h7, h8⟩
    exact ⟨h1, h2, ⟨h3, h4⟩, ⟨h5, h6⟩, h7, h8⟩
theorem isQuest_ex {F : Fr} {d : PyData} (h : isQuestD F d = true) : ∃ w f a b c, d = qD w f a b c ∧ QnOk F w f a b c := by
  unfold isQuestD at h
  split at h
  · rename_i w x a b c
    obtain ⟨h1, h2⟩ := Bool.and_eq_true_iff.mp h
    split at h2
    · rename_i f hf
      obtain ⟨rfl, hfo⟩ := formOf_some.mp hf
      obtain ⟨h3, h4⟩ := Bool.and_eq_true_iff.mp h2
      obtain ⟨h5, h6⟩ := Bool.and_eq_true_iff.mp h4
      obtain ⟨h7, h8⟩ := Bool.and_eq_true_iff.mp h6
      unfold isWithinD at h5 h7 h8
      split at h5
      · split at h7
        · split at h8
          · rename_i bi _ _ ai _ _ ci _ _
            simp only [Bool.and_eq_true, decide_eq_true_iff, List.all_eq_true] at h1 h3 h5 h7 h8
            exact ⟨w, f, _, _, _, rfl, h1, hfo, h3, h5.1, h5.2, h7.1, h7.2, h8.1, h8.2⟩
          · cases h8
        · cases h7
      · cases h5
    · cases h2
  · cases h
def qWords (w : Str) (f : Fm) (a b c : Int) : List Str := [w, "days", sN a, sN b, "turn", sN c, "where"] ++ f.words
def progReadQ (F : Fr) : List Str → Option PyData
  | w0 :: w1 :: w2 :: w3 :: w4 :: w5 :: w6 :: r => if w0 ∈ asks ∧ w1 = "days" ∧ w4 = "turn" ∧ w6 = "where" then
      (match progRead r, plainS 400 w2, plainS 400 w3, plainS 400 w5 with
      | some f, some a, some b, some c => if isQuestD F (qD w0 f a b c) = true then some (qD w0 f a b c) else none
      | _, _, _, _ => none) else none
  | _ => none
def lawReadQ (F : Fr) : List Str → Option PyData
  | w0 :: w1 :: w2 :: w3 :: w4 :: w5 :: w6 :: r => if w0 ∈ asks ∧ w1 = "days" ∧ w4 = "turn" ∧ w6 = "where" then
      (match lawRead r, plainS (F.days - 1) w2, plainS F.days w3, plainS (F.turns - 1) w5 with
      | some f, some a, some b, some c => if a < b ∧ ∀ k ∈ f.keys, k ∈ F.keys then some (qD w0 f a b c) else none
      | _, _, _, _ => none) else none
  | _ => none
theorem plainS_le {m : Int} (hm : m ≤ 400) {s : Str} {n : Int} : plainS m s = some n ↔ plainS 400 s = some n ∧ n ≤ m := by
  unfold plainS
  by_cases h : wordS s = true
  · rw [if_pos h, if_pos h]
    by_cases h1 : wordN s > m
    · rw [if_pos h1]
      constructor
      · intro e; cases e
      · rintro ⟨e, hn⟩
        split at e
        · cases e
        · cases e; omega
    · rw [if_neg h1, if_neg (by omega)]
      constructor
      · intro e; cases e; exact ⟨rfl, by omega⟩
      · exact fun e => e.1
  · rw [if_neg h, if_neg h]
    constructor
    · intro e; cases e
    · exact fun e => e.1
theorem progReadQ_iff {F : Fr} (hF : okF F) {ws : List Str} {d : PyData} : progReadQ F ws = some d ↔ ∃ w f a b c, ws = qWords w f a b c ∧ d = qD w f a b c ∧ QnOk F w f a b c := by
  have l1 := hF.d2
  have l2 := hF.t2
  constructor
  · intro h
    unfold progReadQ at h
    split at h
    · rename_i w0 w1 w2 w3 w4 w5 w6 r
      split at h
      · rename_i hw
        obtain ⟨h0, rfl, rfl, rfl⟩ := hw
        split at h
        · rename_i f a b c e1 e2 e3 e4
          split at h
          · rename_i hq
            cases h
            obtain ⟨rfl, hf⟩ := progRead_iff.mp e1
            refine ⟨w0, f, a, b, c, ?_, rfl, (isQuest_q hf).mp hq⟩
            rw [plain_back e2, plain_back e3, plain_back e4]
            rfl
          · cases h
        · cases h
      · cases h
    · cases h
  · rintro ⟨w, f, a, b, c, rfl, rfl, hq⟩
    have b1 := hq.b1
    have b2 := hq.b2
    have a1 := hq.a1
    have a2 := hq.a2
    have c1 := hq.c1
    have c2 := hq.c2
    show (if w ∈ asks ∧ ("days" : Str) = "days" ∧ ("turn" : Str) = "turn" ∧ ("where" : Str) = "where" then
      (match progRead f.words, plainS 400 (sN a), plainS 400 (sN b), plainS 400 (sN c) with
      | some f, some a, some b, some c => if isQuestD F (qD w f a b c) = true then some (qD w f a b c) else none
      | _, _, _, _ => none) else none) = _
    rw [if_pos ⟨hq.word, rfl, rfl, rfl⟩, progRead_iff.mpr ⟨rfl, hq.fm⟩, plain_sN a1 (by omega) (by omega), plain_sN (by omega) (by omega) (by omega), plain_sN c1 (by omega) (by omega)]
    exact if_pos ((isQuest_q hq.fm).mpr hq)
theorem lawReadQ_iff {F : Fr} (hF : okF F) {ws : List Str} {d : PyData} : lawReadQ F ws = some d ↔ ∃ w f a b c, ws = qWords w f a b c ∧ d = qD w f a b c ∧ QnOk F w f a b c := by
  have l1 := hF.d2
  have l2 := hF.t2
  constructor
  · intro h
    unfold lawReadQ at h
    split at h
    · rename_i w0 w1 w2 w3 w4 w5 w6 r
      split at h
      · rename_i hw
        obtain ⟨h0, rfl, rfl, rfl⟩ := hw
        split at h
        · rename_i f a b c e1 e2 e3 e4
          split at h
          · rename_i hq
            cases h
            obtain ⟨rfl, hf⟩ := lawRead_iff.mp e1
            have n2 := plain_nonneg e2
            have n3 := plain_nonneg e3
            have n4 := plain_nonneg e4
            refine ⟨w0, f, a, b, c, ?_, rfl, h0, hf, hq.2, by omega, n3.2, n2.1, by omega, n4.1, n4.2⟩
            rw [plain_back e2, plain_back e3, plain_back e4]
            rfl
          · cases h
        · cases h
      · cases h
    · cases h
  · rintro ⟨w, f, a, b, c, rfl, rfl, hq⟩
    have b1 := hq.b1
    have b2 := hq.b2
    have a1 := hq.a1
    have a2 := hq.a2
    have c1 := hq.c1
    have c2 := hq.c2
    show (if w ∈ asks ∧ ("days" : Str) = "days" ∧ ("turn" : Str) = "turn" ∧ ("where" : Str) = "where" then
      (match lawRead f.words, plainS (F.days - 1) (sN a), plainS F.days (sN b), plainS (F.turns - 1) (sN c) with
      | some f, some a, some b, some c => if a < b ∧ ∀ k ∈ f.keys, k ∈ F.keys then some (qD w f a b c) else none
      | _, _, _, _ => none) else none) = _
    rw [if_pos ⟨hq.word, rfl, rfl, rfl⟩, lawRead_iff.mpr ⟨rfl, hq.fm⟩, plain_sN a1 (by omega) (by omega), plain_sN (by omega) (by omega) (by omega), plain_sN c1 (by omega) (by omega)]
    exact if_pos ⟨by omega, hq.keys⟩
theorem readsQ_same {F : Fr} (hF : okF F) (ws : List Str) : progReadQ F ws = lawReadQ F ws := by
  cases h : lawReadQ F ws with
  | some d => exact (progReadQ_iff hF).mpr ((lawReadQ_iff hF).mp h)
  | none =>
    cases h' : progReadQ F ws with
    | none => rfl
    | some d =>
      rw [(lawReadQ_iff hF).mpr ((progReadQ_iff hF).mp h')] at h
      cases h
end KB

set_option maxHeartbeats 4000000
/-! KZ: how often a text stands in a list; a tuple's items but the first, backwards; a set of texts made from a list's items. -/
namespace KB
open PySem PySem.Spec PyProof.Rows L2
/-! ### list.count of texts -/
def rCntS (K : PySem.W.Frag) : V → List V → Hp → VK → Prop := fun x xs H Q => ∃ (p : Addr) (ks : List Str) (k : Str), x = .ref p ∧ xs = [.str k] ∧ SqL K H p (ks.map V.str) ∧ Q (.int (List.count k ks : Nat)) H
theorem count_eq (k : Str) (ks : List Str) : ks.countP (fun y => decide (y = k)) = List.count k ks := by
  unfold List.count
  congr 1
section
variable {X : Cx}
theorem mt_lcountS (hu : X.A.units + 1 < cLine) : MtR X "list.count" (rCntS X.K) := by
  intro pins s σ H x xs v us Q I rx rxs h
  obtain ⟨p, ks, k, rfl, rfl, hs, q⟩ := h
  cases rx
  obtain ⟨u, rfl, ru⟩ := rxs.one
  obtain ⟨t, rfl⟩ := ru
  obtain ⟨its, rv, ht, hlen⟩ := I.list hs
  have hold : PySem.W.HoldAll s.heap its.toArray.toList ks := ⟨[], StrsAre.reads _ (Vals.strs rv)⟩
  refine PySem.W.count_list_datum (α := Str) ht.isList hold ⟨[], .str k t⟩ (by show X.A.units + 1 + 0 < cLine; omega) ?_
  rw [count_eq]
  exact ⟨.int (List.count k ks : Nat), H, I.tok _, ⟨_, rfl⟩, q⟩
theorem e_count {K : PySem.W.Frag} {o e : Expr} {to te : TE} {apos cpos : Pos} (hK : X.K = K) (hu : X.A.units + 1 < cLine) (ho : PE X o to) (he : PE X e te) (hb : attributeBase o "count" X.env (eval o X.env) = eval o X.env := by rfl) (hl : (apos.endLine == cpos.line) = true := by rfl)
    (hs : starEach [e] X.env = (false, eval e X.env) :: starEach [] X.env := by rfl) : PE X (.Call (.Attribute o "count" apos) [e] [] cpos) (tBM K "list" (rCntS K) to (tCons te tNil)) :=
  hK ▸ pe_bm PySem.F.plainAttrs_list PySem.F.slot_list_count PySem.F.type_list_count (mt_lcountS hu) ho (pa_cons he pa_nil hs) hb (by rw [hs]; rfl) hl hs rfl
end
theorem i_count {K : PySem.W.Frag} {H : Hp} {Q : VK} {p : Addr} {ks : List Str} {k : Str} (h : SqL K H p (ks.map V.str)) (q : Q (.int (List.count k ks : Nat)) H) : rCntS K (.ref p) [.str k] H Q := ⟨p, ks, k, rfl, rfl, h, q⟩
/-! ### t[:0:-1] -/
section
variable {prog : Program} {w : World} {A : Around} {E : Value → Shared → Prop} {s : Shared}
theorem sliceApplied_back {sl : Addr} {vl vu vs : Value} {n : Nat} {Q : Int × Int × Nat → Shared → Prop} (hn : 1 ≤ n) (hs : s.heap.IsSliceOf sl vl vu vs) (pl : IsPart vl none) (pu : IsPart vu (some 0)) (ps : IsPart vs (some (-1)))
    (h : Q ((n : Int) - 1, -1, n - 1) s) : wpAny (model prog w) A (Builtin.Slice.sliceApplied (.ref sl) (pure (n : Int))) Q E s := by
  obtain ⟨os, hos, hcs, hds⟩ := id hs
  unfold Builtin.Slice.sliceApplied Builtin.Slice.sliceFields
  refine wpAny_bind (wpAny_bind (wpAny_field hos hds (x := vl) rfl (wpAny_bind (wpAny_field hos hds (x := vu) rfl (wpAny_bind (wpAny_field hos hds (x := vs) rfl (wpAny_pure ?_)))))))
  refine wpAny_bind (HT.slicePart_ ps ?_)
  show wpAny _ _ (if ((-1 : Int) == 0) = true then _ else _) _ _ s
  rw [if_neg (by decide)]
  refine wpAny_bind (HT.slicePart_ pl (wpAny_bind (HT.slicePart_ pu (wpAny_bind (wpAny_pure ?_)))))
  have e1 : Builtin.Slice.sliceAdjust none (some 0) (-1) (n : Int) = ((n : Int) - 1, 0) := by
    unfold Builtin.Slice.sliceAdjust
    have h1 : (-1 : Int) < 0 := by decide
    have h2 : ¬ (0 : Int) < 0 := by decide
    simp only [h1, h2, if_true, if_false]
    refine Prod.ext rfl ?_
    show min (0 : Int) ((n : Int) - 1) = 0
    omega
  have e2 : Builtin.Slice.slicePlaces ((n : Int) - 1) 0 (-1) = n - 1 := by
    unfold Builtin.Slice.slicePlaces
    have h1 : ¬ ((-1 : Int) > 0) := by decide
    have h2 : (-(-1) : Int) = 1 := by decide
    simp only [h1, if_false, h2, Int.ediv_one]
    split <;> omega
  show wpAny _ _ (match Builtin.Slice.sliceAdjust none (some 0) (-1) (n : Int) with | (lo, hi) => pure (lo, (-1 : Int), Builtin.Slice.slicePlaces lo hi (-1))) _ _ s
  rw [e1]
  show wpAny _ _ (pure ((n : Int) - 1, (-1 : Int), Builtin.Slice.slicePlaces ((n : Int) - 1) 0 (-1))) _ _ s
  rw [e2]
  exact wpAny_pure h
theorem getItem_back {t sl : Addr} {items : Array Value} {vl vu vs : Value} {r : List Value} {Q : Value → Shared → Prop} (ht : IsTup s.heap t items) (hs : s.heap.IsSliceOf sl vl vu vs) (pl : IsPart vl none) (pu : IsPart vu (some 0)) (ps : IsPart vs (some (-1)))
    (hn : 1 ≤ items.size) (hr : ((List.range (items.size - 1)).filterMap fun (m : Nat) => items[((items.size : Int) - 1 + (m : Int) * (-1)).toNat]?) = r)
    (h : Q (.ref s.heap.objs.size) { s with heap := s.heap.push { cls := .type "tuple", data := .seq r.toArray } })
    (hsz : r.length ≤ sizeLine) : wpAny (model prog w) A (getItem (.ref t) (.ref sl)) Q E s := by
  have htake : sizeOk (.seq r.toArray) := by
    show r.toArray.size ≤ sizeLine
    rw [List.size_toArray]
    exact hsz
  obtain ⟨os, hos, hcs, hds⟩ := id hs
  have hTs : s.TypeIs (.ref sl) "slice" := ⟨os, hos, hcs⟩
  unfold getItem
  try with_reducible refine wpAny_holding ?_
  first | refine wpAny_bind (wpAny_pure ?_) | skip
  refine wpAny_bind (wpAny_sequenceKey ht.typeIs (by decide) ?_)
  refine wpAny_bind (wpAny_callSpecial?_slot (name := Str.ofString "__getitem__") ht.typeIs PyProof.Rows.slot_tuple_getitem
    (wpAny_call_entry PyProof.Rows.slot_tuple_getitem ht.typeIs entry_tuple_getitem ?_ (args_tuple_getitem _ _)))
  show wpAny _ _ (Builtin.Tuple.tupleItemsOf (.ref t) >>= _) _ _ s
  refine wpAny_bind (tupleItemsOf_ ht ?_)
  refine wpAny_bind (wpAny_typeOf hTs ?_)
  rw [if_pos (by decide)]
  refine wpAny_bind (sliceApplied_back hn hs pl pu ps ?_)
  have hno : ¬ ((((items.size : Int) - 1) == 0 && (-1 : Int) == 1 && (items.size - 1) == items.size) = true) := by
    intro q
    rw [Bool.and_eq_true, Bool.and_eq_true] at q
    exact absurd q.1.2 (by decide)
  show wpAny _ _ (if (((items.size : Int) - 1) == 0 && (-1 : Int) == 1 && (items.size - 1) == items.size) = true then _ else _) _ _ s
  rw [if_neg hno, hr]
  first
    | exact wpAny_bind (m := Builtin.Tuple.tupleExact _) (wpAny_newObj_type (wpAny_pure ⟨_, rfl, wpAny_pure h⟩) htake)
    | exact wpAny_bind (m := Builtin.Tuple.tupleExact _) (wpAny_newObj_type (wpAny_bind (wpAny_pure (wpAny_pure ⟨_, rfl, wpAny_pure h⟩))) htake)
    | exact wpAny_bind (wpAny_bind (m := Builtin.Tuple.tupleExact _) (wpAny_newObj_type (wpAny_pure (wpAny_pure ⟨_, rfl, wpAny_pure h⟩)) htake))
    | exact wpAny_bind (wpAny_bind (m := Builtin.Tuple.tupleExact _) (wpAny_newObj_type (wpAny_pure ⟨_, rfl, wpAny_pure h⟩) htake))
end
/-- t[:0:-1], t of two or three items -/
def tBack (K : PySem.W.Frag) (te : TE) : TE := fun σ H Q => te σ H fun x H1 => ∃ a, x = .ref a ∧ ((∃ u y, SqT K H1 a [u, y] ∧ ∀ p, H1 p = none → Q (.ref p) (upd H1 p (.tup [y]))) ∨ (∃ u y z, SqT K H1 a [u, y, z] ∧ ∀ p, H1 p = none → Q (.ref p) (upd H1 p (.tup [z, y]))))
section
variable {X : Cx}
theorem pe_back {e : Expr} {te : TE} {k0 k : Nat} {p0 p1 p2 p3 pos : Pos} (he : PE X e te) : PE X (.Subscript e (.Slice none (some (.Constant (.int 0) k0 p0)) (some (.UnaryOp .USub (.Constant (.int 1) k p1) p2)) p3) pos) (tBack X.K te) := by
  refine ⟨fun pins s σ H Q I h => ?_⟩
  refine Subscript_ (thn (he.run pins s σ H _ I h) fun v s1 ⟨x, H1, I1, r1, q1⟩ => ?_)
  obtain ⟨a, ex, q⟩ := q1
  subst ex
  cases r1
  have hst : PO X (some (.UnaryOp .USub (.Constant (.int 1) k p1) p2)) (tPart (tUn (rU fun i => .int (-i)) (tC (.int 1)))) := po_some (pe_un un_neg pe_int)
  have hup : PO X (some (.Constant (.int 0) k0 p0)) (tPart (tC (.int 0))) := po_some pe_int
  refine wpAny_Slice (thn (po_none.run pins s1 σ H1 (fun o H2 => o = none ∧ H2 = H1) I1 ⟨rfl, rfl⟩) fun vl s2 ⟨l, H2, I2, pl, el, e2⟩ => ?_)
  subst el e2
  refine thn (hup.run pins s2 σ H2 (fun o H3 => o = some 0 ∧ H3 = H2) I2 ⟨0, rfl, rfl, rfl⟩) fun vu s3 ⟨u, H3, I3, pu, eu, e3⟩ => ?_
  subst eu e3
  refine thn (hst.run pins s3 σ H3 (fun o H4 => o = some (-1) ∧ H4 = H3) I3 ⟨1, rfl, -1, rfl, rfl, rfl⟩) fun vs s4 ⟨o, H4, I4, ps, eo, e4⟩ => ?_
  subst eo e4
  have I5 : Inv X pins σ H4 { s4 with heap := s4.heap.push { cls := .type "slice", data := .fields #[vl, vu, vs] } } := I4.kept (t' := s4.toks) fun b ob q => Heap.get?_push_of_some _ q
  show wpAny (model X.prog X.w) X.A (subscriptTail e (.Slice none (some (.Constant (.int 0) k0 p0)) (some (.UnaryOp .USub (.Constant (.int 1) k p1) p2)) p3) (.ref a) (.ref s4.heap.objs.size)) (EP X pins σ Q) X.xe { s4 with heap := s4.heap.push { cls := .type "slice", data := .fields #[vl, vu, vs] } }
  rcases q with ⟨u, y, hx, q⟩ | ⟨u, y, z, hx, q⟩
  · obtain ⟨its, r, ht, hz⟩ := I5.tuple hx
    cases r with
    | cons r1 r => cases r with
      | cons r2 r =>
        cases r
        rename_i u1 u2
        refine tail_any (ops := [.ref a, .ref s4.heap.objs.size]) ht.typeIs (PyProof.Rows.slot_tuple_getitem.lookup) ?_ (by with_unfolding_all rfl)
        refine getItem_back (r := [u2]) ht (Heap.IsSliceOf.new _ vl vu vs) pl pu ps (by show 1 ≤ 2; decide) (by rfl) ?_ (by show 1 ≤ sizeLine; decide)
        exact ⟨.ref _, _, I5.laid (t' := s4.toks) (o := .tup [y]) (fun b ob q => Heap.get?_push_of_some _ q) (Nat.le_refl _) ⟨by show 1 ≤ sizeLine; decide, _, .cons r2 .nil, IsTup.new _ _⟩, rfl, q _ (I5.hok.fresh (Nat.le_refl _))⟩
  · obtain ⟨its, r, ht, hz⟩ := I5.tuple hx
    cases r with
    | cons r1 r => cases r with
      | cons r2 r => cases r with
        | cons r3 r =>
          cases r
          rename_i u1 u2 u3
          refine tail_any (ops := [.ref a, .ref s4.heap.objs.size]) ht.typeIs (PyProof.Rows.slot_tuple_getitem.lookup) ?_ (by with_unfolding_all rfl)
          refine getItem_back (r := [u3, u2]) ht (Heap.IsSliceOf.new _ vl vu vs) pl pu ps (by show 1 ≤ 3; decide) (by rfl) ?_ (by show 2 ≤ sizeLine; decide)
          exact ⟨.ref _, _, I5.laid (t' := s4.toks) (o := .tup [z, y]) (fun b ob q => Heap.get?_push_of_some _ q) (Nat.le_refl _) ⟨by show 2 ≤ sizeLine; decide, _, .cons r3 (.cons r2 .nil), IsTup.new _ _⟩, rfl, q _ (I5.hok.fresh (Nat.le_refl _))⟩
theorem e_back {K : PySem.W.Frag} {e : Expr} {te : TE} {k0 k : Nat} {p0 p1 p2 p3 pos : Pos} (hK : X.K = K) (he : PE X e te) : PE X (.Subscript e (.Slice none (some (.Constant (.int 0) k0 p0)) (some (.UnaryOp .USub (.Constant (.int 1) k p1) p2)) p3) pos) (tBack K te) := hK ▸ pe_back he
end
theorem i_back {K : PySem.W.Frag} {σ : L2.St} {H : Hp} {Q : VK} {te : TE} (h : te σ H fun x H1 => ∃ a, x = .ref a ∧ ((∃ u y, SqT K H1 a [u, y] ∧ ∀ p, H1 p = none → Q (.ref p) (upd H1 p (.tup [y]))) ∨ (∃ u y z, SqT K H1 a [u, y, z] ∧ ∀ p, H1 p = none → Q (.ref p) (upd H1 p (.tup [z, y]))))) : tBack K te σ H Q := h
/-! ### a set of texts, made from a list's items -/
def ScGo (w : World) (J : L2.It) (g : TG) (tt : TT) (te : TE) (vs : List Nat) (σ : L2.St) (H1 : Hp) (Q : VK) : Prop := ∀ D, H1 D = none → ∃ W : Nat → Nat → Hp → Prop, (∃ m, W 0 m (upd H1 D (TxtO w D []))) ∧ ∀ i m H, W i m H →
  (J.stop i H ∧ Q (.ref D) H) ∨ (J.go i H ∧ ∃ Nx : Hp → Prop, (∀ H', Nx H' → ∃ m', m' < m ∧ W (i + 1) m' H') ∧ ∀ x H', J.yld i H x H' → g x (wipe σ vs) H' fun σ2 H2 => wipe σ2 vs = wipe σ vs ∧ tt σ2 H2 fun b H3 =>
    if b = true then te σ2 H3 fun y H4 => ∃ (k : Str) (l : List Str), y = .str k ∧ H4 D = some (TxtO w D l) ∧ l.length + 1 < scanBound ∧ Nx (upd H4 D (TxtO w D (if k ∈ l then l else k :: l))) else Nx H3)
section
variable {w : World} {K : PySem.W.Frag} {g : TG} {tt : TT} {te te0 : TE} {vs : List Nat} {σ : L2.St} {H : Hp} {Q : VK}
theorem i_sc0L (h : te0 σ H fun x H1 => ∃ a, x = .ref a ∧ (∃ xs, SqL K H1 a xs) ∧ ScGo w (Itl K a) g tt te vs σ H1 Q) : tScT w (iList K te0) g tt te vs σ H Q := h
theorem i_scL {a : Addr} {xs : List V} {ds : List PyData} {H1 : Hp} (f : PyData → Str) (ha : SqL K H1 a xs) (im : ImAll H1 xs ds) (hz : ds.length ≤ 60)
    (hs : ∀ (D : Addr) (i : Nat) (x : V) (d : PyData) (H : Hp), H1 D = none → ds[i]? = some d → Im H x d → Same H1 H → ∀ N : Hp → Prop, (∀ H4, Same H H4 → ∃ (k : Str) (l : List Str), V.str (f d) = .str k ∧ H4 D = some (TxtO w D l) ∧ l.length + 1 < scanBound ∧ N (upd H4 D (TxtO w D (if k ∈ l then l else k :: l)))) →
      g x (wipe σ vs) H fun σ2 H2 => wipe σ2 vs = wipe σ vs ∧ tt σ2 H2 fun b H3 => if b = true then te σ2 H3 fun y H4 => ∃ (k : Str) (l : List Str), y = .str k ∧ H4 D = some (TxtO w D l) ∧ l.length + 1 < scanBound ∧ N (upd H4 D (TxtO w D (if k ∈ l then l else k :: l))) else N H3)
    (hd : ∀ (D : Addr) (H : Hp) (l : List Str), H1 D = none → Same H1 H → H D = some (TxtO w D l) → (∀ k, k ∈ l ↔ k ∈ ds.map f) → l.length ≤ ds.length → Q (.ref D) H) :
    ∃ a', V.ref a = .ref a' ∧ (∃ xs, SqL K H1 a' xs) ∧ ScGo w (Itl K a') g tt te vs σ H1 Q := by
  refine ⟨a, rfl, ⟨xs, ha⟩, fun D hD => ?_⟩
  have hl := im.length
  refine ⟨fun i m H => ∃ l, m = ds.length - i ∧ i ≤ ds.length ∧ H D = some (TxtO w D l) ∧ Same H1 H ∧ (∀ k, k ∈ l ↔ k ∈ (ds.take i).map f) ∧ l.length ≤ i, ⟨_, [], rfl, Nat.zero_le _, upd_same, Same.new hD, fun k => by simp, Nat.le_refl _⟩, ?_⟩
  rintro i m H ⟨l, rfl, hi, hD2, s, hk, hll⟩
  by_cases e : i = ds.length
  · refine .inl ⟨⟨xs, s.seq ha, by omega⟩, hd D _ l hD s hD2 (fun k => ?_) (by omega)⟩
    rw [hk k, e, List.take_length]
  · have hi2 : i < ds.length := by omega
    refine .inr ⟨⟨xs, xs[i], s.seq ha, List.getElem?_eq_getElem (by omega)⟩, fun H' => ∃ l, i + 1 ≤ ds.length ∧ H' D = some (TxtO w D l) ∧ Same H1 H' ∧ (∀ k, k ∈ l ↔ k ∈ (ds.take (i + 1)).map f) ∧ l.length ≤ i + 1, ?_, fun x H' y => ?_⟩
    · rintro H' ⟨l, a1, a2, a3, a4, a5⟩
      exact ⟨_, by omega, l, rfl, a1, a2, a3, a4, a5⟩
    · obtain ⟨rfl, y⟩ := y
      obtain ⟨d, ed, imd⟩ := im.get (y xs (s.seq ha))
      refine hs D i x d _ hD ed (imd.mono (Same.tq s)) s _ fun H4 s4 => ⟨f d, l, rfl, s4 _ _ hD2, ?_, ?_⟩
      · have h60 : 62 < scanBound := by decide
        omega
      · have et := take_succ_get ed
        refine ⟨_, hi2, upd_same, Same.put (s.trans s4) hD, fun k => ?_, ?_⟩
        · rw [et, List.map_append, List.mem_append, ← hk k]
          by_cases hm : f d ∈ l
          · rw [if_pos hm]
            constructor
            · exact .inl
            · rintro (h | h)
              · exact h
              · rw [List.map_singleton, List.mem_singleton] at h
                rw [h]; exact hm
          · rw [if_neg hm, List.mem_cons, List.map_singleton, List.mem_singleton]
            exact Or.comm
        · by_cases hm : f d ∈ l
          · rw [if_pos hm]; omega
          · rw [if_neg hm, List.length_cons]; omega
end
/-! ### six parameters -/
def sp6 (R : V → V → V → V → V → V → Hp → VK → XK → Prop) : Sp := fun vs H Q E => ∃ a b c d e f, vs = [a, b, c, d, e, f] ∧ R a b c d e f H Q E
theorem sp6_len {R} (vs : List V) (H : Hp) (Q : VK) (E : XK) (h : sp6 R vs H Q E) : vs.length = 6 := by obtain ⟨a, b, c, d, e, f, rfl, _⟩ := h; rfl
theorem i_sp6 {R a b c d e f H Q E} (h : R a b c d e f H Q E) : sp6 R [a, b, c, d, e, f] H Q E := ⟨a, b, c, d, e, f, rfl, h⟩
/-! ### list.extend by a tuple, a loop over a tuple -/
theorem ext_tup (l : Addr) (items : Array Value) (n : Nat) (b : Addr) (items2 : Array Value) (n2 : Nat) (dd : Option Addr) (sl : Array (Option Value)) (hs0 : ¬(!items.isEmpty && Builtin.List.listTooLong (items.size + items2.size)) = true) (hs1 : items.size ≤ sizeLine) (hs2 : items.size + items2.size ≤ sizeLine + 1) :
    Meets (Builtin.«list.extend» ⟨[.ref l, .ref b], []⟩) (fun _ R s => s.heap.get? l = some { cls := .type "list", dict := none, data := .seq items n, slots := #[] } ∧ s.heap.get? b = some { cls := .type "tuple", dict := dd, data := .seq items2 n2, slots := sl } ∧ R (.ok (.ret Value.none)) { s with heap := s.heap.update l (Obj.mapSeq fun x => x ++ items2), toks := s.toks }) :=
  .of_wp fun prog w A R s h => by
    obtain ⟨hp, g, d, tk, os⟩ := s; obtain ⟨hl, hb, h⟩ := h; have f1 := AutoSeq1.idx_int; have f2 := AutoSeq1.sub_tuple_tuple; have f3 := AutoSeq1.sub_list_list; have f4 := AutoSeq1.sub_tuple_list; have f5 := AutoSeq1.sub_list_tuple;
    have hz' : (items ++ items2).size ≤ sizeLine + 1 := by rw [Array.size_append]; exact hs2
    wp_walk using (wpAny_updateSeq hl rfl (hz := hs1) (_hz' := hz')), AutoSeq1.wpAny_loadPart' hl, AutoSeq1.wpAny_loadPart' hb; exact ⟨_, rfl, h⟩
def rExtT (K : PySem.W.Frag) : V → List V → Hp → VK → Prop := fun x vs H Q => ∃ l b xs zs, x = .ref l ∧ vs = [.ref b] ∧ H l = some (.lst xs) ∧ SqT K H b zs ∧ xs.length + zs.length ≤ sizeLine ∧ Q .non (upd H l (.lst (xs ++ zs)))
section
variable {X : Cx}
theorem mt_extT : MtM X "list.extend" (rExtT X.K) := by
  intro pins s σ H x vs v us Q I rx rv h
  obtain ⟨l, b, xs, zs, rfl, rfl, hH, hB, hz, q⟩ := h
  cases rx
  obtain ⟨u, rfl, ru⟩ := rv.one
  cases ru
  obtain ⟨z, its, n, r, hl, e⟩ := I.lstM hH
  obtain ⟨its2, r2, ht, hlen⟩ := I.tuple hB
  have hl2 := r2.length
  obtain ⟨⟨cls, dd, data, sl⟩, ho, hc, n2, hd⟩ := ht
  simp only at hc hd
  subst hc hd
  have hsz : its.toArray.size + its2.toArray.size ≤ sizeLine := by rw [List.size_toArray, List.size_toArray]; omega
  have hlong : ¬ (!its.toArray.isEmpty && Builtin.List.listTooLong (its.toArray.size + its2.toArray.size)) = true := by
    rw [notLongL hsz, Bool.and_false]
    exact Bool.false_ne_true
  refine call_meets F.slot_list_extend ⟨_, e, rfl⟩ F.entry_list_extend (F.args_list_extend_2 _ _)
    (ext_tup l its.toArray n b its2.toArray n2 dd sl hlong (by rw [List.size_toArray]; omega) (by omega)) ⟨e, ho, ?_⟩
  refine ⟨.non, _, I.lset (its' := its ++ its2) hH e (by simp) (r.append r2) ?_, rfl, q⟩
  rw [List.length_append]
  omega
theorem e_extT {K : PySem.W.Frag} {o e : Expr} {to te : TE} {apos cpos : Pos} (hK : X.K = K) (ho : PE X o to) (he : PE X e te) (hb : attributeBase o "extend" X.env (eval o X.env) = eval o X.env := by rfl) (hl : (apos.endLine == cpos.line) = true := by rfl)
    (hs : starEach [e] X.env = (false, eval e X.env) :: starEach [] X.env := by rfl) : PE X (.Call (.Attribute o "extend" apos) [e] [] cpos) (tBM K "list" (rExtT K) to (tCons te tNil)) :=
  hK ▸ pe_bm PySem.F.plainAttrs_list PySem.F.slot_list_extend PySem.F.type_list_extend mt_extT ho (pa_cons he pa_nil hs) hb (by rw [hs]; rfl) hl hs rfl
end
section
variable {K : PySem.W.Frag} {g : TG} {tb : TS} {D : Ends} {te0 : TE} {σ : L2.St} {H H1 : Hp} {Q : VK}
theorem i_extT {l b : Addr} {xs zs : List V} (hl : H l = some (.lst xs)) (hb : SqT K H b zs) (hz : xs.length + zs.length ≤ sizeLine) (h : Q .non (upd H l (.lst (xs ++ zs)))) : rExtT K (.ref l) [.ref b] H Q := ⟨l, b, xs, zs, rfl, rfl, hl, hb, hz, h⟩
theorem i_for0T (h : te0 σ H fun x H1 => ∃ a, x = .ref a ∧ (∃ xs, SqT K H1 a xs) ∧ ForGo (Itt K a) g tb D σ H1) : tFor (iTup K te0) g tb D σ H := h
theorem i_forT {a : Addr} {xs : List V} (Pv : Nat → L2.St → Hp → Prop) (hx : SqT K H1 a xs) (h0 : Pv 0 σ H1) (hl : ∀ i σ H, i ≤ xs.length → Pv i σ H → SqT K H a xs)
    (hs : ∀ i x σ H, xs[i]? = some x → Pv i σ H → g x σ H fun σ2 H2 => tb { D with nx := Pv (i + 1), ct := Pv (i + 1), bk := D.nx } σ2 H2) (hd : ∀ σ H, Pv xs.length σ H → D.nx σ H) :
    ∃ a', V.ref a = .ref a' ∧ (∃ xs, SqT K H1 a' xs) ∧ ForGo (Itt K a') g tb D σ H1 := by
  refine ⟨a, rfl, ⟨xs, hx⟩, fun i m σ H => m = xs.length - i ∧ i ≤ xs.length ∧ Pv i σ H, ⟨xs.length, by simp, Nat.zero_le _, h0⟩, ?_⟩
  rintro i m σ H ⟨rfl, hi, p⟩
  have q := hl i σ H hi p
  by_cases hlt : i < xs.length
  · refine .inr ⟨⟨xs, xs[i], q, by simp [hlt]⟩, Pv (i + 1), fun σ' H' p' => ⟨xs.length - (i + 1), by omega, rfl, hlt, p'⟩, fun x H' y => ?_⟩
    obtain ⟨e, y⟩ := y
    subst e
    exact hs i x σ _ (y xs q) p
  · have e : i = xs.length := by omega
    refine .inl ⟨⟨xs, q, by omega⟩, ?_⟩
    rw [e] at p
    exact hd σ _ p
theorem i_lc0T (h : te0 σ H fun x H1 => ∃ a, x = .ref a ∧ (∃ xs, SqT K H1 a xs) ∧ LcGo (Itt K a) g tb' te vs σ H1 Q) : tLc (iTup K te0) g tb' te vs σ H Q := h
end
end KB

set_option maxHeartbeats 1000000
/-! KN: dicts whose keys are nested tuples (of texts, ints, None and such tuples). -/
namespace KB
open PySem PySem.Spec PyProof.Rows L2
mutual
/-- what stands at v is the key k -/
inductive IsN (H : Hp) : NestedKey → V → Prop
  | non : IsN H .none .non
  | int (i : Int) : IsN H (.num i) (.int i)
  | str (x : Str) : IsN H (.text x) (.str x)
  | tup {a : Addr} {vs : List V} {ks : List NestedKey} : H a = some (.tup vs) → IsNs H ks vs → IsN H (.tup ks) (.ref a)
inductive IsNs (H : Hp) : List NestedKey → List V → Prop
  | nil : IsNs H [] []
  | cons {k : NestedKey} {ks : List NestedKey} {v : V} {vs : List V} : IsN H k v → IsNs H ks vs → IsNs H (k :: ks) (v :: vs)
end
mutual
theorem IsN.mono {H H' : Hp} (t : Tq H H') : ∀ {k : NestedKey} {v : V}, IsN H k v → IsN H' k v
  | _, _, .non => .non
  | _, _, .int i => .int i
  | _, _, .str x => .str x
  | _, _, .tup h a => .tup (t _ _ h) (IsNs.mono t a)
theorem IsNs.mono {H H' : Hp} (t : Tq H H') : ∀ {ks : List NestedKey} {vs : List V}, IsNs H ks vs → IsNs H' ks vs
  | _, _, .nil => .nil
  | _, _, .cons h a => .cons (IsN.mono t h) (IsNs.mono t a)
end
mutual
theorem IsN.is {P : Program} {w : World} {H : Hp} {h : Heap} (ok : HOk P w H h) : ∀ {k : NestedKey} {v : V} {u : Value}, IsN H k v → RelV v u → NestedIs h k u
  | _, _, _, .non, r => by cases (show _ = Value.none from r); exact .none
  | _, _, _, .int i, r => by obtain ⟨t, rfl⟩ := r; exact .int i t
  | _, _, _, .str x, r => by obtain ⟨t, rfl⟩ := r; exact .text x t
  | _, _, _, .tup (a := a) (vs := vs) e al, r => by
    cases (show _ = Value.ref a from r)
    obtain ⟨_, its, rel, o, h1, h2, n, h3⟩ := (show ObjOk P w H h a (.tup vs) from ok a _ e)
    exact .tup h1 h2 h3 (IsNs.are ok al rel)
theorem IsNs.are {P : Program} {w : World} {H : Hp} {h : Heap} (ok : HOk P w H h) : ∀ {ks : List NestedKey} {vs : List V} {us : List Value}, IsNs H ks vs → Vals vs us → NestedAll h ks us
  | _, _, _, .nil, r => by cases r; exact .nil
  | _, _, _, .cons h1 h2, r => by
    cases r with
    | cons r1 r2 => exact .cons (IsN.is ok h1 r1) (IsNs.are ok h2 r2)
end
/-! ### as a tracked thing -/
abbrev NX := List (NestedKey × Addr × V)
def NR (p : NestedKey × Addr × V) (q : NestedKey × Addr × Value) : Prop := p.1 = q.1 ∧ p.2.1 = q.2.1 ∧ RelV p.2.2 q.2.2
def NObj (P : Program) (w : World) (a : Addr) (xs : NX) (h : Heap) : Prop := xs.length ≤ sizeLine ∧ (a == sysModules) = false ∧ ∃ vs, Paired NR xs vs ∧
  ∃ o es ep, h.get? a = some o ∧ o.ExactDict ∧ o.data = .dict es ep ∧ es.toList = vs.map (entryOfKey (nestedKind P w)) ∧ (vs.map (·.1)).Nodup
def NO (P : Program) (w : World) (a : Addr) (xs : NX) : HO := .ext (NObj P w a xs)
def NKs (H : Hp) (xs : NX) : Prop := ∀ x ∈ xs, IsN H x.1 (.ref x.2.1) ∧ x.1.depth ≤ 8
theorem NKs.mono {H H' : Hp} {xs : NX} (t : Tq H H') (h : NKs H xs) : NKs H' xs := fun x hx => ⟨(h x hx).1.mono t, (h x hx).2⟩
def nkv (xs : NX) : List (NestedKey × V) := xs.map fun x => (x.1, x.2.2)
def stV (xs : NX) (k : NestedKey) (b : Addr) (v : V) : NX := if (valV (nkv xs) k).isSome = true then xs.map (fun x => if x.1 = k then (x.1, x.2.1, v) else x) else xs ++ [(k, b, v)]
theorem no_ok {P : Program} {w : World} {H : Hp} {h : Heap} {a : Addr} {xs : NX} (R : NObj P w a xs h) : ObjOk P w H h a (NO P w a xs) := by
  refine ⟨R, ?_, fun h1 h2 p k => ?_⟩
  · obtain ⟨_, _, _, _, o, _, _, e, _⟩ := R
    exact ⟨o, e⟩
  · obtain ⟨z, y, vs, r, o, es, ep, e, c⟩ := p
    exact ⟨z, y, vs, r, o, es, ep, k _ e, c⟩
theorem NR.val {xs : NX} {vs : List (NestedKey × Addr × Value)} (r : Paired NR xs vs) (k : NestedKey) : RelO (valV (nkv xs) k) ((atKey vs k).map (·.2)) := by
  induction r with
  | nil => exact True.intro
  | @cons p q ps qs h t ih =>
    obtain ⟨h1, _, h2⟩ := h
    by_cases e : p.1 = k
    · have e' : q.1 = k := h1.symm.trans e
      have b : atKey (q :: qs) k = some q.2 := by simp [atKey, List.find?_cons, e']
      have c : valV (nkv (p :: ps)) k = some p.2.2 := valV_pos (p := (p.1, p.2.2)) e
      rw [c, b]; exact h2
    · have e' : ¬ q.1 = k := fun z => e (h1.trans z)
      have b : atKey (q :: qs) k = atKey qs k := by simp [atKey, List.find?_cons, e']
      have c : valV (nkv (p :: ps)) k = valV (nkv ps) k := valV_neg (p := (p.1, p.2.2)) e
      rw [c, b]; exact ih
theorem NR.repl {xs : NX} {vs : List (NestedKey × Addr × Value)} (r : Paired NR xs vs) (k : NestedKey) {y : V} {u : Value} (ry : RelV y u) :
    Paired NR (xs.map fun x => if x.1 = k then (x.1, x.2.1, y) else x) (vs.map (putAt k u)) := by
  induction r with
  | nil => exact .nil
  | @cons p q ps qs h t ih =>
    rw [List.map_cons, List.map_cons]
    refine .cons ?_ ih
    obtain ⟨h1, h2, h3⟩ := h
    unfold putAt
    by_cases e : p.1 = k
    · rw [if_pos e, if_pos (h1.symm.trans e)]; exact ⟨h1, h2, ry⟩
    · rw [if_neg e, if_neg (fun z => e (h1.trans z))]; exact ⟨h1, h2, h3⟩
theorem NR.put {xs : NX} {vs : List (NestedKey × Addr × Value)} (r : Paired NR xs vs) (k : NestedKey) (b : Addr) {y : V} {u : Value} (ry : RelV y u) : Paired NR (stV xs k b y) (storedH vs k b u) := by
  have e : (valV (nkv xs) k).isSome = (atKey vs k).isSome := by rw [(NR.val r k).isSome_eq, Option.isSome_map]
  unfold stV storedH
  rw [e]
  by_cases q : (atKey vs k).isSome = true
  · rw [if_pos q, if_pos q]; exact NR.repl r k ry
  · rw [if_neg q, if_neg q]; exact Paired.snoc r ⟨rfl, rfl, ry⟩
theorem stV_len (xs : NX) (k : NestedKey) (b : Addr) (v : V) : (stV xs k b v).length ≤ xs.length + 1 := by
  unfold stV
  split
  · rw [List.length_map]; omega
  · rw [List.length_append]; exact Nat.le_refl _
theorem nkv_stV (xs : NX) (k : NestedKey) (b : Addr) (v : V) : nkv (stV xs k b v) = putK (nkv xs) k v := by
  unfold stV putK
  rw [valV_any]
  by_cases q : (valV (nkv xs) k).isSome = true
  · rw [if_pos q, if_pos q]
    unfold nkv
    rw [List.map_map, List.map_map]
    refine List.map_congr_left fun x _ => ?_
    by_cases e : x.1 = k <;> simp [e]
  · rw [if_neg q, if_neg q]
    simp [nkv]
theorem stV_keys {H : Hp} {xs : NX} {k : NestedKey} {b : Addr} {v : V} (h : NKs H xs) (hk : IsN H k (.ref b)) (hd : k.depth ≤ 8) : NKs H (stV xs k b v) := by
  intro x hx
  unfold stV at hx
  split at hx
  · obtain ⟨y, hy, rfl⟩ := List.mem_map.mp hx
    by_cases e : y.1 = k
    · rw [if_pos e]; exact h y hy
    · rw [if_neg e]; exact h y hy
  · rcases List.mem_append.mp hx with q | q
    · exact h x q
    · rw [List.mem_singleton.mp q]; exact ⟨hk, hd⟩
section
variable {P : Program} {w : World} {H : Hp} {h : Heap} {a : Addr} {xs : NX}
theorem n_at (ok : HOk P w H h) (e : Rd H a (NO P w a xs)) (ks : NKs H xs) : xs.length ≤ sizeLine ∧ (a == sysModules) = false ∧ ∃ vs, Paired NR xs vs ∧ h.DictOfH (nestedKind P w) a vs := by
  obtain ⟨R, _⟩ := (show ObjOk P w H h a (NO P w a xs) from e.ok ok)
  obtain ⟨z, y, vs, r, o, es, ep, h1, h2, h3, h4, h5⟩ := R
  refine ⟨z, y, vs, r, o, es, ep, h1, h2, h3, h4, ?_, h5⟩
  have all : ∀ {l : NX} {m : List (NestedKey × Addr × Value)}, Paired NR l m → NKs H l → ∀ x ∈ m, (nestedKind P w).is h x.1 x.2.1 := by
    intro l m q
    induction q with
    | nil => intro _ x hx; exact nomatch hx
    | @cons p q ps qs hq t ih =>
      intro hk x hx
      rcases List.mem_cons.mp hx with e | hx
      · subst e
        obtain ⟨i1, i2⟩ := hk p List.mem_cons_self
        rw [← hq.1, ← hq.2.1]
        exact ⟨IsN.is ok i1 rfl, i2⟩
      · exact ih (fun y hy => hk y (List.mem_cons_of_mem _ hy)) x hx
  exact all r ks
theorem n_ty (ok : HOk P w H h) (e : Rd H a (NO P w a xs)) : ∃ o, h.get? a = some o ∧ o.ExactDict := by
  obtain ⟨R, _⟩ := (show ObjOk P w H h a (NO P w a xs) from e.ok ok)
  obtain ⟨z, y, vs, r, o, es, ep, h1, h2, h3, h4, h5⟩ := R
  exact ⟨o, h1, h2⟩
theorem nroom {A : Around} (hu : A.units + 64 < cLine) : (nestedKind P w).room A.in1 := by
  show A.units + 1 + 8 < cLine
  omega
end
section
variable {X : Cx} {pins : List (Addr × Obj)} {σ : L2.St} {H : Hp} {s : Shared} {a b : Addr} {xs : NX} {k : NestedKey} {v d : V} {u r : Value} {A : Around} {E : Value → Shared → Prop}
theorem n_getItem {Q : Value → Shared → Prop} (hu : A.units + 64 < cLine) (I : Inv X pins σ H s) (e : Rd H a (NO X.prog X.w a xs)) (ks : NKs H xs) (hk : IsN H k (.ref b)) (hd : k.depth ≤ 8) (l : valV (nkv xs) k = some v)
    (h : ∀ w' s', Inv X pins σ H s' → RelV v w' → Q w' s') : wpAny (model X.prog X.w) A (getItem (.ref a) (.ref b)) Q E s := by
  obtain ⟨z, hs, vs, rel, dd⟩ := n_at I.hok e ks
  obtain ⟨w', hw, rw'⟩ := RelO.some_of (v := v) (o := (atKey vs k).map (·.2)) (by rw [← l]; exact NR.val rel k)
  obtain ⟨p, hp, hp2⟩ := Option.map_eq_some_iff.mp hw
  refine wpAny_getItem_heap (nroom hu) ⟨IsN.is I.hok hk rfl, hd⟩ dd hp ?_
  rw [hp2]
  exact h w' _ (I.tok _) rw'
theorem n_get2 {Q : Value → Shared → Prop} (hu : A.units + 64 < cLine) (I : Inv X pins σ H s) (e : Rd H a (NO X.prog X.w a xs)) (ks : NKs H xs) (hk : IsN H k (.ref b)) (hd : k.depth ≤ 8) (rd : RelV d r)
    (h : ∀ w' s', Inv X pins σ H s' → RelV ((valV (nkv xs) k).getD d) w' → Q w' s') : wpAny (model X.prog X.w) A (call (.builtin "dict.get") [.ref a, .ref b, r]) Q E s := by
  obtain ⟨z, hs, vs, rel, dd⟩ := n_at I.hok e ks
  exact call_meetsIn PySem.F.slot_dict_get dd.typeIs PySem.F.entry_dict_get (PySem.F.args_dict_get_3 _ _ _) (meetsH_dict_get_default (nestedKind X.prog X.w) a b hs r)
    ⟨nroom hu, k, vs, ⟨IsN.is I.hok hk rfl, hd⟩, dd, h _ _ (I.tok _) ((NR.val rel k).getD rd)⟩
theorem n_wr {h' : Heap} {t' : Nat} {ys : NX} {vs : List (NestedKey × Addr × Value)} (I : Inv X pins σ H s) (e : H a = some (NO X.prog X.w a xs)) (hs : Heap.SameBut a s.heap h') (z : ys.length ≤ sizeLine) (y : (a == sysModules) = false)
    (rel : Paired NR ys vs) (dd : h'.DictOfH (nestedKind X.prog X.w) a vs) : Inv X pins σ (upd H a (NO X.prog X.w a ys)) { s with heap := h', toks := t' } := by
  obtain ⟨q, es, ep, hq, h2, h3, h4, _, h5⟩ := dd
  exact d_write I (by rw [e]; exact True.intro) hs ⟨q, hq⟩ (no_ok ⟨z, y, vs, rel, q, es, ep, hq, h2, h3, h4, h5⟩)
theorem n_setItem {Q : Unit → Shared → Prop} (hu : A.units + 64 < cLine) (I : Inv X pins σ H s) (e : H a = some (NO X.prog X.w a xs)) (ks : NKs H xs) (hk : IsN H k (.ref b)) (hd : k.depth ≤ 8) (rv : RelV v r) (hl : xs.length < sizeLine)
    (h : ∀ s', Inv X pins σ (upd H a (NO X.prog X.w a (stV xs k b v))) s' → Q () s') : wpAny (model X.prog X.w) A (setItem (.ref a) (.ref b) r) Q E s := by
  obtain ⟨z, hs, vs, rel, dd⟩ := n_at I.hok (.inl e) ks
  have hz : vs.length ≤ sizeLine := by rw [← Paired.length rel]; exact z
  have hl2 := stV_len xs k b v
  exact wpAny_setItem_heap (hsz := hz) (nroom hu) ⟨IsN.is I.hok hk rfl, hd⟩ dd fun h' dd' hsb => h _ (n_wr I e hsb (by omega) hs (NR.put rel k b rv) dd')
theorem n_setd {Q : Value → Shared → Prop} (hu : A.units + 64 < cLine) (I : Inv X pins σ H s) (e : H a = some (NO X.prog X.w a xs)) (ks : NKs H xs) (hk : IsN H k (.ref b)) (hd : k.depth ≤ 8) (rv : RelV d r) (hl : xs.length < sizeLine)
    (h1 : ∀ v w' s', valV (nkv xs) k = some v → Inv X pins σ H s' → RelV v w' → Q w' s') (h2 : valV (nkv xs) k = none → ∀ s', Inv X pins σ (upd H a (NO X.prog X.w a (stV xs k b d))) s' → Q r s') :
    wpAny (model X.prog X.w) A (call (.builtin "dict.setdefault") [.ref a, .ref b, r]) Q E s := by
  obtain ⟨z, hs, vs, rel, dd⟩ := n_at I.hok (.inl e) ks
  have hz : vs.length ≤ sizeLine := by rw [← Paired.length rel]; exact z
  have hl2 := stV_len xs k b d
  have hv := NR.val rel k
  refine call_setdefault_heap (hsz := hz) (nroom hu) ⟨IsN.is I.hok hk rfl, hd⟩ hs dd (fun p hp => ?_) fun hn h' dd' hsb => ?_
  · rw [hp] at hv
    cases l : valV (nkv xs) k with
    | none => rw [l] at hv; exact hv.elim
    | some v => rw [l] at hv; exact h1 v _ _ l (I.tok _) hv
  · rw [hn] at hv
    cases l : valV (nkv xs) k with
    | some v => rw [l] at hv; exact hv.elim
    | none => exact h2 l _ (n_wr I e hsb (by omega) hs (NR.put rel k b rv) dd')
end
/-! ### readings and rules -/
def tNDnew (P : Program) (w : World) : TE := fun _ H Q => ∀ p, H p = none → Q (.ref p) (upd H p (NO P w p []))
def tNGet2 (P : Program) (w : World) (td ty tx : TE) : TE := fun σ H Q => td σ H fun x H1 => ∃ a xs0, x = .ref a ∧ Rd H1 a (NO P w a xs0) ∧ ty σ H1 fun y H2 => tx σ H2 fun z H3 =>
  ∃ xs k b, y = .ref b ∧ Rd H3 a (NO P w a xs) ∧ NKs H3 xs ∧ IsN H3 k (.ref b) ∧ k.depth ≤ 8 ∧ Q ((valV (nkv xs) k).getD z) H3
def tNSetd (P : Program) (w : World) (td ty tx : TE) : TE := fun σ H Q => td σ H fun x H1 => ∃ a xs0, x = .ref a ∧ Rd H1 a (NO P w a xs0) ∧ ty σ H1 fun y H2 => tx σ H2 fun z H3 =>
  ∃ xs k b, y = .ref b ∧ H3 a = some (NO P w a xs) ∧ NKs H3 xs ∧ IsN H3 k (.ref b) ∧ k.depth ≤ 8 ∧ xs.length < sizeLine ∧ (∀ v, valV (nkv xs) k = some v → Q v H3) ∧
    (valV (nkv xs) k = none → Q z (upd H3 a (NO P w a (stV xs k b z))))
def tNIx (P : Program) (w : World) (td ty : TE) : TE := fun σ H Q => td σ H fun x H1 => ty σ H1 fun y H2 => ∃ a xs k b v, x = .ref a ∧ y = .ref b ∧ Rd H2 a (NO P w a xs) ∧ NKs H2 xs ∧ IsN H2 k (.ref b) ∧ k.depth ≤ 8 ∧ valV (nkv xs) k = some v ∧ Q v H2
def sNPut (P : Program) (w : World) (td ty tv : TE) : TS := fun D σ H => tv σ H fun v H1 => td σ H1 fun x H2 => ty σ H2 fun y H3 =>
  ∃ a xs k b, x = .ref a ∧ y = .ref b ∧ H3 a = some (NO P w a xs) ∧ NKs H3 xs ∧ IsN H3 k (.ref b) ∧ k.depth ≤ 8 ∧ xs.length < sizeLine ∧ D.nx σ (upd H3 a (NO P w a (stV xs k b v)))
section
variable {X : Cx} {P : Program} {w : World} {o i e f value : Expr} {pos pos' apos cpos : Pos} {td ty tv tx : TE}
theorem pe_ndnew (hP : X.prog = P) (hw : X.w = w) : PE X (.Dict [] [] pos) (tNDnew P w) := by
  subst hP hw
  refine ⟨fun pins s σ H Q I h => wpAny_Dict_empty ⟨.ref s.heap.objs.size, _, I.laid (a := s.heap.objs.size) (o := NO X.prog X.w s.heap.objs.size []) (t' := s.toks) (fun _ _ q => Heap.get?_push_of_some _ q) (Nat.le_refl _) (no_ok ?_), rfl, h _ (I.hok.fresh (Nat.le_refl _))⟩⟩
  exact ⟨Nat.zero_le _, beq_eq_false_iff_ne.mpr (Ne.symm (Nat.ne_of_lt I.big)), [], .nil, _, #[], 0, Heap.get?_push_size _ rfl, ⟨rfl, rfl, rfl⟩, rfl, rfl, List.nodup_nil⟩
theorem pe_nix (hP : X.prog = P) (hw : X.w = w) (hu : X.A.units + 64 < cLine) (ho : PE X o td) (hi : PE X i ty) (hs : NoSl i) : PE X (.Subscript o i pos) (tNIx P w td ty) := by
  subst hP hw
  refine ⟨fun pins s σ H Q I h => ?_⟩
  refine subD_of PySem.F.slot_dict_getitem.lookup hs (thn (ho.run pins s σ H _ I h) fun u s1 ⟨x, H1, I1, rx, q1⟩ => thn (hi.run pins s1 σ H1 _ I1 q1) fun iv s2 ⟨y, H2, I2, ry, a, xs, k, b, v, ex, ey, g, ks, hk, hd, l, q2⟩ => ?_)
  subst ex ey
  obtain rfl : u = Value.ref a := rx
  obtain rfl : iv = Value.ref b := ry
  obtain ⟨ob, h1, h2⟩ := n_ty I2.hok g
  exact ⟨⟨ob, h1, h2.1⟩, n_getItem hu I2 g ks hk hd l fun w' s3 I3 rw' => ⟨v, H2, I3, rw', q2⟩⟩
theorem ps_nput (hP : X.prog = P) (hw : X.w = w) (hu : X.A.units + 64 < cLine) (ho : PE X o td) (hi : PE X i ty) (hv : PE X value tv) (hs : swapsWith value (some (.Subscript o i pos')) pos.line X.env = pure false) :
    PS X (.Assign [.Subscript o i pos'] value pos) (sNPut P w td ty tv) := by
  subst hP hw
  refine ⟨fun pins s σ H D I h => ?_⟩
  refine wpAny_Assign_Subscript (thn (hv.run pins s σ H _ I h) fun r s1 ⟨v, H1, I1, rv, q1⟩ => thn (ho.run pins s1 σ H1 _ I1 q1) fun u s2 ⟨x, H2, I2, rx, q2⟩ => thn (hi.run pins s2 σ H2 _ I2 q2) fun iv s3 ⟨y, H3, I3, ry, a, xs, k, b, ex, ey, g, ks, hk, hd, hl, q3⟩ => ?_) hs
  subst ex ey
  obtain rfl : u = Value.ref a := rx
  obtain rfl : iv = Value.ref b := ry
  exact n_setItem hu I3 g ks hk hd rv hl fun s4 I4 => ⟨σ, _, I4, q3⟩
theorem pe_nget2 (hP : X.prog = P) (hw : X.w = w) (hu : X.A.units + 64 < cLine) (ho : PE X o td) (he : PE X e ty) (hf : PE X f tx) (m : M2 X o "get" apos e f cpos) : PE X (.Call (.Attribute o "get" apos) [e, f] [] cpos) (tNGet2 P w td ty tx) := by
  subst hP hw
  refine ⟨fun pins s σ H Q I h => ?_⟩
  refine wpAny_Call_method m.base m.few m.line PySem.F.plainAttrs_dict PySem.F.slot_dict_get PySem.F.type_dict_get (thn (ho.run pins s σ H _ I h) fun u s1 ⟨x, H1, I1, rx, a, xs0, ex, d, q1⟩ => ?_)
  subst ex
  obtain rfl : u = Value.ref a := rx
  obtain ⟨ob, h1, h2⟩ := n_ty I1.hok d
  refine ⟨⟨ob, h1, h2.1⟩, (fun b e => by cases e; exact ⟨ob, h1, h2.2.1⟩), ?_⟩
  rw [m.trees]
  refine Calls.callWith_builtin rfl (Calls.evalArgs_plain (Calls.spliced_cons (thn (he.run pins s1 σ H1 _ I1 q1) fun iv s2 ⟨y, H2, I2, ry, q2⟩ =>
    Calls.spliced_cons (thn (hf.run pins s2 σ H2 _ I2 q2) fun fv s3 ⟨z, H3, I3, rz, xs, k, b, ey, g, ks, hk, hd, q3⟩ => Calls.spliced_nil ?_))))
  subst ey
  obtain rfl : iv = Value.ref b := ry
  exact n_get2 hu I3 g ks hk hd rz fun w' s4 I4 rw' => ⟨_, H3, I4, rw', q3⟩
theorem pe_nsetd (hP : X.prog = P) (hw : X.w = w) (hu : X.A.units + 64 < cLine) (ho : PE X o td) (he : PE X e ty) (hf : PE X f tx) (m : M2 X o "setdefault" apos e f cpos) : PE X (.Call (.Attribute o "setdefault" apos) [e, f] [] cpos) (tNSetd P w td ty tx) := by
  subst hP hw
  refine ⟨fun pins s σ H Q I h => ?_⟩
  refine wpAny_Call_method m.base m.few m.line PySem.F.plainAttrs_dict PySem.F.slot_dict_setdefault PySem.F.type_dict_setdefault (thn (ho.run pins s σ H _ I h) fun u s1 ⟨x, H1, I1, rx, a, xs0, ex, d, q1⟩ => ?_)
  subst ex
  obtain rfl : u = Value.ref a := rx
  obtain ⟨ob, h1, h2⟩ := n_ty I1.hok d
  refine ⟨⟨ob, h1, h2.1⟩, (fun b e => by cases e; exact ⟨ob, h1, h2.2.1⟩), ?_⟩
  rw [m.trees]
  refine Calls.callWith_builtin rfl (Calls.evalArgs_plain (Calls.spliced_cons (thn (he.run pins s1 σ H1 _ I1 q1) fun iv s2 ⟨y, H2, I2, ry, q2⟩ =>
    Calls.spliced_cons (thn (hf.run pins s2 σ H2 _ I2 q2) fun fv s3 ⟨z, H3, I3, rz, xs, k, b, ey, g, ks, hk, hd, hl, q3, q4⟩ => Calls.spliced_nil ?_))))
  subst ey
  obtain rfl : iv = Value.ref b := ry
  exact n_setd hu I3 g ks hk hd rz hl (fun v w' s4 l I4 rw' => ⟨v, H3, I4, rw', q3 v l⟩) fun l s4 I4 => ⟨z, _, I4, rz, q4 l⟩
end
/-! ### walks: the keys, the values; the dict is locked -/
def ItNk (P : Program) (w : World) (d : Addr) (o : Obj) (xs : NX) : It :=
  ⟨fun i H => H d = some (.frz o (NO P w d xs)) ∧ i < xs.length, fun i H x H' => H' = H ∧ ∃ y, xs[i]? = some y ∧ x = .ref y.2.1, fun i H => H d = some (.frz o (NO P w d xs)) ∧ xs.length ≤ i⟩
def ItNv (P : Program) (w : World) (d : Addr) (o : Obj) (xs : NX) : It :=
  ⟨fun i H => H d = some (.frz o (NO P w d xs)) ∧ i < xs.length, fun i H x H' => H' = H ∧ ∃ y, xs[i]? = some y ∧ x = y.2.2, fun i H => H d = some (.frz o (NO P w d xs)) ∧ xs.length ≤ i⟩
theorem n_frz {X : Cx} {pins : List (Addr × Obj)} {σ : L2.St} {H : Hp} {s : Shared} {d : Addr} {o : Obj} {xs : NX} (I : Inv X pins σ H s) (h : H d = some (.frz o (NO X.prog X.w d xs))) :
    (d == sysModules) = false ∧ s.heap.get? d = some o ∧ o.ExactDict ∧ ∃ (es : Array DictEntry) (ep : Nat), o.data = .dict es ep ∧ es.size = xs.length ∧
      ∀ (i : Nat) (y : NestedKey × Addr × V), xs[i]? = some y → ∃ (en : DictEntry), es[i]? = some en ∧ en.key = .ref y.2.1 ∧ RelV y.2.2 en.val := by
  obtain ⟨hd, R, _⟩ := I.hok d _ h
  obtain ⟨z, hs, vs, pr, o', es, ep, ho, hx, hdt, he, _⟩ := R
  rw [hd] at ho
  cases ho
  refine ⟨hs, hd, hx, es, ep, hdt, ?_, fun i y e => ?_⟩
  · have l1 : es.size = vs.length := size_of_entries he
    have l2 : xs.length = vs.length := Paired.length pr
    omega
  · obtain ⟨b, hb, e1, e2, e3⟩ := paired_get pr e
    have q := entry_at he i
    rw [hb] at q
    refine ⟨_, q, ?_, e3⟩
    show Value.ref b.2.1 = _
    rw [e2]
section
variable {P : Program} {w : World} {K : PySem.W.Frag} {tg : Expr} {d : Addr} {o : Obj} {es : Array DictEntry} {ep : Nat}
theorem turn_nk {xs : NX} (it : Addr) (hod : o.data = .dict es ep) : Turn P w K tg (ItNk P w d o xs) [it] it (fun i h => h.IsKeyIter it d i xs.length ep) where
  mem := by simp
  obj := fun i h st b hb => by
    have e : b = it := by simpa using hb
    subst e
    obtain ⟨oi, e, c, dd⟩ := st
    exact ⟨oi, e, fun v z => by rw [dd] at z; cases z⟩
  keep := fun i h h' st k => st.at fun oi e => k it (by simp) oi e
  item := by
    intro X hP hw hK hc i pins s σ H E I hf st hg
    subst hP hw hK
    obtain ⟨hd, hi⟩ := hg
    obtain ⟨f0, f1, f2, f3, f4, f5⟩ := hf it (by simp)
    obtain ⟨hs, hgd, hx, es', ep', hdt, hsz, ent⟩ := n_frz I hd
    obtain ⟨rfl, rfl⟩ := dict_ep hod hdt
    obtain ⟨en, hen, hkey, _⟩ := ent i xs[i] (List.getElem?_eq_getElem hi)
    refine next_key_item st hgd hdt hsz hen fun h' st' sb => ?_
    have I1 : Inv X pins σ H { s with heap := h' } := I.turned (t' := s.toks) (fun b ob hb e => (sb.2 b hb).trans e) f0 f1 f3 f4 f5
    obtain ⟨oi, e, c, dd⟩ := id st'
    exact ⟨en.key, rfl, go_of (s := { s with heap := h' }) e c dd (by decide) ⟨.ref xs[i].2.1, H, I1, hkey, ⟨rfl, xs[i], List.getElem?_eq_getElem hi, rfl⟩, st', fun b hb => (hf b hb).1⟩⟩
  done := by
    intro X hP hw hK hc i pins s σ H E I hf st hg
    subst hP hw hK
    obtain ⟨hd, hi⟩ := hg
    obtain ⟨f0, f1, f2, f3, f4, f5⟩ := hf it (by simp)
    obtain ⟨hs, hgd, hx, es', ep', hdt, hsz, ent⟩ := n_frz I hd
    obtain ⟨rfl, rfl⟩ := dict_ep hod hdt
    exact next_key_end (I.ok.hd hc) st hgd hdt hsz hi fun h' eb => ⟨rfl, I.turned (t' := s.toks) (fun b ob hb e => eb b ob hb e) f0 f1 f3 f4 f5⟩
  self := fun A i s Q E st h => by
    refine wpAny_pyIter_slot st.typeIs F.slot_dict_keyiterator_iter (wpAny_call_entry F.slot_dict_keyiterator_iter st.typeIs F.entry_dict_keyiterator_iter ?_ (F.args_dict_keyiterator_iter_1 _))
    show wpAny _ _ (ret (.ref it)) _ _ s
    exact wpAny_pure ⟨_, rfl, "dict_keyiterator", _, st.typeIs, F.slot_dict_keyiterator_next.lookup, h⟩
theorem turn_nv {xs : NX} (it : Addr) (hod : o.data = .dict es ep) : Turn P w K tg (ItNv P w d o xs) [it] it (fun i h => h.IsValIter it d i xs.length ep) where
  mem := by simp
  obj := fun i h st b hb => by
    have e : b = it := by simpa using hb
    subst e
    obtain ⟨oi, e, c, dd⟩ := st
    exact ⟨oi, e, fun v z => by rw [dd] at z; cases z⟩
  keep := fun i h h' st k => st.at fun oi e => k it (by simp) oi e
  item := by
    intro X hP hw hK hc i pins s σ H E I hf st hg
    subst hP hw hK
    obtain ⟨hd, hi⟩ := hg
    obtain ⟨f0, f1, f2, f3, f4, f5⟩ := hf it (by simp)
    obtain ⟨hs, hgd, hx, es', ep', hdt, hsz, ent⟩ := n_frz I hd
    obtain ⟨rfl, rfl⟩ := dict_ep hod hdt
    obtain ⟨en, hen, _, hval⟩ := ent i xs[i] (List.getElem?_eq_getElem hi)
    rw [← hsz] at st
    have hi' : i < es'.size := by omega
    have eq : es'[i] = en := by rw [Array.getElem?_eq_getElem hi'] at hen; exact Option.some.inj hen
    refine wpAny_pyNext_values_item_raw st ⟨o, hgd, hx, hdt⟩ hi' fun h' st' sb => ?_
    have I1 : Inv X pins σ H { s with heap := h' } := I.turned (t' := s.toks) (fun b ob hb e => (sb.2 b hb).trans e) f0 f1 f3 f4 f5
    obtain ⟨oi, e, c, dd⟩ := id st'
    refine ⟨es'[i].val, rfl, go_of (s := { s with heap := h' }) e c dd (by decide) ⟨xs[i].2.2, H, I1, by rw [eq]; exact hval, ⟨rfl, xs[i], List.getElem?_eq_getElem hi, rfl⟩, ?_, fun b hb => (hf b hb).1⟩⟩
    show h'.IsValIter it d (i + 1) xs.length _
    rw [← hsz]
    exact st'
  done := by
    intro X hP hw hK hc i pins s σ H E I hf st hg
    subst hP hw hK
    obtain ⟨hd, hi⟩ := hg
    obtain ⟨f0, f1, f2, f3, f4, f5⟩ := hf it (by simp)
    obtain ⟨hs, hgd, hx, es', ep', hdt, hsz, ent⟩ := n_frz I hd
    obtain ⟨rfl, rfl⟩ := dict_ep hod hdt
    rw [← hsz] at st
    exact wpAny_pyNext_values_end_raw (I.ok.hd hc) st ⟨o, hgd, hx, hdt⟩ (by omega) fun h' eb => ⟨rfl, I.turned (t' := s.toks) (fun b ob hb e => eb b ob hb e) f0 f1 f3 f4 f5⟩
  self := fun A i s Q E st h => wpAny_pyIter_valiter st h
end
def iNKeys (P : Program) (w : World) (td : TE) : TI := fun σ H R => td σ H fun x H1 => ∃ d o xs, x = .ref d ∧ H1 d = some (.frz o (NO P w d xs)) ∧ R (ItNk P w d o xs) H1
def iNVals (P : Program) (w : World) (td : TE) : TI := fun σ H R => td σ H fun x H1 => ∃ d o xs, x = .ref d ∧ H1 d = some (.frz o (NO P w d xs)) ∧ R (ItNv P w d o xs) H1
section
variable {X : Cx} {P : Program} {w : World} {tg e : Expr} {td : TE} {apos cpos : Pos}
theorem pi_nkeys (hP : X.prog = P) (hw : X.w = w) (he : PE X e td) : PI X tg e (iNKeys P w td) := by
  subst hP hw
  refine ⟨fun pins s σ H R I h => ?_⟩
  refine thn (he.run pins s σ H _ I h) fun u s1 ⟨x, H1, I1, rx, d, o, xs, ex, hd, q⟩ => ?_
  subst ex
  obtain rfl : u = Value.ref d := rx
  obtain ⟨hs, hgd, hx, es, ep, hdt, hsz, ent⟩ := n_frz I1 hd
  refine iter_keys hs hgd hx hdt (pi_one (tk := s1.toks) I1 _ (turn_nk _ hdt) ⟨_, Heap.get?_push_size _ rfl, rfl, ?_⟩ q)
  rw [hsz] <;> rfl
theorem pi_nvals (hP : X.prog = P) (hw : X.w = w) (he : PE X e td) (hbase : attributeBase e "values" X.env (eval e X.env) = eval e X.env := by rfl) (hline : (apos.endLine == cpos.line) = true := by rfl) : PI X tg (.Call (.Attribute e "values" apos) [] [] cpos) (iNVals P w td) := by
  subst hP hw
  refine ⟨fun pins s σ H R I h => ?_⟩
  refine wpAny_Call_method (T := "dict") (id := "dict.values") hbase rfl hline F.plainAttrs_dict F.slot_dict_values F.type_dict_values (thn (he.run pins s σ H _ I h) fun u s1 ⟨x, H1, I1, rx, d, o, xs, ex, hd, q⟩ => ?_)
  subst ex
  obtain rfl : u = Value.ref d := rx
  obtain ⟨hs, hgd, hx, es, ep, hdt, hsz, ent⟩ := n_frz I1 hd
  refine ⟨⟨o, hgd, hx.1⟩, (fun b e => by cases e; exact ⟨o, hgd, hx.2.1⟩), ?_⟩
  have I2 : Inv X pins σ H1 { s1 with heap := s1.heap.push { cls := .type "dict_values", data := .fields #[.ref d] } } := I1.kept (t' := s1.toks) fun b ob q => Heap.get?_push_of_some _ q
  have fin : wpAny (model X.prog X.w) X.A (pyIter (.ref s1.heap.objs.size)) (PIE X pins σ tg R) X.xe { s1 with heap := s1.heap.push { cls := .type "dict_values", data := .fields #[.ref d] } } := by
    refine wpAny_pyIter_values_raw (d := d) (es := es) (ep := ep) ⟨_, Heap.get?_push_size _ rfl, rfl, rfl⟩ ⟨o, Heap.get?_push_of_some _ hgd, hx, hdt⟩ (pi_one (tk := s1.toks) I2 _ (turn_nv _ hdt) ⟨_, Heap.get?_push_size _ rfl, rfl, ?_⟩ q)
    rw [hsz] <;> rfl
  show wpAny _ _ (callWith cpos (.builtin "dict.values") [.ref d] [] []) _ X.xe s1
  exact method_meetsIn F.slot_dict_values F.entry_dict_values rfl (PySem.evalArgs_none ⟨rfl, ⟨o, hgd, hx.1⟩, F.args_dict_values_1 _, _, meets_dict_values_raw d hs, ⟨es, ep, o, hgd, hx, hdt⟩, fin⟩)
end
end KB

set_option maxHeartbeats 1000000
/-! KL: what formulas say; keys that matter; rows of readings. No program in sight. -/
namespace KB
open PySem PySem.Spec PyProof.Rows L2
abbrev Rho := Str → Option Str
def leafEv : Fm → Option Str → Bool
  | .is _ v, o => decide (o = some v)
  | _, o => o.isNone
namespace Fm
def ev : Fm → Rho → Bool
  | .is k v, ρ => decide (ρ k = some v)
  | .sil k, ρ => (ρ k).isNone
  | .no f, ρ => !(f.ev ρ)
  | .two o a b, ρ => if o = true then (a.ev ρ || b.ev ρ) else (a.ev ρ && b.ev ρ)
theorem ev_leaves : ∀ {f : Fm} {ρ τ : Rho}, (∀ l ∈ f.leaves, leafEv l (ρ l.key) = leafEv l (τ l.key)) → f.ev ρ = f.ev τ
  | .is k v, ρ, τ, h => h (.is k v) (List.mem_singleton.mpr rfl)
  | .sil k, ρ, τ, h => h (.sil k) (List.mem_singleton.mpr rfl)
  | .no f, ρ, τ, h => by
    show (!(f.ev ρ)) = !(f.ev τ)
    rw [ev_leaves (f := f) h]
  | .two o a b, ρ, τ, h => by
    have h1 := ev_leaves (f := a) (ρ := ρ) (τ := τ) fun l hl => h l (List.mem_append_left _ hl)
    have h2 := ev_leaves (f := b) (ρ := ρ) (τ := τ) fun l hl => h l (List.mem_append_right _ hl)
    show (if o = true then (a.ev ρ || b.ev ρ) else (a.ev ρ && b.ev ρ)) = _
    rw [h1, h2]
    rfl
theorem ev_keys {f : Fm} {ρ τ : Rho} (h : ∀ k ∈ f.keys, ρ k = τ k) : f.ev ρ = f.ev τ :=
  ev_leaves fun l hl => by rw [h l.key (List.mem_map.mpr ⟨l, hl, rfl⟩)]
end Fm
/-- a key matters: one reading by another one, all else alike, makes the formula differ -/
def Mt (f : Fm) (k : Str) : Prop := ∃ ρ τ : Rho, (∀ j, j ≠ k → ρ j = τ j) ∧ f.ev ρ = true ∧ f.ev τ = false
noncomputable def mtB (f : Fm) (k : Str) : Bool := @decide (Mt f k) (Classical.propDecidable _)
theorem mtB_t {f : Fm} {k : Str} : mtB f k = true ↔ Mt f k := by unfold mtB; exact @decide_eq_true_iff _ (Classical.propDecidable _)
/-! ### rows of readings -/
abbrev Row := List (Str × Option Str)
def look (r : Row) : Rho := fun k => match r.find? (fun e => decide (e.1 = k)) with | some e => e.2 | none => none
theorem look_nil (k : Str) : look [] k = none := rfl
theorem look_pos {e : Str × Option Str} {r : Row} {k : Str} (h : e.1 = k) : look (e :: r) k = e.2 := by
  unfold look; rw [List.find?_cons, decide_eq_true h]
theorem look_neg {e : Str × Option Str} {r : Row} {k : Str} (h : ¬ e.1 = k) : look (e :: r) k = look r k := by
  unfold look; rw [List.find?_cons, decide_eq_false h]
theorem look_map (g : Str → Option Str) : ∀ {ks : List Str} {k : Str}, k ∈ ks → look (ks.map fun k => (k, g k)) k = g k
  | j :: ks, k, h => by
    rw [List.map_cons]
    by_cases e : j = k
    · rw [look_pos (e := (j, g j)) e]; show g j = _; rw [e]
    · rw [look_neg (e := (j, g j)) e]
      exact look_map g ((List.mem_cons.mp h).resolve_left fun q => e q.symm)
theorem look_out : ∀ {r : Row} {k : Str}, ¬ k ∈ r.map (·.1) → look r k = none
  | [], k, _ => rfl
  | e :: r, k, h => by
    have h1 : ¬ e.1 = k := fun q => h (by rw [List.map_cons, q]; exact List.mem_cons_self)
    rw [look_neg h1]
    exact look_out fun q => h (List.mem_cons_of_mem _ q)
theorem row_look : ∀ {r : Row}, (r.map (·.1)).Nodup → r = (r.map (·.1)).map fun k => (k, look r k)
  | [], _ => rfl
  | e :: r, h => by
    rw [List.map_cons, List.nodup_cons] at h
    have ih := row_look h.2
    rw [List.map_cons, List.map_cons, look_pos (e := e) rfl]
    refine congrArg (List.cons e) ?_
    refine ih.trans (List.map_congr_left fun k hk => ?_)
    have : ¬ e.1 = k := fun q => h.1 (by rw [q]; exact hk)
    rw [look_neg this]
def grow (S : Str → List (Option Str)) (rows : List Row) (k : Str) : List Row := rows.flatMap fun r => (S k).map fun o => r ++ [(k, o)]
def prodR (S : Str → List (Option Str)) (rows : List Row) (ks : List Str) : List Row := ks.foldl (grow S) rows
theorem prodR_snoc (S : Str → List (Option Str)) (rows : List Row) (ks : List Str) (k : Str) : prodR S rows (ks ++ [k]) = grow S (prodR S rows ks) k := by
  unfold prodR; rw [List.foldl_append] <;> rfl
theorem mem_prod {S : Str → List (Option Str)} : ∀ {ks : List Str} {rows : List Row} {r : Row}, r ∈ prodR S rows ks ↔ ∃ r0 ∈ rows, ∃ t : Row, r = r0 ++ t ∧ t.map (·.1) = ks ∧ ∀ e ∈ t, e.2 ∈ S e.1
  | [], rows, r => by
    constructor
    · intro h
      exact ⟨r, h, [], by simp, rfl, fun _ h => nomatch h⟩
    · rintro ⟨r0, h0, t, rfl, ht, _⟩
      have : t = [] := by simpa using ht
      rw [this, List.append_nil]; exact h0
  | k :: ks, rows, r => by
    show r ∈ prodR S (grow S rows k) ks ↔ _
    rw [mem_prod]
    constructor
    · rintro ⟨r1, h1, t, rfl, ht, ha⟩
      obtain ⟨r0, h0, h2⟩ := List.mem_flatMap.mp h1
      obtain ⟨o, ho, rfl⟩ := List.mem_map.mp h2
      refine ⟨r0, h0, (k, o) :: t, by simp, by simp [ht], fun e he => ?_⟩
      rcases List.mem_cons.mp he with rfl | he
      · exact ho
      · exact ha e he
    · rintro ⟨r0, h0, t, rfl, ht, ha⟩
      cases t with
      | nil => cases ht
      | cons e t =>
        rw [List.map_cons] at ht
        obtain ⟨e1, e2⟩ := List.cons.inj ht
        refine ⟨r0 ++ [e], ?_, t, by simp, e2, fun x hx => ha x (List.mem_cons_of_mem _ hx)⟩
        refine List.mem_flatMap.mpr ⟨r0, h0, List.mem_map.mpr ⟨e.2, ?_, ?_⟩⟩
        · rw [← e1]; exact ha e List.mem_cons_self
        · rw [← e1]
def rowsOf (S : Str → List (Option Str)) (ks : List Str) : List Row := prodR S [[]] ks
theorem mem_rows {S : Str → List (Option Str)} {ks : List Str} {r : Row} : r ∈ rowsOf S ks ↔ r.map (·.1) = ks ∧ ∀ e ∈ r, e.2 ∈ S e.1 := by
  unfold rowsOf
  rw [mem_prod]
  constructor
  · rintro ⟨r0, h0, t, rfl, h1, h2⟩
    rw [List.mem_singleton.mp h0]
    exact ⟨h1, h2⟩
  · rintro ⟨h1, h2⟩
    exact ⟨[], List.mem_singleton.mpr rfl, r, rfl, h1, h2⟩
theorem grow_len (S : Str → List (Option Str)) (k : Str) (m : Nat) (hm : (S k).length ≤ m) : ∀ rows : List Row, (grow S rows k).length ≤ rows.length * m
  | [] => by simp [grow]
  | r :: rows => by
    have h := grow_len S k m hm rows
    show ((S k).map _ ++ grow S rows k).length ≤ _
    rw [List.length_append, List.length_map, List.length_cons, Nat.succ_mul]
    omega
theorem prod_len (S : Str → List (Option Str)) (m : Nat) : ∀ (ks : List Str) (rows : List Row), (∀ k ∈ ks, (S k).length ≤ m) → (prodR S rows ks).length ≤ rows.length * m ^ ks.length
  | [], rows, _ => by show rows.length ≤ _; simp
  | k :: ks, rows, h => by
    have h1 := prod_len S m ks (grow S rows k) fun j hj => h j (List.mem_cons_of_mem _ hj)
    have h2 := grow_len S k m (h k List.mem_cons_self) rows
    show (prodR S (grow S rows k) ks).length ≤ _
    have h3 : (grow S rows k).length * m ^ ks.length ≤ rows.length * m * m ^ ks.length := Nat.mul_le_mul_right _ h2
    rw [List.length_cons, Nat.pow_succ, Nat.mul_comm (m ^ ks.length) m, ← Nat.mul_assoc]
    omega
/-- the readings of S stand for all readings -/
def Full (f : Fm) (S : Str → List (Option Str)) (ks : List Str) : Prop := ∀ k ∈ ks, ∀ o : Option Str, ∃ o' ∈ S k, ∀ l ∈ f.leaves, l.key = k → leafEv l o = leafEv l o'
def Pair (f : Fm) (k : Str) (rs : List Row) : Prop := ∃ r1 ∈ rs, ∃ r2 ∈ rs, (∀ j, j ≠ k → look r1 j = look r2 j) ∧ f.ev (look r1) = true ∧ f.ev (look r2) = false
theorem pair_mt {f : Fm} {S : Str → List (Option Str)} {ks : List Str} (hS : Full f S ks) (hk : ∀ k ∈ f.keys, k ∈ ks) (k : Str) : Pair f k (rowsOf S ks) ↔ Mt f k := by
  constructor
  · rintro ⟨r1, _, r2, _, h1, h2, h3⟩
    exact ⟨look r1, look r2, h1, h2, h3⟩
  · rintro ⟨ρ, τ, h1, h2, h3⟩
    obtain ⟨c, hc⟩ : ∃ c : Str → Option Str → Option Str, ∀ k ∈ ks, ∀ o, c k o ∈ S k ∧ ∀ l ∈ f.leaves, l.key = k → leafEv l o = leafEv l (c k o) := by
      have h' : ∀ k o, ∃ o', k ∈ ks → o' ∈ S k ∧ ∀ l ∈ f.leaves, l.key = k → leafEv l o = leafEv l o' := by
        intro k o
        by_cases q : k ∈ ks
        · obtain ⟨o', h1, h2⟩ := hS k q o
          exact ⟨o', fun _ => ⟨h1, h2⟩⟩
        · exact ⟨none, fun q' => absurd q' q⟩
      exact ⟨fun k o => Classical.choose (h' k o), fun k hk o => Classical.choose_spec (h' k o) hk⟩
    have mem : ∀ σ : Rho, (ks.map fun k => (k, c k (σ k))) ∈ rowsOf S ks := by
      intro σ
      refine mem_rows.mpr ⟨by rw [List.map_map]; exact List.map_id' ks, fun e he => ?_⟩
      obtain ⟨k, hk, rfl⟩ := List.mem_map.mp he
      exact (hc k hk (σ k)).1
    have evs : ∀ σ : Rho, f.ev (look (ks.map fun k => (k, c k (σ k)))) = f.ev σ := by
      intro σ
      refine Fm.ev_leaves fun l hl => ?_
      have hlk := hk l.key (List.mem_map.mpr ⟨l, hl, rfl⟩)
      rw [look_map (fun k => c k (σ k)) hlk]
      exact ((hc l.key hlk (σ l.key)).2 l hl rfl).symm
    refine ⟨_, mem ρ, _, mem τ, fun j hj => ?_, by rw [evs]; exact h2, by rw [evs]; exact h3⟩
    by_cases q : j ∈ ks
    · rw [look_map (fun k => c k (ρ k)) q, look_map (fun k => c k (τ k)) q, h1 j hj]
    · have e : ∀ σ : Rho, look (ks.map fun k => (k, c k (σ k))) j = none := fun σ => look_out (by rw [List.map_map]; simpa using q)
      rw [e, e]
/-- what is alike but for one key -/
theorem alike {r1 r2 : Row} {ks : List Str} {k : Str} (h1 : r1.map (·.1) = ks) (h2 : r2.map (·.1) = ks) :
    (∀ j, j ≠ k → look r1 j = look r2 j) ↔ (ks.filter fun j => decide (j ≠ k)).map (look r1) = (ks.filter fun j => decide (j ≠ k)).map (look r2) := by
  rw [List.map_inj_left]
  constructor
  · intro h j hj
    exact h j (of_decide_eq_true (List.mem_filter.mp hj).2)
  · intro h j hj
    by_cases q : j ∈ ks
    · exact h j (List.mem_filter.mpr ⟨q, decide_eq_true hj⟩)
    · rw [look_out (by rw [h1]; exact q), look_out (by rw [h2]; exact q)]
/-! ### ascending lists -/
theorem rising_pair : ∀ {l : List Str} {p : Str}, risingS p l = true → (p :: l).Pairwise fun a b => ltCps b.cps.toList a.cps.toList = false
  | [], p, _ => List.pairwise_singleton _ _
  | x :: r, p, h => by
    have h' : (!ltCps x.cps.toList p.cps.toList && risingS x r) = true := h
    obtain ⟨h1, h2⟩ := Bool.and_eq_true_iff.mp h'
    have ih := rising_pair h2
    refine List.pairwise_cons.mpr ⟨fun y hy => ?_, ih⟩
    have hpx : ltCps x.cps.toList p.cps.toList = false := by simpa using h1
    rcases List.mem_cons.mp hy with rfl | hy
    · exact hpx
    · have hxy := (List.pairwise_cons.mp ih).1 y hy
      rw [ltCps_eq, decide_eq_false_iff_not] at hpx hxy ⊢
      exact fun q => hxy (by
        rcases List.le_iff_lt_or_eq.mp (List.not_lt.mp hpx) with e | e
        · exact List.lt_trans q e
        · rw [← e]; exact q)
theorem sorted_pair {l : List Str} (h : sortedS l = true) : l.Pairwise fun a b => ltCps b.cps.toList a.cps.toList = false := by
  cases l with
  | nil => exact .nil
  | cons p r => exact rising_pair h
theorem cps_inj {a b : Str} (h : a.cps.toList = b.cps.toList) : a = b := by
  obtain ⟨⟨a⟩⟩ := a
  obtain ⟨⟨b⟩⟩ := b
  have : a = b := h
  rw [this]
theorem sorted_eq {l m : List Str} (hl : sortedS l = true) (hm : sortedS m = true) (hp : l.Perm m) : l = m := by
  refine List.Perm.eq_of_pairwise (le := fun a b => ltCps b.cps.toList a.cps.toList = false) (fun a b _ _ h1 h2 => ?_) (sorted_pair hl) (sorted_pair hm) hp
  rw [ltCps_eq, decide_eq_false_iff_not] at h1 h2
  exact cps_inj (List.le_antisymm (List.not_lt.mp h1) (List.not_lt.mp h2))
structure Asc (P : Str → Prop) (l : List Str) : Prop where
  so : sortedS l = true
  nd : l.Nodup
  mem : ∀ k, k ∈ l ↔ P k
theorem Asc.eq {P : Str → Prop} {l m : List Str} (h : Asc P l) (k : Asc P m) : l = m :=
  sorted_eq h.so k.so ((List.perm_ext_iff_of_nodup h.nd k.nd).mpr fun x => (h.mem x).trans (k.mem x).symm)
theorem Asc.perm {P : Str → Prop} {l m : List Str} (so : sortedS m = true) (nd : l.Nodup) (mem : ∀ k, k ∈ l ↔ P k) (p : m.Perm l) : Asc P m :=
  ⟨so, p.nodup_iff.mpr nd, fun k => p.mem_iff.trans (mem k)⟩
theorem sorted_self {l m : List Str} (hl : sortedS l = true) (hm : sortedS m = true) (hp : m.Perm l) : m = l := sorted_eq hm hl hp
theorem sorted_filter {l : List Str} (p : Str → Bool) (h : sortedS l = true) : sortedS (l.filter p) = true := sortedS_of_pairwise _ ((sorted_pair h).filter p)
end KB

set_option maxHeartbeats 1000000
/-! KO: {**d, k: v}; dicts that hold the very same; a text times a number; set(list) of texts. -/
namespace KB
open PySem PySem.Spec PyProof.Rows L2
section
variable {P : Program} {w : World} {A : Around} {E : Value → Shared → Prop} {s : Shared}
theorem wpAny_dictPut_pairs {K : Type} [DecidableEq K] {knd : KeyKind P w K} {d : Addr} {kvs : List (K × Value)} {k : K} {key v : Value} {Q : Unit → Shared → Prop} (hkey : knd.is k key = true) (hm : s.heap.DictOf knd d kvs)
    (hQ : ∀ h', h'.DictOf knd d (stored kvs k v) → Heap.SameBut d s.heap h' → Q () { s with heap := h' }) (hsz : kvs.length ≤ sizeLine) :
    wpAny (model P w) A (dictPut d (knd.hash k) key v) Q E s := by
  obtain ⟨o, es, ep, ho, hc, hd, hk, hp, hn⟩ := hm
  have hes : es.size ≤ sizeLine := by have e1 := hp.length; have e2 : es.toList.length = es.size := by simp
                                      omega
  unfold dictPut
  refine wpAny_bind (wpAny_dictFind_of hkey ho hd hk ?_)
  have hidx : (es.findIdx? fun e => knd.is k e.key) = kvs.findIdx? fun kv => decide (kv.1 = k) := by
    rw [← hp.findIdx k]; obtain ⟨l⟩ := es; simp
  cases hi : es.findIdx? fun e => knd.is k e.key with
  | some i =>
    refine wpAny_updateDict ho hd (hQ _ ⟨_, _, ep, Heap.get?_update_self _ ho (Obj.isFreed_of_dict (Obj.data_mapDict hd _)),
      hc.mapDict _, Obj.data_mapDict hd _, hk.modify _ _, ?_, ?_⟩ (Heap.SameBut.update ..))
    · rw [stored, if_pos (any_of_findIdx_some (hidx ▸ hi))]
      have hl : (es.toList.findIdx? fun e => knd.is k e.key) = some i := by rw [← hi]; obtain ⟨l⟩ := es; simp
      have := hp.modify hn hl v
      obtain ⟨l⟩ := es
      simpa using this
    · rw [stored, if_pos (any_of_findIdx_some (hidx ▸ hi)), keys_map_store]; exact hn
  | none =>
    have hnot : k ∉ kvs.map (·.1) := not_mem_of_findIdx_none (hidx ▸ hi)
    have hany : ¬ (kvs.any fun kv => decide (kv.1 = k)) = true := by
      rw [List.any_eq_true]; rintro ⟨kv, hkv, he⟩
      exact hnot (List.mem_map.mpr ⟨kv, hkv, of_decide_eq_true he⟩)
    refine wpAny_updateDictKeys (hz := hes) ho hd (hQ _ ⟨_, _, ep + 1, Heap.get?_update_self _ ho (Obj.isFreed_of_dict (Obj.data_mapDictKeys hd _)),
      hc.mapDictKeys _, Obj.data_mapDictKeys hd _, hk.push hkey _, ?_, ?_⟩ (Heap.SameBut.update ..))
    · rw [stored, if_neg hany]
      have := hp.append hkey (knd.hash k) v
      obtain ⟨l⟩ := es
      simpa using this
    · rw [stored, if_neg hany, List.map_append, List.nodup_append]
      refine ⟨hn, by simp, ?_⟩
      intro a ha b hb
      simp only [List.map_cons, List.map_nil, List.mem_singleton] at hb
      subst hb
      exact fun e => hnot (e ▸ ha)
theorem wpAny_mergeMapping_pairs {d o : Addr} {kvs more : List (Key × Value)} {Q : Unit → Shared → Prop} (hdo : d ≠ o) (hoS : (o == sysModules) = false) (hd : s.heap.DictOf (mixKind P w) d kvs) (ho : s.heap.DictOf (mixKind P w) o more)
    (hsz : kvs.length + more.length ≤ sizeLine) (hQ : ∀ h', h'.DictOf (mixKind P w) d (merged kvs more) → h'.DictOf (mixKind P w) o more → Heap.SameBut d s.heap h' → Q () { s with heap := h' }) :
    wpAny (model P w) A (mergeMapping d (.ref o) false) Q E s := by
  obtain ⟨od, esd, epd, hod, hcd, hdd, hkd, hpd, hnd⟩ := id hd
  obtain ⟨oo, eso, epo, hoo, hco, hdo', hko, hpo, hno⟩ := id ho
  have hlen : more.length = eso.size := by have e1 := hpo.length; have e2 : eso.toList.length = eso.size := by simp
                                           omega
  have loop : wpAny (model P w) A (do
      let size := (← dictEntries o).size
      let epoch ← dictEpoch o
      for i in List.range size do
        let some e := (← dictEntries o)[i]? | unsupported "dict.changed-during-merge"
        holding [e.key, e.val] do
          if false = true then
            if (← dictFind d e.key e.hash).isSome then rule "dict.merge.duplicate-key"; raiseNew (← newExc (.type "KeyError") [e.key])
          dictPut d e.hash e.key e.val
        if (← dictEpoch o) != epoch then unsupported "dict.changed-during-merge") Q E s := by
    refine wpAny_bind (wpAny_dictEntries hoo hdo' ?_)
    refine wpAny_bind (wpAny_dictEpoch hoo hdo' ?_)
    refine wpAny_bind ?_
    refine wpAny_forIn_list _
      (fun rest _ s' => ∃ h' i, s' = { s with heap := h' } ∧ rest = List.range' i (eso.size - i) ∧ i ≤ eso.size ∧ h'.DictOf (mixKind P w) d (merged kvs (more.take i)) ∧ h'.get? o = some oo ∧ Heap.SameBut d s.heap h')
      _ ?_ ?_ _ _ ⟨s.heap, 0, rfl, by simp [List.range_eq_range'], Nat.zero_le _, by simpa [merged] using hd, hoo, Heap.SameBut.refl _ _⟩
    · rintro x rest b s' ⟨h', i, rfl, hr, hi, hd', hoo', hs'⟩
      have hlt : i < eso.size := by
        rcases Nat.lt_or_ge i eso.size with h | h
        · exact h
        · rw [Nat.sub_eq_zero_of_le h] at hr; simp at hr
      obtain ⟨rfl, hrest⟩ : x = i ∧ rest = List.range' (i + 1) (eso.size - (i + 1)) := by
        have e : eso.size - i = (eso.size - (i + 1)) + 1 := by omega
        rw [e, List.range'_succ] at hr
        injection hr with h1 h2
        exact ⟨h1, h2⟩
      refine wpAny_bind (wpAny_dictEntries hoo' hdo' ?_)
      rw [Array.getElem?_eq_getElem hlt]
      obtain ⟨kv, hkv⟩ : ∃ kv, more[x]? = some kv := ⟨more[x]'(by rw [hlen]; exact hlt), List.getElem?_eq_getElem _⟩
      obtain ⟨k, v⟩ := kv
      obtain ⟨hkey, hval⟩ := hpo.get? (e := eso[x]) (by simp [hlt]) hkv
      obtain ⟨k', hkey', hhash⟩ := hko eso[x] (Array.getElem_mem hlt)
      obtain rfl : k' = k := (mixKind P w).inj _ _ _ hkey' hkey
      dsimp only
      have hmx : (merged kvs (more.take x)).length ≤ sizeLine := by
        have e1 := merged_length_le kvs (more.take x)
        have e2 : (more.take x).length ≤ more.length := by rw [List.length_take]; omega
        omega
      refine wpAny_bind (wpAny_holding ?_)
      rw [if_neg Bool.false_ne_true, hhash, hval]
      refine wpAny_dictPut_pairs hkey hd' (fun h'' hd'' hs'' => ?_) hmx
      have hoo'' : h''.get? o = some oo := (hs''.2 o (Ne.symm hdo)).trans hoo'
      refine wpAny_bind (wpAny_dictEpoch hoo'' hdo' ?_)
      rw [if_neg (by simp)]
      exact wpAny_pure ⟨h'', x + 1, rfl, hrest, hlt, by rw [merged_take_succ kvs more x (k', v) hkv]; exact hd'', hoo'', hs'.trans hs''⟩
    · rintro b s' ⟨h', i, rfl, hr, hi, hd', hoo', hs'⟩
      have hin : i = eso.size := by
        rcases Nat.lt_or_ge i eso.size with h | h
        · have e : eso.size - i = (eso.size - (i + 1)) + 1 := by omega
          rw [e, List.range'_succ] at hr; exact nomatch hr
        · exact Nat.le_antisymm hi h
      refine wpAny_pure (hQ h' ?_ ⟨oo, eso, epo, hoo', hco, hdo', hko, hpo, hno⟩ hs')
      rw [hin, ← hlen, List.take_length] at hd'; exact hd'
  unfold mergeMapping
  refine wpAny_bind (wpAny_isInstance ho.typeIs isSubtype_dict_dict ?_)
  rw [if_pos rfl]
  refine wpAny_bind (wpAny_specialOf ho.typeIs F.slot_dict_iter.lookup ?_)
  simp only [beq_self_eq_true]
  refine wpAny_bind (wpAny_pure ?_)
  dsimp only
  rw [hoS, if_neg Bool.false_ne_true]
  refine wpAny_bind (wpAny_dictEntries hod hdd ?_)
  split
  · refine wpAny_bind (wpAny_dictEntries hoo hdo' (wpAny_bind ?_))
    rw [← Array.forIn_toList]
    refine wpAny_forIn_list _ (fun rest _ s' => s' = s ∧ ∀ e ∈ rest, e ∈ eso.toList) _ ?_ ?_ _ _ ⟨rfl, fun e h => h⟩
    · rintro e rest b s' ⟨rfl, hr⟩
      obtain ⟨k, hk, _⟩ := hko e (by simpa using hr e List.mem_cons_self)
      have hrel := relV_key (k := k) (u := e.key) (by exact hk)
      have nr : ∀ a, e.key ≠ .ref a := by
        intro a ea
        rw [ea] at hrel
        cases k with
        | inl i => obtain ⟨t, q⟩ := (show ∃ t, Value.ref a = Value.int i t from hrel); cases q
        | inr x => obtain ⟨t, q⟩ := (show ∃ t, Value.ref a = Value.str x t from hrel); cases q
      split
      · rename_i a ea
        exact absurd ea (nr a)
      · exact wpAny_pure ⟨rfl, fun e' h => hr e' (List.mem_cons_of_mem _ h)⟩
    · rintro b s' ⟨rfl, _⟩
      exact loop
  · exact loop
end
/-- {**d, k: v}: p the new dict, q the one that is made of k and v -/
def tDStar (tr tk tv : TE) : TE := fun σ H Q => ∀ p, H p = none → tr σ (upd H p (.dK [])) fun x H1 => ∃ a ls, x = .ref a ∧ a ≠ p ∧ H1 p = some (.dK []) ∧ Rd H1 a (.dK ls) ∧ ls.length ≤ 1000 ∧
  ∀ q, upd H1 p (.dK ls) q = none → tk σ (upd (upd H1 p (.dK ls)) q (.dK [])) fun y H2 => tv σ H2 fun z H3 => ∃ k, y = kV k ∧ H3 p = some (.dK ls) ∧ H3 q = some (.dK []) ∧ q ≠ p ∧
    Q (.ref p) (upd (upd H3 q (.dK [(k, z)])) p (.dK (putK ls k z)))
def starEnd (p q : Addr) (ls : List (Key × V)) (Q : VK) : List (V × V) → Hp → Prop
  | [(y, z)], H3 => ∃ k, y = kV k ∧ H3 p = some (.dK ls) ∧ H3 q = some (.dK []) ∧ q ≠ p ∧ Q (.ref p) (upd (upd H3 q (.dK [(k, z)])) p (.dK (putK ls k z)))
  | _, _ => False
theorem pe_dstar {X : Cx} {r k v : Expr} {tr tk tv : TE} {pos : Pos} (hr : PE X r tr) (hk : PE X k tk) (hv : PE X v tv) : PE X (.Dict [none, some k] [r, v] pos) (tDStar tr tk tv) := by
  refine ⟨fun pins s σ H Q I h => ?_⟩
  rw [arm_eval_Dict]
  refine wpAny_bind (wpAny_standAt ?_)
  show wpAny _ _ (dictDisplay [(none, do let x ← eval r X.env; standAt pos; pure x), (some (eval k X.env), do let x ← eval v X.env; standAt pos; pure x)]) _ _ _
  unfold dictDisplay
  dsimp only
  rw [List.forIn_cons]
  dsimp only
  refine wpAny_bind (wpAny_bind (wpAny_bind ?_))
  show wpAny _ _ (pure none) _ _ _
  refine wpAny_pure ?_
  dsimp only
  refine wpAny_bind (wpAny_alloc ?_)
  have hn := I.hok.fresh (Nat.le_refl s.heap.objs.size)
  have I1 := I.laid (a := s.heap.objs.size) (o := .dK []) (h' := s.heap.push { cls := .type "dict", data := .dict #[] }) (t' := s.toks) (fun _ _ q => Heap.get?_push_of_some _ q) (Nat.le_refl _) (dk_empty s.heap I.big)
  generalize ep : s.heap.objs.size = p at *
  refine wpAny_bind (wpAny_holding (wpAny_bind (thn (hr.run pins _ σ _ _ I1 (h p hn)) fun u s2 ⟨x, H1, I2, rx, a, ls, ex, nap, e1, e2, lz, q2⟩ => wpAny_bind (wpAny_standAt (wpAny_pure ?_)))))
  subst ex
  obtain rfl : u = Value.ref a := rx
  obtain ⟨z1, hd1, vs1, r1, dd1⟩ := dk_of I2.hok e1
  cases r1
  obtain ⟨z2, hd2, vs2, r2, dd2⟩ := dk_rd I2.hok e2
  obtain ⟨_, _, _, _, _, _, _, _, hno⟩ := id dd2
  refine wpAny_bind (wpAny_onRaise (wpAny_tryCatch (wpAny_onRaise (wpAny_holding (wpAny_mergeMapping_pairs (Ne.symm nap) hd2 dd1 dd2 (by rw [← r2.length, sizeLine_eq]; simp; omega) fun h' dd3 _ sb => ?_)))))
  rw [merged_nil_of_nodup vs2 hno] at dd3
  have I3 : Inv X pins σ (upd H1 p (.dK ls)) { s2 with heap := h', toks := s2.toks } := d_write I2 (by rw [e1]; exact True.intro) sb (let ⟨q, _, _, hq, _⟩ := dd3; ⟨q, hq⟩) (dk_new z2 hd1 r2 dd3)
  refine wpAny_pure ?_
  dsimp only
  rw [List.forIn_cons]
  dsimp only
  show wpAny _ _ (pure (ForInStep.yield (some p, [(eval k X.env, do let x ← eval v X.env; standAt pos; pure x)])) >>= _) _ _ _
  refine wpAny_bind (wpAny_pure ?_)
  dsimp only
  rw [List.forIn_nil]
  refine wpAny_pure ?_
  dsimp only
  show wpAny _ _ ((do let sub ← holding [Value.ref p] (subDict [(eval k X.env, do let x ← eval v X.env; standAt pos; pure x)]); _) >>= _) _ _ _
  refine wpAny_bind (wpAny_bind (wpAny_holding ?_))
  refine wpAny_subDict (knd := mixKind X.prog X.w) (by simp) ?_
  have hn2 := I3.hok.fresh (Nat.le_refl h'.objs.size)
  have I4 := I3.laid (a := h'.objs.size) (o := .dK []) (h' := h'.push { cls := .type "dict", data := .dict #[] }) (t' := s2.toks) (fun _ _ q => Heap.get?_push_of_some _ q) (Nat.le_refl _) (dk_empty h' I3.big)
  have q3 := q2 _ hn2
  show wpAny _ _ (evalPairs (pairTrees [some k] [v] X.env pos)) _ _ { s2 with heap := h'.push { cls := .type "dict", data := .dict #[] }, toks := s2.toks }
  refine thn ((pps_cons hk hv pps_nil).run pins _ σ _ (starEnd p h'.objs.size ls Q) I4 q3) fun ws s5 ⟨ps, H3, I5, rel, q4⟩ => ?_
  match ps, rel, q4 with
  | [], _, q4 => exact q4.elim
  | _ :: _ :: _, _, q4 => exact q4.elim
  | [(y, z)], rel, q4 =>
  obtain ⟨kk, ey, f1, f2, nqp, q4⟩ := q4
  subst ey
  obtain ⟨rs, c, rk⟩ := carries_of (P := X.prog) (w := X.w) (kvs := [(kk, z)]) rel
  obtain ⟨z5, hd5, vs5, r5, dd5⟩ := dk_of I5.hok f2
  cases r5
  refine ⟨rs, c, dd5, fun h6 dd6 sb6 => ?_⟩
  have rkm : KV [(kk, z)] (merged [] rs) := rk.merge (kvs := []) .nil
  have I6 : Inv X pins σ (upd H3 h'.objs.size (.dK [(kk, z)])) { s5 with heap := h6, toks := s5.toks + ws.length } := d_write I5 (by rw [f2]; exact True.intro) sb6 (let ⟨q, _, _, hq, _⟩ := dd6; ⟨q, hq⟩) (dk_new (by rw [sizeLine_eq]; simp) hd5 rkm dd6)
  have f1' : upd H3 h'.objs.size (.dK [(kk, z)]) p = some (.dK ls) := by rw [upd_ne (Ne.symm nqp)]; exact f1
  obtain ⟨z7, hd7, vs7, r7, dd7⟩ := dk_of I6.hok f1'
  obtain ⟨z8, hd8, vs8, r8, dd8⟩ := dk_of I6.hok (upd_same (H := H3) (a := h'.objs.size) (o := .dK [(kk, z)]))
  refine wpAny_bind (wpAny_onRaise (wpAny_holding (wpAny_mergeMapping_pairs (Ne.symm nqp) hd8 dd7 dd8 (by rw [← r7.length, ← r8.length, sizeLine_eq]; simp; omega) fun h9 dd9 _ sb9 => ?_)))
  refine wpAny_pure ?_
  dsimp only
  have hl := length_putK ls kk z
  have I9 : Inv X pins σ (upd (upd H3 h'.objs.size (.dK [(kk, z)])) p (.dK (putK ls kk z))) { s5 with heap := h9, toks := s5.toks + ws.length } :=
    d_write (s := { s5 with heap := h6, toks := s5.toks + ws.length }) (t' := s5.toks + ws.length) I6 (by rw [f1']; exact True.intro) sb9 (let ⟨q, _, _, hq, _⟩ := dd9; ⟨q, hq⟩) (dk_new (by rw [sizeLine_eq]; omega) hd7 (KV.merge (more := [(kk, z)]) r8 r7) dd9)
  exact wpAny_pure ⟨.ref p, _, I9, rfl, q4⟩
theorem i_dstar {tr tk tv : TE} {σ : L2.St} {H : Hp} {Q : VK} (h : ∀ p, H p = none → tr σ (upd H p (.dK [])) fun x H1 => ∃ a ls, x = .ref a ∧ a ≠ p ∧ H1 p = some (.dK []) ∧ Rd H1 a (.dK ls) ∧ ls.length ≤ 1000 ∧
  ∀ q, upd H1 p (.dK ls) q = none → tk σ (upd (upd H1 p (.dK ls)) q (.dK [])) fun y H2 => tv σ H2 fun z H3 => ∃ k, y = kV k ∧ H3 p = some (.dK ls) ∧ H3 q = some (.dK []) ∧ q ≠ p ∧
    Q (.ref p) (upd (upd H3 q (.dK [(k, z)])) p (.dK (putK ls k z)))) : tDStar tr tk tv σ H Q := h
/-! ### a text times a number -/
def timesS (z : Str) (n : Nat) : Str := ⟨(List.replicate n z.cps).foldl (· ++ ·) #[]⟩
def rMulS : R2 := fun x y H Q => ∃ (z : Str) (n : Nat), x = .str z ∧ y = .int n ∧ 1 ≤ n ∧ n ≤ 1000 ∧ z.length ≤ 1000 ∧ Q (.str (timesS z n)) H
theorem fold_one {α : Type} (a : Array α) : (List.replicate 1 a).foldl (· ++ ·) #[] = a := by
  simp
theorem fold_nil {α : Type} : ∀ n : Nat, (List.replicate n (#[] : Array α)).foldl (· ++ ·) #[] = #[]
  | 0 => rfl
  | n + 1 => by
    rw [List.replicate_succ, List.foldl_cons]
    simpa using fold_nil n
theorem times_size {α : Type} (a : Array α) : ∀ (n : Nat) (acc : Array α), ((List.replicate n a).foldl (· ++ ·) acc).size = acc.size + n * a.size
  | 0, acc => by simp
  | n + 1, acc => by
    rw [List.replicate_succ, List.foldl_cons, times_size a n, Array.size_append, Nat.succ_mul]
    omega
theorem o_mulS {X : Cx} : OpR X (binaryOp .Mult) rMulS := by
  intro pins s σ H x y v u Q I rx ry h
  obtain ⟨z, n, rfl, rfl, h1, h2, h3, q⟩ := h
  obtain ⟨t, rfl⟩ := (show ∃ t, v = Value.str z t from rx)
  obtain ⟨t2, rfl⟩ := (show ∃ t, u = Value.int n t from ry)
  refine PySem.P.mul_str (by simp; omega) (fun _ _ => ?_) (fun _ _ => ?_) ?_
  · intro hx
    have : ((z.length : Nat) : Int) ≤ 1000 := by omega
    have h4 : (1000 : Int) ≤ (2 ^ 63 - 1 : Int) / (n : Int) := (Int.le_ediv_iff_mul_le (by omega)).mpr (by omega)
    omega
  · have : z.length * n ≤ 1000 * 1000 := Nat.mul_le_mul h3 h2
    show decide (_ > sizeLine) = false
    rw [decide_eq_false_iff_not, sizeLine_eq, Int.toNat_natCast]
    omega
  rw [if_neg (by omega)]
  split
  · rename_i e
    refine ⟨.str (timesS z n), H, I.tok _, ⟨t, ?_⟩, q⟩
    have ez : timesS z n = z := by
      obtain ⟨c⟩ := z
      rw [Bool.or_eq_true, beq_iff_eq, beq_iff_eq] at e
      rcases e with e | e
      · have : n = 1 := by omega
        rw [this]
        unfold timesS
        rw [fold_one]
      · have : c = #[] := Array.eq_empty_of_size_eq_zero e
        rw [this]
        unfold timesS
        rw [fold_nil]
    rw [ez]
  · refine ⟨?_, .str (timesS z n), H, I.tok _, ⟨_, rfl⟩, q⟩
    have : z.length * n ≤ 1000 * 1000 := Nat.mul_le_mul h3 h2
    have e := times_size z.cps n #[]
    show ((List.replicate (Int.toNat (n : Int)) z.cps).foldl (· ++ ·) #[]).size ≤ sizeLine
    rw [Int.toNat_natCast, e, sizeLine_eq, Nat.mul_comm]
    show 0 + z.length * n ≤ _
    omega
/-! ### dicts that hold the very same -/
def sameB : V → Bool
  | .ref _ => true
  | v => flatB v
theorem eqAt_self {A : Around} {s : Shared} {v : V} {u u' : Value} (r : RelV v u) (r' : RelV v u') (f : sameB v = true) : SeqAt.EqAt A s u u' true := by
  cases v with
  | ref a => cases (show u = Value.ref a from r); cases (show u' = Value.ref a from r'); exact SeqAt.EqAt.same _
  | non => exact eqAt_same r r' f
  | bl b => exact eqAt_same r r' f
  | int i => exact eqAt_same r r' f
  | str x => exact eqAt_same r r' f
  | byt b => exact eqAt_same r r' f
  | _ => exact absurd f (by simp [sameB, flatB])
theorem hits_self {κ : Type} [DecidableEq κ] {A : Around} {s : Shared} {kvs : List (κ × V)} {vb : List (κ × Value)} (rb : KV kvs vb) {ks : List (κ × V)} {va : List (κ × Value)} (ra : KV ks va) :
    (∀ p ∈ ks, valV kvs p.1 = some p.2 ∧ sameB p.2 = true) → PySem.W.KeqHits A s vb va true := by
  unfold KV at ra
  induction ra with
  | nil => intro _; exact .nil
  | @cons p q ps qs h t ih =>
    intro hp
    obtain ⟨h1, h2⟩ := h
    obtain ⟨e, f⟩ := hp p List.mem_cons_self
    have rr : RelO (some p.2) (valueAt vb p.1) := by rw [← e]; exact rb.val p.1
    obtain ⟨y, hy, ry⟩ := rr.some_of
    obtain ⟨k, v⟩ := q
    have h1' : p.1 = k := h1
    rw [h1'] at hy
    show PySem.W.KeqHits A s vb ((k, v) :: qs) (true && true)
    exact .hit hy (eqAt_self h2 ry f) (ih fun p' hm => hp p' (List.mem_cons_of_mem _ hm))
def rNeDS : R2 := fun x y H Q => ∃ a b ks ls, x = .ref a ∧ y = .ref b ∧ H a = some (.dK ks) ∧ H b = some (.dK ls) ∧ ks.length = ls.length ∧ (∀ p ∈ ks, valV ls p.1 = some p.2 ∧ sameB p.2 = true) ∧ Q (.bl false) H
theorem o_neDS {X : Cx} (hu : X.A.units < cLine) : OpR X (compareOp .NotEq) rNeDS := by
  intro pins s σ H x y v u Q I rx ry h
  obtain ⟨a, b, ks, ls, rfl, rfl, ea, eb, hlen, hp, q⟩ := h
  obtain rfl : v = Value.ref a := rx
  obtain rfl : u = Value.ref b := ry
  obtain ⟨_, ya, va, ra, da⟩ := (show ObjOk X.prog X.w H s.heap a (.dK ks) from I.hok a _ ea)
  obtain ⟨_, yb, vb, rb, db⟩ := (show ObjOk X.prog X.w H s.heap b (.dK ls) from I.hok b _ eb)
  have hl : va.length = vb.length := by rw [← ra.length, ← rb.length]; exact hlen
  exact PySem.W.keq_ne (knd := mixKind X.prog X.w) (r := true) ya yb da db hu (fun _ => hits_self rb ra hp) (fin_bl I q (by simp [hl]))
/-! ### set(list) of texts, some of them the same -/
section
variable {P : Program} {w : World} {A : Around} {R : Result → Shared → Prop} {J D : Addr} {fp wr : List Addr} {G : Array GenState → Array GenState → Prop} {n : Nat} {Pr : Nat → Value → Prop} {St : Nat → Shared → Prop}
def addT (l : List Str) (ks : List Str) : List Str := ks.foldl (fun l k => if k ∈ l then l else k :: l) l
theorem ifLen (k : Str) (l : List Str) : (if k ∈ l then l else k :: l).length ≤ l.length + 1 := by
  split
  · omega
  · rw [List.length_cons]; omega
theorem addT_len : ∀ (ks l : List Str), (addT l ks).length ≤ l.length + ks.length
  | [], l => by show l.length ≤ _; omega
  | k :: ks, l => by
    have h := addT_len ks (if k ∈ l then l else k :: l)
    show (addT _ ks).length ≤ _
    rw [List.length_cons]
    exact Nat.le_trans h (by have := ifLen k l; omega)
theorem addT_mem (x : Str) : ∀ (ks l : List Str), x ∈ addT l ks ↔ x ∈ l ∨ x ∈ ks
  | [], l => by show x ∈ l ↔ _; simp
  | k :: ks, l => by
    show x ∈ addT (if k ∈ l then l else k :: l) ks ↔ _
    rw [addT_mem x ks]
    by_cases h : k ∈ l
    · rw [if_pos h, List.mem_cons]
      constructor
      · rintro (a | a)
        · exact .inl a
        · exact .inr (.inr a)
      · rintro (a | rfl | a)
        · exact .inl a
        · exact .inl h
        · exact .inr a
    · rw [if_neg h, List.mem_cons, List.mem_cons]
      constructor
      · rintro ((rfl | a) | a)
        · exact .inr (.inl rfl)
        · exact .inl a
        · exact .inr (.inr a)
      · rintro (a | rfl | a)
        · exact .inl (.inr a)
        · exact .inl (.inl rfl)
        · exact .inr a
theorem addT_nd : ∀ (ks l : List Str), l.Nodup → (addT l ks).Nodup
  | [], l, h => h
  | k :: ks, l, h => by
    show (addT (if k ∈ l then l else k :: l) ks).Nodup
    refine addT_nd ks _ ?_
    split
    · exact h
    · rename_i q; exact List.nodup_cons.mpr ⟨q, h⟩
theorem addLoopT (W : WalksS P w A.in1 J fp wr G n Pr St) (nD : D ∉ fp) {ks : List Str} (hk : ks.length = n) (room : n + 1 < scanBound) (hv : ∀ i v, Pr i v → ∃ t, v = .str (ks.getD i Str.empty) t) :
    ∀ (left i : Nat) (l : List Str) (s : Shared), i + left = n → l.length ≤ i → St i s → TxtSet w s.heap D l →
      (∀ z, Moved (D :: wr) G s z → TxtSet w z.heap D (addT l (ks.drop i)) → R (.ok (.ret .none)) z) → codeAny (model P w) A (.builtin "set.update.loop" ⟨[.ref D, .ref J], []⟩) R s := by
  have nw : D ∉ wr := fun m => nD (W.sub _ m)
  have wide : ∀ b ∈ wr, b ∈ D :: wr := fun b m => List.mem_cons_of_mem _ m
  have on : ∀ {z z' : Shared} {l : List Str}, Moved wr G z z' → TxtSet w z.heap D l → TxtSet w z'.heap D l := fun mv st => st.kept fun o ho => mv.heap D _ nw ho
  intro left
  induction left with
  | zero =>
    intro i l s hi hll st hS fin
    cases (show i = n by omega)
    refine codeAny_builtin (PyProof.Rows.F.entry_set_update_loop) ?_
    rw [Around.under_plainId (PyProof.Rows.F.plain_set_update_loop) _]
    show wpAny _ (A.in1) (pyNext (.ref J) >>= _) _ _ s
    refine wpAny_bind (W.done s _ _ st fun z mv => show wpAny _ _ (ret Value.none) _ _ z from wpAny_pure (fin z (mv.mono wide) ?_))
    rw [List.drop_of_length_le (by omega)]
    exact on mv hS
  | succ left ih =>
    intro i l s hi hll st hS fin
    have lt : i < n := by omega
    refine codeAny_builtin (PyProof.Rows.F.entry_set_update_loop) ?_
    rw [Around.under_plainId (PyProof.Rows.F.plain_set_update_loop) _]
    show wpAny _ (A.in1) (pyNext (.ref J) >>= _) _ _ s
    refine wpAny_bind (W.item i s _ _ lt st fun v z pv stz mv => ?_)
    obtain ⟨t, rfl⟩ := hv i v pv
    have hSz := on mv hS
    show wpAny _ (A.in1) (holding [Value.str (ks.getD i Str.empty) t] (setAdd D (.str (ks.getD i Str.empty) t)) >>= _) _ _ z
    refine wpAny_bind (wpAny_holding ?_)
    unfold setAdd
    refine wpAny_holding (wpAny_bind ((strKind P w).pyHash (k := ks.getD i Str.empty) (strKind_is _ _ _ _) ?_))
    refine txt_add_hashed (s := { z with toks := z.toks + 1 }) hSz (by omega) fun h2 b sb hS2 => ?_
    have hd : ks.drop i = ks.getD i Str.empty :: ks.drop (i + 1) := by
      rw [List.drop_eq_getElem_cons (by omega)]
      simp [List.getD, hk, lt]
    rw [hd] at fin
    have hl2 : (if ks.getD i Str.empty ∈ l then l else ks.getD i Str.empty :: l).length ≤ i + 1 := Nat.le_trans (ifLen _ _) (by omega)
    have keep : ∀ b, b ≠ D → ∀ o, z.heap.get? b = some o → h2.get? b = some o := fun b nb o e => by rw [sb.2 b nb]; exact e
    refine wpAny_pure ⟨plainId_quiet (PyProof.Rows.F.plain_set_update_loop) _, ih (i + 1) _ _ (by omega) hl2 (W.frame _ z _ _ stz (Nat.le_succ _) fun b m o e => keep b (fun q => nD (q ▸ m)) o e) hS2 fun y mv2 hS4 => ?_⟩
    exact fin y (Moved.trans W.gtrans ((mv.mono wide).then_heap (Nat.le_succ _) fun b o nb e => keep b (fun q => nb (q ▸ List.mem_cons_self)) o e) mv2) hS4
end
section
variable {P : Program} {w : World} {A : Around} {E : Value → Shared → Prop} {s : Shared}
theorem code_set_new_led (a : Value) {Q₁ : Value → Shared → Prop}
    (h : Q₁ (.ref s.heap.objs.size) { s with heap := s.heap.push (setO (!w.params.followText "set-order")) }) :
    codeAny (model P w) A (.call (.builtin "set.__new__") ⟨[.type "set", a], []⟩) (wants Q₁ E) s := by
  refine codeAny_of_tree ?_
  show wpAny _ A.in1 (do checkBuiltinCall "set.__new__" ⟨[.type "set", a], []⟩; again (.builtin "set.__new__" ⟨[.type "set", a], []⟩)) _ _ s
  refine wpAny_bind (wpAny_of_eq (PySem.F.newCall_set_1 a) (wpAny_pure ⟨plainId_quiet PySem.F.plain_set_new _, codeAny_builtin PySem.F.entry_set_new ?_⟩))
  rw [Around.under_plainId PySem.F.plain_set_new _]
  unfold Builtin.«set.__new__» Builtin.Frozenset.newClass
  have hsub := sub_set_self
  obtain ⟨hp, g, d, tk, os⟩ := s
  dsimp only
  wp_walk
  refine wpAny_askSetting (wpAny_pure ?_)
  dsimp only
  simp only [newObj]
  refine wpAny_bind (wpAny_alloc (wpAny_pure ?_))
  exact wpAny_pure h
theorem call_set_txt {l : Addr} {items : Array Value} {ks : List Str} {Q : Value → Shared → Prop} (hh : A.handled = none) (hl : s.heap.IsList l items) (hi : StrsAre items.toList ks) (room : ks.length + 1 < scanBound)
    (h : ∀ (h' : Heap) (tk : Nat), TxtSet w h' s.heap.objs.size (addT [] ks) → (∀ b o, s.heap.get? b = some o → h'.get? b = some o) → Q (.ref s.heap.objs.size) { s with heap := h', toks := tk }) :
    wpAny (model P w) A (call (.type "set") [.ref l]) Q E s := by
  have hsz : ks.length = items.size := by rw [← StrsAre.len_eq hi, Array.length_toList]
  obtain ⟨c, tl, hmro⟩ := PySem.F.called_set.mro
  have a1 := PySem.F.called_set.made
  have a2 := PySem.F.called_set.sub
  refine wpAny_call (codeAny_of_tree (show wpAny _ _ (callAny (.type "set") _) _ _ _ from wpAny_pure ⟨Code.quiet_builtin _ (by decide +kernel), codeAny_builtin PySem.F.entry_type_call ?_⟩))
  rw [Around.under_plain (weight_type_call_type "set" [.ref l] []) rfl]
  have a3 := PySem.F.called_set.notType
  have a4 := PySem.F.called_set.canCreate
  have a5 := PySem.F.typeCall_set_1 (.ref l)
  repeat (any_goals (first | assumption | wp_step))
  refine codeAny_mono (code_set_new_led (.ref l) (E := E) (Q₁ := fun ob z => ob = .ref s.heap.objs.size ∧ z = { s with heap := s.heap.push (setO (!w.params.followText "set-order")) }) ⟨rfl, rfl⟩) fun r z hz => ?_
  match r, hz with
  | .error _, hz => exact hz
  | .ok .next, hz => exact hz.elim
  | .ok .brk, hz => exact hz.elim
  | .ok .cont, hz => exact hz.elim
  | .ok (.ret ob), hz =>
    obtain ⟨rfl, rfl⟩ := hz
    have gS : (s.heap.push (setO (!w.params.followText "set-order"))).get? s.heap.objs.size = some (setO (!w.params.followText "set-order")) := Heap.get?_push_size _ rfl
    have tS : Shared.TypeIs { s with heap := s.heap.push (setO (!w.params.followText "set-order")) } (.ref s.heap.objs.size) "set" := ⟨_, gS, rfl⟩
    have T0 : TxtSet w (s.heap.push (setO (!w.params.followText "set-order"))) s.heap.objs.size [] := txt_new w
    generalize (!w.params.followText "set-order") = led at *
    have b1 := PySem.F.called_set.init.lookup
    have b2 := PySem.F.called_set.init.bind (.ref s.heap.objs.size)
    repeat (any_goals (first | assumption | wp_step))
    refine codeAny_mono (codeAny_call_builtin (R := wants (fun r y => r = .none ∧ ∃ h' tk, y = { s with heap := h', toks := tk } ∧ TxtSet w h' s.heap.objs.size (addT [] ks) ∧
        (∀ b o, s.heap.get? b = some o → h'.get? b = some o)) E) PySem.F.called_set.init.plain PySem.F.entry_set_init (check_set_init_1 tS ?_)) fun r y hy => ?_
    · obtain ⟨⟨oc, od, dt, sl⟩, hol, hcl, nl, hdl⟩ := hl
      cases hcl
      cases hdl
      have gl : (s.heap.push (setO led)).get? l = some { cls := .type "list", dict := od, data := .seq items nl, slots := sl } := Heap.get?_push_of_some _ hol
      have c1 := PySem.F.sub_list_set
      have c2 := PySem.F.sub_list_frozenset
      have c3 : (Value.type "list" == Value.type "dict") = false := by decide
      have il : (s.heap.push (setO led)).IsList l items := ⟨_, gl, rfl, nl, rfl⟩
      unfold Builtin.«set.__init__» noKeywords Builtin.Frozenset.updateFrom
      generalize hg : pyIter = PI
      wp_walk
      subst hg
      refine wpAny_pyIter_list il (wpAny_bind (wpAny_runValue ?_))
      have ll : l < s.heap.objs.size := Heap.lt_size hol
      have h3 : A.in1.in1.in1.handled = none := by simp [hh]
      have sp : (s.heap.push (setO led)).objs.size = s.heap.objs.size + 1 := Heap.size_push ..
      have nI : l ≠ (s.heap.push (setO led)).objs.size := fun e => Nat.ne_of_lt (Nat.lt_succ_of_lt ll) (e.trans sp)
      have nS : s.heap.objs.size ∉ [(s.heap.push (setO led)).objs.size, l] := by
        intro m
        rcases List.mem_cons.mp m with e | m
        · exact Nat.ne_of_lt (Nat.lt_succ_self _) (e.trans sp)
        · exact Nat.ne_of_gt ll (List.mem_singleton.mp m)
      refine addLoopT ((Walks.list h3 _ l nI items).toS) nS hsz (by omega) (fun i v pv => strs_getD hi i v (by rw [Array.getElem?_toList]; exact pv)) items.size 0 [] _ (by omega) (by simp) ⟨⟨_, Heap.get?_push_size _ rfl, rfl, rfl⟩, (il.push _)⟩ ?_ ?_
      · exact T0.kept fun o e => Heap.get?_push_of_some _ e
      · rintro ⟨h', g', d', tk', os'⟩ mv hS'
        cases (mv.gens : g' = s.gens)
        cases (mv.drawn : d' = s.drawn)
        cases (mv.os : os' = s.os)
        refine wpAny_pure (show wpAny _ _ (ret Value.none) _ _ _ from wpAny_pure ⟨rfl, h', tk', rfl, hS', fun b o e => ?_⟩)
        have lb := Heap.lt_size e
        refine mv.heap b o ?_ (Heap.get?_push_of_some _ (Heap.get?_push_of_some _ e))
        intro m
        rcases List.mem_cons.mp m with e2 | m
        · exact Nat.ne_of_lt lb e2
        · exact Nat.ne_of_lt (Nat.lt_succ_of_lt lb) ((List.mem_singleton.mp m).trans sp)
    · match r, hy with
      | .error _, hy => exact hy
      | .ok .next, hy => exact hy.elim
      | .ok .brk, hy => exact hy.elim
      | .ok .cont, hy => exact hy.elim
      | .ok (.ret r), hy =>
        obtain ⟨rfl, h', tk, rfl, hS', keep⟩ := hy
        repeat (any_goals (first | assumption | wp_step))
        exact h _ _ hS' keep
end
def rSetT (w : World) : List V → Hp → VK → Prop := fun xs H Q => ∃ (a : Addr) (ks : List Str), xs = [.ref a] ∧ H a = some (.lst (ks.map V.str)) ∧ ks.length ≤ 1000 ∧ ∀ p l, H p = none → l.Nodup → (∀ k, k ∈ l ↔ k ∈ ks) → l.length ≤ ks.length → Q (.ref p) (upd H p (TxtO w p l))
theorem c_setT {X : Cx} {w : World} (hw : X.w = w) (hc : X.calm = true) : CallR X (.type "set") (rSetT w) := by
  subst hw
  intro pins s σ H vs us Q I r h
  obtain ⟨a, ks, rfl, ha, hz, q⟩ := h
  obtain ⟨_, its, n, rel, ob⟩ := (show ObjOk X.prog X.w H s.heap a (.lst (ks.map V.str)) from I.hok a _ ha)
  rw [Vals.ref1 r]
  refine call_set_txt (I.ok.hd hc) (items := its.toArray) ⟨_, ob, rfl, n, rfl⟩ (by simpa using strsAre_of rel) (by unfold scanBound; omega) fun h' tk hS keep => ?_
  have free : H s.heap.objs.size = none := I.hok.fresh (Nat.le_refl _)
  refine ⟨.ref s.heap.objs.size, _, I.laid (o := TxtO X.w s.heap.objs.size (addT [] ks)) keep (Nat.le_refl _) (txtO_ok hS), rfl, q _ _ free (addT_nd ks [] List.nodup_nil) (fun k => ?_) ?_⟩
  · rw [addT_mem]; simp
  · have := addT_len ks []
    simpa using this
end KB

set_option maxHeartbeats 1000000
/-! KJ: readings, dicts of readings; comprehensions by an invariant; steps. -/
namespace KB
open PySem PySem.Spec PyProof.Rows L2
def rdgD : Option Str → PyData
  | none => .none
  | some s => .tuple [.str s, .int 0]
/-- v is a reading: None, or a tuple of the value and a number -/
def RdV (H : Hp) (v : V) (o : Option Str) : Prop := match o with
  | none => v = .non
  | some s => ∃ n : Int, Im H v (.tuple [.str s, .int n])
theorem RdV.mono {H H' : Hp} {v : V} {o : Option Str} (t : Tq H H') (h : RdV H v o) : RdV H' v o := by
  cases o with
  | none => exact h
  | some s => obtain ⟨n, h⟩ := h; exact ⟨n, h.mono t⟩
theorem RdV.of {H : Hp} {v : V} {o : Option Str} (h : Im H v (rdgD o)) : RdV H v o := by
  cases o with
  | none => cases h; rfl
  | some s => exact ⟨0, h⟩
/-- the dict at a holds the readings ρ of the keys ks -/
def DRho (H : Hp) (a : Addr) (ρ : Rho) (ks : List Str) : Prop := ∃ kvs : List (Key × V), Rd H a (.dK kvs) ∧ ∀ k ∈ ks, RdV H ((valV kvs (.inr k)).getD .non) (ρ k)
theorem Rd.mono {H H' : Hp} {a : Addr} {u : HO} (s : Same H H') (h : Rd H a u) : Rd H' a u := by
  rcases h with h | ⟨o, h⟩
  · exact .inl (s _ _ h)
  · exact .inr ⟨o, s _ _ h⟩
theorem DRho.mono {H H' : Hp} {a : Addr} {ρ : Rho} {ks : List Str} (s : Same H H') (h : DRho H a ρ ks) : DRho H' a ρ ks := by
  obtain ⟨kvs, h1, h2⟩ := h
  exact ⟨kvs, Rd.mono s h1, fun k hk => (h2 k hk).mono (Same.tq s)⟩
theorem DRho.sub {H : Hp} {a : Addr} {ρ : Rho} {ks ls : List Str} (h : DRho H a ρ ks) (hs : ∀ k ∈ ls, k ∈ ks) : DRho H a ρ ls := by
  obtain ⟨kvs, h1, h2⟩ := h
  exact ⟨kvs, h1, fun k hk => h2 k (hs k hk)⟩
/-- what a dict of readings holds, in its order -/
def KvRow (H : Hp) (kvs : List (Key × V)) (r : Row) : Prop := Paired (fun (p : Key × V) (e : Str × Option Str) => p.1 = Sum.inr e.1 ∧ Im H p.2 (rdgD e.2)) kvs r
theorem KvRow.mono {H H' : Hp} {kvs : List (Key × V)} {r : Row} (t : Tq H H') (h : KvRow H kvs r) : KvRow H' kvs r := Paired.mapP h fun _ _ z => ⟨z.1, z.2.mono t⟩
theorem KvRow.val {H : Hp} {kvs : List (Key × V)} {r : Row} (h : KvRow H kvs r) (k : Str) : Im H ((valV kvs (.inr k)).getD .non) (rdgD (look r k)) ∧ ((valV kvs (.inr k)).isSome = true ↔ k ∈ r.map (·.1)) := by
  unfold KvRow at h
  induction h with
  | nil => exact ⟨.non, by simp [valV_nil]⟩
  | @cons p e ps es hq t ih =>
    obtain ⟨h1, h2⟩ := hq
    by_cases q : e.1 = k
    · have e1 : p.1 = Sum.inr k := by rw [h1, q]
      rw [valV_pos e1, look_pos q]
      refine ⟨h2, ?_⟩
      simp [q]
    · have e1 : ¬ p.1 = Sum.inr k := by rw [h1]; intro z; exact q (Sum.inr.inj z)
      rw [valV_neg e1, look_neg q]
      refine ⟨ih.1, ih.2.trans ?_⟩
      rw [List.map_cons, List.mem_cons]
      exact ⟨.inr, fun z => z.resolve_left fun y => q y.symm⟩
theorem KvRow.keys {H : Hp} {kvs : List (Key × V)} {r : Row} (h : KvRow H kvs r) : kvs.map (·.1) = (r.map (·.1)).map Sum.inr := by
  unfold KvRow at h
  induction h with
  | nil => rfl
  | cons hq _ ih => rw [List.map_cons, List.map_cons, List.map_cons, ih, hq.1]
theorem KvRow.drho {H : Hp} {a : Addr} {kvs : List (Key × V)} {r : Row} (ha : Rd H a (.dK kvs)) (h : KvRow H kvs r) (ks : List Str) : DRho H a (look r) ks :=
  ⟨kvs, ha, fun k _ => RdV.of (h.val k).1⟩
theorem KvRow.put {H : Hp} {kvs : List (Key × V)} {r : Row} {k : Str} {o : Option Str} {v : V} (h : KvRow H kvs r) (hk : ¬ k ∈ r.map (·.1)) (hv : Im H v (rdgD o)) : putK kvs (.inr k) v = kvs ++ [(.inr k, v)] ∧ KvRow H (putK kvs (.inr k) v) (r ++ [(k, o)]) := by
  have n : (kvs.any fun kv => decide (kv.1 = Sum.inr k)) = false := by
    rw [valV_any]
    cases e : (valV kvs (.inr k)).isSome with
    | false => rfl
    | true => exact absurd ((h.val k).2.mp e) hk
  have e : putK kvs (.inr k) v = kvs ++ [(.inr k, v)] := by
    unfold putK
    rw [n, if_neg Bool.false_ne_true]
  rw [e]
  exact ⟨rfl, Paired.snoc h ⟨rfl, hv⟩⟩
theorem KvRow.len {H : Hp} {kvs : List (Key × V)} {r : Row} (h : KvRow H kvs r) : kvs.length = r.length := Paired.length h
/-- the dict at a is the row r -/
def RowAt (H : Hp) (a : Addr) (r : Row) : Prop := ∃ kvs, H a = some (.dK kvs) ∧ KvRow H kvs r
theorem RowAt.mono {H H' : Hp} {a : Addr} {r : Row} (s : Same H H') (h : RowAt H a r) : RowAt H' a r := by
  obtain ⟨kvs, h1, h2⟩ := h
  exact ⟨kvs, s _ _ h1, h2.mono (Same.tq s)⟩
theorem RowAt.drho {H : Hp} {a : Addr} {r : Row} (h : RowAt H a r) (ks : List Str) : DRho H a (look r) ks := by
  obtain ⟨kvs, h1, h2⟩ := h
  exact h2.drho (.inl h1) ks
/-- the dicts at as are the rows rs, all of them new since H0 -/
def RowsAt (H0 H : Hp) (as : List Addr) (rs : List Row) : Prop := Paired (fun a r => H0 a = none ∧ RowAt H a r) as rs
theorem RowsAt.mono {H0 H H' : Hp} {as : List Addr} {rs : List Row} (s : Same H H') (h : RowsAt H0 H as rs) : RowsAt H0 H' as rs := Paired.mapP h fun _ _ z => ⟨z.1, z.2.mono s⟩
theorem RowsAt.get {H0 H : Hp} {as : List Addr} {rs : List Row} (h : RowsAt H0 H as rs) {i : Nat} {a : Addr} (e : as[i]? = some a) : ∃ r, rs[i]? = some r ∧ H0 a = none ∧ RowAt H a r := paired_get h e
theorem RowsAt.len {H0 H : Hp} {as : List Addr} {rs : List Row} (h : RowsAt H0 H as rs) : as.length = rs.length := Paired.length h
/-- but for one thing that is no row -/
theorem RowAt.upd {H : Hp} {a p : Addr} {o : HO} {r : Row} (h : RowAt H a r) (n : ∀ kvs, H p ≠ some (.dK kvs)) (t : ∀ xs, H p ≠ some (.tup xs)) : RowAt (upd H p o) a r := by
  obtain ⟨kvs, h1, h2⟩ := h
  have ne : a ≠ p := fun e => n kvs (by rw [← e]; exact h1)
  exact ⟨kvs, by rw [upd_ne ne]; exact h1, h2.mono fun b xs hb => by rw [upd_ne fun e => t xs (by rw [← e]; exact hb)]; exact hb⟩
/-! ### comprehensions by an invariant -/
section
variable {J : L2.It} {n : Nat} {g : TG} {tt : TT} {te : TE} {vs : List Nat} {σ : L2.St} {H1 : Hp} {Q : VK}
theorem lc_pv (Pv : Addr → Nat → Hp → Prop) (h0 : ∀ D, H1 D = none → Pv D 0 (upd H1 D (.lst []))) (hgo : ∀ D i H, i < n → Pv D i H → J.go i H) (hstop : ∀ D H, Pv D n H → J.stop n H)
    (hs : ∀ D i x H H', H1 D = none → i < n → Pv D i H → J.yld i H x H' → g x (wipe σ vs) H' fun σ2 H2 => wipe σ2 vs = wipe σ vs ∧ tt σ2 H2 fun b H3 =>
      if b = true then te σ2 H3 fun y H4 => ∃ acc, H4 D = some (.lst acc) ∧ acc.length < sizeLine ∧ Pv D (i + 1) (upd H4 D (.lst (acc ++ [y]))) else Pv D (i + 1) H3)
    (hd : ∀ D H, H1 D = none → Pv D n H → Q (.ref D) H) : LcGo J g tt te vs σ H1 Q := by
  intro D hD
  refine ⟨fun i m H => m = n - i ∧ i ≤ n ∧ Pv D i H, ⟨n, by simp, Nat.zero_le _, h0 D hD⟩, ?_⟩
  rintro i m H ⟨rfl, hi, p⟩
  by_cases hlt : i < n
  · exact .inr ⟨hgo D i H hlt p, Pv D (i + 1), fun H' c' => ⟨n - (i + 1), by omega, rfl, hlt, c'⟩, fun x H' y => hs D i x H H' hD hlt p y⟩
  · have e : i = n := by omega
    subst e
    exact .inl ⟨hstop D H p, hd D H hD p⟩
theorem i_lcP {K : PySem.W.Frag} {a : Addr} {xs : List V} (Pv : Addr → Nat → Hp → Prop) (ha : SqL K H1 a xs) (h0 : ∀ D, H1 D = none → Pv D 0 (upd H1 D (.lst []))) (hl : ∀ D i H, H1 D = none → Pv D i H → SqL K H a xs)
    (hs : ∀ D i x H, H1 D = none → xs[i]? = some x → Pv D i H → g x (wipe σ vs) H fun σ2 H2 => wipe σ2 vs = wipe σ vs ∧ tt σ2 H2 fun b H3 =>
      if b = true then te σ2 H3 fun y H4 => ∃ acc, H4 D = some (.lst acc) ∧ acc.length < sizeLine ∧ Pv D (i + 1) (upd H4 D (.lst (acc ++ [y]))) else Pv D (i + 1) H3)
    (hd : ∀ D H, H1 D = none → Pv D xs.length H → Q (.ref D) H) : ∃ a', V.ref a = .ref a' ∧ (∃ xs, SqL K H1 a' xs) ∧ LcGo (Itl K a') g tt te vs σ H1 Q := by
  refine ⟨a, rfl, ⟨xs, ha⟩, ?_⟩
  intro D hD
  refine ⟨fun i m H => m = xs.length - i ∧ i ≤ xs.length ∧ Pv D i H, ⟨xs.length, by simp, Nat.zero_le _, h0 D hD⟩, ?_⟩
  rintro i m H ⟨rfl, hi, p⟩
  have hq := hl D i H hD p
  by_cases hlt : i < xs.length
  · refine .inr ⟨⟨xs, xs[i], hq, List.getElem?_eq_getElem hlt⟩, Pv D (i + 1), fun H' c' => ⟨xs.length - (i + 1), by omega, rfl, hlt, c'⟩, fun x H' y => ?_⟩
    obtain ⟨rfl, y⟩ := y
    exact hs D i x _ hD (y xs hq) p
  · have e : i = xs.length := by omega
    subst e
    exact .inl ⟨⟨xs, hq, Nat.le_refl _⟩, hd D H hD p⟩
end
def Lc2Go (J : L2.It) (g : TG) (tt : TT) (wi1 : TI) (g1 : TG) (tt1 : TT) (te : TE) (vs vs1 : List Nat) (σ : L2.St) (H1 : Hp) (Q : VK) : Prop := ∀ D, H1 D = none → ∃ W : Nat → Nat → Hp → Prop, (∃ m, W 0 m (upd H1 D (.lst []))) ∧ ∀ i m H, W i m H →
  (J.stop i H ∧ Q (.ref D) H) ∨ (J.go i H ∧ ∃ Nx : Hp → Prop, (∀ H', Nx H' → ∃ m', m' < m ∧ W (i + 1) m' H') ∧ ∀ x H', J.yld i H x H' → g x (wipe σ vs) H' fun σ2 H2 => wipe σ2 vs = wipe σ vs ∧ tt σ2 H2 fun b H3 =>
    if b = true then wi1 σ2 H3 fun J1 H4 => ∃ W1 : Nat → Nat → Hp → Prop, (∃ m, W1 0 m H4) ∧ ∀ j k H, W1 j k H →
      (J1.stop j H ∧ Nx H) ∨ (J1.go j H ∧ ∃ Nx1 : Hp → Prop, (∀ H', Nx1 H' → ∃ k', k' < k ∧ W1 (j + 1) k' H') ∧ ∀ x H', J1.yld j H x H' → g1 x (wipe σ2 vs1) H' fun σ3 H5 => wipe σ3 vs1 = wipe σ2 vs1 ∧ tt1 σ3 H5 fun b H6 =>
        if b = true then te σ3 H6 fun y H7 => ∃ acc, H7 D = some (.lst acc) ∧ acc.length < sizeLine ∧ Nx1 (upd H7 D (.lst (acc ++ [y]))) else Nx1 H6)
    else Nx H3)
/-- the inner walk, over a list -/
def InGo (K : PySem.W.Frag) (g1 : TG) (tt1 : TT) (te : TE) (vs1 : List Nat) (σ2 : L2.St) (D a : Addr) (Nx : Hp → Prop) (H4 : Hp) : Prop := ∃ W1 : Nat → Nat → Hp → Prop, (∃ m, W1 0 m H4) ∧ ∀ j k H, W1 j k H →
      ((Itl K a).stop j H ∧ Nx H) ∨ ((Itl K a).go j H ∧ ∃ Nx1 : Hp → Prop, (∀ H', Nx1 H' → ∃ k', k' < k ∧ W1 (j + 1) k' H') ∧ ∀ x H', (Itl K a).yld j H x H' → g1 x (wipe σ2 vs1) H' fun σ3 H5 => wipe σ3 vs1 = wipe σ2 vs1 ∧ tt1 σ3 H5 fun b H6 =>
        if b = true then te σ3 H6 fun y H7 => ∃ acc, H7 D = some (.lst acc) ∧ acc.length < sizeLine ∧ Nx1 (upd H7 D (.lst (acc ++ [y]))) else Nx1 H6)
theorem in_pv {K : PySem.W.Frag} {g1 : TG} {tt1 : TT} {te : TE} {vs1 : List Nat} {σ2 : L2.St} {D a : Addr} {Nx : Hp → Prop} {H4 : Hp} {xs : List V} (Pv : Nat → Hp → Prop) (h0 : Pv 0 H4) (hl : ∀ j H, Pv j H → SqL K H a xs)
    (hs : ∀ j x H, xs[j]? = some x → Pv j H → g1 x (wipe σ2 vs1) H fun σ3 H5 => wipe σ3 vs1 = wipe σ2 vs1 ∧ tt1 σ3 H5 fun b H6 =>
      if b = true then te σ3 H6 fun y H7 => ∃ acc, H7 D = some (.lst acc) ∧ acc.length < sizeLine ∧ Pv (j + 1) (upd H7 D (.lst (acc ++ [y]))) else Pv (j + 1) H6)
    (hd : ∀ H, Pv xs.length H → Nx H) : InGo K g1 tt1 te vs1 σ2 D a Nx H4 := by
  refine ⟨fun i m H => m = xs.length - i ∧ i ≤ xs.length ∧ Pv i H, ⟨xs.length, by simp, Nat.zero_le _, h0⟩, ?_⟩
  rintro i m H ⟨rfl, hi, p⟩
  have hq := hl i H p
  by_cases hlt : i < xs.length
  · refine .inr ⟨⟨xs, xs[i], hq, List.getElem?_eq_getElem hlt⟩, Pv (i + 1), fun H' c' => ⟨xs.length - (i + 1), by omega, rfl, hlt, c'⟩, fun x H' y => ?_⟩
    obtain ⟨rfl, y⟩ := y
    exact hs i x _ (y xs hq) p
  · have e : i = xs.length := by omega
    subst e
    exact .inl ⟨⟨xs, hq, Nat.le_refl _⟩, hd H p⟩
section
variable {K : PySem.W.Frag} {g g1 : TG} {tt tt1 : TT} {te te0 te1 : TE} {vs vs1 : List Nat} {σ : L2.St} {H H1 : Hp} {Q : VK}
theorem i_lc20L (h : te0 σ H fun x H1 => ∃ a, x = .ref a ∧ (∃ xs, SqL K H1 a xs) ∧ Lc2Go (Itl K a) g tt (iList K te1) g1 tt1 te vs vs1 σ H1 Q) : tLc2 (iList K te0) g tt (iList K te1) g1 tt1 te vs vs1 σ H Q := h
theorem i_lc2P {a : Addr} {xs : List V} (Pv : Addr → Nat → Hp → Prop) (ha : SqL K H1 a xs) (h0 : ∀ D, H1 D = none → Pv D 0 (upd H1 D (.lst []))) (hl : ∀ D i H, H1 D = none → Pv D i H → SqL K H a xs)
    (hs : ∀ D i x H, H1 D = none → xs[i]? = some x → Pv D i H → g x (wipe σ vs) H fun σ2 H2 => wipe σ2 vs = wipe σ vs ∧ tt σ2 H2 fun b H3 =>
      if b = true then te1 σ2 H3 fun y H4 => ∃ a1, y = .ref a1 ∧ (∃ xs, SqL K H4 a1 xs) ∧ InGo K g1 tt1 te vs1 σ2 D a1 (Pv D (i + 1)) H4 else Pv D (i + 1) H3)
    (hd : ∀ D H, H1 D = none → Pv D xs.length H → Q (.ref D) H) : ∃ a', V.ref a = .ref a' ∧ (∃ xs, SqL K H1 a' xs) ∧ Lc2Go (Itl K a') g tt (iList K te1) g1 tt1 te vs vs1 σ H1 Q := by
  refine ⟨a, rfl, ⟨xs, ha⟩, ?_⟩
  intro D hD
  refine ⟨fun i m H => m = xs.length - i ∧ i ≤ xs.length ∧ Pv D i H, ⟨xs.length, by simp, Nat.zero_le _, h0 D hD⟩, ?_⟩
  rintro i m H ⟨rfl, hi, p⟩
  have hq := hl D i H hD p
  by_cases hlt : i < xs.length
  · refine .inr ⟨⟨xs, xs[i], hq, List.getElem?_eq_getElem hlt⟩, Pv D (i + 1), fun H' c' => ⟨xs.length - (i + 1), by omega, rfl, hlt, c'⟩, fun x H' y => ?_⟩
    obtain ⟨rfl, y⟩ := y
    exact hs D i x _ hD (y xs hq) p
  · have e : i = xs.length := by omega
    subst e
    exact .inl ⟨⟨xs, hq, Nat.le_refl _⟩, hd D H hD p⟩
/-! ### steps -/
variable {td ty tx tv : TE} {P : Program} {w : World} {D : Ends}
theorem i_dget1 (h : td σ H fun x H1 => ∃ a, x = .ref a ∧ IsD H1 a ∧ ty σ H1 fun y H2 => ∃ o, DGet H2 a y o ∧ Q (o.getD .non) H2) : tDGet1 td ty σ H Q := h
theorem i_dpop1 (h : td σ H fun x H1 => ∃ a, x = .ref a ∧ IsD H1 a ∧ ty σ H1 fun y H2 => ∃ kvs k v, H2 a = some (.dK kvs) ∧ y = kV k ∧ valV kvs k = some v ∧ Q v (upd H2 a (.dK (dropK kvs k)))) : tDPop1 td ty σ H Q := h
theorem i_ndnew (h : ∀ p, H p = none → Q (.ref p) (upd H p (NO P w p []))) : tNDnew P w σ H Q := h
theorem i_nget2 (h : td σ H fun x H1 => ∃ a xs0, x = .ref a ∧ Rd H1 a (NO P w a xs0) ∧ ty σ H1 fun y H2 => tx σ H2 fun z H3 =>
  ∃ xs k b, y = .ref b ∧ Rd H3 a (NO P w a xs) ∧ NKs H3 xs ∧ IsN H3 k (.ref b) ∧ k.depth ≤ 8 ∧ Q ((valV (nkv xs) k).getD z) H3) : tNGet2 P w td ty tx σ H Q := h
theorem i_nsetd (h : td σ H fun x H1 => ∃ a xs0, x = .ref a ∧ Rd H1 a (NO P w a xs0) ∧ ty σ H1 fun y H2 => tx σ H2 fun z H3 =>
  ∃ xs k b, y = .ref b ∧ H3 a = some (NO P w a xs) ∧ NKs H3 xs ∧ IsN H3 k (.ref b) ∧ k.depth ≤ 8 ∧ xs.length < sizeLine ∧ (∀ v, valV (nkv xs) k = some v → Q v H3) ∧
    (valV (nkv xs) k = none → Q z (upd H3 a (NO P w a (stV xs k b z))))) : tNSetd P w td ty tx σ H Q := h
theorem i_nix (h : td σ H fun x H1 => ty σ H1 fun y H2 => ∃ a xs k b v, x = .ref a ∧ y = .ref b ∧ Rd H2 a (NO P w a xs) ∧ NKs H2 xs ∧ IsN H2 k (.ref b) ∧ k.depth ≤ 8 ∧ valV (nkv xs) k = some v ∧ Q v H2) : tNIx P w td ty σ H Q := h
theorem i_nput (h : tv σ H fun v H1 => td σ H1 fun x H2 => ty σ H2 fun y H3 =>
  ∃ a xs k b, x = .ref a ∧ y = .ref b ∧ H3 a = some (NO P w a xs) ∧ NKs H3 xs ∧ IsN H3 k (.ref b) ∧ k.depth ≤ 8 ∧ xs.length < sizeLine ∧ D.nx σ (upd H3 a (NO P w a (stV xs k b v)))) : sNPut P w td ty tv D σ H := h
theorem i_listItems (h : te σ H fun x H1 => LiI.rItemsL x H1 Q) : LiI.tListItems te σ H Q := h
theorem i_for0Nv {tb : TS} (h : td σ H fun x H1 => ∃ d o xs, x = .ref d ∧ H1 d = some (.frz o (NO P w d xs)) ∧ ForGo (ItNv P w d o xs) g tb D σ H1) : tFor (iNVals P w td) g tb D σ H := h
theorem i_lc0Nk (h : td σ H fun x H1 => ∃ d o xs, x = .ref d ∧ H1 d = some (.frz o (NO P w d xs)) ∧ LcGo (ItNk P w d o xs) g tt te vs σ H1 Q) : tLc (iNKeys P w td) g tt te vs σ H Q := h
theorem i_forNv {tb : TS} {d : Addr} {o : Obj} {xs : NX} (Pv : Nat → L2.St → Hp → Prop) (hd0 : H1 d = some (.frz o (NO P w d xs))) (h0 : Pv 0 σ H1) (hl : ∀ i σ H, Pv i σ H → H d = some (.frz o (NO P w d xs)))
    (hs : ∀ i x σ H, xs[i]? = some x → Pv i σ H → g x.2.2 σ H fun σ2 H2 => tb { D with nx := Pv (i + 1), ct := Pv (i + 1), bk := D.nx } σ2 H2) (hd : ∀ σ H, Pv xs.length σ H → D.nx σ H) :
    ∃ d' o' xs', V.ref d = .ref d' ∧ H1 d' = some (.frz o' (NO P w d' xs')) ∧ ForGo (ItNv P w d' o' xs') g tb D σ H1 := by
  refine ⟨d, o, xs, rfl, hd0, fun i m σ H => m = xs.length - i ∧ i ≤ xs.length ∧ Pv i σ H, ⟨xs.length, by simp, Nat.zero_le _, h0⟩, ?_⟩
  rintro i m σ H ⟨rfl, hi, pv⟩
  have hq := hl i σ H pv
  by_cases hlt : i < xs.length
  · refine .inr ⟨⟨hq, hlt⟩, Pv (i + 1), fun σ' H' q => ⟨xs.length - (i + 1), by omega, rfl, hlt, q⟩, ?_⟩
    rintro v H' ⟨rfl, y, hy, rfl⟩
    exact hs i y σ _ hy pv
  · have e : i = xs.length := by omega
    subst e
    exact .inl ⟨⟨hq, Nat.le_refl _⟩, hd σ H pv⟩
theorem i_lcNk {d : Addr} {o : Obj} {xs : NX} (Pv : Addr → Nat → Hp → Prop) (hd0 : H1 d = some (.frz o (NO P w d xs))) (h0 : ∀ D, H1 D = none → Pv D 0 (upd H1 D (.lst []))) (hl : ∀ D i H, H1 D = none → Pv D i H → H d = some (.frz o (NO P w d xs)))
    (hs : ∀ D i x H, H1 D = none → xs[i]? = some x → Pv D i H → g (.ref x.2.1) (wipe σ vs) H fun σ2 H2 => wipe σ2 vs = wipe σ vs ∧ tt σ2 H2 fun b H3 =>
      if b = true then te σ2 H3 fun y H4 => ∃ acc, H4 D = some (.lst acc) ∧ acc.length < sizeLine ∧ Pv D (i + 1) (upd H4 D (.lst (acc ++ [y]))) else Pv D (i + 1) H3)
    (hd : ∀ D H, H1 D = none → Pv D xs.length H → Q (.ref D) H) : ∃ d' o' xs', V.ref d = .ref d' ∧ H1 d' = some (.frz o' (NO P w d' xs')) ∧ LcGo (ItNk P w d' o' xs') g tt te vs σ H1 Q := by
  refine ⟨d, o, xs, rfl, hd0, ?_⟩
  intro D hD
  refine ⟨fun i m H => m = xs.length - i ∧ i ≤ xs.length ∧ Pv D i H, ⟨xs.length, by simp, Nat.zero_le _, h0 D hD⟩, ?_⟩
  rintro i m H ⟨rfl, hi, p⟩
  have hq := hl D i H hD p
  by_cases hlt : i < xs.length
  · refine .inr ⟨⟨hq, hlt⟩, Pv D (i + 1), fun H' c' => ⟨xs.length - (i + 1), by omega, rfl, hlt, c'⟩, fun x H' y => ?_⟩
    obtain ⟨rfl, z, hz, rfl⟩ := y
    exact hs D i z _ hD hz p
  · have e : i = xs.length := by omega
    subst e
    exact .inl ⟨⟨hq, Nat.le_refl _⟩, hd D H hD p⟩
end
/-! ### a set of texts, of those items that pass -/
section
variable {w : World} {K : PySem.W.Frag} {g : TG} {tt : TT} {te te0 : TE} {vs : List Nat} {σ : L2.St} {H : Hp} {Q : VK}
theorem set_nd {l : List Str} {k : Str} (h : l.Nodup) : (if k ∈ l then l else k :: l).Nodup := by
  split
  · exact h
  · rename_i q; exact List.nodup_cons.mpr ⟨q, h⟩
theorem set_mem {l : List Str} {k x : Str} : x ∈ (if k ∈ l then l else k :: l) ↔ x ∈ l ∨ x = k := by
  by_cases q : k ∈ l
  · rw [if_pos q]
    constructor
    · exact .inl
    · rintro (h | rfl)
      · exact h
      · exact q
  · rw [if_neg q, List.mem_cons]
    exact Or.comm
theorem i_scF {a : Addr} {xs : List V} {ds : List PyData} {H1 : Hp} (p : PyData → Bool) (f : PyData → Str) (ha : SqL K H1 a xs) (im : ImAll H1 xs ds) (hz : ds.length ≤ 60)
    (hs : ∀ (D : Addr) (i : Nat) (x : V) (d : PyData) (H : Hp), H1 D = none → ds[i]? = some d → Im H x d → Same H1 H → ∀ N : Hp → Prop, (p d = false → ∀ H3, Same H H3 → N H3) → (p d = true → ∀ H4, Same H H4 → ∃ (k : Str) (l : List Str), V.str (f d) = .str k ∧ H4 D = some (TxtO w D l) ∧ l.length + 1 < scanBound ∧ N (upd H4 D (TxtO w D (if k ∈ l then l else k :: l)))) →
      g x (wipe σ vs) H fun σ2 H2 => wipe σ2 vs = wipe σ vs ∧ tt σ2 H2 fun b H3 => if b = true then te σ2 H3 fun y H4 => ∃ (k : Str) (l : List Str), y = .str k ∧ H4 D = some (TxtO w D l) ∧ l.length + 1 < scanBound ∧ N (upd H4 D (TxtO w D (if k ∈ l then l else k :: l))) else N H3)
    (hd : ∀ (D : Addr) (H : Hp) (l : List Str), H1 D = none → Same H1 H → H D = some (TxtO w D l) → l.Nodup → (∀ k, k ∈ l ↔ k ∈ (ds.filter p).map f) → l.length ≤ ds.length → Q (.ref D) H) :
    ∃ a', V.ref a = .ref a' ∧ (∃ xs, SqL K H1 a' xs) ∧ ScGo w (Itl K a') g tt te vs σ H1 Q := by
  refine ⟨a, rfl, ⟨xs, ha⟩, fun D hD => ?_⟩
  have hl := im.length
  refine ⟨fun i m H => ∃ l, m = ds.length - i ∧ i ≤ ds.length ∧ H D = some (TxtO w D l) ∧ Same H1 H ∧ l.Nodup ∧ (∀ k, k ∈ l ↔ k ∈ ((ds.take i).filter p).map f) ∧ l.length ≤ i, ⟨_, [], rfl, Nat.zero_le _, upd_same, Same.new hD, List.nodup_nil, fun k => by simp, Nat.le_refl _⟩, ?_⟩
  rintro i m H ⟨l, rfl, hi, hD2, s, nd, hk, hll⟩
  by_cases e : i = ds.length
  · refine .inl ⟨⟨xs, s.seq ha, by omega⟩, hd D _ l hD s hD2 nd (fun k => ?_) (by omega)⟩
    rw [hk k, e, List.take_length]
  · have hi2 : i < ds.length := by omega
    refine .inr ⟨⟨xs, xs[i], s.seq ha, List.getElem?_eq_getElem (by omega)⟩, fun H' => ∃ l, i + 1 ≤ ds.length ∧ H' D = some (TxtO w D l) ∧ Same H1 H' ∧ l.Nodup ∧ (∀ k, k ∈ l ↔ k ∈ ((ds.take (i + 1)).filter p).map f) ∧ l.length ≤ i + 1, ?_, fun x H' y => ?_⟩
    · rintro H' ⟨l, a1, a2, a3, a4, a5, a6⟩
      exact ⟨_, by omega, l, rfl, a1, a2, a3, a4, a5, a6⟩
    · obtain ⟨rfl, y⟩ := y
      obtain ⟨d, ed, imd⟩ := im.get (y xs (s.seq ha))
      have et := take_succ_get ed
      refine hs D i x d _ hD ed (imd.mono (Same.tq s)) s _ (fun pf H4 s4 => ⟨l, hi2, s4 _ _ hD2, s.trans s4, nd, fun k => ?_, by omega⟩) fun pt H4 s4 => ⟨f d, l, rfl, s4 _ _ hD2, ?_, ?_⟩
      · rw [hk k, et, List.filter_append]
        simp [List.filter, pf]
      · have h60 : 62 < scanBound := by decide
        omega
      · refine ⟨_, hi2, upd_same, Same.put (s.trans s4) hD, set_nd nd, fun k => ?_, ?_⟩
        · rw [set_mem, hk k, et, List.filter_append, List.map_append, List.mem_append]
          simp [List.filter, pt]
        · have := ifLen (f d) l
          omega
end
theorem imS {H : Hp} : ∀ ks : List Str, ImAll H (ks.map V.str) (ks.map PyData.str)
  | [] => .nil
  | k :: ks => .cons (.str k) (imS ks)
theorem imS_eq {H : Hp} : ∀ {ks : List Str} {ys : List V}, ImAll H ys (ks.map PyData.str) → ys = ks.map V.str
  | [], _, .nil => rfl
  | k :: ks, _, .cons (.str _) h => by rw [imS_eq h] <;> rfl
theorem filter_t {α : Type} (l : List α) : l.filter (fun _ => true) = l := List.filter_eq_self.mpr fun _ _ => rfl
theorem nodup_len : ∀ {l m : List Str}, l.Nodup → (∀ x ∈ l, x ∈ m) → l.length ≤ m.length
  | [], _, _, _ => Nat.zero_le _
  | x :: l, m, h, hs => by
    obtain ⟨h1, h2⟩ := List.nodup_cons.mp h
    have hx := hs x List.mem_cons_self
    have ih := nodup_len (l := l) (m := m.erase x) h2 fun y hy => (List.mem_erase_of_ne fun e => h1 (by rw [← e]; exact hy)).mpr (hs y (List.mem_cons_of_mem _ hy))
    rw [List.length_erase_of_mem hx] at ih
    have : 0 < m.length := List.length_pos_of_mem hx
    rw [List.length_cons]
    omega
def strP (p : Str → Bool) : PyData → Bool
  | .str k => p k
  | _ => false
theorem filter_strs (p : Str → Bool) : ∀ ks : List Str, ((ks.map PyData.str).filter (strP p)).map id = (ks.filter p).map PyData.str
  | [] => rfl
  | k :: ks => by
    have ih := filter_strs p ks
    rw [List.map_id] at ih ⊢
    rw [List.map_cons, List.filter_cons, List.filter_cons]
    show (if p k = true then _ else _) = _
    cases p k with
    | true => rw [if_pos rfl, if_pos rfl, List.map_cons, ih]
    | false => rw [if_neg Bool.false_ne_true, if_neg Bool.false_ne_true, ih]
theorem i_dnewK {σ : L2.St} {H : Hp} {Q : VK} (h : ∀ p, H p = none → Q (.ref p) (upd H p (.dK []))) : tDNewK σ H Q := h
def rSortD : List V → Hp → VK → Prop := fun xs H Q => ∃ (a : Addr) (kvs : List (Key × V)) (ks : List Str), xs = [.ref a] ∧ Rd H a (.dK kvs) ∧ kvs.map (·.1) = ks.map Sum.inr ∧ ks.length < 64 ∧
    ∀ ys p, ys.Perm ks → sortedS ys = true → H p = none → Q (.ref p) (upd H p (.lst (ys.map V.str)))
theorem c_sortD {X : Cx} (hc : X.calm = true) : CallR X (.builtin "sorted") rSortD := call_sortedD hc
/-- the names x, xx, .., twelve of them; the first that is not among some texts -/
def xNames : List Str := (List.range 12).map fun i => timesS "x" (1 + i)
def bes (l : List Str) : Str := (xNames.filter fun k => !decide (k ∈ l)).headD ""
theorem bes_not {l : List Str} (h : l.length ≤ 6) : ¬ bes l ∈ l := by
  unfold bes
  have nd : xNames.Nodup := by decide +kernel
  have hl : xNames.length = 12 := by decide +kernel
  cases e2 : xNames.filter fun k => !decide (k ∈ l) with
  | nil =>
    have sub : ∀ x ∈ xNames, x ∈ l := fun x hx => by
      have := List.filter_eq_nil_iff.mp e2 x hx
      simpa using this
    have := nodup_len nd sub
    omega
  | cons z r =>
    have hz : z ∈ xNames.filter fun k => !decide (k ∈ l) := by rw [e2]; exact List.mem_cons_self
    simpa using (List.mem_filter.mp hz).2
theorem prodR_congr {S S' : Str → List (Option Str)} : ∀ {ks : List Str} {rows : List Row}, (∀ k ∈ ks, S k = S' k) → prodR S rows ks = prodR S' rows ks
  | [], _, _ => rfl
  | k :: ks, rows, h => by
    show prodR S (grow S rows k) ks = prodR S' (grow S' rows k) ks
    have e : grow S rows k = grow S' rows k := by unfold grow; rw [h k List.mem_cons_self]
    rw [e]
    exact prodR_congr fun j hj => h j (List.mem_cons_of_mem _ hj)
theorem grow_take {S : Str → List (Option Str)} {rows : List Row} {k : Str} {i : Nat} {r : Row} (h : rows[i]? = some r) : grow S (rows.take (i + 1)) k = grow S (rows.take i) k ++ (S k).map fun o => r ++ [(k, o)] := by
  rw [take_succ_get h]
  unfold grow
  rw [List.flatMap_append]
  simp
end KB

set_option maxHeartbeats 1000000
/-! KI: rows told apart by all keys but one: the keys of the dict, its groups. -/
namespace KB
open PySem PySem.Spec PyProof.Rows L2
def rk : Option Str → NestedKey
  | none => .none
  | some v => .tup [.text v, .num 0]
theorem rk_inj {a b : Option Str} (h : rk a = rk b) : a = b := by
  cases a with
  | none => cases b with
    | none => rfl
    | some y => cases h
  | some x => cases b with
    | none => cases h
    | some y =>
      have h1 := NestedKey.tup.inj h
      have h2 := NestedKey.text.inj (List.cons.inj h1).1
      rw [h2]
theorem isN_rdg {H : Hp} {o : Option Str} {v : V} (h : Im H v (rdgD o)) : IsN H (rk o) v := by
  cases o with
  | none => cases h; exact .non
  | some s =>
    cases h with
    | tup h a =>
      cases a with
      | cons h1 a => cases a with
        | cons h2 a => cases a; cases h1; cases h2; exact .tup h (.cons (.str _) (.cons (.int _) .nil))
theorem isN_pairs {H : Hp} {g : Str → Option Str} : ∀ {L : List Str} {ys : List V}, ImAll H ys (L.map fun j => PyData.tuple [.str j, rdgD (g j)]) → IsNs H (L.map fun j => NestedKey.tup [.text j, rk (g j)]) ys
  | [], _, .nil => .nil
  | j :: L, _, .cons h a => by
    refine .cons ?_ (isN_pairs a)
    cases h with
    | tup h b =>
      cases b with
      | cons h1 b => cases b with
        | cons h2 b => cases b; cases h1; exact .tup h (.cons (.str _) (.cons (isN_rdg h2) .nil))
theorem isN_rdgs {H : Hp} {g : Str → Option Str} : ∀ {L : List Str} {ys : List V}, ImAll H ys (L.map fun j => rdgD (g j)) → IsNs H (L.map fun j => rk (g j)) ys
  | [], _, .nil => .nil
  | j :: L, _, .cons h a => .cons (isN_rdg h) (isN_rdgs a)
theorem rk_depth (o : Option Str) : (rk o).depth ≤ 1 := by
  cases o with
  | none => exact Nat.zero_le _
  | some v => simp [rk, NestedKey.depth, NestedKey.depthAll]
/-- the rest of a row, with the names; without -/
def restP (L : List Str) (r : Row) : NestedKey := .tup (L.map fun j => .tup [.text j, rk (look r j)])
def restL (L : List Str) (r : Row) : NestedKey := .tup (L.map fun j => rk (look r j))
theorem restP_depth (L : List Str) (r : Row) : (restP L r).depth ≤ 8 := by
  have h : ∀ L : List Str, NestedKey.depthAll (L.map fun j => NestedKey.tup [.text j, rk (look r j)]) ≤ 2 := by
    intro L
    induction L with
    | nil => simp [NestedKey.depthAll]
    | cons j L ih =>
      have := rk_depth (look r j)
      simp only [List.map_cons, NestedKey.depthAll, NestedKey.depth]
      omega
  have := h L
  show NestedKey.depthAll _ + 1 ≤ 8
  omega
theorem restL_depth (L : List Str) (r : Row) : (restL L r).depth ≤ 8 := by
  have h : ∀ L : List Str, NestedKey.depthAll (L.map fun j => rk (look r j)) ≤ 1 := by
    intro L
    induction L with
    | nil => simp [NestedKey.depthAll]
    | cons j L ih =>
      have := rk_depth (look r j)
      simp only [List.map_cons, NestedKey.depthAll]
      omega
  have := h L
  show NestedKey.depthAll _ + 1 ≤ 8
  omega
theorem restP_eq {L : List Str} {r q : Row} : restP L r = restP L q ↔ L.map (look r) = L.map (look q) := by
  rw [List.map_inj_left]
  constructor
  · intro h j hj
    have h1 := NestedKey.tup.inj h
    have h2 := List.map_inj_left.mp h1 j hj
    have h3 := NestedKey.tup.inj h2
    exact rk_inj (List.cons.inj (List.cons.inj h3).2).1
  · intro h
    unfold restP
    rw [List.map_congr_left fun j hj => by rw [h j hj]]
theorem restL_eq {L : List Str} {r q : Row} : restL L r = restL L q ↔ L.map (look r) = L.map (look q) := by
  rw [List.map_inj_left]
  constructor
  · intro h j hj
    have h1 := NestedKey.tup.inj h
    exact rk_inj (List.map_inj_left.mp h1 j hj)
  · intro h
    unfold restL
    rw [List.map_congr_left fun j hj => by rw [h j hj]]
theorem filter_map_strs (p : Str → Bool) (f : PyData → PyData) : ∀ ks : List Str, ((ks.map PyData.str).filter (strP p)).map f = (ks.filter p).map fun j => f (.str j)
  | [] => rfl
  | k :: ks => by
    have ih := filter_map_strs p f ks
    rw [List.map_cons, List.filter_cons, List.filter_cons]
    show (if p k = true then _ else _ : List PyData).map f = _
    cases p k with
    | true => rw [if_pos rfl, if_pos rfl, List.map_cons, List.map_cons, ih]
    | false => rw [if_neg Bool.false_ne_true, if_neg Bool.false_ne_true, ih]
theorem valV_mem {xs : NX} {k : NestedKey} {v : V} (h : valV (nkv xs) k = some v) : ∃ x ∈ xs, x.1 = k ∧ x.2.2 = v := by
  induction xs with
  | nil => cases h
  | cons x xs ih =>
    by_cases e : x.1 = k
    · have : valV (nkv (x :: xs)) k = some x.2.2 := valV_pos (p := (x.1, x.2.2)) e
      rw [this] at h
      exact ⟨x, List.mem_cons_self, e, Option.some.inj h⟩
    · have : valV (nkv (x :: xs)) k = valV (nkv xs) k := valV_neg (p := (x.1, x.2.2)) e
      rw [this] at h
      obtain ⟨y, hy, h2⟩ := ih h
      exact ⟨y, List.mem_cons_of_mem _ hy, h2⟩
theorem valV_not {xs : NX} {k : NestedKey} (h : valV (nkv xs) k = none) : ∀ x ∈ xs, x.1 ≠ k := by
  induction xs with
  | nil => intro x hx; exact nomatch hx
  | cons x xs ih =>
    intro y hy e
    by_cases e2 : x.1 = k
    · have : valV (nkv (x :: xs)) k = some x.2.2 := valV_pos (p := (x.1, x.2.2)) e2
      rw [this] at h; cases h
    · have : valV (nkv (x :: xs)) k = valV (nkv xs) k := valV_neg (p := (x.1, x.2.2)) e2
      rw [this] at h
      rcases List.mem_cons.mp hy with rfl | hy
      · exact e2 e
      · exact ih h y hy e
theorem valV_some {xs : NX} (inj : ∀ x ∈ xs, ∀ y ∈ xs, x.1 = y.1 → x = y) {x : NestedKey × Addr × V} (hx : x ∈ xs) : valV (nkv xs) x.1 = some x.2.2 := by
  cases h : valV (nkv xs) x.1 with
  | none => exact absurd rfl (valV_not h x hx)
  | some v =>
    obtain ⟨y, hy, e1, e2⟩ := valV_mem h
    rw [inj y hy x hx e1] at e2
    rw [e2]
theorem stV_new {xs : NX} {k : NestedKey} {b : Addr} {v : V} (h : valV (nkv xs) k = none) : stV xs k b v = xs ++ [(k, b, v)] := by
  unfold stV; rw [h] <;> rfl
/-! ### groups: lists that grow -/
structure Grp (H0 H : Hp) (as : List Addr) (kf : Nat → NestedKey) (i : Nat) (xs : NX) : Prop where
  ks : NKs H xs
  vals : ∀ x ∈ xs, ∃ (p : Addr) (ms : List Addr), x.2.2 = V.ref p ∧ H0 p = none ∧ H p = some (.lst (ms.map V.ref)) ∧ ms.length ≤ i ∧ ∀ a ∈ ms, ∃ j, j < i ∧ as[j]? = some a ∧ kf j = x.1
  all : ∀ j a, j < i → as[j]? = some a → ∃ x ∈ xs, x.1 = kf j ∧ ∀ (p : Addr) (ms : List V), x.2.2 = V.ref p → H p = some (.lst ms) → V.ref a ∈ ms
  inj : ∀ x ∈ xs, ∀ y ∈ xs, x.1 = y.1 → x = y
  inv : ∀ x ∈ xs, ∀ y ∈ xs, x.2.2 = y.2.2 → x = y
  len : xs.length ≤ i
theorem Grp.nil {H0 H : Hp} {as : List Addr} {kf : Nat → NestedKey} : Grp H0 H as kf 0 [] :=
  ⟨fun _ h => (List.not_mem_nil h).elim, fun _ h => (List.not_mem_nil h).elim, fun _ _ h => absurd h (Nat.not_lt_zero _), fun _ h => (List.not_mem_nil h).elim, fun _ h => (List.not_mem_nil h).elim, Nat.le_refl _⟩
/-- the lists stand as they stood, and the tuples -/
theorem Grp.keep {H0 H H' : Hp} {as : List Addr} {kf : Nat → NestedKey} {i : Nat} {xs : NX} (g : Grp H0 H as kf i xs) (t : Tq H H') (l : ∀ p ms, H p = some (.lst ms) → H' p = some (.lst ms)) : Grp H0 H' as kf i xs := by
  refine ⟨g.ks.mono t, fun x hx => ?_, fun j a hj ha => ?_, g.inj, g.inv, g.len⟩
  · obtain ⟨p, ms, e, h0, hp, r⟩ := g.vals x hx
    exact ⟨p, ms, e, h0, l _ _ hp, r⟩
  · obtain ⟨x, hx, e, h⟩ := g.all j a hj ha
    refine ⟨x, hx, e, fun p ms e2 hp => ?_⟩
    obtain ⟨p', ms', e', _, hp', _⟩ := g.vals x hx
    have : p' = p := V.ref.inj (e'.symm.trans e2)
    subst this
    rw [l _ _ hp'] at hp
    cases hp
    exact h _ _ e' hp'
theorem Grp.same {H0 H H' : Hp} {as : List Addr} {kf : Nat → NestedKey} {i : Nat} {xs : NX} (g : Grp H0 H as kf i xs) (s : Same H H') : Grp H0 H' as kf i xs := g.keep (Same.tq s) fun p ms h => s _ _ h
theorem Grp.upd {H0 H : Hp} {as : List Addr} {kf : Nat → NestedKey} {i : Nat} {xs : NX} {d : Addr} {o u : HO} (g : Grp H0 H as kf i xs) (hd : H d = some u) (n : ∀ ms, u ≠ .lst ms) (t : ∀ ms, u ≠ .tup ms) : Grp H0 (upd H d o) as kf i xs := by
  refine g.keep (fun b ys h => ?_) fun p ms h => ?_
  · rw [upd_ne fun e => t ys (by rw [← e, h] at hd; exact (Option.some.inj hd).symm)]; exact h
  · rw [upd_ne fun e => n ms (by rw [← e, h] at hd; exact (Option.some.inj hd).symm)]; exact h
/-- one more, to a group that stands -/
theorem Grp.old {H0 H : Hp} {as : List Addr} {kf : Nat → NestedKey} {i : Nat} {xs : NX} {v : V} {a : Addr} (g : Grp H0 H as kf i xs) (ha : as[i]? = some a) (hv : valV (nkv xs) (kf i) = some v) :
    ∃ (p : Addr) (ms : List Addr), v = .ref p ∧ H0 p = none ∧ H p = some (.lst (ms.map V.ref)) ∧ ms.length ≤ i ∧ Grp H0 (L2.upd H p (.lst (ms.map V.ref ++ [.ref a]))) as kf (i + 1) xs := by
  obtain ⟨x, hx, ex, rfl⟩ := valV_mem hv
  obtain ⟨p, ms, ep, h0, hp, hl, hm⟩ := g.vals x hx
  refine ⟨p, ms, ep, h0, hp, hl, g.ks.mono (Tq.lst hp), fun y hy => ?_, fun j b hj hb => ?_, g.inj, g.inv, Nat.le_succ_of_le g.len⟩
  · by_cases e : y = x
    · subst e
      refine ⟨p, ms ++ [a], ep, h0, by rw [List.map_append]; exact upd_same, by simp; omega, fun b hb => ?_⟩
      rcases List.mem_append.mp hb with hb | hb
      · obtain ⟨j, h1, h2⟩ := hm b hb
        exact ⟨j, by omega, h2⟩
      · rw [List.mem_singleton.mp hb]
        exact ⟨i, by omega, ha, ex.symm⟩
    · obtain ⟨p', ms', e', h0', hp', hl', hm'⟩ := g.vals y hy
      have ne : p' ≠ p := fun q => e (g.inv y hy x hx (by rw [e', ep, q]))
      refine ⟨p', ms', e', h0', by rw [upd_ne ne]; exact hp', by omega, fun b hb => ?_⟩
      obtain ⟨j, h1, h2⟩ := hm' b hb
      exact ⟨j, by omega, h2⟩
  · rcases Nat.lt_or_ge j i with h | h
    · obtain ⟨y, hy, ey, h1⟩ := g.all j b h hb
      refine ⟨y, hy, ey, fun p' ms' e' hp' => ?_⟩
      by_cases e : p' = p
      · subst e
        rw [upd_same] at hp'
        cases hp'
        exact List.mem_append_left _ (h1 _ _ e' hp)
      · rw [upd_ne e] at hp'
        exact h1 _ _ e' hp'
    · have : j = i := by omega
      subst this
      rw [ha] at hb
      cases hb
      refine ⟨x, hx, ex, fun p' ms' e' hp' => ?_⟩
      have : p' = p := V.ref.inj (e'.symm.trans ep)
      subst this
      rw [upd_same] at hp'
      cases hp'
      exact List.mem_append_right _ (List.mem_singleton.mpr rfl)
/-- one more, in a new group at l -/
theorem Grp.more {H0 H : Hp} {as : List Addr} {kf : Nat → NestedKey} {i : Nat} {xs : NX} {a l b : Addr} (g : Grp H0 H as kf i xs) (ha : as[i]? = some a) (hv : valV (nkv xs) (kf i) = none) (hl : H l = some (.lst [])) (h0 : H0 l = none) (hn : ∀ x ∈ xs, x.2.2 ≠ .ref l)
    (hk : IsN H (kf i) (.ref b)) (hd : (kf i).depth ≤ 8) : Grp H0 (L2.upd H l (.lst [.ref a])) as kf (i + 1) (stV xs (kf i) b (.ref l)) := by
  have nk := valV_not hv
  rw [stV_new hv]
  have tq : Tq H (L2.upd H l (.lst [.ref a])) := Tq.lst hl
  refine ⟨fun y hy => ?_, fun y hy => ?_, fun j c hj hc => ?_, fun y hy z hz e => ?_, fun y hy z hz e => ?_, by have := g.len; simp; omega⟩
  · rcases List.mem_append.mp hy with hy | hy
    · exact g.ks.mono tq y hy
    · rw [List.mem_singleton.mp hy]; exact ⟨hk.mono tq, hd⟩
  · rcases List.mem_append.mp hy with hy | hy
    · obtain ⟨p', ms', e', h0', hp', hl', hm'⟩ := g.vals y hy
      have ne : p' ≠ l := fun q => hn y hy (by rw [e', q])
      refine ⟨p', ms', e', h0', by rw [upd_ne ne]; exact hp', by omega, fun c hc => ?_⟩
      obtain ⟨j, h1, h2⟩ := hm' c hc
      exact ⟨j, by omega, h2⟩
    · rw [List.mem_singleton.mp hy]
      refine ⟨l, [a], rfl, h0, upd_same, by simp, fun c hc => ?_⟩
      rw [List.mem_singleton.mp hc]
      exact ⟨i, by omega, ha, rfl⟩
  · rcases Nat.lt_or_ge j i with h | h
    · obtain ⟨y, hy, ey, h1⟩ := g.all j c h hc
      refine ⟨y, List.mem_append_left _ hy, ey, fun p' ms' e' hp' => ?_⟩
      have ne : p' ≠ l := fun q => hn y hy (by rw [e', q])
      rw [upd_ne ne] at hp'
      exact h1 _ _ e' hp'
    · have : j = i := by omega
      subst this
      rw [ha] at hc
      cases hc
      refine ⟨_, List.mem_append_right _ (List.mem_singleton.mpr rfl), rfl, fun p' ms' e' hp' => ?_⟩
      have : l = p' := V.ref.inj e'
      subst this
      rw [upd_same] at hp'
      cases hp'
      exact List.mem_singleton.mpr rfl
  · rcases List.mem_append.mp hy with hy | hy <;> rcases List.mem_append.mp hz with hz | hz
    · exact g.inj y hy z hz e
    · rw [List.mem_singleton.mp hz] at e; exact absurd e (nk y hy)
    · rw [List.mem_singleton.mp hy] at e; exact absurd e.symm (nk z hz)
    · rw [List.mem_singleton.mp hy, List.mem_singleton.mp hz]
  · rcases List.mem_append.mp hy with hy | hy <;> rcases List.mem_append.mp hz with hz | hz
    · exact g.inv y hy z hz e
    · rw [List.mem_singleton.mp hz] at e; exact absurd e (hn y hy)
    · rw [List.mem_singleton.mp hy] at e; exact absurd e.symm (hn z hz)
    · rw [List.mem_singleton.mp hy, List.mem_singleton.mp hz]
theorem rdg_uniq {H : Hp} {v : V} {o o' : Option Str} (h : Im H v (rdgD o)) (h' : Im H v (rdgD o')) : o = o' := by
  cases o with
  | none =>
    cases o' with
    | none => rfl
    | some s => cases h; cases h'
  | some s =>
    cases o' with
    | none => cases h'; cases h
    | some s' =>
      cases h with
      | tup h1 a1 =>
        cases h' with
        | tup h2 a2 =>
          rw [h1] at h2
          cases h2
          cases a1 with
          | cons b1 _ =>
            cases a2 with
            | cons b2 _ =>
              cases b1
              cases b2
              rfl
theorem KvRow.uniq {H : Hp} {kvs : List (Key × V)} {r r' : Row} (h : KvRow H kvs r) (h' : KvRow H kvs r') : r = r' := by
  unfold KvRow at h h'
  induction h generalizing r' with
  | nil => cases h'; rfl
  | @cons p e ps es hq t ih =>
    cases h' with
    | @cons _ e' _ es' hq' t' =>
      have h1 : e.1 = e'.1 := Sum.inr.inj (hq.1.symm.trans hq'.1)
      have h2 := rdg_uniq hq.2 hq'.2
      rw [ih t', Prod.ext h1 h2]
theorem RowAt.uniq {H : Hp} {a : Addr} {r r' : Row} (h : RowAt H a r) (h' : RowAt H a r') : r = r' := by
  obtain ⟨kvs, h1, h2⟩ := h
  obtain ⟨kvs', h1', h2'⟩ := h'
  rw [h1] at h1'
  cases h1'
  exact h2.uniq h2'
theorem perm_erase {α : Type} : ∀ (l : List α) (i : Nat) (h : i < l.length), (l[i]'h :: l.eraseIdx i).Perm l
  | x :: l, 0, _ => .refl _
  | x :: l, i + 1, h => by
    have h' : i < l.length := by simpa using h
    have ih := perm_erase l i h'
    show (l[i]'h' :: x :: l.eraseIdx i).Perm (x :: l)
    exact (List.Perm.swap x (l[i]'h') _).trans (ih.cons x)
def rDictP (K : PySem.W.Frag) : List V → Hp → VK → Prop := fun xs H Q => ∃ (a : Addr) (ps : List Addr) (kvs : List (Key × V)), xs = [.ref a] ∧ SqL K H a (ps.map V.ref) ∧ Paired (fun p kv => SqT K H p [kV kv.1, kv.2]) ps kvs ∧ ∀ p, H p = none → Q (.ref p) (upd H p (.dK (mergeK [] kvs)))
theorem c_dictP {X : Cx} {K : PySem.W.Frag} (hK : X.K = K) (hc : X.calm = true) : CallR X (.type "dict") (rDictP K) := hK ▸ call_dictP hc
theorem mergeK_nodup : ∀ (kvs acc : List (Key × V)), ((acc ++ kvs).map (·.1)).Nodup → mergeK acc kvs = acc ++ kvs
  | [], acc, _ => by show acc = _; simp
  | p :: kvs, acc, h => by
    have hn : (acc.any fun kv => decide (kv.1 = p.1)) = false := by
      rw [List.any_eq_false]
      intro x hx e
      rw [List.map_append, List.map_cons, List.nodup_append] at h
      exact h.2.2 x.1 (List.mem_map.mpr ⟨x, hx, rfl⟩) p.1 List.mem_cons_self (of_decide_eq_true e)
    have e : putK acc p.1 p.2 = acc ++ [p] := by
      unfold putK
      rw [hn, if_neg Bool.false_ne_true]
    show mergeK (putK acc p.1 p.2) kvs = _
    rw [e, mergeK_nodup kvs (acc ++ [p]) (by simpa using h)]
    simp
theorem KvRow.snoc {H : Hp} {kvs : List (Key × V)} {r : Row} {k : Str} {o : Option Str} {v : V} (h : KvRow H kvs r) (hr : (r.map (·.1)).Nodup) (hk : ¬ k ∈ r.map (·.1)) (hv : Im H v (rdgD o)) :
    mergeK [] (kvs ++ [(.inr k, v)]) = kvs ++ [(.inr k, v)] ∧ KvRow H (kvs ++ [(.inr k, v)]) (r ++ [(k, o)]) := by
  refine ⟨?_, Paired.snoc h ⟨rfl, hv⟩⟩
  have e : ([] ++ (kvs ++ [(Sum.inr k, v)]) : List (Key × V)).map (fun p => p.1) = (r.map (fun p => p.1) ++ [k]).map (Sum.inr : Str → Key) := by
    rw [List.nil_append, List.map_append, List.map_append, h.keys]
    rfl
  have h1 : (r.map (fun p => p.1) ++ [k]).Nodup := List.nodup_append.mpr ⟨hr, List.pairwise_singleton _ _, fun a ha b hb => by rw [List.mem_singleton.mp hb]; exact fun e => hk (e ▸ ha)⟩
  have := mergeK_nodup (kvs ++ [(.inr k, v)]) [] (by
    rw [e]
    exact List.Pairwise.map _ (fun a b hab e => hab (Sum.inr.inj e)) h1)
  simpa using this
/-! ### groups: lists of truth values, each made anew -/
structure Grb (H : Hp) (kf : Nat → NestedKey) (tv : Nat → Bool) (i : Nat) (xs : NX) : Prop where
  ks : NKs H xs
  vals : ∀ x ∈ xs, ∃ (p : Addr) (bs : List Bool), x.2.2 = V.ref p ∧ H p = some (.lst (bs.map V.bl)) ∧ bs.length ≤ i ∧ ∀ c, c ∈ bs ↔ ∃ j, j < i ∧ kf j = x.1 ∧ tv j = c
  all : ∀ j, j < i → ∃ x ∈ xs, x.1 = kf j
  inj : ∀ x ∈ xs, ∀ y ∈ xs, x.1 = y.1 → x = y
  len : xs.length ≤ i
theorem Grb.nil {H : Hp} {kf : Nat → NestedKey} {tv : Nat → Bool} : Grb H kf tv 0 [] :=
  ⟨fun _ h => (List.not_mem_nil h).elim, fun _ h => (List.not_mem_nil h).elim, fun _ h => absurd h (Nat.not_lt_zero _), fun _ h => (List.not_mem_nil h).elim, Nat.le_refl _⟩
theorem Grb.keep {H H' : Hp} {kf : Nat → NestedKey} {tv : Nat → Bool} {i : Nat} {xs : NX} (g : Grb H kf tv i xs) (t : Tq H H') (l : ∀ p ms, H p = some (.lst ms) → H' p = some (.lst ms)) : Grb H' kf tv i xs := by
  refine ⟨g.ks.mono t, fun x hx => ?_, g.all, g.inj, g.len⟩
  obtain ⟨p, bs, e, hp, r⟩ := g.vals x hx
  exact ⟨p, bs, e, l _ _ hp, r⟩
theorem Grb.same {H H' : Hp} {kf : Nat → NestedKey} {tv : Nat → Bool} {i : Nat} {xs : NX} (g : Grb H kf tv i xs) (s : Same H H') : Grb H' kf tv i xs := g.keep (Same.tq s) fun p ms h => s _ _ h
theorem Grb.upd {H : Hp} {kf : Nat → NestedKey} {tv : Nat → Bool} {i : Nat} {xs : NX} {d : Addr} {o u : HO} (g : Grb H kf tv i xs) (hd : H d = some u) (n : ∀ ms, u ≠ .lst ms) (t : ∀ ms, u ≠ .tup ms) : Grb (L2.upd H d o) kf tv i xs := by
  refine g.keep (fun b ys h => ?_) fun p ms h => ?_
  · rw [upd_ne fun e => t ys (by rw [← e, h] at hd; exact (Option.some.inj hd).symm)]; exact h
  · rw [upd_ne fun e => n ms (by rw [← e, h] at hd; exact (Option.some.inj hd).symm)]; exact h
/-- what stands at the key of row i -/
theorem Grb.at {H : Hp} {kf : Nat → NestedKey} {tv : Nat → Bool} {i : Nat} {xs : NX} {v : V} {k : NestedKey} (g : Grb H kf tv i xs) (hv : valV (nkv xs) k = some v) :
    ∃ (p : Addr) (bs : List Bool), v = .ref p ∧ H p = some (.lst (bs.map V.bl)) ∧ bs.length ≤ i ∧ ∀ c, c ∈ bs ↔ ∃ j, j < i ∧ kf j = k ∧ tv j = c := by
  obtain ⟨x, hx, rfl, rfl⟩ := valV_mem hv
  exact g.vals x hx
theorem Grb.none {H : Hp} {kf : Nat → NestedKey} {tv : Nat → Bool} {i : Nat} {xs : NX} {k : NestedKey} (g : Grb H kf tv i xs) (hv : valV (nkv xs) k = none) : ∀ j, j < i → kf j ≠ k := by
  intro j hj e
  obtain ⟨x, hx, ex⟩ := g.all j hj
  exact valV_not hv x hx (ex.trans e)
theorem Grb.put {H : Hp} {kf : Nat → NestedKey} {tv : Nat → Bool} {i : Nat} {xs : NX} {b pn : Addr} {bs : List Bool} (g : Grb H kf tv i xs) (hb : ∀ c, c ∈ bs ↔ ∃ j, j < i ∧ kf j = kf i ∧ tv j = c) (hl : bs.length ≤ i) (hn : H pn = some (.lst ((bs ++ [tv i]).map V.bl)))
    (hk : IsN H (kf i) (.ref b)) (hd : (kf i).depth ≤ 8) : Grb H kf tv (i + 1) (stV xs (kf i) b (.ref pn)) := by
  have new : ∀ c, c ∈ bs ++ [tv i] ↔ ∃ j, j < i + 1 ∧ kf j = kf i ∧ tv j = c := by
    intro c
    rw [List.mem_append, hb c, List.mem_singleton]
    constructor
    · rintro (⟨j, h1, h2⟩ | rfl)
      · exact ⟨j, by omega, h2⟩
      · exact ⟨i, by omega, rfl, rfl⟩
    · rintro ⟨j, h1, h2, h3⟩
      rcases Nat.lt_or_ge j i with h | h
      · exact .inl ⟨j, h, h2, h3⟩
      · have : j = i := by omega
        subst this
        exact .inr h3.symm
  have old : ∀ x ∈ xs, x.1 ≠ kf i → ∃ (p : Addr) (cs : List Bool), x.2.2 = V.ref p ∧ H p = some (.lst (cs.map V.bl)) ∧ cs.length ≤ i + 1 ∧ ∀ c, c ∈ cs ↔ ∃ j, j < i + 1 ∧ kf j = x.1 ∧ tv j = c := by
    intro x hx hne
    obtain ⟨p, cs, e, hp, hl, hm⟩ := g.vals x hx
    refine ⟨p, cs, e, hp, by omega, fun c => ?_⟩
    rw [hm c]
    constructor
    · rintro ⟨j, h1, h2⟩
      exact ⟨j, by omega, h2⟩
    · rintro ⟨j, h1, h2, h3⟩
      rcases Nat.lt_or_ge j i with h | h
      · exact ⟨j, h, h2, h3⟩
      · have : j = i := by omega
        subst this
        exact absurd h2.symm hne
  have hll : (bs ++ [tv i]).length ≤ i + 1 := by rw [List.length_append, List.length_singleton]; omega
  cases hv : valV (nkv xs) (kf i) with
  | none =>
    have nk := valV_not hv
    refine ⟨stV_keys g.ks hk hd, ?_, ?_, ?_, ?_⟩
    all_goals rw [stV_new hv]
    · intro x hx
      rcases List.mem_append.mp hx with hx | hx
      · exact old x hx (nk x hx)
      · rw [List.mem_singleton.mp hx]
        exact ⟨pn, _, rfl, hn, hll, new⟩
    · intro j hj
      rcases Nat.lt_or_ge j i with h | h
      · obtain ⟨x, hx, ex⟩ := g.all j h
        exact ⟨x, List.mem_append_left _ hx, ex⟩
      · have : j = i := by omega
        subst this
        exact ⟨_, List.mem_append_right _ (List.mem_singleton.mpr rfl), rfl⟩
    · intro y hy z hz e
      rcases List.mem_append.mp hy with hy | hy <;> rcases List.mem_append.mp hz with hz | hz
      · exact g.inj y hy z hz e
      · rw [List.mem_singleton.mp hz] at e; exact absurd e (nk y hy)
      · rw [List.mem_singleton.mp hy] at e; exact absurd e.symm (nk z hz)
      · rw [List.mem_singleton.mp hy, List.mem_singleton.mp hz]
    · have := g.len
      rw [List.length_append, List.length_singleton]; omega
  | some v =>
    have est : stV xs (kf i) b (.ref pn) = xs.map fun x => if x.1 = kf i then (x.1, x.2.1, .ref pn) else x := by
      unfold stV; rw [hv] <;> rfl
    refine ⟨stV_keys g.ks hk hd, ?_, ?_, ?_, ?_⟩
    all_goals rw [est]
    · intro x hx
      obtain ⟨y, hy, rfl⟩ := List.mem_map.mp hx
      by_cases e : y.1 = kf i
      · rw [if_pos e]
        refine ⟨pn, _, rfl, hn, hll, fun c => ?_⟩
        show c ∈ bs ++ [tv i] ↔ ∃ j, j < i + 1 ∧ kf j = y.1 ∧ tv j = c
        rw [e]
        exact new c
      · rw [if_neg e]
        exact old y hy e
    · intro j hj
      rcases Nat.lt_or_ge j i with h | h
      · obtain ⟨x, hx, ex⟩ := g.all j h
        refine ⟨_, List.mem_map.mpr ⟨x, hx, rfl⟩, ?_⟩
        by_cases e : x.1 = kf i
        · rw [if_pos e]; exact ex
        · rw [if_neg e]; exact ex
      · have : j = i := by omega
        subst this
        obtain ⟨x, hx, ex, _⟩ := valV_mem hv
        refine ⟨_, List.mem_map.mpr ⟨x, hx, rfl⟩, ?_⟩
        rw [if_pos ex]; exact ex
    · intro y hy z hz e
      obtain ⟨y', hy', rfl⟩ := List.mem_map.mp hy
      obtain ⟨z', hz', rfl⟩ := List.mem_map.mp hz
      have ey : (if y'.1 = kf i then (y'.1, y'.2.1, V.ref pn) else y').1 = y'.1 := by split <;> rfl
      have ez : (if z'.1 = kf i then (z'.1, z'.2.1, V.ref pn) else z').1 = z'.1 := by split <;> rfl
      rw [ey, ez] at e
      rw [g.inj y' hy' z' hz' e]
    · have := g.len
      rw [List.length_map]; omega
theorem inV_bls (c : Bool) (bs : List Bool) : inV (.bl c) (bs.map V.bl) = decide (c ∈ bs) := by
  unfold inV
  rw [List.any_map, Bool.eq_iff_iff, List.any_eq_true, decide_eq_true_iff]
  constructor
  · rintro ⟨x, hx, e⟩
    have e' : (x == c) = true := e
    rw [← eq_of_beq e']; exact hx
  · intro h
    exact ⟨c, h, show (c == c) = true from beq_self_eq_true c⟩
theorem flat_bls (bs : List Bool) : (bs.map V.bl).all flatV = true := by
  rw [List.all_map, List.all_eq_true]; intro x _; rfl
/-! ### a list taken apart into names -/
theorem g_unl {X : Cx} {K : PySem.W.Frag} {es : List Expr} {k : Nat} {t : TGs} {n : Nat} {pos : Pos} (hK : X.K = K) (hc : X.calm = true) (h : PGs X es t) (hn : (assignEach es X.env).length = n := by rfl) (hst : (assignEach es X.env).findIdx? (·.1) = none := by rfl) : PG X (.Tuple es k pos) (gUnl K n t) := hK ▸ pg_unl hc h hn hst
theorem i_gU {K : PySem.W.Frag} {n : Nat} {gs : TGs} {a : Addr} {xs : List V} {σ : L2.St} {H : Hp} {R : L2.St → Hp → Prop} (ha : SqL K H a xs) (hl : xs.length = n) (h : gs xs σ H R) : gUnl K n gs (.ref a) σ H R := ⟨a, xs, rfl, ha, hl, h⟩
/-! ### a dict beside its copy -/
structure Good (kvs : List (Key × V)) : Prop where
  nd : (kvs.map (fun p => p.1)).Nodup
  sa : ∀ p ∈ kvs, sameB p.2 = true
theorem good_val {kvs : List (Key × V)} (nd : (kvs.map (fun p => p.1)).Nodup) : ∀ p ∈ kvs, valV kvs p.1 = some p.2 := by
  induction kvs with
  | nil => intro p hp; exact nomatch hp
  | cons x r ih =>
    rw [List.map_cons, List.nodup_cons] at nd
    intro p hp
    rcases List.mem_cons.mp hp with rfl | hp
    · exact valV_pos rfl
    · rw [valV_neg fun e => nd.1 (List.mem_map.mpr ⟨p, hp, e.symm⟩)]
      exact ih nd.2 p hp
theorem Good.ne {kvs : List (Key × V)} (g : Good kvs) : ∀ p ∈ kvs, valV kvs p.1 = some p.2 ∧ sameB p.2 = true := fun p hp => ⟨good_val g.nd p hp, g.sa p hp⟩
theorem KvRow.good {H : Hp} {kvs : List (Key × V)} {r : Row} (h : KvRow H kvs r) (nd : (r.map (·.1)).Nodup) : Good kvs := by
  refine ⟨?_, ?_⟩
  · have e := h.keys
    have e2 : kvs.map (fun p => p.1) = (r.map (fun p => p.1)).map (Sum.inr : Str → Key) := e
    rw [e2]
    exact List.Pairwise.map _ (fun a b hab e => hab (Sum.inr.inj e)) nd
  · unfold KvRow at h
    intro p hp
    induction h with
    | nil => exact nomatch hp
    | @cons q e qs es hq t ih =>
      rcases List.mem_cons.mp hp with rfl | hp
      · obtain ⟨_, im⟩ := hq
        cases ho : e.2 with
        | none =>
          rw [ho] at im
          have im : Im H p.2 .none := im
          cases hv : p.2 with
          | non => rfl
          | _ => rw [hv] at im; cases im
        | some s =>
          rw [ho] at im
          have im : Im H p.2 (.tuple [.str s, .int 0]) := im
          cases hv : p.2 with
          | ref a => rfl
          | _ => rw [hv] at im; cases im
      · rw [List.map_cons, List.nodup_cons] at nd
        exact ih nd.2 hp
theorem Good.put {kvs : List (Key × V)} {k : Key} {a : Addr} (g : Good kvs) (hk : valV kvs k = none) : Good (putK kvs k (.ref a)) := by
  have e : putK kvs k (.ref a) = kvs ++ [(k, .ref a)] := by
    unfold putK
    rw [valV_any, hk]
    rfl
  rw [e]
  refine ⟨?_, fun p hp => ?_⟩
  · rw [List.map_append]
    refine List.nodup_append.mpr ⟨g.nd, List.pairwise_singleton _ _, fun x hx y hy => ?_⟩
    rw [List.map_singleton, List.mem_singleton] at hy
    rw [hy]
    intro e2
    obtain ⟨p, hp, rfl⟩ := List.mem_map.mp hx
    have := good_val g.nd p hp
    rw [show p.1 = k from e2, hk] at this
    cases this
  · rcases List.mem_append.mp hp with hp | hp
    · exact g.sa p hp
    · rw [List.mem_singleton.mp hp] <;> rfl
theorem Good.drop {kvs : List (Key × V)} {k : Key} (g : Good kvs) : Good (dropK kvs k) := by
  refine ⟨?_, fun p hp => g.sa p (List.mem_filter.mp hp).1⟩
  exact g.nd.sublist (List.Sublist.map _ List.filter_sublist)
theorem val_drop (kvs : List (Key × V)) (k j : Key) : valV (dropK kvs k) j = if j = k then none else valV kvs j := by
  induction kvs with
  | nil => show none = _; split <;> rfl
  | cons p r ih =>
    unfold dropK at ih ⊢
    rw [List.filter_cons]
    by_cases e : p.1 = k
    · rw [if_neg (by simp [e]), ih]
      by_cases e2 : j = k
      · rw [if_pos e2, if_pos e2]
      · rw [if_neg e2, if_neg e2, valV_neg (fun h => e2 (by rw [← h, e]))]
    · rw [if_pos (by simp [e])]
      by_cases e3 : p.1 = j
      · rw [valV_pos e3, valV_pos e3, if_neg (fun h => e (by rw [e3, h]))]
      · rw [valV_neg e3, valV_neg e3, ih]
end KB

set_option maxHeartbeats 4000000
/-! promises of the program's defs -/
namespace H68
open PySem PySem.Spec PyProof.Rows L2 KB
/-- data that is looked at as a formula: bounded, or an empty dict -/
def OkF (d : PyData) : Prop := (∃ j, okD j d) ∨ d = .dict []
theorem OkF.str {s : Str} (h : OkF (.str s)) : Sm s := by
  rcases h with ⟨j, h⟩ | h
  · cases j with
    | zero => exact h.elim
    | succ j => exact h
  · cases h
theorem OkF.s {d : PyData} (h : OkF d) : okS d := by
  cases d with
  | str s => exact h.str
  | _ => trivial
theorem OkF.at {ds : List PyData} (h : OkF (.tuple ds)) {d : PyData} (hd : d ∈ ds) : OkF d := by
  rcases h with ⟨j, h⟩ | h
  · cases j with
    | zero => exact h.elim
    | succ j => exact .inl ⟨j, h.2 d hd⟩
  · cases h
theorem OkF.len {ds : List PyData} (h : OkF (.tuple ds)) : ds.length ≤ 2000000 := by
  rcases h with ⟨j, h⟩ | h
  · cases j with
    | zero => exact h.elim
    | succ j => exact h.1
  · cases h
theorem imAll_snoc {H : Hp} : ∀ {ds : List PyData} {ws : List V} {d : PyData}, ImAll H ws (ds ++ [d]) → ∃ ws' y, ws = ws' ++ [y] ∧ ImAll H ws' ds ∧ Im H y d
  | [], ws, d, h => by
    cases h with
    | cons h1 h2 => cases h2; exact ⟨[], _, rfl, .nil, h1⟩
  | e :: ds, ws, d, h => by
    cases h with
    | cons h1 h2 =>
      obtain ⟨ws', y, rfl, h3, h4⟩ := imAll_snoc h2
      exact ⟨_ :: ws', y, rfl, .cons h1 h3, h4⟩
/-- what stands while leaves are looked for -/
def LvInv (f : Fm) (v0 : V) (H : Hp) (pf pw : Addr) (m : Nat) (σ : L2.St) (H' : Hp) : Prop := ∃ (acc st : List Fm) (vs ws : List V) (x : Option V), σ = [some v0, some (.ref pf), some (.ref pw), x] ∧ Same H H' ∧ H' pf = some (.lst vs) ∧ H' pw = some (.lst ws) ∧
  ImAll H' vs (acc.map Fm.d) ∧ ImAll H' ws (st.map Fm.d) ∧ acc ++ st.reverse.flatMap Fm.leaves = f.leaves ∧ (st.map Fm.size).sum = m ∧ acc.length + m ≤ 10000
theorem len_sum : ∀ st : List Fm, st.length ≤ (st.map Fm.size).sum
  | [] => Nat.le_refl _
  | f :: st => by
    have h1 := f.size_pos
    have h2 := len_sum st
    simp only [List.length_cons, List.map_cons, List.sum_cons]
    omega
theorem im_parts {H : Hp} {v : V} {w : Str} {ds : List PyData} (h : Im H v (.tuple (.str w :: ds))) : ∃ a vs, v = .ref a ∧ H a = some (.tup (.str w :: vs)) ∧ ImAll H vs ds := by
  cases h with
  | tup h al =>
    cases al with
    | cons h1 h2 => cases h1; exact ⟨_, _, rfl, h, h2⟩
theorem cut1 (xs : List V) : cutV xs (some 1) none = xs.drop 1 := by
  unfold cutV
  have e : HT.sIx xs.length 0 (some 1) = min 1 xs.length := HT.sIx_nat _ _ 1
  rw [HT.sIx_none, e, List.take_of_length_le (by rw [List.length_drop]; omega)]
  cases xs with
  | nil => rfl
  | cons x r => rw [show min 1 (x :: r).length = 1 from by simp]
theorem i_sl1 {K : PySem.W.Frag} {H : Hp} {Q : VK} {a : Addr} {x : V} {xs : List V} (ha : SqT K H a (x :: xs)) (h : ∀ p, H p = none → Q (.ref p) (upd H p (.tup xs))) : rSlU K (.ref a) (some 1) none H Q := by
  refine .inr (.inr ⟨a, _, rfl, ha, fun e => ?_, fun _ p hp => ?_⟩)
  · have e1 : HT.sIx (x :: xs).length 0 (some 1) = min 1 (x :: xs).length := HT.sIx_nat _ _ 1
    rw [e1, List.length_cons] at e
    omega
  · rw [cut1]; exact h p hp
def keyD : PyData → Str | .tuple (_ :: .str k :: _) => k | _ => ""
theorem keyD_leaf {f l : Fm} (h : l ∈ f.leaves) : keyD l.d = l.key := by
  have := (Fm.leaf_leaves h).1
  cases l with
  | is k v => rfl
  | sil k => rfl
  | no g => cases this
  | two o a b => cases this

def valD : PyData → Str | .tuple (_ :: _ :: .str v :: _) => v | _ => ""
/-- the readings of a key that stand for all: None, the values that are named, another one -/
def SampOk (f : Fm) (k : Str) (os : List (Option Str)) : Prop := ∃ l : List Str, Asc (fun x => Fm.is k x ∈ f.leaves) l ∧ l.length ≤ 6 ∧ os = none :: (l ++ [bes l]).map some
theorem SampOk.eq {f : Fm} {k : Str} {os ot : List (Option Str)} (h : SampOk f k os) (h2 : SampOk f k ot) : os = ot := by
  obtain ⟨l, a, _, rfl⟩ := h
  obtain ⟨m, b, _, rfl⟩ := h2
  rw [a.eq b]
theorem SampOk.full {f : Fm} {k : Str} {os : List (Option Str)} (h : SampOk f k os) (o : Option Str) : ∃ o' ∈ os, ∀ l ∈ f.leaves, l.key = k → leafEv l o = leafEv l o' := by
  obtain ⟨l, hm, hl, rfl⟩ := h
  have hz := bes_not hl
  generalize bes l = z at hz
  cases o with
  | none => exact ⟨none, List.mem_cons_self, fun _ _ _ => rfl⟩
  | some v =>
    by_cases q : v ∈ l
    · exact ⟨some v, List.mem_cons_of_mem _ (List.mem_map.mpr ⟨v, List.mem_append_left _ q, rfl⟩), fun _ _ _ => rfl⟩
    · refine ⟨some z, List.mem_cons_of_mem _ (List.mem_map.mpr ⟨z, List.mem_append_right _ (List.mem_singleton.mpr rfl), rfl⟩), fun g hg hk => ?_⟩
      cases g with
      | is k' x =>
        have hk' : k' = k := hk
        subst hk'
        have hx : x ∈ l := (hm.mem x).mpr hg
        show decide (some v = some x) = decide (some z = some x)
        rw [decide_eq_false (fun e => q (by rw [Option.some.inj e]; exact hx)), decide_eq_false (fun e => hz (by rw [Option.some.inj e]; exact hx))]
      | sil k' => rfl
      | no g => rfl
      | two o a b => rfl
theorem SampOk.len {f : Fm} {k : Str} {os : List (Option Str)} (h : SampOk f k os) : os.length ≤ 8 := by
  obtain ⟨l, _, hl, rfl⟩ := h
  simp only [List.length_cons, List.length_map, List.length_append, List.length_nil]
  omega
section
abbrev sp_is_value (K : PySem.W.Frag) : Sp := sp1 fun v H Q E => ∃ d, Dr H v d ∧ okS d ∧ ∀ H', Same H H' → Q (.bl (isValueD d)) H'
abbrev sp_is_name (K : PySem.W.Frag) : Sp := sp1 fun v H Q E => ∃ d, Dr H v d ∧ okS d ∧ ∀ H', Same H H' → Q (.bl (isNameD d)) H'
abbrev sp_NoFormula_init := sp_init "found" "NoFormula"
abbrev sp_has_form_n (K : PySem.W.Frag) (n : Nat) : Sp := sp2 fun v m H Q E => ∃ d i, Dr H v d ∧ m = .int i ∧ 0 ≤ i ∧ i < n ∧ OkF d ∧ ∀ H', Same H H' → Q (.bl (hasForm i.toNat d)) H'
abbrev sp_has_form (K : PySem.W.Frag) : Sp := sp_has_form_n K 8
theorem zero_has_form {K : PySem.W.Frag} (vs : List V) (H : Hp) (Q : VK) (E : XK) (h : sp_has_form_n K 0 vs H Q E) : False := by
  obtain ⟨_, _, rfl, d, i, _, _, h0, h1, _⟩ := h
  omega
abbrev sp_leaves (K : PySem.W.Frag) : Sp := sp1 fun v H Q E => ∃ f : Fm, Im H v f.d ∧ f.size ≤ 10000 ∧ ∀ H' p vs, Same H H' → H p = none → H' p = some (.lst vs) → ImAll H' vs (f.leaves.map Fm.d) → Q (.ref p) H'
abbrev sp_is_formula (K : PySem.W.Frag) : Sp := sp1 fun v H Q E => ∃ d, Dr H v d ∧ OkF d ∧ ∀ H', Same H H' → Q (.bl (isFormD d)) H'
abbrev sp_need_formula (K : PySem.W.Frag) : Sp := sp1 fun v H Q E => ∃ d, Dr H v d ∧ OkF d ∧ (isFormD d = true → ∀ H', Same H H' → Q .non H') ∧ (isFormD d = false → XOwn "NoFormula" "found" K E H v)
abbrev sp_keys_of (K : PySem.W.Frag) : Sp := sp1 fun v H Q E => ∃ d, Dr H v d ∧ OkF d ∧ (∀ f : Fm, d = f.d → FmOk f → ∀ (H' : Hp) (p : Addr) (ks : List Str), Same H H' → H p = none → H' p = some (.lst (ks.map V.str)) → Asc (· ∈ f.keys) ks → ks.length ≤ 6 → Q (.ref p) H') ∧ (isFormD d = false → XOwn "NoFormula" "found" K E H v)
abbrev sp_is_true_n (K : PySem.W.Frag) (n : Nat) : Sp := sp2 fun v r H Q E => ∃ (f : Fm) (ρ : Rho) (a : Addr), Im H v f.d ∧ f.lev < n + 1 ∧ r = .ref a ∧ DRho H a ρ f.keys ∧ ∀ H', Same H H' → Q (.bl (f.ev ρ)) H'
abbrev sp_is_true (K : PySem.W.Frag) : Sp := sp_is_true_n K 8
theorem zero_is_true {K : PySem.W.Frag} (vs : List V) (H : Hp) (Q : VK) (E : XK) (h : sp_is_true_n K 0 vs H Q E) : False := by
  obtain ⟨_, _, rfl, f, _, _, _, h1, _⟩ := h
  have := f.lev_pos
  omega
abbrev sp_holds (K : PySem.W.Frag) : Sp := sp2 fun v r H Q E => ∃ d, Dr H v d ∧ OkF d ∧ (∀ f : Fm, d = f.d → FmOk f → ∃ (ρ : Rho) (a : Addr), r = .ref a ∧ DRho H a ρ f.keys ∧ ∀ H', Same H H' → Q (.bl (f.ev ρ)) H') ∧ (isFormD d = false → XOwn "NoFormula" "found" K E H v)
abbrev sp_values_named (K : PySem.W.Frag) : Sp := sp2 fun v k H Q E => ∃ (f : Fm) (s : Str), Im H v f.d ∧ FmOk f ∧ k = .str s ∧ ∀ (H' : Hp) (p : Addr) (l : List Str), Same H H' → H p = none → H' p = some (.lst (l.map V.str)) → Asc (fun x => Fm.is s x ∈ f.leaves) l → l.length ≤ 6 → Q (.ref p) H'
abbrev sp_value_beside (K : PySem.W.Frag) : Sp := sp1 fun v H Q E => ∃ (a : Addr) (l : List Str), v = .ref a ∧ SqL K H a (l.map V.str) ∧ l.length ≤ 6 ∧ ∀ (H' : Hp), Same H H' → Q (.str (bes l)) H'
abbrev sp_samples (K : PySem.W.Frag) : Sp := sp2 fun v k H Q E => ∃ (f : Fm) (s : Str), Im H v f.d ∧ FmOk f ∧ k = .str s ∧ ∀ (H' : Hp) (p : Addr) (vs : List V) (os : List (Option Str)), Same H H' → H p = none → H' p = some (.lst vs) → ImAll H' vs (os.map rdgD) → SampOk f s os → Q (.ref p) H'
abbrev sp_rows_of (K : PySem.W.Frag) : Sp := sp1 fun v H Q E => ∃ f : Fm, Im H v f.d ∧ FmOk f ∧ ∀ (H' : Hp) (p : Addr) (as : List Addr) (ks : List Str) (S : Str → List (Option Str)), Same H H' → H p = none → H' p = some (.lst (as.map V.ref)) → Asc (· ∈ f.keys) ks → ks.length ≤ 6 → (∀ k ∈ ks, SampOk f k (S k)) →
  RowsAt H H' as (rowsOf S ks) → (rowsOf S ks).length ≤ 300000 → Q (.ref p) H'
abbrev sp_telling_pair (K : PySem.W.Frag) : Sp := sp2 fun v k H Q E => ∃ (f : Fm) (s : Str), Im H v f.d ∧ FmOk f ∧ k = .str s ∧ s ∈ f.keys ∧ ∀ (H' : Hp) (u : V), Same H H' → (Mt f s → ∃ p, u = .ref p) → (¬ Mt f s → u = .non) → Q u H'
abbrev sp_matters (K : PySem.W.Frag) : Sp := sp1 fun v H Q E => ∃ d, Dr H v d ∧ OkF d ∧ (∀ f : Fm, d = f.d → FmOk f → ∀ (H' : Hp) (p : Addr) (ks : List Str), Same H H' → H p = none → Asc (· ∈ f.keys) ks → ks.length ≤ 6 → H' p = some (.lst ((ks.filter (mtB f)).map V.str)) → Q (.ref p) H') ∧ (isFormD d = false → XOwn "NoFormula" "found" K E H v)
end
end H68

set_option maxHeartbeats 1000000
namespace H68
open PySem PySem.Spec PyProof.Rows L2 KB
local macro_rules | `(tactic| walk_at "kb1") => `(tactic| with_reducible first
  | refine i_var rfl ?_ | refine i_c ?_ | refine i_cons ?_ | refine i_nil ?_ | refine i_op ?_ | refine i_seq ?_ | refine i_if ?_ | refine i_ret ?_ | refine i_asg ?_ | refine i_name ?_ | refine i_next ?_ | refine i_drop ?_
  | refine i_un ?_ | refine i_cb ?_ | refine i_cal ?_ | refine i_calM ?_ | refine i_test ?_ | refine i_tb ?_ | refine i_k ?_ | refine i_not ?_ | refine i_and ?_ | refine i_or ?_ | refine i_andV ?_ | refine i_orV ?_ | refine i_notV ?_ | refine i_ife ?_
  | refine i_isN ?_ | refine i_notN ?_ | refine i_chain ?_ | refine i_tup ?_ | refine i_lst ?_ | refine i_sl ?_ | refine i_noPart ?_ | refine i_part ?_ | refine i_ik ?_ | refine i_sk ?_ | refine i_bm0 ?_ | refine i_bm ?_ | refine i_m1 ?_ | refine i_m0 ?_ | refine i_fld ?_ | refine i_tru ?_
  | refine i_gC ?_ | refine i_gN ?_ | refine i_for0L ?_ | refine i_for0E ?_ | refine i_for0R ?_ | refine i_lc0L ?_ | refine i_lc0S ?_ | refine i_lc0Z ?_ | refine i_tix ?_ | refine i_lorei ?_ | refine i_js0 ?_ | refine i_xf ?_ | refine i_calR ?_ | refine i_calRS ?_ | refine i_calS ?_ | refine i_for0R3 ?_ | refine i_mak ?_ | refine i_dget ?_ | refine i_din ?_ | refine i_dnotin ?_ | refine i_dput ?_ | refine i_dnewT ?_ | refine i_sub ?_ | refine i_rng1 ?_ | refine i_rng2 ?_ | refine i_rev ?_ | refine i_replC ?_ | refine i_lenset ?_ | refine i_mS ?_ | refine i_js ?_ | refine i_fmt ?_ | refine i_par ?_ | refine i_v2 ?_ | refine i_par3 ?_ | refine i_v3 ?_ | refine i_mkO ?_ | refine i_ost ?_ | refine i_sFld ?_ | refine i_yes ?_ | refine i_dget1 ?_ | refine i_dnewK ?_ | refine i_dpop1 ?_ | refine i_ndnew ?_ | refine i_nget2 ?_ | refine i_nsetd ?_ | refine i_nix ?_ | refine i_nput ?_ | refine i_listItems ?_ | refine i_for0Nv ?_ | refine i_lc0Nk ?_ | refine i_dstar ?_ | refine i_lc20L ?_ | refine i_sp1 ?_ | refine i_sp2 ?_ | refine i_sp3 ?_ | refine i_sp4 ?_)
local macro_rules | `(tactic| walk_at "dr") => `(tactic| first
  | assumption | exact Dr.non | exact Dr.bl _ | exact Dr.int _ | exact Dr.str _ | exact Dr.tup (by assumption) (by assumption) | exact Dr.lst (by assumption) (by assumption) | exact Dr.dic (by assumption) | exact Im.dr (by assumption))
local macro_rules | `(tactic| walk_at "if") => `(tactic| first
  | ((with_reducible refine i_iT ?_ ?_); · rfl) | ((with_reducible refine i_iF ?_ ?_); · rfl))
local macro_rules | `(tactic| walk_at "isi") => `(tactic| ((with_reducible show rIsiU _ _ _ _); first
  | (with_reducible refine j_isTup (by walk_at "dr") ?_) | (with_reducible refine j_isLst (by walk_at "dr") ?_) | (with_reducible refine j_isStr (by walk_at "dr") ?_)
  | (with_reducible refine j_isBl (by walk_at "dr") ?_) | (with_reducible refine j_isInt (by walk_at "dr") ?_)))
local macro_rules | `(tactic| walk_at "op") => `(tactic| with_reducible first
  | refine i_rI0 ?_ | refine i_addI ?_ | refine i_rU ?_ | refine i_ltI ?_ | refine i_inC ?_ | refine i_notInC ?_ | refine i_intI ?_ | refine i_intB ?_ | refine i_abs ?_ | refine i_max2 ?_ | refine i_min2 ?_ | refine i_isBl ?_
  | (refine i_eqS rfl ?_) | (refine i_neS rfl ?_))
local macro_rules | `(tactic| walk_at "wp") => `(tactic| ((with_reducible refine i_wp ?_ ?_); · rfl))
local macro_rules | `(tactic| walk_at "sx") => `(tactic| repeat first | walk_at "kb1" | walk_at "if" | walk_at "isi" | walk_at "op" | walk_at "wp")
local macro_rules | `(tactic| walk_at "cd") => `(tactic| refine ⟨_, (by walk_at "dr"), ?_⟩)
local macro_rules | `(tactic| walk_at "len") => `(tactic| (simp only [List.length_cons, List.length_nil]; decide))
local macro_rules | `(tactic| walk_at "ic") => `(tactic| first
  | ((with_reducible refine i_iT ?_ ?_); · first | with_reducible rfl | (simp only [Bool.not_true, Bool.not_false, isTupD, isLstD, isStrD, isBlD, isIntD, isSeqD]; done))
  | ((with_reducible refine i_iF ?_ ?_); · first | with_reducible rfl | (simp only [Bool.not_true, Bool.not_false, isTupD, isLstD, isStrD, isBlD, isIntD, isSeqD]; done)))
local macro_rules | `(tactic| walk_at "sy") => `(tactic| repeat first | walk_at "kb1" | walk_at "ic" | walk_at "isi" | walk_at "op" | walk_at "wp")
theorem sc_NoFormula_init : FnScope ["self", "found"] ["self", "found"] (defScope s_NoFormula_init) := ⟨rfl, rfl, rfl, by decide +kernel, rfl, by decide +kernel, by decide +kernel⟩
theorem ok_NoFormula_init {P : Program} {w : World} {K : PySem.W.Frag} {mg : Str → Option Value} {base : Heap} (T : Tx K mg) :
    Cn P w K mg base 1 (He.fAd K ("NoFormula", some "__init__")) ["self", "found"] (sp_NoFormula_init K) := by
  refine cnN (d := d_NoFormula_init) T.st_NoFormula_init sc_NoFormula_init sp2_len (fun _ _ _ _ _ _ us hl => match us, hl with | [_, _], _ => rfl) (fun cdv A outer s H vs Q E hr h => ?_)
  obtain ⟨v_self, v_found, rfl, h⟩ := h
  refine ⟨_, (pss_cons (ps_expr (e_lorei (K := K) rfl (by rfl) T.g_LoreError T.rd_LoreError T.sp_LoreError T.li (pa_cons (pv 0) (pa_cons pe_str pa_nil))))
  (pss_one (s_ost (K := K) rfl (pv 0) (pv 1)))), ?_⟩
  rw [show start ["self", "found"] [v_self, v_found] = [some v_self, some v_found] from rfl]
  obtain ⟨a, rfl, ha, q⟩ := h
  walk_at "sx"
  refine ⟨a, _, _, rfl, by walk_at "len", T.ox_NoFormula, ha, ?_⟩
  walk_at "sx"
  refine ⟨a, _, rfl, T.ox_NoFormula, T.nf_NoFormula_found, .inl ⟨ha, fun dx hd hn => ?_⟩⟩
  walk_at "sx"
  exact q dx hd hn


end H68

set_option maxHeartbeats 1000000
namespace H68
open PySem PySem.Spec PyProof.Rows L2 KB
local macro_rules | `(tactic| walk_at "kb1") => `(tactic| with_reducible first
  | refine i_var rfl ?_ | refine i_c ?_ | refine i_cons ?_ | refine i_nil ?_ | refine i_op ?_ | refine i_seq ?_ | refine i_if ?_ | refine i_ret ?_ | refine i_asg ?_ | refine i_name ?_ | refine i_next ?_ | refine i_drop ?_
  | refine i_un ?_ | refine i_cb ?_ | refine i_cal ?_ | refine i_calM ?_ | refine i_test ?_ | refine i_tb ?_ | refine i_k ?_ | refine i_not ?_ | refine i_and ?_ | refine i_or ?_ | refine i_andV ?_ | refine i_orV ?_ | refine i_notV ?_ | refine i_ife ?_
  | refine i_isN ?_ | refine i_notN ?_ | refine i_chain ?_ | refine i_tup ?_ | refine i_lst ?_ | refine i_sl ?_ | refine i_noPart ?_ | refine i_part ?_ | refine i_ik ?_ | refine i_sk ?_ | refine i_bm0 ?_ | refine i_bm ?_ | refine i_m1 ?_ | refine i_m0 ?_ | refine i_fld ?_ | refine i_tru ?_
  | refine i_gC ?_ | refine i_gN ?_ | refine i_for0L ?_ | refine i_for0E ?_ | refine i_for0R ?_ | refine i_lc0L ?_ | refine i_lc0S ?_ | refine i_lc0Z ?_ | refine i_tix ?_ | refine i_lorei ?_ | refine i_js0 ?_ | refine i_xf ?_ | refine i_calR ?_ | refine i_calRS ?_ | refine i_calS ?_ | refine i_for0R3 ?_ | refine i_mak ?_ | refine i_dget ?_ | refine i_din ?_ | refine i_dnotin ?_ | refine i_dput ?_ | refine i_dnewT ?_ | refine i_sub ?_ | refine i_rng1 ?_ | refine i_rng2 ?_ | refine i_rev ?_ | refine i_replC ?_ | refine i_lenset ?_ | refine i_mS ?_ | refine i_js ?_ | refine i_fmt ?_ | refine i_par ?_ | refine i_v2 ?_ | refine i_par3 ?_ | refine i_v3 ?_ | refine i_mkO ?_ | refine i_ost ?_ | refine i_sFld ?_ | refine i_yes ?_ | refine i_dget1 ?_ | refine i_dnewK ?_ | refine i_dpop1 ?_ | refine i_ndnew ?_ | refine i_nget2 ?_ | refine i_nsetd ?_ | refine i_nix ?_ | refine i_nput ?_ | refine i_listItems ?_ | refine i_for0Nv ?_ | refine i_lc0Nk ?_ | refine i_dstar ?_ | refine i_lc20L ?_ | refine i_sp1 ?_ | refine i_sp2 ?_ | refine i_sp3 ?_ | refine i_sp4 ?_)
local macro_rules | `(tactic| walk_at "dr") => `(tactic| first
  | assumption | exact Dr.non | exact Dr.bl _ | exact Dr.int _ | exact Dr.str _ | exact Dr.tup (by assumption) (by assumption) | exact Dr.lst (by assumption) (by assumption) | exact Dr.dic (by assumption) | exact Im.dr (by assumption))
local macro_rules | `(tactic| walk_at "if") => `(tactic| first
  | ((with_reducible refine i_iT ?_ ?_); · rfl) | ((with_reducible refine i_iF ?_ ?_); · rfl))
local macro_rules | `(tactic| walk_at "isi") => `(tactic| ((with_reducible show rIsiU _ _ _ _); first
  | (with_reducible refine j_isTup (by walk_at "dr") ?_) | (with_reducible refine j_isLst (by walk_at "dr") ?_) | (with_reducible refine j_isStr (by walk_at "dr") ?_)
  | (with_reducible refine j_isBl (by walk_at "dr") ?_) | (with_reducible refine j_isInt (by walk_at "dr") ?_)))
local macro_rules | `(tactic| walk_at "op") => `(tactic| with_reducible first
  | refine i_rI0 ?_ | refine i_addI ?_ | refine i_rU ?_ | refine i_ltI ?_ | refine i_inC ?_ | refine i_notInC ?_ | refine i_intI ?_ | refine i_intB ?_ | refine i_abs ?_ | refine i_max2 ?_ | refine i_min2 ?_ | refine i_isBl ?_
  | (refine i_eqS rfl ?_) | (refine i_neS rfl ?_))
local macro_rules | `(tactic| walk_at "wp") => `(tactic| ((with_reducible refine i_wp ?_ ?_); · rfl))
local macro_rules | `(tactic| walk_at "sx") => `(tactic| repeat first | walk_at "kb1" | walk_at "if" | walk_at "isi" | walk_at "op" | walk_at "wp")
local macro_rules | `(tactic| walk_at "cd") => `(tactic| refine ⟨_, (by walk_at "dr"), ?_⟩)
local macro_rules | `(tactic| walk_at "len") => `(tactic| (simp only [List.length_cons, List.length_nil]; decide))
local macro_rules | `(tactic| walk_at "ic") => `(tactic| first
  | ((with_reducible refine i_iT ?_ ?_); · first | with_reducible rfl | (simp only [Bool.not_true, Bool.not_false, isTupD, isLstD, isStrD, isBlD, isIntD, isSeqD]; done))
  | ((with_reducible refine i_iF ?_ ?_); · first | with_reducible rfl | (simp only [Bool.not_true, Bool.not_false, isTupD, isLstD, isStrD, isBlD, isIntD, isSeqD]; done)))
local macro_rules | `(tactic| walk_at "sy") => `(tactic| repeat first | walk_at "kb1" | walk_at "ic" | walk_at "isi" | walk_at "op" | walk_at "wp")
theorem sc_is_name : FnScope ["thing", "sign"] ["thing"] (defScope s_is_name) := ⟨rfl, rfl, rfl, by decide +kernel, rfl, by decide +kernel, by decide +kernel⟩
theorem ok_is_name {P : Program} {w : World} {K : PySem.W.Frag} {mg : Str → Option Value} {base : Heap} (T : Tx K mg) :
    Cn P w K mg base 1 (He.fAd K ("is_name", none)) ["thing"] (sp_is_name K) := by
  refine cnN (d := d_is_name) T.st_is_name sc_is_name sp1_len (fun _ _ _ _ _ _ us hl => match us, hl with | [_], _ => rfl) (fun cdv A outer s H vs Q E hr h => ?_)
  obtain ⟨v_thing, rfl, h⟩ := h
  refine ⟨_, (pss_cons (ps_if (PW.pt (pw_or (pt_not (pt_val (pe_callB (c_isi (K := K) rfl) (by rfl) T.f_isinstance (by decide +kernel) (pa_cons (pv 0) (pa_cons (pe_bltn (v := .ty "str") (by rfl) T.f_str (by decide +kernel) rfl) pa_nil))))) (pw_or (pt_not (pt_chain op_le op_le pe_int (pe_callB (c_len (K := K) rfl) (by rfl) T.f_len (by decide +kernel) (pa_cons (pv 0) pa_nil)) (e_gc (by rfl) T.c_LONGEST_NAME))) (pw_or1 (pt_cmpR (o_in (K := K) rfl (rU65 hr)) (pv 0) (e_gc (by rfl) T.c_OWN) (by rfl)))))) (pss_one (ps_ret pe_bl)) pss_nil)
  (pss_one (ps_ret (pe_callB (c_all (K := K) rfl rfl) (by rfl) T.f_all (by decide +kernel) (pa_cons (pe_lc (own := [("sign", 1)]) (g := (gName 1)) rfl sc_is_name.nd (pi_str (pv 0)) (blkOk_by (own := [("sign", 1)]) (N := ["thing", "sign"]) (sc := defScope s_is_name) (by decide +kernel)) (fun _ _ _ _ _ => (pg_name (i := 1) sc_is_name.nd rfl (by first | exact Or.inl rfl | exact Or.inr rfl))) (fun _ _ _ _ _ => pts_nil) (fun _ _ _ _ _ => (pe_cmpR (o_in (K := K) rfl (rU65 hr)) (pv 1) (e_gc (by rfl) T.c_LETTERS) (by rfl)))) pa_nil))))), ?_⟩
  rw [show start ["thing", "sign"] [v_thing] = [some v_thing, none] from rfl]
  obtain ⟨d, hd, ho, q⟩ := h
  cases hd
  all_goals walk_at "sx"
  all_goals try exact q _ (fun _ _ e => e)
  rename_i z
  have hz : z.length ≤ sizeLine := Sm.z ho
  refine i_lenS hz ?_
  walk_at "sx"
  have key : ∀ b, isNameS z = b → ∀ H', Same H H' → Q (.bl b) H' := fun b e H' s => e ▸ q H' s
  refine i_i2 (fun e1 => ?_) (fun e1 => ?_)
  · walk_at "sx"
    refine i_i2 (fun e2 => ?_) (fun e2 => ?_)
    · refine key _ ?_ _ (fun _ _ e => e)
      have : ¬ z.length ≤ 8 := by intro h; simp at e2; omega
      simp [isNameS, this]
    · walk_at "sx"
      refine i_inSq (.inr (T.t_OWN H)) rfl rfl ?_
      walk_at "sx"
      simp at e1 e2
      have e1' : 1 ≤ z.length := by omega
      have e2' : z.length ≤ 8 := by omega
      refine i_i2 (fun e3 => ?_) (fun e3 => ?_)
      · walk_at "sx"
        have e3' : inV (.str z) ownV = true := e3
        exact key _ (by simp [isNameS, e3']) _ (fun _ _ e => e)
      · walk_at "sx"
        have e3' : inV (.str z) ownV = false := e3
        refine i_lcS (fun _ => true) (fun d => .bool (inD vLow d)) hz (fun D hD i x d H1 ed ix s N no yes => ?_) (fun D H1 ys hD s hy im => ?_)
        · obtain ⟨c, hc, rfl⟩ := chD_get ed
          cases ix
          walk_at "sx"
          exact yes rfl _ _ (fun _ _ e => e) (.bl _)
        · walk_at "sx"
          rw [all_in] at im
          rw [im.of_bls] at hy
          refine i_all (.inl (.inl hy)) ?_
          refine key _ ?_ _ s
          rw [all_id]
          simp [isNameS, e1', e2', e3']
  · walk_at "sx"
    refine key _ ?_ _ (fun _ _ e => e)
    have : ¬ 1 ≤ z.length := by intro h; simp at e1; omega
    simp [isNameS, this]


end H68

set_option maxHeartbeats 1000000
namespace H68
open PySem PySem.Spec PyProof.Rows L2 KB
local macro_rules | `(tactic| walk_at "kb1") => `(tactic| with_reducible first
  | refine i_var rfl ?_ | refine i_c ?_ | refine i_cons ?_ | refine i_nil ?_ | refine i_op ?_ | refine i_seq ?_ | refine i_if ?_ | refine i_ret ?_ | refine i_asg ?_ | refine i_name ?_ | refine i_next ?_ | refine i_drop ?_
  | refine i_un ?_ | refine i_cb ?_ | refine i_cal ?_ | refine i_calM ?_ | refine i_test ?_ | refine i_tb ?_ | refine i_k ?_ | refine i_not ?_ | refine i_and ?_ | refine i_or ?_ | refine i_andV ?_ | refine i_orV ?_ | refine i_notV ?_ | refine i_ife ?_
  | refine i_isN ?_ | refine i_notN ?_ | refine i_chain ?_ | refine i_tup ?_ | refine i_lst ?_ | refine i_sl ?_ | refine i_noPart ?_ | refine i_part ?_ | refine i_ik ?_ | refine i_sk ?_ | refine i_bm0 ?_ | refine i_bm ?_ | refine i_m1 ?_ | refine i_m0 ?_ | refine i_fld ?_ | refine i_tru ?_
  | refine i_gC ?_ | refine i_gN ?_ | refine i_for0L ?_ | refine i_for0E ?_ | refine i_for0R ?_ | refine i_lc0L ?_ | refine i_lc0S ?_ | refine i_lc0Z ?_ | refine i_tix ?_ | refine i_lorei ?_ | refine i_js0 ?_ | refine i_xf ?_ | refine i_calR ?_ | refine i_calRS ?_ | refine i_calS ?_ | refine i_for0R3 ?_ | refine i_mak ?_ | refine i_dget ?_ | refine i_din ?_ | refine i_dnotin ?_ | refine i_dput ?_ | refine i_dnewT ?_ | refine i_sub ?_ | refine i_rng1 ?_ | refine i_rng2 ?_ | refine i_rev ?_ | refine i_replC ?_ | refine i_lenset ?_ | refine i_mS ?_ | refine i_js ?_ | refine i_fmt ?_ | refine i_par ?_ | refine i_v2 ?_ | refine i_par3 ?_ | refine i_v3 ?_ | refine i_mkO ?_ | refine i_ost ?_ | refine i_sFld ?_ | refine i_yes ?_ | refine i_dget1 ?_ | refine i_dnewK ?_ | refine i_dpop1 ?_ | refine i_ndnew ?_ | refine i_nget2 ?_ | refine i_nsetd ?_ | refine i_nix ?_ | refine i_nput ?_ | refine i_listItems ?_ | refine i_for0Nv ?_ | refine i_lc0Nk ?_ | refine i_dstar ?_ | refine i_lc20L ?_ | refine i_sp1 ?_ | refine i_sp2 ?_ | refine i_sp3 ?_ | refine i_sp4 ?_)
local macro_rules | `(tactic| walk_at "dr") => `(tactic| first
  | assumption | exact Dr.non | exact Dr.bl _ | exact Dr.int _ | exact Dr.str _ | exact Dr.tup (by assumption) (by assumption) | exact Dr.lst (by assumption) (by assumption) | exact Dr.dic (by assumption) | exact Im.dr (by assumption))
local macro_rules | `(tactic| walk_at "if") => `(tactic| first
  | ((with_reducible refine i_iT ?_ ?_); · rfl) | ((with_reducible refine i_iF ?_ ?_); · rfl))
local macro_rules | `(tactic| walk_at "isi") => `(tactic| ((with_reducible show rIsiU _ _ _ _); first
  | (with_reducible refine j_isTup (by walk_at "dr") ?_) | (with_reducible refine j_isLst (by walk_at "dr") ?_) | (with_reducible refine j_isStr (by walk_at "dr") ?_)
  | (with_reducible refine j_isBl (by walk_at "dr") ?_) | (with_reducible refine j_isInt (by walk_at "dr") ?_)))
local macro_rules | `(tactic| walk_at "op") => `(tactic| with_reducible first
  | refine i_rI0 ?_ | refine i_addI ?_ | refine i_rU ?_ | refine i_ltI ?_ | refine i_inC ?_ | refine i_notInC ?_ | refine i_intI ?_ | refine i_intB ?_ | refine i_abs ?_ | refine i_max2 ?_ | refine i_min2 ?_ | refine i_isBl ?_
  | (refine i_eqS rfl ?_) | (refine i_neS rfl ?_))
local macro_rules | `(tactic| walk_at "wp") => `(tactic| ((with_reducible refine i_wp ?_ ?_); · rfl))
local macro_rules | `(tactic| walk_at "sx") => `(tactic| repeat first | walk_at "kb1" | walk_at "if" | walk_at "isi" | walk_at "op" | walk_at "wp")
local macro_rules | `(tactic| walk_at "cd") => `(tactic| refine ⟨_, (by walk_at "dr"), ?_⟩)
local macro_rules | `(tactic| walk_at "len") => `(tactic| (simp only [List.length_cons, List.length_nil]; decide))
local macro_rules | `(tactic| walk_at "ic") => `(tactic| first
  | ((with_reducible refine i_iT ?_ ?_); · first | with_reducible rfl | (simp only [Bool.not_true, Bool.not_false, isTupD, isLstD, isStrD, isBlD, isIntD, isSeqD]; done))
  | ((with_reducible refine i_iF ?_ ?_); · first | with_reducible rfl | (simp only [Bool.not_true, Bool.not_false, isTupD, isLstD, isStrD, isBlD, isIntD, isSeqD]; done)))
local macro_rules | `(tactic| walk_at "sy") => `(tactic| repeat first | walk_at "kb1" | walk_at "ic" | walk_at "isi" | walk_at "op" | walk_at "wp")
theorem sc_is_value : FnScope ["thing", "sign"] ["thing"] (defScope s_is_value) := ⟨rfl, rfl, rfl, by decide +kernel, rfl, by decide +kernel, by decide +kernel⟩
theorem ok_is_value {P : Program} {w : World} {K : PySem.W.Frag} {mg : Str → Option Value} {base : Heap} (T : Tx K mg) :
    Cn P w K mg base 1 (He.fAd K ("is_value", none)) ["thing"] (sp_is_value K) := by
  refine cnN (d := d_is_value) T.st_is_value sc_is_value sp1_len (fun _ _ _ _ _ _ us hl => match us, hl with | [_], _ => rfl) (fun cdv A outer s H vs Q E hr h => ?_)
  obtain ⟨v_thing, rfl, h⟩ := h
  refine ⟨_, (pss_cons (ps_if (PW.pt (pw_or (pt_not (pt_val (pe_callB (c_isi (K := K) rfl) (by rfl) T.f_isinstance (by decide +kernel) (pa_cons (pv 0) (pa_cons (pe_bltn (v := .ty "str") (by rfl) T.f_str (by decide +kernel) rfl) pa_nil))))) (pw_or1 (pt_not (pt_chain op_le op_le pe_int (pe_callB (c_len (K := K) rfl) (by rfl) T.f_len (by decide +kernel) (pa_cons (pv 0) pa_nil)) (e_gc (by rfl) T.c_LONGEST_VALUE)))))) (pss_one (ps_ret pe_bl)) pss_nil)
  (pss_one (ps_ret (pe_callB (c_all (K := K) rfl rfl) (by rfl) T.f_all (by decide +kernel) (pa_cons (pe_lc (own := [("sign", 1)]) (g := (gName 1)) rfl sc_is_value.nd (pi_str (pv 0)) (blkOk_by (own := [("sign", 1)]) (N := ["thing", "sign"]) (sc := defScope s_is_value) (by decide +kernel)) (fun _ _ _ _ _ => (pg_name (i := 1) sc_is_value.nd rfl (by first | exact Or.inl rfl | exact Or.inr rfl))) (fun _ _ _ _ _ => pts_nil) (fun _ _ _ _ _ => (pe_cmpR (o_in (K := K) rfl (rU65 hr)) (pv 1) (pe_op op_addU (e_gc (by rfl) T.c_LETTERS) (e_gc (by rfl) T.c_FIGURES)) (by rfl)))) pa_nil))))), ?_⟩
  rw [show start ["thing", "sign"] [v_thing] = [some v_thing, none] from rfl]
  obtain ⟨d, hd, ho, q⟩ := h
  cases hd
  all_goals walk_at "sx"
  all_goals try exact q _ (fun _ _ e => e)
  rename_i z
  have hz : z.length ≤ sizeLine := Sm.z ho
  refine i_lenS hz ?_
  walk_at "sx"
  have key : ∀ b, isValueS z = b → ∀ H', Same H H' → Q (.bl b) H' := fun b e H' s => e ▸ q H' s
  refine i_i2 (fun e1 => ?_) (fun e1 => ?_)
  · walk_at "sx"
    refine i_i2 (fun e2 => ?_) (fun e2 => ?_)
    · refine key _ ?_ _ (fun _ _ e => e)
      have : ¬ z.length ≤ 12 := by intro h; simp at e2; omega
      simp [isValueS, this]
    · walk_at "sx"
      refine i_lcS (fun _ => true) (fun d => .bool (inD vSigns d)) hz (fun D hD i x d H1 ed ix s N no yes => ?_) (fun D H1 ys hD s hy im => ?_)
      · obtain ⟨c, hc, rfl⟩ := chD_get ed
        cases ix
        walk_at "sx"
        refine i_addS (by decide +kernel) ?_
        walk_at "sx"
        exact yes rfl _ _ (fun _ _ e => e) (.bl _)
      · walk_at "sx"
        rw [all_in] at im
        rw [im.of_bls] at hy
        refine i_all (.inl (.inl hy)) ?_
        refine key _ ?_ _ s
        rw [all_id]
        simp at e1 e2
        have e1' : 1 ≤ z.length := by omega
        have e2' : z.length ≤ 12 := by omega
        simp [isValueS, e1', e2']
  · walk_at "sx"
    refine key _ ?_ _ (fun _ _ e => e)
    have : ¬ 1 ≤ z.length := by intro h; simp at e1; omega
    simp [isValueS, this]


end H68

set_option maxHeartbeats 1000000
namespace H68
open PySem PySem.Spec PyProof.Rows L2 KB
local macro_rules | `(tactic| walk_at "kb1") => `(tactic| with_reducible first
  | refine i_var rfl ?_ | refine i_c ?_ | refine i_cons ?_ | refine i_nil ?_ | refine i_op ?_ | refine i_seq ?_ | refine i_if ?_ | refine i_ret ?_ | refine i_asg ?_ | refine i_name ?_ | refine i_next ?_ | refine i_drop ?_
  | refine i_un ?_ | refine i_cb ?_ | refine i_cal ?_ | refine i_calM ?_ | refine i_test ?_ | refine i_tb ?_ | refine i_k ?_ | refine i_not ?_ | refine i_and ?_ | refine i_or ?_ | refine i_andV ?_ | refine i_orV ?_ | refine i_notV ?_ | refine i_ife ?_
  | refine i_isN ?_ | refine i_notN ?_ | refine i_chain ?_ | refine i_tup ?_ | refine i_lst ?_ | refine i_sl ?_ | refine i_noPart ?_ | refine i_part ?_ | refine i_ik ?_ | refine i_sk ?_ | refine i_bm0 ?_ | refine i_bm ?_ | refine i_m1 ?_ | refine i_m0 ?_ | refine i_fld ?_ | refine i_tru ?_
  | refine i_gC ?_ | refine i_gN ?_ | refine i_for0L ?_ | refine i_for0E ?_ | refine i_for0R ?_ | refine i_lc0L ?_ | refine i_lc0S ?_ | refine i_lc0Z ?_ | refine i_tix ?_ | refine i_lorei ?_ | refine i_js0 ?_ | refine i_xf ?_ | refine i_calR ?_ | refine i_calRS ?_ | refine i_calS ?_ | refine i_for0R3 ?_ | refine i_mak ?_ | refine i_dget ?_ | refine i_din ?_ | refine i_dnotin ?_ | refine i_dput ?_ | refine i_dnewT ?_ | refine i_sub ?_ | refine i_rng1 ?_ | refine i_rng2 ?_ | refine i_rev ?_ | refine i_replC ?_ | refine i_lenset ?_ | refine i_mS ?_ | refine i_js ?_ | refine i_fmt ?_ | refine i_par ?_ | refine i_v2 ?_ | refine i_par3 ?_ | refine i_v3 ?_ | refine i_mkO ?_ | refine i_ost ?_ | refine i_sFld ?_ | refine i_yes ?_ | refine i_dget1 ?_ | refine i_dnewK ?_ | refine i_dpop1 ?_ | refine i_ndnew ?_ | refine i_nget2 ?_ | refine i_nsetd ?_ | refine i_nix ?_ | refine i_nput ?_ | refine i_listItems ?_ | refine i_for0Nv ?_ | refine i_lc0Nk ?_ | refine i_dstar ?_ | refine i_lc20L ?_ | refine i_sp1 ?_ | refine i_sp2 ?_ | refine i_sp3 ?_ | refine i_sp4 ?_)
local macro_rules | `(tactic| walk_at "dr") => `(tactic| first
  | assumption | exact Dr.non | exact Dr.bl _ | exact Dr.int _ | exact Dr.str _ | exact Dr.tup (by assumption) (by assumption) | exact Dr.lst (by assumption) (by assumption) | exact Dr.dic (by assumption) | exact Im.dr (by assumption))
local macro_rules | `(tactic| walk_at "if") => `(tactic| first
  | ((with_reducible refine i_iT ?_ ?_); · rfl) | ((with_reducible refine i_iF ?_ ?_); · rfl))
local macro_rules | `(tactic| walk_at "isi") => `(tactic| ((with_reducible show rIsiU _ _ _ _); first
  | (with_reducible refine j_isTup (by walk_at "dr") ?_) | (with_reducible refine j_isLst (by walk_at "dr") ?_) | (with_reducible refine j_isStr (by walk_at "dr") ?_)
  | (with_reducible refine j_isBl (by walk_at "dr") ?_) | (with_reducible refine j_isInt (by walk_at "dr") ?_)))
local macro_rules | `(tactic| walk_at "op") => `(tactic| with_reducible first
  | refine i_rI0 ?_ | refine i_addI ?_ | refine i_rU ?_ | refine i_ltI ?_ | refine i_inC ?_ | refine i_notInC ?_ | refine i_intI ?_ | refine i_intB ?_ | refine i_abs ?_ | refine i_max2 ?_ | refine i_min2 ?_ | refine i_isBl ?_
  | (refine i_eqS rfl ?_) | (refine i_neS rfl ?_))
local macro_rules | `(tactic| walk_at "wp") => `(tactic| ((with_reducible refine i_wp ?_ ?_); · rfl))
local macro_rules | `(tactic| walk_at "sx") => `(tactic| repeat first | walk_at "kb1" | walk_at "if" | walk_at "isi" | walk_at "op" | walk_at "wp")
local macro_rules | `(tactic| walk_at "cd") => `(tactic| refine ⟨_, (by walk_at "dr"), ?_⟩)
local macro_rules | `(tactic| walk_at "len") => `(tactic| (simp only [List.length_cons, List.length_nil]; decide))
local macro_rules | `(tactic| walk_at "ic") => `(tactic| first
  | ((with_reducible refine i_iT ?_ ?_); · first | with_reducible rfl | (simp only [Bool.not_true, Bool.not_false, isTupD, isLstD, isStrD, isBlD, isIntD, isSeqD]; done))
  | ((with_reducible refine i_iF ?_ ?_); · first | with_reducible rfl | (simp only [Bool.not_true, Bool.not_false, isTupD, isLstD, isStrD, isBlD, isIntD, isSeqD]; done)))
local macro_rules | `(tactic| walk_at "sy") => `(tactic| repeat first | walk_at "kb1" | walk_at "ic" | walk_at "isi" | walk_at "op" | walk_at "wp")
theorem sc_has_form : FnScope ["thing", "levels"] ["thing", "levels"] (defScope s_has_form) := ⟨rfl, rfl, rfl, by decide +kernel, rfl, by decide +kernel, by decide +kernel⟩
theorem st_has_form {n : Nat} {P : Program} {w : World} {K : PySem.W.Frag} {mg : Str → Option Value} {base : Heap} (T : Tx K mg)
    (C_has_form : Cn P w K mg base (n + 2) (He.fAd K ("has_form", none)) ["thing", "levels"] (sp_has_form_n K n))
    (C_is_name : Cn P w K mg base 1 (He.fAd K ("is_name", none)) ["thing"] (sp_is_name K))
    (C_is_value : Cn P w K mg base 1 (He.fAd K ("is_value", none)) ["thing"] (sp_is_value K)) :
    Cn P w K mg base (n + 2 + 1) (He.fAd K ("has_form", none)) ["thing", "levels"] (sp_has_form_n K (n + 1)) := by
  refine cnN (d := d_has_form) T.st_has_form sc_has_form sp2_len (fun _ _ _ _ _ _ us hl => match us, hl with | [_, _], _ => rfl) (fun cdv A outer s H vs Q E hr h => ?_)
  obtain ⟨v_thing, v_levels, rfl, h⟩ := h
  refine ⟨_, (pss_cons (ps_if (PW.pt (pw_or (pt_not (pt_val (pe_callB (c_isi (K := K) rfl) (by rfl) T.f_isinstance (by decide +kernel) (pa_cons (pv 0) (pa_cons (pe_bltn (v := .ty "tuple") (by rfl) T.f_tuple (by decide +kernel) rfl) pa_nil))))) (pw_or (pt_cmpR (o_lt (K := K) rfl hr.units0) (pe_callB (c_len (K := K) rfl) (by rfl) T.f_len (by decide +kernel) (pa_cons (pv 0) pa_nil)) pe_int (by rfl)) (pw_or (pt_not (pt_val (pe_callB (c_isi (K := K) rfl) (by rfl) T.f_isinstance (by decide +kernel) (pa_cons (pe_ix (x_seq (K := K) rfl) (pv 0) pe_int (fun _ _ => rfl)) (pa_cons (pe_bltn (v := .ty "str") (by rfl) T.f_str (by decide +kernel) rfl) pa_nil))))) (pw_or1 (pt_cmpR (o_eq (K := K) rfl hr.units) (pv 1) pe_int (by rfl))))))) (pss_one (ps_ret pe_bl)) pss_nil)
  (pss_cons (ps_if (pt_cmpR (o_eq (K := K) rfl hr.units) (pe_ix (x_seq (K := K) rfl) (pv 0) pe_int (fun _ _ => rfl)) (e_gc (by rfl) T.c_IS) (by rfl)) (pss_one (ps_ret (pe_and (pe_cmpR (o_eq (K := K) rfl hr.units) (pe_callB (c_len (K := K) rfl) (by rfl) T.f_len (by decide +kernel) (pa_cons (pv 0) pa_nil)) pe_int (by rfl)) (pe_and (pe_cn C_is_name hr (by omega) (by rfl) T.g_is_name passN (pa_cons (pe_ix (x_seq (K := K) rfl) (pv 0) pe_int (fun _ _ => rfl)) pa_nil)) (pe_one (pe_cn C_is_value hr (by omega) (by rfl) T.g_is_value passN (pa_cons (pe_ix (x_seq (K := K) rfl) (pv 0) pe_int (fun _ _ => rfl)) pa_nil))))))) pss_nil)
  (pss_cons (ps_if (pt_cmpR (o_eq (K := K) rfl hr.units) (pe_ix (x_seq (K := K) rfl) (pv 0) pe_int (fun _ _ => rfl)) (e_gc (by rfl) T.c_SILENT) (by rfl)) (pss_one (ps_ret (pe_and (pe_cmpR (o_eq (K := K) rfl hr.units) (pe_callB (c_len (K := K) rfl) (by rfl) T.f_len (by decide +kernel) (pa_cons (pv 0) pa_nil)) pe_int (by rfl)) (pe_one (pe_cn C_is_name hr (by omega) (by rfl) T.g_is_name passN (pa_cons (pe_ix (x_seq (K := K) rfl) (pv 0) pe_int (fun _ _ => rfl)) pa_nil)))))) pss_nil)
  (pss_cons (ps_if (pt_cmpR (o_eq (K := K) rfl hr.units) (pe_ix (x_seq (K := K) rfl) (pv 0) pe_int (fun _ _ => rfl)) (e_gc (by rfl) T.c_NOT) (by rfl)) (pss_one (ps_ret (pe_and (pe_cmpR (o_eq (K := K) rfl hr.units) (pe_callB (c_len (K := K) rfl) (by rfl) T.f_len (by decide +kernel) (pa_cons (pv 0) pa_nil)) pe_int (by rfl)) (pe_one (pe_cn C_has_form hr (by omega) (by rfl) T.g_has_form passN (pa_cons (pe_ix (x_seq (K := K) rfl) (pv 0) pe_int (fun _ _ => rfl)) (pa_cons (pe_op op_sub (pv 1) pe_int) pa_nil))))))) pss_nil)
  (pss_cons (ps_if (pt_cmpR (o_in (K := K) rfl (rU65 hr)) (pe_ix (x_seq (K := K) rfl) (pv 0) pe_int (fun _ _ => rfl)) (e_gc (by rfl) T.c_TWO) (by rfl)) (pss_one (ps_ret (pe_and (pe_cmpR (o_eq (K := K) rfl hr.units) (pe_callB (c_len (K := K) rfl) (by rfl) T.f_len (by decide +kernel) (pa_cons (pv 0) pa_nil)) pe_int (by rfl)) (pe_and (pe_cn C_has_form hr (by omega) (by rfl) T.g_has_form passN (pa_cons (pe_ix (x_seq (K := K) rfl) (pv 0) pe_int (fun _ _ => rfl)) (pa_cons (pe_op op_sub (pv 1) pe_int) pa_nil))) (pe_one (pe_cn C_has_form hr (by omega) (by rfl) T.g_has_form passN (pa_cons (pe_ix (x_seq (K := K) rfl) (pv 0) pe_int (fun _ _ => rfl)) (pa_cons (pe_op op_sub (pv 1) pe_int) pa_nil)))))))) pss_nil)
  (pss_one (ps_ret pe_bl))))))), ?_⟩
  rw [show start ["thing", "levels"] [v_thing, v_levels] = [some v_thing, some v_levels] from rfl]
  obtain ⟨d, i, hd, rfl, h0, h1, ho, q⟩ := h
  have key : ∀ b, hasForm i.toNat d = b → ∀ H', Same H H' → Q (.bl b) H' := fun b e H' s => e ▸ q H' s
  cases hd with
  | tup ha al =>
    walk_at "sx"
    refine i_lenT (.inl (.inl ha)) ?_
    match al, ha, ho, key with
    | .nil, ha, ho, key =>
      repeat (walk_at "sx"; first | refine i_ixT (.inl (.inl ha)) rfl ?_ | refine i_lenT (.inl (.inl ha)) ?_)
      walk_at "sx"
      exact key _ (hf_short (by decide)) _ (fun _ _ e => e)
    | .cons _ .nil, ha, ho, key =>
      repeat (walk_at "sx"; first | refine i_ixT (.inl (.inl ha)) rfl ?_ | refine i_lenT (.inl (.inl ha)) ?_)
      walk_at "sx"
      exact key _ (hf_short (by show 1 < 2; decide)) _ (fun _ _ e => e)
    | .cons (d := d0) g0 (.cons (d := d1) g1 .nil), ha, ho, key =>
      repeat (walk_at "sx"; first | refine i_ixT (.inl (.inl ha)) rfl ?_ | refine i_lenT (.inl (.inl ha)) ?_)
      walk_at "sx"
      cases g0 with
      | str w =>
        walk_at "sx"
        refine i_i2 (fun e0 => ?_) (fun e0 => ?_)
        · have ei : i = 0 := by have := e0; simp at this; exact this
          walk_at "sx"
          exact key _ (by rw [ei]; exact hf_zero _) _ (fun _ _ e => e)
        · have ei : ¬ i = 0 := by have := e0; simp at this; exact this
          obtain ⟨m, hm⟩ : ∃ m, i.toNat = m + 1 := ⟨i.toNat - 1, by omega⟩
          rw [hm] at key
          repeat (walk_at "sx"; first | refine i_ixT (.inl (.inl ha)) rfl ?_ | refine i_lenT (.inl (.inl ha)) ?_)
          walk_at "sx"
          refine i_i2 (fun e1 => ?_) (fun e1 => ?_)
          · have e1' : w = "is" := by have := e1; simp at this; exact this
            repeat (walk_at "sx"; first | refine i_ixT (.inl (.inl ha)) rfl ?_ | refine i_lenT (.inl (.inl ha)) ?_)
            walk_at "sx"
            exact key _ (hf_else2 (by rw [e1']; decide +kernel) (by rw [e1']; decide +kernel)) _ (fun _ _ e => e)
          · repeat (walk_at "sx"; first | refine i_ixT (.inl (.inl ha)) rfl ?_ | refine i_lenT (.inl (.inl ha)) ?_)
            walk_at "sx"
            refine i_i2 (fun e2 => ?_) (fun e2 => ?_)
            · have e2' : w = "silent" := by have := e2; simp at this; exact this
              repeat (walk_at "sx"; first | refine i_ixT (.inl (.inl ha)) rfl ?_ | refine i_lenT (.inl (.inl ha)) ?_)
              walk_at "sx"
              exact ⟨d1, g1, (ho.at (by simp)).s, fun H' s => key _ (hf_sil2 e2') _ s⟩
            · have e2' : ¬ w = "silent" := by have := e2; simp at this; exact this
              repeat (walk_at "sx"; first | refine i_ixT (.inl (.inl ha)) rfl ?_ | refine i_lenT (.inl (.inl ha)) ?_)
              walk_at "sx"
              refine i_i2 (fun e3 => ?_) (fun e3 => ?_)
              · have e3' : w = "not" := by have := e3; simp at this; exact this
                repeat (walk_at "sx"; first | refine i_ixT (.inl (.inl ha)) rfl ?_ | refine i_lenT (.inl (.inl ha)) ?_)
                walk_at "sx"
                refine ⟨d1, _, g1, rfl, by omega, by omega, ho.at (by simp), fun H' s => ?_⟩
                rw [show (i - 1).toNat = m from by omega]
                exact key _ (hf_not2 e2' e3') _ s
              · have e3' : ¬ w = "not" := by have := e3; simp at this; exact this
                have no := fun H' s => key _ (hf_else2 e2' e3') H' s
                repeat (walk_at "sx"; first | refine i_ixT (.inl (.inl ha)) rfl ?_ | refine i_lenT (.inl (.inl ha)) ?_)
                walk_at "sx"
                refine i_inSq (.inr (T.t_TWO H)) rfl rfl ?_
                walk_at "sx"
                refine i_i2 (fun e4 => ?_) (fun e4 => ?_)
                · repeat (walk_at "sx"; first | refine i_ixT (.inl (.inl ha)) rfl ?_ | refine i_lenT (.inl (.inl ha)) ?_)
                  walk_at "sx"
                  exact no _ (fun _ _ e => e)
                · walk_at "sx"
                  exact no _ (fun _ _ e => e)
      | _ =>
        walk_at "sx"
        exact key _ (hf_first rfl) _ (fun _ _ e => e)
    | .cons (d := d0) g0 (.cons (d := d1) g1 (.cons (d := d2) g2 .nil)), ha, ho, key =>
      repeat (walk_at "sx"; first | refine i_ixT (.inl (.inl ha)) rfl ?_ | refine i_lenT (.inl (.inl ha)) ?_)
      walk_at "sx"
      cases g0 with
      | str w =>
        walk_at "sx"
        refine i_i2 (fun e0 => ?_) (fun e0 => ?_)
        · have ei : i = 0 := by have := e0; simp at this; exact this
          walk_at "sx"
          exact key _ (by rw [ei]; exact hf_zero _) _ (fun _ _ e => e)
        · have ei : ¬ i = 0 := by have := e0; simp at this; exact this
          obtain ⟨m, hm⟩ : ∃ m, i.toNat = m + 1 := ⟨i.toNat - 1, by omega⟩
          rw [hm] at key
          repeat (walk_at "sx"; first | refine i_ixT (.inl (.inl ha)) rfl ?_ | refine i_lenT (.inl (.inl ha)) ?_)
          walk_at "sx"
          refine i_i2 (fun e1 => ?_) (fun e1 => ?_)
          · have e1' : w = "is" := by have := e1; simp at this; exact this
            repeat (walk_at "sx"; first | refine i_ixT (.inl (.inl ha)) rfl ?_ | refine i_lenT (.inl (.inl ha)) ?_)
            walk_at "sx"
            refine ⟨d1, g1, (ho.at (by simp)).s, fun H' s => ?_⟩
            walk_at "sx"
            refine i_i2 (fun e5 => ?_) (fun e5 => ?_)
            · walk_at "sx"
              refine i_ixT (.inl (.inl (s _ _ ha))) rfl ?_
              walk_at "sx"
              refine ⟨d2, g2.mono s, (ho.at (by simp)).s, fun H2 s2 => key _ ?_ _ (s.trans s2)⟩
              rw [hf_is3 e1', e5, Bool.true_and]
            · exact key _ (by rw [hf_is3 e1', e5, Bool.false_and]) _ s
          · have e1' : ¬ w = "is" := by have := e1; simp at this; exact this
            repeat (walk_at "sx"; first | refine i_ixT (.inl (.inl ha)) rfl ?_ | refine i_lenT (.inl (.inl ha)) ?_)
            walk_at "sx"
            refine i_i2 (fun e2 => ?_) (fun e2 => ?_)
            · have e2' : w = "silent" := by have := e2; simp at this; exact this
              repeat (walk_at "sx"; first | refine i_ixT (.inl (.inl ha)) rfl ?_ | refine i_lenT (.inl (.inl ha)) ?_)
              walk_at "sx"
              exact key _ (hf_else3 e1' (by rw [e2']; decide +kernel)) _ (fun _ _ e => e)
            · repeat (walk_at "sx"; first | refine i_ixT (.inl (.inl ha)) rfl ?_ | refine i_lenT (.inl (.inl ha)) ?_)
              walk_at "sx"
              refine i_i2 (fun e3 => ?_) (fun e3 => ?_)
              · have e3' : w = "not" := by have := e3; simp at this; exact this
                repeat (walk_at "sx"; first | refine i_ixT (.inl (.inl ha)) rfl ?_ | refine i_lenT (.inl (.inl ha)) ?_)
                walk_at "sx"
                exact key _ (hf_else3 e1' (by rw [e3']; decide +kernel)) _ (fun _ _ e => e)
              · repeat (walk_at "sx"; first | refine i_ixT (.inl (.inl ha)) rfl ?_ | refine i_lenT (.inl (.inl ha)) ?_)
                walk_at "sx"
                refine i_inSq (.inr (T.t_TWO H)) rfl rfl ?_
                rw [show ([V.str "and", V.str "or"] : List V) = (["and", "or"] : List Str).map V.str from rfl, inV_strs]
                walk_at "sx"
                refine i_i2 (fun e4 => ?_) (fun e4 => ?_)
                · have e4' : w = "and" ∨ w = "or" := by have := of_decide_eq_true e4; simpa using this
                  repeat (walk_at "sx"; first | refine i_ixT (.inl (.inl ha)) rfl ?_ | refine i_lenT (.inl (.inl ha)) ?_)
                  walk_at "sx"
                  refine ⟨d1, _, g1, rfl, by omega, by omega, ho.at (by simp), fun H' s => ?_⟩
                  rw [show (i - 1).toNat = m from by omega]
                  walk_at "sx"
                  refine i_i2 (fun e5 => ?_) (fun e5 => ?_)
                  · walk_at "sx"
                    refine i_ixT (.inl (.inl (s _ _ ha))) rfl ?_
                    walk_at "sx"
                    refine ⟨d2, _, g2.mono s, rfl, by omega, by omega, ho.at (by simp), fun H2 s2 => ?_⟩
                    rw [show (i - 1).toNat = m from by omega]
                    exact key _ (by rw [hf_two3 e1' e4', e5, Bool.true_and]) _ (s.trans s2)
                  · exact key _ (by rw [hf_two3 e1' e4', e5, Bool.false_and]) _ s
                · have e4' : ¬ (w = "and" ∨ w = "or") := by have := of_decide_eq_false e4; simpa using this
                  walk_at "sx"
                  exact key _ (hf_else3 e1' e4') _ (fun _ _ e => e)
      | _ =>
        walk_at "sx"
        exact key _ (hf_first rfl) _ (fun _ _ e => e)
    | .cons (d := d0) g0 (.cons (d := d1) g1 (.cons (d := d2) g2 (.cons (d := d3) (vs := zs) g3 a4))), ha, ho, key =>
      have no := fun H' s => key _ hf_long H' s
      repeat (walk_at "sx"; first | refine i_ixT (.inl (.inl ha)) at_0 ?_ | refine i_lenT (.inl (.inl ha)) ?_)
      walk_at "sx"
      skip
      repeat (walk_at "sx"; first | refine i_ixT (.inl (.inl ha)) at_0 ?_ | refine i_lenT (.inl (.inl ha)) ?_)
      walk_at "sx"
      cases g0 with
      | str w =>
        walk_at "sx"
        refine i_i2 (fun e0 => ?_) (fun e0 => ?_)
        · walk_at "sx"
          exact no _ (fun _ _ e => e)
        · repeat (walk_at "sx"; first | refine i_ixT (.inl (.inl ha)) at_0 ?_ | refine i_lenT (.inl (.inl ha)) ?_)
          walk_at "sx"
          refine i_i2 (fun e1 => ?_) (fun e1 => ?_)
          · repeat (walk_at "sx"; first | refine i_ixT (.inl (.inl ha)) at_0 ?_ | refine i_lenT (.inl (.inl ha)) ?_)
            walk_at "sx"
            try refine i_iF (by rw [decide_eq_false_iff_not]; intro h; injection h with h; simp at h; omega) ?_
            exact no _ (fun _ _ e => e)
          · repeat (walk_at "sx"; first | refine i_ixT (.inl (.inl ha)) at_0 ?_ | refine i_lenT (.inl (.inl ha)) ?_)
            walk_at "sx"
            refine i_i2 (fun e2 => ?_) (fun e2 => ?_)
            · repeat (walk_at "sx"; first | refine i_ixT (.inl (.inl ha)) at_0 ?_ | refine i_lenT (.inl (.inl ha)) ?_)
              walk_at "sx"
              try refine i_iF (by rw [decide_eq_false_iff_not]; intro h; injection h with h; simp at h; omega) ?_
              exact no _ (fun _ _ e => e)
            · repeat (walk_at "sx"; first | refine i_ixT (.inl (.inl ha)) at_0 ?_ | refine i_lenT (.inl (.inl ha)) ?_)
              walk_at "sx"
              refine i_i2 (fun e3 => ?_) (fun e3 => ?_)
              · repeat (walk_at "sx"; first | refine i_ixT (.inl (.inl ha)) at_0 ?_ | refine i_lenT (.inl (.inl ha)) ?_)
                walk_at "sx"
                try refine i_iF (by rw [decide_eq_false_iff_not]; intro h; injection h with h; simp at h; omega) ?_
                exact no _ (fun _ _ e => e)
              · repeat (walk_at "sx"; first | refine i_ixT (.inl (.inl ha)) at_0 ?_ | refine i_lenT (.inl (.inl ha)) ?_)
                walk_at "sx"
                refine i_inSq (.inr (T.t_TWO H)) rfl rfl ?_
                walk_at "sx"
                refine i_i2 (fun e4 => ?_) (fun e4 => ?_)
                · repeat (walk_at "sx"; first | refine i_ixT (.inl (.inl ha)) at_0 ?_ | refine i_lenT (.inl (.inl ha)) ?_)
                  walk_at "sx"
                  try refine i_iF (by rw [decide_eq_false_iff_not]; intro h; injection h with h; simp at h; omega) ?_
                  exact no _ (fun _ _ e => e)
                · walk_at "sx"
                  exact no _ (fun _ _ e => e)
      | _ =>
        walk_at "sx"
        exact key _ (hf_first rfl) _ (fun _ _ e => e)
  | _ =>
    walk_at "sx"
    exact key _ (by cases i.toNat <;> rfl) _ (fun _ _ e => e)

theorem ok_has_form_n {P : Program} {w : World} {K : PySem.W.Frag} {mg : Str → Option Value} {base : Heap} (T : Tx K mg) (C_is_name : Cn P w K mg base 1 (He.fAd K ("is_name", none)) ["thing"] (sp_is_name K)) (C_is_value : Cn P w K mg base 1 (He.fAd K ("is_value", none)) ["thing"] (sp_is_value K)) : ∀ n : Nat, Cn P w K mg base (n + 2) (He.fAd K ("has_form", none)) ["thing", "levels"] (sp_has_form_n K n)
  | 0 => cnZ (d := d_has_form) (k := 1) T.st_has_form sc_has_form sp2_len (fun _ _ _ _ _ _ us hl => match us, hl with | [_, _], _ => rfl) zero_has_form
  | n + 1 => (st_has_form (n := n) T (C_has_form := ok_has_form_n T C_is_name C_is_value n) (C_is_name := C_is_name) (C_is_value := C_is_value)).mono (by omega)
theorem ok_has_form {P : Program} {w : World} {K : PySem.W.Frag} {mg : Str → Option Value} {base : Heap} (T : Tx K mg) (C_is_name : Cn P w K mg base 1 (He.fAd K ("is_name", none)) ["thing"] (sp_is_name K)) (C_is_value : Cn P w K mg base 1 (He.fAd K ("is_value", none)) ["thing"] (sp_is_value K)) : Cn P w K mg base 10 (He.fAd K ("has_form", none)) ["thing", "levels"] (sp_has_form K) := ok_has_form_n T C_is_name C_is_value 8

end H68

set_option maxHeartbeats 1000000
namespace H68
open PySem PySem.Spec PyProof.Rows L2 KB
local macro_rules | `(tactic| walk_at "kb1") => `(tactic| with_reducible first
  | refine i_var rfl ?_ | refine i_c ?_ | refine i_cons ?_ | refine i_nil ?_ | refine i_op ?_ | refine i_seq ?_ | refine i_if ?_ | refine i_ret ?_ | refine i_asg ?_ | refine i_name ?_ | refine i_next ?_ | refine i_drop ?_
  | refine i_un ?_ | refine i_cb ?_ | refine i_cal ?_ | refine i_calM ?_ | refine i_test ?_ | refine i_tb ?_ | refine i_k ?_ | refine i_not ?_ | refine i_and ?_ | refine i_or ?_ | refine i_andV ?_ | refine i_orV ?_ | refine i_notV ?_ | refine i_ife ?_
  | refine i_isN ?_ | refine i_notN ?_ | refine i_chain ?_ | refine i_tup ?_ | refine i_lst ?_ | refine i_sl ?_ | refine i_noPart ?_ | refine i_part ?_ | refine i_ik ?_ | refine i_sk ?_ | refine i_bm0 ?_ | refine i_bm ?_ | refine i_m1 ?_ | refine i_m0 ?_ | refine i_fld ?_ | refine i_tru ?_
  | refine i_gC ?_ | refine i_gN ?_ | refine i_for0L ?_ | refine i_for0E ?_ | refine i_for0R ?_ | refine i_lc0L ?_ | refine i_lc0S ?_ | refine i_lc0Z ?_ | refine i_tix ?_ | refine i_lorei ?_ | refine i_js0 ?_ | refine i_xf ?_ | refine i_calR ?_ | refine i_calRS ?_ | refine i_calS ?_ | refine i_for0R3 ?_ | refine i_mak ?_ | refine i_dget ?_ | refine i_din ?_ | refine i_dnotin ?_ | refine i_dput ?_ | refine i_dnewT ?_ | refine i_sub ?_ | refine i_rng1 ?_ | refine i_rng2 ?_ | refine i_rev ?_ | refine i_replC ?_ | refine i_lenset ?_ | refine i_mS ?_ | refine i_js ?_ | refine i_fmt ?_ | refine i_par ?_ | refine i_v2 ?_ | refine i_par3 ?_ | refine i_v3 ?_ | refine i_mkO ?_ | refine i_ost ?_ | refine i_sFld ?_ | refine i_yes ?_ | refine i_dget1 ?_ | refine i_dnewK ?_ | refine i_dpop1 ?_ | refine i_ndnew ?_ | refine i_nget2 ?_ | refine i_nsetd ?_ | refine i_nix ?_ | refine i_nput ?_ | refine i_listItems ?_ | refine i_for0Nv ?_ | refine i_lc0Nk ?_ | refine i_dstar ?_ | refine i_lc20L ?_ | refine i_sp1 ?_ | refine i_sp2 ?_ | refine i_sp3 ?_ | refine i_sp4 ?_)
local macro_rules | `(tactic| walk_at "dr") => `(tactic| first
  | assumption | exact Dr.non | exact Dr.bl _ | exact Dr.int _ | exact Dr.str _ | exact Dr.tup (by assumption) (by assumption) | exact Dr.lst (by assumption) (by assumption) | exact Dr.dic (by assumption) | exact Im.dr (by assumption))
local macro_rules | `(tactic| walk_at "if") => `(tactic| first
  | ((with_reducible refine i_iT ?_ ?_); · rfl) | ((with_reducible refine i_iF ?_ ?_); · rfl))
local macro_rules | `(tactic| walk_at "isi") => `(tactic| ((with_reducible show rIsiU _ _ _ _); first
  | (with_reducible refine j_isTup (by walk_at "dr") ?_) | (with_reducible refine j_isLst (by walk_at "dr") ?_) | (with_reducible refine j_isStr (by walk_at "dr") ?_)
  | (with_reducible refine j_isBl (by walk_at "dr") ?_) | (with_reducible refine j_isInt (by walk_at "dr") ?_)))
local macro_rules | `(tactic| walk_at "op") => `(tactic| with_reducible first
  | refine i_rI0 ?_ | refine i_addI ?_ | refine i_rU ?_ | refine i_ltI ?_ | refine i_inC ?_ | refine i_notInC ?_ | refine i_intI ?_ | refine i_intB ?_ | refine i_abs ?_ | refine i_max2 ?_ | refine i_min2 ?_ | refine i_isBl ?_
  | (refine i_eqS rfl ?_) | (refine i_neS rfl ?_))
local macro_rules | `(tactic| walk_at "wp") => `(tactic| ((with_reducible refine i_wp ?_ ?_); · rfl))
local macro_rules | `(tactic| walk_at "sx") => `(tactic| repeat first | walk_at "kb1" | walk_at "if" | walk_at "isi" | walk_at "op" | walk_at "wp")
local macro_rules | `(tactic| walk_at "cd") => `(tactic| refine ⟨_, (by walk_at "dr"), ?_⟩)
local macro_rules | `(tactic| walk_at "len") => `(tactic| (simp only [List.length_cons, List.length_nil]; decide))
local macro_rules | `(tactic| walk_at "ic") => `(tactic| first
  | ((with_reducible refine i_iT ?_ ?_); · first | with_reducible rfl | (simp only [Bool.not_true, Bool.not_false, isTupD, isLstD, isStrD, isBlD, isIntD, isSeqD]; done))
  | ((with_reducible refine i_iF ?_ ?_); · first | with_reducible rfl | (simp only [Bool.not_true, Bool.not_false, isTupD, isLstD, isStrD, isBlD, isIntD, isSeqD]; done)))
local macro_rules | `(tactic| walk_at "sy") => `(tactic| repeat first | walk_at "kb1" | walk_at "ic" | walk_at "isi" | walk_at "op" | walk_at "wp")
theorem sc_leaves : FnScope ["formula", "found", "waiting", "one"] ["formula"] (defScope s_leaves) := ⟨rfl, rfl, rfl, by decide +kernel, rfl, by decide +kernel, by decide +kernel⟩
theorem ok_leaves {P : Program} {w : World} {K : PySem.W.Frag} {mg : Str → Option Value} {base : Heap} (T : Tx K mg) :
    Cn P w K mg base 1 (He.fAd K ("leaves", none)) ["formula"] (sp_leaves K) := by
  refine cnN (d := d_leaves) T.st_leaves sc_leaves sp1_len (fun _ _ _ _ _ _ us hl => match us, hl with | [_], _ => rfl) (fun cdv A outer s H vs Q E hr h => ?_)
  obtain ⟨v_formula, rfl, h⟩ := h
  refine ⟨_, (pss_cons (ps_par rfl sc_leaves.nd (i := 1) (j := 2) rfl rfl (by decide) rfl rfl (pa_cons (pe_lst pa_nil) (pa_cons (pe_lst (pa_cons (pv 0) pa_nil)) pa_nil)) (by rfl))
  (pss_cons (ps_while PassesOwn.never (pt_cmpR (o_neN (K := K) rfl hr.units0) (pv 2) (pe_lst pa_nil) (by rfl))
  (pss_cons (ps_set (i := 3) sc_leaves.nd rfl (.inl rfl) (e_pop (K := K) rfl (pv 2)))
  (pss_one (ps_if (pt_cmpR (o_in (K := K) rfl (rU65 hr)) (pe_ix (x_seq (K := K) rfl) (pv 3) pe_int (fun _ _ => rfl)) (pe_tup (pa_cons (e_gc (by rfl) T.c_IS) (pa_cons (e_gc (by rfl) T.c_SILENT) pa_nil))) (by rfl)) (pss_one (ps_expr (e_append (K := K) rfl (pv 1) (pv 3)))) (pss_one (ps_expr (e_extT (K := K) rfl (pv 2) (e_back (K := K) rfl (pv 3)))))))))
  (pss_one (ps_ret (pv 1))))), ?_⟩
  rw [show start ["formula", "found", "waiting", "one"] [v_formula] = [some v_formula, none, none, none] from rfl]
  obtain ⟨f, hf, hz, q⟩ := h
  walk_at "sx"
  refine ⟨by walk_at "len", fun pf hpf => ?_⟩
  walk_at "sx"
  refine ⟨by walk_at "len", fun pw hpw => ?_⟩
  walk_at "sx"
  have npw : pf ≠ pw := fun e => by rw [← e, upd_same] at hpw; cases hpw
  have hpw0 : H pw = none := by rw [upd_ne (Ne.symm npw)] at hpw; exact hpw
  have s0 : Same H (upd (upd H pf (.lst [])) pw (.lst [v_formula])) := (Same.new hpf).trans (Same.new hpw)
  refine ⟨LvInv f v_formula H pf pw, ⟨f.size, [], [f], [], [v_formula], _, rfl, s0, by rw [upd_ne npw, upd_same], upd_same, .nil, .one (hf.mono (Same.tq s0)), by simp, by simp, by simp; exact hz⟩, ?_⟩
  rintro m σ H' ⟨acc, st, vs, ws, x, rfl, s, h1, h2, i1, i2, he, hm, hb⟩
  walk_at "sx"
  refine ⟨by walk_at "len", fun pe hpe => ?_⟩
  have se := Same.new (o := .lst []) hpe
  refine ⟨pw, pe, ws, rfl, rfl, .inl (.inl (se _ _ h2)), .inl (.inl upd_same), ?_⟩
  walk_at "sx"
  have l2 := i2.length
  rw [List.length_map] at l2
  refine i_i2 (fun e => ?_) (fun e => ?_)
  · refine ⟨fun σ' H'' => ∃ m', m' < m ∧ LvInv f v_formula H pf pw m' σ' H'', fun _ _ h => h, ?_⟩
    have hne : st ≠ [] := fun e2 => by
      rw [e2] at l2
      have : ws = [] := List.eq_nil_of_length_eq_zero l2
      rw [this] at e
      cases e
    obtain ⟨st', g, rfl⟩ : ∃ st' g, st = st' ++ [g] := ⟨st.dropLast, st.getLast hne, (List.dropLast_concat_getLast hne).symm⟩
    rw [List.map_append, List.map_singleton] at i2
    obtain ⟨ws', y, rfl, i3, i4⟩ := imAll_snoc i2
    have n2 : pw ≠ pe := fun e => by rw [← e, h2] at hpe; cases hpe
    have n1 : pf ≠ pe := fun e => by rw [← e, h1] at hpe; cases hpe
    walk_at "sx"
    refine ⟨ty_list (.inl (.inl (se _ _ h2))), ?_⟩
    refine i_pop (se _ _ h2) (y := y) (by simp) ?_
    rw [List.dropLast_concat]
    walk_at "sx"
    have sa : Same H (upd (upd H' pe (.lst [])) pw (.lst ws')) := Same.put (s.trans se) hpw0
    have tq : Tq H' (upd (upd H' pe (.lst [])) pw (.lst ws')) := (Same.tq se).trans (Tq.lst (se _ _ h2))
    have h1a : (upd (upd H' pe (.lst [])) pw (.lst ws')) pf = some (.lst vs) := by rw [upd_ne npw]; exact se _ _ h1
    have i1a := i1.mono tq
    have i3a := i3.mono tq
    have i4a := i4.mono tq
    have i4b := i4.mono tq
    have he' : acc ++ (g.leaves ++ st'.reverse.flatMap Fm.leaves) = f.leaves := by
      rw [← he, List.reverse_append] <;> rfl
    have hm' : (st'.map Fm.size).sum + g.size = m := by
      rw [← hm, List.map_append, List.sum_append]; simp
    have gp := g.size_pos
    cases g with
    | is k v =>
      cases i4a with
      | tup hx ax =>
      match ax, hx with
      | .cons (.str _) (.cons (.str _) (.cons (.str _) .nil)), hx =>
        refine i_ixT (.inl (.inl hx)) rfl ?_
        walk_at "sx"
        refine ⟨by walk_at "len", fun pt hpt => ?_⟩
        have st1 := Same.new (o := .tup [V.str "is", V.str "silent"]) hpt
        refine i_inSq (.inr (.inl (.inl upd_same))) rfl rfl ?_
        walk_at "sx"
        have h1b := st1 _ _ h1a
        refine ⟨ty_list (.inl (.inl h1b)), ?_⟩
        walk_at "sx"
        have l1 := i1.length
        rw [List.length_map] at l1
        refine i_append h1b (by rw [sizeLine_eq]; omega) ?_
        walk_at "sx"
        refine ⟨(st'.map Fm.size).sum, ?_, acc ++ [Fm.is k v], st', _, ws', _, rfl, Same.put (sa.trans st1) hpf, upd_same, ?_, ?_, ?_, ?_, rfl, ?_⟩
        · have : (Fm.is k v).size = 1 := rfl
          omega
        · rw [upd_ne (Ne.symm npw)]; exact st1 _ _ upd_same
        · rw [List.map_append]
          exact ((i1a.mono (Same.tq st1)).append (.one (i4b.mono (Same.tq st1)))).mono (Tq.lst h1b)
        · exact (i3a.mono (Same.tq st1)).mono (Tq.lst h1b)
        · rw [← he']; simp [Fm.leaves]
        · have : (Fm.is k v).size = 1 := rfl
          simp only [List.length_append, List.length_singleton]; omega
    | sil k =>
      cases i4a with
      | tup hx ax =>
      match ax, hx with
      | .cons (.str _) (.cons (.str _) .nil), hx =>
        refine i_ixT (.inl (.inl hx)) rfl ?_
        walk_at "sx"
        refine ⟨by walk_at "len", fun pt hpt => ?_⟩
        have st1 := Same.new (o := .tup [V.str "is", V.str "silent"]) hpt
        refine i_inSq (.inr (.inl (.inl upd_same))) rfl rfl ?_
        walk_at "sx"
        have h1b := st1 _ _ h1a
        refine ⟨ty_list (.inl (.inl h1b)), ?_⟩
        walk_at "sx"
        have l1 := i1.length
        rw [List.length_map] at l1
        refine i_append h1b (by rw [sizeLine_eq]; omega) ?_
        walk_at "sx"
        refine ⟨(st'.map Fm.size).sum, ?_, acc ++ [Fm.sil k], st', _, ws', _, rfl, Same.put (sa.trans st1) hpf, upd_same, ?_, ?_, ?_, ?_, rfl, ?_⟩
        · have : (Fm.sil k).size = 1 := rfl
          omega
        · rw [upd_ne (Ne.symm npw)]; exact st1 _ _ upd_same
        · rw [List.map_append]
          exact ((i1a.mono (Same.tq st1)).append (.one (i4b.mono (Same.tq st1)))).mono (Tq.lst h1b)
        · exact (i3a.mono (Same.tq st1)).mono (Tq.lst h1b)
        · rw [← he']; simp [Fm.leaves]
        · have : (Fm.sil k).size = 1 := rfl
          simp only [List.length_append, List.length_singleton]; omega
    | no g =>
      cases i4a with
      | tup hx ax =>
      match ax, hx with
      | .cons (.str _) (.cons (v := y1) g1 .nil), hx =>
        refine i_ixT (.inl (.inl hx)) rfl ?_
        walk_at "sx"
        refine ⟨by walk_at "len", fun pt hpt => ?_⟩
        have st1 := Same.new (o := .tup [V.str "is", V.str "silent"]) hpt
        refine i_inSq (.inr (.inl (.inl upd_same))) rfl rfl ?_
        walk_at "sx"
        refine ⟨ty_list (.inl (.inl (st1 _ _ upd_same))), ?_⟩
        refine i_cons (i_back ?_)
        walk_at "sx"
        refine ⟨_, rfl, .inl ⟨_, _, .inl (.inl (st1 _ _ hx)), fun pb hpb => ?_⟩⟩
        have sb := Same.new (o := .tup [y1]) hpb
        walk_at "sx"
        have l3 := i3.length
        rw [List.length_map] at l3
        refine i_extT (sb _ _ (st1 _ _ upd_same)) (.inl (.inl upd_same)) (by rw [sizeLine_eq]; have := len_sum st'; simp only [List.length_singleton]; omega) ?_
        walk_at "sx"
        refine ⟨((st' ++ [g]).map Fm.size).sum, ?_, acc, st' ++ [g], vs, _, _, rfl, Same.put ((sa.trans st1).trans sb) hpw0, ?_, upd_same, ?_, ?_, ?_, rfl, ?_⟩
        · have : (Fm.no g).size = g.size + 1 := rfl
          simp only [List.map_append, List.map_singleton, List.sum_append, List.sum_singleton]; omega
        · rw [upd_ne npw]; exact sb _ _ (st1 _ _ h1a)
        · exact (i1a.mono (Same.tq (st1.trans sb))).mono (Tq.lst (sb _ _ (st1 _ _ upd_same)))
        · rw [List.map_append]
          exact ((i3a.mono (Same.tq (st1.trans sb))).append (.one (g1.mono (Same.tq (st1.trans sb))))).mono (Tq.lst (sb _ _ (st1 _ _ upd_same)))
        · rw [← he', List.reverse_append] <;> rfl
        · have : (Fm.no g).size = g.size + 1 := rfl
          simp only [List.map_append, List.map_singleton, List.sum_append, List.sum_singleton]; omega
    | two o a b =>
      cases i4a with
      | tup hx ax =>
      match ax, hx with
      | .cons (.str _) (.cons (v := y1) g1 (.cons (v := y2) g2 .nil)), hx =>
        refine i_ixT (.inl (.inl hx)) rfl ?_
        walk_at "sx"
        refine ⟨by walk_at "len", fun pt hpt => ?_⟩
        have st1 := Same.new (o := .tup [V.str "is", V.str "silent"]) hpt
        refine i_inSq (.inr (.inl (.inl upd_same))) rfl rfl ?_
        walk_at "sx"
        refine i_iF (show inV (.str (twoW o)) [.str "is", .str "silent"] = false by cases o <;> decide +kernel) ?_
        walk_at "sx"
        refine ⟨ty_list (.inl (.inl (st1 _ _ upd_same))), ?_⟩
        refine i_cons (i_back ?_)
        walk_at "sx"
        refine ⟨_, rfl, .inr ⟨_, _, _, .inl (.inl (st1 _ _ hx)), fun pb hpb => ?_⟩⟩
        have sb := Same.new (o := .tup [y2, y1]) hpb
        walk_at "sx"
        have l3 := i3.length
        rw [List.length_map] at l3
        have ha := a.size_pos
        have hb := b.size_pos
        have hab : (Fm.two o a b).size = a.size + b.size + 1 := rfl
        refine i_extT (sb _ _ (st1 _ _ upd_same)) (.inl (.inl upd_same)) (by rw [sizeLine_eq]; have := len_sum st'; simp only [List.length_cons, List.length_nil]; omega) ?_
        walk_at "sx"
        refine ⟨((st' ++ [b, a]).map Fm.size).sum, ?_, acc, st' ++ [b, a], vs, _, _, rfl, Same.put ((sa.trans st1).trans sb) hpw0, ?_, upd_same, ?_, ?_, ?_, rfl, ?_⟩
        · simp only [List.map_append, List.map_cons, List.map_nil, List.sum_append, List.sum_cons, List.sum_nil]; omega
        · rw [upd_ne npw]; exact sb _ _ (st1 _ _ h1a)
        · exact (i1a.mono (Same.tq (st1.trans sb))).mono (Tq.lst (sb _ _ (st1 _ _ upd_same)))
        · rw [List.map_append]
          exact ((i3a.mono (Same.tq (st1.trans sb))).append (.cons (g2.mono (Same.tq (st1.trans sb))) (.one (g1.mono (Same.tq (st1.trans sb)))))).mono (Tq.lst (sb _ _ (st1 _ _ upd_same)))
        · rw [← he', List.reverse_append]; simp [Fm.leaves]
        · simp only [List.map_append, List.map_cons, List.map_nil, List.sum_append, List.sum_cons, List.sum_nil]; omega
  · have hws : ws = [] := by
      cases ws with
      | nil => rfl
      | cons _ _ => cases e
    have hst : st = [] := by
      rw [hws] at l2
      exact List.eq_nil_of_length_eq_zero l2.symm
    subst hst
    walk_at "sx"
    have e2 : acc = f.leaves := by rw [← he]; simp
    rw [e2] at i1
    exact q _ pf vs (s.trans se) hpf (se _ _ h1) (i1.mono (Same.tq se))


end H68

set_option maxHeartbeats 1000000
namespace H68
open PySem PySem.Spec PyProof.Rows L2 KB
local macro_rules | `(tactic| walk_at "kb1") => `(tactic| with_reducible first
  | refine i_var rfl ?_ | refine i_c ?_ | refine i_cons ?_ | refine i_nil ?_ | refine i_op ?_ | refine i_seq ?_ | refine i_if ?_ | refine i_ret ?_ | refine i_asg ?_ | refine i_name ?_ | refine i_next ?_ | refine i_drop ?_
  | refine i_un ?_ | refine i_cb ?_ | refine i_cal ?_ | refine i_calM ?_ | refine i_test ?_ | refine i_tb ?_ | refine i_k ?_ | refine i_not ?_ | refine i_and ?_ | refine i_or ?_ | refine i_andV ?_ | refine i_orV ?_ | refine i_notV ?_ | refine i_ife ?_
  | refine i_isN ?_ | refine i_notN ?_ | refine i_chain ?_ | refine i_tup ?_ | refine i_lst ?_ | refine i_sl ?_ | refine i_noPart ?_ | refine i_part ?_ | refine i_ik ?_ | refine i_sk ?_ | refine i_bm0 ?_ | refine i_bm ?_ | refine i_m1 ?_ | refine i_m0 ?_ | refine i_fld ?_ | refine i_tru ?_
  | refine i_gC ?_ | refine i_gN ?_ | refine i_for0L ?_ | refine i_for0E ?_ | refine i_for0R ?_ | refine i_lc0L ?_ | refine i_lc0S ?_ | refine i_lc0Z ?_ | refine i_tix ?_ | refine i_lorei ?_ | refine i_js0 ?_ | refine i_xf ?_ | refine i_calR ?_ | refine i_calRS ?_ | refine i_calS ?_ | refine i_for0R3 ?_ | refine i_mak ?_ | refine i_dget ?_ | refine i_din ?_ | refine i_dnotin ?_ | refine i_dput ?_ | refine i_dnewT ?_ | refine i_sub ?_ | refine i_rng1 ?_ | refine i_rng2 ?_ | refine i_rev ?_ | refine i_replC ?_ | refine i_lenset ?_ | refine i_mS ?_ | refine i_js ?_ | refine i_fmt ?_ | refine i_par ?_ | refine i_v2 ?_ | refine i_par3 ?_ | refine i_v3 ?_ | refine i_mkO ?_ | refine i_ost ?_ | refine i_sFld ?_ | refine i_yes ?_ | refine i_dget1 ?_ | refine i_dnewK ?_ | refine i_dpop1 ?_ | refine i_ndnew ?_ | refine i_nget2 ?_ | refine i_nsetd ?_ | refine i_nix ?_ | refine i_nput ?_ | refine i_listItems ?_ | refine i_for0Nv ?_ | refine i_lc0Nk ?_ | refine i_dstar ?_ | refine i_lc20L ?_ | refine i_sp1 ?_ | refine i_sp2 ?_ | refine i_sp3 ?_ | refine i_sp4 ?_)
local macro_rules | `(tactic| walk_at "dr") => `(tactic| first
  | assumption | exact Dr.non | exact Dr.bl _ | exact Dr.int _ | exact Dr.str _ | exact Dr.tup (by assumption) (by assumption) | exact Dr.lst (by assumption) (by assumption) | exact Dr.dic (by assumption) | exact Im.dr (by assumption))
local macro_rules | `(tactic| walk_at "if") => `(tactic| first
  | ((with_reducible refine i_iT ?_ ?_); · rfl) | ((with_reducible refine i_iF ?_ ?_); · rfl))
local macro_rules | `(tactic| walk_at "isi") => `(tactic| ((with_reducible show rIsiU _ _ _ _); first
  | (with_reducible refine j_isTup (by walk_at "dr") ?_) | (with_reducible refine j_isLst (by walk_at "dr") ?_) | (with_reducible refine j_isStr (by walk_at "dr") ?_)
  | (with_reducible refine j_isBl (by walk_at "dr") ?_) | (with_reducible refine j_isInt (by walk_at "dr") ?_)))
local macro_rules | `(tactic| walk_at "op") => `(tactic| with_reducible first
  | refine i_rI0 ?_ | refine i_addI ?_ | refine i_rU ?_ | refine i_ltI ?_ | refine i_inC ?_ | refine i_notInC ?_ | refine i_intI ?_ | refine i_intB ?_ | refine i_abs ?_ | refine i_max2 ?_ | refine i_min2 ?_ | refine i_isBl ?_
  | (refine i_eqS rfl ?_) | (refine i_neS rfl ?_))
local macro_rules | `(tactic| walk_at "wp") => `(tactic| ((with_reducible refine i_wp ?_ ?_); · rfl))
local macro_rules | `(tactic| walk_at "sx") => `(tactic| repeat first | walk_at "kb1" | walk_at "if" | walk_at "isi" | walk_at "op" | walk_at "wp")
local macro_rules | `(tactic| walk_at "cd") => `(tactic| refine ⟨_, (by walk_at "dr"), ?_⟩)
local macro_rules | `(tactic| walk_at "len") => `(tactic| (simp only [List.length_cons, List.length_nil]; decide))
local macro_rules | `(tactic| walk_at "ic") => `(tactic| first
  | ((with_reducible refine i_iT ?_ ?_); · first | with_reducible rfl | (simp only [Bool.not_true, Bool.not_false, isTupD, isLstD, isStrD, isBlD, isIntD, isSeqD]; done))
  | ((with_reducible refine i_iF ?_ ?_); · first | with_reducible rfl | (simp only [Bool.not_true, Bool.not_false, isTupD, isLstD, isStrD, isBlD, isIntD, isSeqD]; done)))
local macro_rules | `(tactic| walk_at "sy") => `(tactic| repeat first | walk_at "kb1" | walk_at "ic" | walk_at "isi" | walk_at "op" | walk_at "wp")
theorem sc_is_formula : FnScope ["thing"] ["thing"] (defScope s_is_formula) := ⟨rfl, rfl, rfl, by decide +kernel, rfl, by decide +kernel, by decide +kernel⟩
theorem ok_is_formula {P : Program} {w : World} {K : PySem.W.Frag} {mg : Str → Option Value} {base : Heap} (T : Tx K mg)
    (C_leaves : Cn P w K mg base 1 (He.fAd K ("leaves", none)) ["formula"] (sp_leaves K))
    (C_has_form : Cn P w K mg base 10 (He.fAd K ("has_form", none)) ["thing", "levels"] (sp_has_form K)) :
    CnR P w K mg base 11 (He.fAd K ("is_formula", none)) ["thing"] (sp_is_formula K) := by
  refine cnXR (d := d_is_formula) T.st_is_formula sc_is_formula sp1_len (fun _ _ _ _ _ _ us hl => match us, hl with | [_], _ => rfl) (fun cdv A outer s H vs Q E hr h => ?_) (fun _ _ _ _ _ _ us ws hl => match us, ws, hl with | [], [_], _ => rfl | [_], [], _ => rfl | [], [], h => (by cases h) | [], _ :: _ :: _, h => (by simp at h) | [_], _ :: _, h => (by simp at h) | _ :: _ :: _, _, h => (by simp at h; omega))
  obtain ⟨v_thing, rfl, h⟩ := h
  refine ⟨_, (pss_one (ps_ret (pe_and (pe_cn C_has_form hr (by decide) (by rfl) T.g_has_form passN (pa_cons (pv 0) (pa_cons (e_gc (by rfl) T.c_MOST_LEVELS) pa_nil))) (pe_one (pe_cmpR op_le (pe_callB (c_len (K := K) rfl) (by rfl) T.f_len (by decide +kernel) (pa_cons (pe_cn C_leaves hr (by decide) (by rfl) T.g_leaves passN (pa_cons (pv 0) pa_nil)) pa_nil)) (e_gc (by rfl) T.c_MOST_LEAVES) (by rfl)))))), ?_⟩
  rw [show start ["thing"] [v_thing] = [some v_thing] from rfl]
  obtain ⟨d, hd, ho, q⟩ := h
  walk_at "sx"
  refine ⟨d, 6, hd, rfl, by decide, by decide, ho, fun H' s => ?_⟩
  walk_at "sx"
  have key : ∀ b, isFormD d = b → ∀ H', Same H H' → Q (.bl b) H' := fun b e H' s => e ▸ q H' s
  refine i_i2 (fun e => ?_) (fun e => ?_)
  · have e' : hasForm 6 d = true := e
    obtain ⟨f, rfl, hk, hl, hf⟩ := hasForm_ex e'
    walk_at "sx"
    have hs := f.size_lt
    have h64 : 2 ^ f.lev ≤ 2 ^ 6 := Nat.pow_le_pow_right (by decide) hl
    have h65 : (2 : Nat) ^ 6 = 64 := rfl
    refine ⟨f, Fm.im (hd.mono s), by omega, fun H2 p vs s2 hp h1 im => ?_⟩
    walk_at "sx"
    refine i_lenL (.inl (.inl h1)) ?_
    walk_at "sx"
    refine key _ ?_ _ (s.trans s2)
    rw [isForm_eq, e', hf, Bool.true_and]
    have l1 := im.length
    rw [List.length_map] at l1
    rw [l1]
    show decide (f.leaves.length ≤ 6) = decide ((f.leaves.length : Int) ≤ 6)
    congr 1
    rw [eq_iff_iff]
    omega
  · have e' : hasForm 6 d = false := e
    exact key _ (by rw [isForm_eq, e', Bool.false_and]) _ s


end H68

set_option maxHeartbeats 1000000
namespace H68
open PySem PySem.Spec PyProof.Rows L2 KB
local macro_rules | `(tactic| walk_at "kb1") => `(tactic| with_reducible first
  | refine i_var rfl ?_ | refine i_c ?_ | refine i_cons ?_ | refine i_nil ?_ | refine i_op ?_ | refine i_seq ?_ | refine i_if ?_ | refine i_ret ?_ | refine i_asg ?_ | refine i_name ?_ | refine i_next ?_ | refine i_drop ?_
  | refine i_un ?_ | refine i_cb ?_ | refine i_cal ?_ | refine i_calM ?_ | refine i_test ?_ | refine i_tb ?_ | refine i_k ?_ | refine i_not ?_ | refine i_and ?_ | refine i_or ?_ | refine i_andV ?_ | refine i_orV ?_ | refine i_notV ?_ | refine i_ife ?_
  | refine i_isN ?_ | refine i_notN ?_ | refine i_chain ?_ | refine i_tup ?_ | refine i_lst ?_ | refine i_sl ?_ | refine i_noPart ?_ | refine i_part ?_ | refine i_ik ?_ | refine i_sk ?_ | refine i_bm0 ?_ | refine i_bm ?_ | refine i_m1 ?_ | refine i_m0 ?_ | refine i_fld ?_ | refine i_tru ?_
  | refine i_gC ?_ | refine i_gN ?_ | refine i_for0L ?_ | refine i_for0E ?_ | refine i_for0R ?_ | refine i_lc0L ?_ | refine i_lc0S ?_ | refine i_lc0Z ?_ | refine i_tix ?_ | refine i_lorei ?_ | refine i_js0 ?_ | refine i_xf ?_ | refine i_calR ?_ | refine i_calRS ?_ | refine i_calS ?_ | refine i_for0R3 ?_ | refine i_mak ?_ | refine i_dget ?_ | refine i_din ?_ | refine i_dnotin ?_ | refine i_dput ?_ | refine i_dnewT ?_ | refine i_sub ?_ | refine i_rng1 ?_ | refine i_rng2 ?_ | refine i_rev ?_ | refine i_replC ?_ | refine i_lenset ?_ | refine i_mS ?_ | refine i_js ?_ | refine i_fmt ?_ | refine i_par ?_ | refine i_v2 ?_ | refine i_par3 ?_ | refine i_v3 ?_ | refine i_mkO ?_ | refine i_ost ?_ | refine i_sFld ?_ | refine i_yes ?_ | refine i_dget1 ?_ | refine i_dnewK ?_ | refine i_dpop1 ?_ | refine i_ndnew ?_ | refine i_nget2 ?_ | refine i_nsetd ?_ | refine i_nix ?_ | refine i_nput ?_ | refine i_listItems ?_ | refine i_for0Nv ?_ | refine i_lc0Nk ?_ | refine i_dstar ?_ | refine i_lc20L ?_ | refine i_sp1 ?_ | refine i_sp2 ?_ | refine i_sp3 ?_ | refine i_sp4 ?_)
local macro_rules | `(tactic| walk_at "dr") => `(tactic| first
  | assumption | exact Dr.non | exact Dr.bl _ | exact Dr.int _ | exact Dr.str _ | exact Dr.tup (by assumption) (by assumption) | exact Dr.lst (by assumption) (by assumption) | exact Dr.dic (by assumption) | exact Im.dr (by assumption))
local macro_rules | `(tactic| walk_at "if") => `(tactic| first
  | ((with_reducible refine i_iT ?_ ?_); · rfl) | ((with_reducible refine i_iF ?_ ?_); · rfl))
local macro_rules | `(tactic| walk_at "isi") => `(tactic| ((with_reducible show rIsiU _ _ _ _); first
  | (with_reducible refine j_isTup (by walk_at "dr") ?_) | (with_reducible refine j_isLst (by walk_at "dr") ?_) | (with_reducible refine j_isStr (by walk_at "dr") ?_)
  | (with_reducible refine j_isBl (by walk_at "dr") ?_) | (with_reducible refine j_isInt (by walk_at "dr") ?_)))
local macro_rules | `(tactic| walk_at "op") => `(tactic| with_reducible first
  | refine i_rI0 ?_ | refine i_addI ?_ | refine i_rU ?_ | refine i_ltI ?_ | refine i_inC ?_ | refine i_notInC ?_ | refine i_intI ?_ | refine i_intB ?_ | refine i_abs ?_ | refine i_max2 ?_ | refine i_min2 ?_ | refine i_isBl ?_
  | (refine i_eqS rfl ?_) | (refine i_neS rfl ?_))
local macro_rules | `(tactic| walk_at "wp") => `(tactic| ((with_reducible refine i_wp ?_ ?_); · rfl))
local macro_rules | `(tactic| walk_at "sx") => `(tactic| repeat first | walk_at "kb1" | walk_at "if" | walk_at "isi" | walk_at "op" | walk_at "wp")
local macro_rules | `(tactic| walk_at "cd") => `(tactic| refine ⟨_, (by walk_at "dr"), ?_⟩)
local macro_rules | `(tactic| walk_at "len") => `(tactic| (simp only [List.length_cons, List.length_nil]; decide))
local macro_rules | `(tactic| walk_at "ic") => `(tactic| first
  | ((with_reducible refine i_iT ?_ ?_); · first | with_reducible rfl | (simp only [Bool.not_true, Bool.not_false, isTupD, isLstD, isStrD, isBlD, isIntD, isSeqD]; done))
  | ((with_reducible refine i_iF ?_ ?_); · first | with_reducible rfl | (simp only [Bool.not_true, Bool.not_false, isTupD, isLstD, isStrD, isBlD, isIntD, isSeqD]; done)))
local macro_rules | `(tactic| walk_at "sy") => `(tactic| repeat first | walk_at "kb1" | walk_at "ic" | walk_at "isi" | walk_at "op" | walk_at "wp")
theorem sc_need_formula : FnScope ["thing"] ["thing"] (defScope s_need_formula) := ⟨rfl, rfl, rfl, by decide +kernel, rfl, by decide +kernel, by decide +kernel⟩
theorem ok_need_formula {P : Program} {w : World} {K : PySem.W.Frag} {mg : Str → Option Value} {base : Heap} (T : Tx K mg)
    (C_is_formula : Cn P w K mg base 11 (He.fAd K ("is_formula", none)) ["thing"] (sp_is_formula K))
    (C_NoFormula_init : Cn P w K mg base 1 (He.fAd K ("NoFormula", some "__init__")) ["self", "found"] (sp_NoFormula_init K)) :
    Cn P w K mg base 12 (He.fAd K ("need_formula", none)) ["thing"] (sp_need_formula K) := by
  refine cnX (d := d_need_formula) T.st_need_formula sc_need_formula sp1_len (fun _ _ _ _ _ _ us hl => match us, hl with | [_], _ => rfl) (fun cdv A outer s H vs Q E hr h => ?_)
  obtain ⟨v_thing, rfl, h⟩ := h
  refine ⟨_, (pss_one (ps_if (pt_not (pt_val (pe_cn C_is_formula hr (by decide) (by rfl) T.g_is_formula passN (pa_cons (pv 0) pa_nil)))) (pss_one (L2N.ps_raise rfl (L2N.takes_of rfl rfl rfl rfl) (mk_cn T.ox_NoFormula T.in_NoFormula T.ti_NoFormula C_NoFormula_init hr (by decide) passN (by rfl) T.g_NoFormula (pa_cons (pv 0) pa_nil)))) pss_nil)), ?_⟩
  rw [show start ["thing"] [v_thing] = [some v_thing] from rfl]
  obtain ⟨d, hd, ho, q1, q2⟩ := h
  walk_at "sx"
  refine ⟨d, hd, ho, fun H' s => ?_⟩
  walk_at "sx"
  refine i_i2 (fun e => ?_) (fun e => ?_)
  · have e1 : isFormD d = false := by simpa using e
    walk_at "sx"
    exact mkO_init ((q2 e1).at s).mk
  · have e1 : isFormD d = true := by simpa using e
    walk_at "sx"
    exact q1 e1 _ s


end H68

set_option maxHeartbeats 1000000
namespace H68
open PySem PySem.Spec PyProof.Rows L2 KB
local macro_rules | `(tactic| walk_at "kb1") => `(tactic| with_reducible first
  | refine i_var rfl ?_ | refine i_c ?_ | refine i_cons ?_ | refine i_nil ?_ | refine i_op ?_ | refine i_seq ?_ | refine i_if ?_ | refine i_ret ?_ | refine i_asg ?_ | refine i_name ?_ | refine i_next ?_ | refine i_drop ?_
  | refine i_un ?_ | refine i_cb ?_ | refine i_cal ?_ | refine i_calM ?_ | refine i_test ?_ | refine i_tb ?_ | refine i_k ?_ | refine i_not ?_ | refine i_and ?_ | refine i_or ?_ | refine i_andV ?_ | refine i_orV ?_ | refine i_notV ?_ | refine i_ife ?_
  | refine i_isN ?_ | refine i_notN ?_ | refine i_chain ?_ | refine i_tup ?_ | refine i_lst ?_ | refine i_sl ?_ | refine i_noPart ?_ | refine i_part ?_ | refine i_ik ?_ | refine i_sk ?_ | refine i_bm0 ?_ | refine i_bm ?_ | refine i_m1 ?_ | refine i_m0 ?_ | refine i_fld ?_ | refine i_tru ?_
  | refine i_gC ?_ | refine i_gN ?_ | refine i_for0L ?_ | refine i_for0E ?_ | refine i_for0R ?_ | refine i_lc0L ?_ | refine i_lc0S ?_ | refine i_lc0Z ?_ | refine i_tix ?_ | refine i_lorei ?_ | refine i_js0 ?_ | refine i_xf ?_ | refine i_calR ?_ | refine i_calRS ?_ | refine i_calS ?_ | refine i_for0R3 ?_ | refine i_mak ?_ | refine i_dget ?_ | refine i_din ?_ | refine i_dnotin ?_ | refine i_dput ?_ | refine i_dnewT ?_ | refine i_sub ?_ | refine i_rng1 ?_ | refine i_rng2 ?_ | refine i_rev ?_ | refine i_replC ?_ | refine i_lenset ?_ | refine i_mS ?_ | refine i_js ?_ | refine i_fmt ?_ | refine i_par ?_ | refine i_v2 ?_ | refine i_par3 ?_ | refine i_v3 ?_ | refine i_mkO ?_ | refine i_ost ?_ | refine i_sFld ?_ | refine i_yes ?_ | refine i_dget1 ?_ | refine i_dnewK ?_ | refine i_dpop1 ?_ | refine i_ndnew ?_ | refine i_nget2 ?_ | refine i_nsetd ?_ | refine i_nix ?_ | refine i_nput ?_ | refine i_listItems ?_ | refine i_for0Nv ?_ | refine i_lc0Nk ?_ | refine i_dstar ?_ | refine i_lc20L ?_ | refine i_sp1 ?_ | refine i_sp2 ?_ | refine i_sp3 ?_ | refine i_sp4 ?_)
local macro_rules | `(tactic| walk_at "dr") => `(tactic| first
  | assumption | exact Dr.non | exact Dr.bl _ | exact Dr.int _ | exact Dr.str _ | exact Dr.tup (by assumption) (by assumption) | exact Dr.lst (by assumption) (by assumption) | exact Dr.dic (by assumption) | exact Im.dr (by assumption))
local macro_rules | `(tactic| walk_at "if") => `(tactic| first
  | ((with_reducible refine i_iT ?_ ?_); · rfl) | ((with_reducible refine i_iF ?_ ?_); · rfl))
local macro_rules | `(tactic| walk_at "isi") => `(tactic| ((with_reducible show rIsiU _ _ _ _); first
  | (with_reducible refine j_isTup (by walk_at "dr") ?_) | (with_reducible refine j_isLst (by walk_at "dr") ?_) | (with_reducible refine j_isStr (by walk_at "dr") ?_)
  | (with_reducible refine j_isBl (by walk_at "dr") ?_) | (with_reducible refine j_isInt (by walk_at "dr") ?_)))
local macro_rules | `(tactic| walk_at "op") => `(tactic| with_reducible first
  | refine i_rI0 ?_ | refine i_addI ?_ | refine i_rU ?_ | refine i_ltI ?_ | refine i_inC ?_ | refine i_notInC ?_ | refine i_intI ?_ | refine i_intB ?_ | refine i_abs ?_ | refine i_max2 ?_ | refine i_min2 ?_ | refine i_isBl ?_
  | (refine i_eqS rfl ?_) | (refine i_neS rfl ?_))
local macro_rules | `(tactic| walk_at "wp") => `(tactic| ((with_reducible refine i_wp ?_ ?_); · rfl))
local macro_rules | `(tactic| walk_at "sx") => `(tactic| repeat first | walk_at "kb1" | walk_at "if" | walk_at "isi" | walk_at "op" | walk_at "wp")
local macro_rules | `(tactic| walk_at "cd") => `(tactic| refine ⟨_, (by walk_at "dr"), ?_⟩)
local macro_rules | `(tactic| walk_at "len") => `(tactic| (simp only [List.length_cons, List.length_nil]; decide))
local macro_rules | `(tactic| walk_at "ic") => `(tactic| first
  | ((with_reducible refine i_iT ?_ ?_); · first | with_reducible rfl | (simp only [Bool.not_true, Bool.not_false, isTupD, isLstD, isStrD, isBlD, isIntD, isSeqD]; done))
  | ((with_reducible refine i_iF ?_ ?_); · first | with_reducible rfl | (simp only [Bool.not_true, Bool.not_false, isTupD, isLstD, isStrD, isBlD, isIntD, isSeqD]; done)))
local macro_rules | `(tactic| walk_at "sy") => `(tactic| repeat first | walk_at "kb1" | walk_at "ic" | walk_at "isi" | walk_at "op" | walk_at "wp")
theorem sc_keys_of : FnScope ["formula", "leaf"] ["formula"] (defScope s_keys_of) := ⟨rfl, rfl, rfl, by decide +kernel, rfl, by decide +kernel, by decide +kernel⟩
theorem ok_keys_of {P : Program} {w : World} {K : PySem.W.Frag} {mg : Str → Option Value} {base : Heap} (T : Tx K mg)
    (C_leaves : Cn P w K mg base 1 (He.fAd K ("leaves", none)) ["formula"] (sp_leaves K))
    (C_need_formula : Cn P w K mg base 12 (He.fAd K ("need_formula", none)) ["thing"] (sp_need_formula K)) :
    CnR P w K mg base 13 (He.fAd K ("keys_of", none)) ["formula"] (sp_keys_of K) := by
  refine cnXR (d := d_keys_of) T.st_keys_of sc_keys_of sp1_len (fun _ _ _ _ _ _ us hl => match us, hl with | [_], _ => rfl) (fun cdv A outer s H vs Q E hr h => ?_) (fun _ _ _ _ _ _ us ws hl => match us, ws, hl with | [], [_], _ => rfl | [_], [], _ => rfl | [], [], h => (by cases h) | [], _ :: _ :: _, h => (by simp at h) | [_], _ :: _, h => (by simp at h) | _ :: _ :: _, _, h => (by simp at h; omega))
  obtain ⟨v_formula, rfl, h⟩ := h
  refine ⟨_, (pss_cons (ps_expr (pe_cn C_need_formula hr (by decide) (by rfl) T.g_need_formula (L2N.passes_call (L2N.takes_of rfl rfl rfl rfl) (fun _ _ _ _ h => h)) (pa_cons (pv 0) pa_nil)))
  (pss_one (ps_ret (pe_callB (c_sortT rfl) (by rfl) T.f_sorted (by decide +kernel) (pa_cons (pe_scT (own := [("leaf", 1)]) (g := (gName 1)) rfl sc_keys_of.nd (w_list (K := K) rfl (pe_cn C_leaves hr (by decide) (by rfl) T.g_leaves passN (pa_cons (pv 0) pa_nil))) (blkOk_by (own := [("leaf", 1)]) (N := ["formula", "leaf"]) (sc := defScope s_keys_of) (by decide +kernel)) (fun _ _ _ _ _ => (pg_name (i := 1) sc_keys_of.nd rfl (by first | exact Or.inl rfl | exact Or.inr rfl))) (fun _ _ _ _ _ => pts_nil) (fun _ _ _ _ _ => (pe_ix (x_seq (K := K) rfl) (pv 1) pe_int (fun _ _ => rfl)))) pa_nil))))), ?_⟩
  rw [show start ["formula", "leaf"] [v_formula] = [some v_formula, none] from rfl]
  obtain ⟨d, hd, oks, q, q2⟩ := h
  walk_at "sx"
  refine ⟨d, hd, oks, fun e H' s => ?_, fun e => q2 e⟩
  obtain ⟨f, rfl, hk⟩ := isForm_ex e
  have hf := Fm.im hd
  walk_at "sx"
  refine i_sc0L ?_
  walk_at "sx"
  refine ⟨f, hf.mono (Same.tq s), Nat.le_trans (Nat.le_of_lt hk.size) (by decide), fun H2 p vs s2 hp h1 im => ?_⟩
  have h6 := hk.six
  refine i_scF (fun _ => true) keyD (.inl (.inl h1)) im (by rw [List.length_map]; omega) (fun D i x d H3 hD ed ix s3 N no yes => ?_) (fun D H3 l hD s3 hl nd hm hll => ?_)
  · rw [List.getElem?_map] at ed
    obtain ⟨g, hg, rfl⟩ := Option.map_eq_some_iff.mp ed
    have hlf := (Fm.leaf_leaves (List.mem_of_getElem? hg)).1
    cases g with
    | is k v =>
      cases ix with
      | tup hx ax =>
      match ax, hx with
      | .cons (.str _) (.cons (.str _) (.cons (.str _) .nil)), hx =>
        walk_at "sx"
        refine i_ixT (.inl (.inl hx)) rfl ?_
        exact yes rfl _ (fun _ _ e => e)
    | sil k =>
      cases ix with
      | tup hx ax =>
      match ax, hx with
      | .cons (.str _) (.cons (.str _) .nil), hx =>
        walk_at "sx"
        refine i_ixT (.inl (.inl hx)) rfl ?_
        exact yes rfl _ (fun _ _ e => e)
    | no g => cases hlf
    | two o a b => cases hlf
  · walk_at "sx"
    rw [List.length_map] at hll
    refine i_sortT hl (by omega) fun ys p2 perm so hp2 => ?_
    refine q f rfl hk _ p2 ys ((((s.trans s2).trans s3)).trans (Same.new hp2)) (fresh_of ((s.trans s2).trans s3) hp2) upd_same (Asc.perm so nd (fun k => ?_) perm) (by rw [perm.length_eq]; omega)
    rw [hm k, List.filter_eq_self.mpr (fun _ _ => rfl), List.map_map]
    unfold Fm.keys
    rw [List.mem_map, List.mem_map]
    constructor
    · rintro ⟨g, hg, rfl⟩
      exact ⟨g, hg, (keyD_leaf hg).symm⟩
    · rintro ⟨g, hg, rfl⟩
      exact ⟨g, hg, keyD_leaf hg⟩


end H68

set_option maxHeartbeats 1000000
namespace H68
open PySem PySem.Spec PyProof.Rows L2 KB
local macro_rules | `(tactic| walk_at "kb1") => `(tactic| with_reducible first
  | refine i_var rfl ?_ | refine i_c ?_ | refine i_cons ?_ | refine i_nil ?_ | refine i_op ?_ | refine i_seq ?_ | refine i_if ?_ | refine i_ret ?_ | refine i_asg ?_ | refine i_name ?_ | refine i_next ?_ | refine i_drop ?_
  | refine i_un ?_ | refine i_cb ?_ | refine i_cal ?_ | refine i_calM ?_ | refine i_test ?_ | refine i_tb ?_ | refine i_k ?_ | refine i_not ?_ | refine i_and ?_ | refine i_or ?_ | refine i_andV ?_ | refine i_orV ?_ | refine i_notV ?_ | refine i_ife ?_
  | refine i_isN ?_ | refine i_notN ?_ | refine i_chain ?_ | refine i_tup ?_ | refine i_lst ?_ | refine i_sl ?_ | refine i_noPart ?_ | refine i_part ?_ | refine i_ik ?_ | refine i_sk ?_ | refine i_bm0 ?_ | refine i_bm ?_ | refine i_m1 ?_ | refine i_m0 ?_ | refine i_fld ?_ | refine i_tru ?_
  | refine i_gC ?_ | refine i_gN ?_ | refine i_for0L ?_ | refine i_for0E ?_ | refine i_for0R ?_ | refine i_lc0L ?_ | refine i_lc0S ?_ | refine i_lc0Z ?_ | refine i_tix ?_ | refine i_lorei ?_ | refine i_js0 ?_ | refine i_xf ?_ | refine i_calR ?_ | refine i_calRS ?_ | refine i_calS ?_ | refine i_for0R3 ?_ | refine i_mak ?_ | refine i_dget ?_ | refine i_din ?_ | refine i_dnotin ?_ | refine i_dput ?_ | refine i_dnewT ?_ | refine i_sub ?_ | refine i_rng1 ?_ | refine i_rng2 ?_ | refine i_rev ?_ | refine i_replC ?_ | refine i_lenset ?_ | refine i_mS ?_ | refine i_js ?_ | refine i_fmt ?_ | refine i_par ?_ | refine i_v2 ?_ | refine i_par3 ?_ | refine i_v3 ?_ | refine i_mkO ?_ | refine i_ost ?_ | refine i_sFld ?_ | refine i_yes ?_ | refine i_dget1 ?_ | refine i_dnewK ?_ | refine i_dpop1 ?_ | refine i_ndnew ?_ | refine i_nget2 ?_ | refine i_nsetd ?_ | refine i_nix ?_ | refine i_nput ?_ | refine i_listItems ?_ | refine i_for0Nv ?_ | refine i_lc0Nk ?_ | refine i_dstar ?_ | refine i_lc20L ?_ | refine i_sp1 ?_ | refine i_sp2 ?_ | refine i_sp3 ?_ | refine i_sp4 ?_)
local macro_rules | `(tactic| walk_at "dr") => `(tactic| first
  | assumption | exact Dr.non | exact Dr.bl _ | exact Dr.int _ | exact Dr.str _ | exact Dr.tup (by assumption) (by assumption) | exact Dr.lst (by assumption) (by assumption) | exact Dr.dic (by assumption) | exact Im.dr (by assumption))
local macro_rules | `(tactic| walk_at "if") => `(tactic| first
  | ((with_reducible refine i_iT ?_ ?_); · rfl) | ((with_reducible refine i_iF ?_ ?_); · rfl))
local macro_rules | `(tactic| walk_at "isi") => `(tactic| ((with_reducible show rIsiU _ _ _ _); first
  | (with_reducible refine j_isTup (by walk_at "dr") ?_) | (with_reducible refine j_isLst (by walk_at "dr") ?_) | (with_reducible refine j_isStr (by walk_at "dr") ?_)
  | (with_reducible refine j_isBl (by walk_at "dr") ?_) | (with_reducible refine j_isInt (by walk_at "dr") ?_)))
local macro_rules | `(tactic| walk_at "op") => `(tactic| with_reducible first
  | refine i_rI0 ?_ | refine i_addI ?_ | refine i_rU ?_ | refine i_ltI ?_ | refine i_inC ?_ | refine i_notInC ?_ | refine i_intI ?_ | refine i_intB ?_ | refine i_abs ?_ | refine i_max2 ?_ | refine i_min2 ?_ | refine i_isBl ?_
  | (refine i_eqS rfl ?_) | (refine i_neS rfl ?_))
local macro_rules | `(tactic| walk_at "wp") => `(tactic| ((with_reducible refine i_wp ?_ ?_); · rfl))
local macro_rules | `(tactic| walk_at "sx") => `(tactic| repeat first | walk_at "kb1" | walk_at "if" | walk_at "isi" | walk_at "op" | walk_at "wp")
local macro_rules | `(tactic| walk_at "cd") => `(tactic| refine ⟨_, (by walk_at "dr"), ?_⟩)
local macro_rules | `(tactic| walk_at "len") => `(tactic| (simp only [List.length_cons, List.length_nil]; decide))
local macro_rules | `(tactic| walk_at "ic") => `(tactic| first
  | ((with_reducible refine i_iT ?_ ?_); · first | with_reducible rfl | (simp only [Bool.not_true, Bool.not_false, isTupD, isLstD, isStrD, isBlD, isIntD, isSeqD]; done))
  | ((with_reducible refine i_iF ?_ ?_); · first | with_reducible rfl | (simp only [Bool.not_true, Bool.not_false, isTupD, isLstD, isStrD, isBlD, isIntD, isSeqD]; done)))
local macro_rules | `(tactic| walk_at "sy") => `(tactic| repeat first | walk_at "kb1" | walk_at "ic" | walk_at "isi" | walk_at "op" | walk_at "wp")
theorem sc_is_true : FnScope ["formula", "readings", "word", "reading"] ["formula", "readings"] (defScope s_is_true) := ⟨rfl, rfl, rfl, by decide +kernel, rfl, by decide +kernel, by decide +kernel⟩
theorem st_is_true {n : Nat} {P : Program} {w : World} {K : PySem.W.Frag} {mg : Str → Option Value} {base : Heap} (T : Tx K mg)
    (C_is_true : Cn P w K mg base (n + 1) (He.fAd K ("is_true", none)) ["formula", "readings"] (sp_is_true_n K n)) :
    Cn P w K mg base (n + 1 + 1) (He.fAd K ("is_true", none)) ["formula", "readings"] (sp_is_true_n K (n + 1)) := by
  refine cnN (d := d_is_true) T.st_is_true sc_is_true sp2_len (fun _ _ _ _ _ _ us hl => match us, hl with | [_, _], _ => rfl) (fun cdv A outer s H vs Q E hr h => ?_)
  obtain ⟨v_formula, v_readings, rfl, h⟩ := h
  refine ⟨_, (pss_cons (ps_set (i := 2) sc_is_true.nd rfl (.inl rfl) (pe_ix (x_seq (K := K) rfl) (pv 0) pe_int (fun _ _ => rfl)))
  (pss_cons (ps_if (pt_cmpR (o_eq (K := K) rfl hr.units) (pv 2) (e_gc (by rfl) T.c_IS) (by rfl)) (pss_cons (ps_set (i := 3) sc_is_true.nd rfl (.inl rfl) (pe_dget1 (rU1 hr) (pv 1) (pe_ix (x_seq (K := K) rfl) (pv 0) pe_int (fun _ _ => rfl)) ⟨by rfl, by rfl, by rfl, by rfl⟩))
  (pss_one (ps_ret (pe_and (pe_cmp (pc_notN (pv 3)) rfl) (pe_one (pe_cmpR (o_eq (K := K) rfl hr.units) (pe_ix (x_seq (K := K) rfl) (pv 3) pe_int (fun _ _ => rfl)) (pe_ix (x_seq (K := K) rfl) (pv 0) pe_int (fun _ _ => rfl)) (by rfl))))))) pss_nil)
  (pss_cons (ps_if (pt_cmpR (o_eq (K := K) rfl hr.units) (pv 2) (e_gc (by rfl) T.c_SILENT) (by rfl)) (pss_one (ps_ret (pe_cmp (pc_isN (pe_dget1 (rU1 hr) (pv 1) (pe_ix (x_seq (K := K) rfl) (pv 0) pe_int (fun _ _ => rfl)) ⟨by rfl, by rfl, by rfl, by rfl⟩)) rfl))) pss_nil)
  (pss_cons (ps_if (pt_cmpR (o_eq (K := K) rfl hr.units) (pv 2) (e_gc (by rfl) T.c_NOT) (by rfl)) (pss_one (ps_ret (pe_not (pe_cn C_is_true hr (by omega) (by rfl) T.g_is_true passN (pa_cons (pe_ix (x_seq (K := K) rfl) (pv 0) pe_int (fun _ _ => rfl)) (pa_cons (pv 1) pa_nil)))))) pss_nil)
  (pss_cons (ps_if (pt_cmpR (o_eq (K := K) rfl hr.units) (pv 2) (pe_ix (x_seq (K := K) rfl) (e_gc (by rfl) T.c_TWO) pe_int (fun _ _ => rfl)) (by rfl)) (pss_one (ps_ret (pe_and (pe_cn C_is_true hr (by omega) (by rfl) T.g_is_true passN (pa_cons (pe_ix (x_seq (K := K) rfl) (pv 0) pe_int (fun _ _ => rfl)) (pa_cons (pv 1) pa_nil))) (pe_one (pe_cn C_is_true hr (by omega) (by rfl) T.g_is_true passN (pa_cons (pe_ix (x_seq (K := K) rfl) (pv 0) pe_int (fun _ _ => rfl)) (pa_cons (pv 1) pa_nil))))))) pss_nil)
  (pss_one (ps_ret (pe_or (pe_cn C_is_true hr (by omega) (by rfl) T.g_is_true passN (pa_cons (pe_ix (x_seq (K := K) rfl) (pv 0) pe_int (fun _ _ => rfl)) (pa_cons (pv 1) pa_nil))) (pe_one (pe_cn C_is_true hr (by omega) (by rfl) T.g_is_true passN (pa_cons (pe_ix (x_seq (K := K) rfl) (pv 0) pe_int (fun _ _ => rfl)) (pa_cons (pv 1) pa_nil)))))))))))), ?_⟩
  rw [show start ["formula", "readings", "word", "reading"] [v_formula, v_readings] = [some v_formula, some v_readings, none, none] from rfl]
  obtain ⟨f, ρ, a, hf, hl, rfl, hd, q⟩ := h
  have two : ∀ {u : V} {g : Fm}, Im H u g.d → g.lev < n + 1 → (∀ k ∈ g.keys, k ∈ f.keys) → ∀ (R : VK), (∀ H', Same H H' → R (.bl (g.ev ρ)) H') → sp_is_true_n K n [u, .ref a] H R E0 := by
    intro u g hu hg hk R hR
    exact ⟨u, _, rfl, g, ρ, a, hu, hg, rfl, hd.sub hk, hR⟩
  cases f with
  | is k v =>
    cases hf with
    | tup hx ax =>
    match ax, hx with
    | .cons (.str _) (.cons (.str _) (.cons (.str _) .nil)), hx =>
    obtain ⟨kvs, ha, hr2⟩ := hd
    have hr3 := hr2 k (List.mem_singleton.mpr rfl)
    walk_at "sx"
    refine i_ixT (.inl (.inl hx)) rfl ?_
    walk_at "sx"
    refine ⟨_, rfl, .inl ⟨_, ha⟩, ?_⟩
    walk_at "sx"
    refine i_ixT (.inl (.inl hx)) rfl ?_
    walk_at "sx"
    refine ⟨_, .inl ⟨kvs, .inr k, ha, rfl, rfl⟩, ?_⟩
    walk_at "sx"
    cases e : ρ k with
    | none =>
      rw [e] at hr3
      have e3 : (valV kvs (.inr k)).getD .non = .non := hr3
      rw [e3]
      refine i_iF (by simp) ?_
      have ev : (Fm.is k v).ev ρ = false := by show decide (ρ k = some v) = false; rw [e] <;> rfl
      rw [← ev]; exact q H (fun _ _ h => h)
    | some s =>
      rw [e] at hr3
      obtain ⟨m, hm⟩ := hr3
      generalize (valV kvs (.inr k)).getD .non = y at hm ⊢
      cases hm with
      | tup hy ay =>
      match ay, hy with
      | .cons (.str _) (.cons (.int _) .nil), hy =>
      refine i_iT (by simp) ?_
      walk_at "sx"
      refine i_ixT (.inl (.inl hy)) rfl ?_
      walk_at "sx"
      refine i_ixT (.inl (.inl hx)) rfl ?_
      walk_at "sx"
      have ev : (Fm.is k v).ev ρ = decide (V.str s = V.str v) := by
        show decide (ρ k = some v) = _
        rw [e, Bool.eq_iff_iff, decide_eq_true_iff, decide_eq_true_iff]
        exact ⟨fun h => by rw [Option.some.inj h], fun h => by rw [V.str.inj h]⟩
      rw [← ev]; exact q H (fun _ _ h => h)
  | sil k =>
    cases hf with
    | tup hx ax =>
    match ax, hx with
    | .cons (.str _) (.cons (.str _) .nil), hx =>
    obtain ⟨kvs, ha, hr2⟩ := hd
    have hr3 := hr2 k (List.mem_singleton.mpr rfl)
    walk_at "sx"
    refine i_ixT (.inl (.inl hx)) rfl ?_
    walk_at "sx"
    refine ⟨_, rfl, .inl ⟨_, ha⟩, ?_⟩
    walk_at "sx"
    refine i_ixT (.inl (.inl hx)) rfl ?_
    walk_at "sx"
    refine ⟨_, .inl ⟨kvs, .inr k, ha, rfl, rfl⟩, ?_⟩
    have ev : (Fm.sil k).ev ρ = decide ((valV kvs (.inr k)).getD .non = .non) := by
      show (ρ k).isNone = _
      cases e : ρ k with
      | none =>
        rw [e] at hr3
        have e3 : (valV kvs (.inr k)).getD .non = .non := hr3
        rw [e3]; simp
      | some s =>
        rw [e] at hr3
        obtain ⟨m, hm⟩ := hr3
        generalize (valV kvs (.inr k)).getD .non = y at hm ⊢
        cases hm
        simp
    rw [← ev]; exact q H (fun _ _ h => h)
  | no g =>
    cases hf with
    | tup hx ax =>
    match ax, hx with
    | .cons (.str _) (.cons (v := y1) g1 .nil), hx =>
    walk_at "sx"
    refine i_ixT (.inl (.inl hx)) rfl ?_
    walk_at "sx"
    refine i_ixT (.inl (.inl hx)) rfl ?_
    walk_at "sx"
    refine ⟨g, ρ, a, g1, ?_, rfl, hd.sub fun k hk => hk, fun H' s => ⟨_, rfl, q H' s⟩⟩
    have : (Fm.no g).lev = g.lev + 1 := rfl
    omega
  | two o g1 g2 =>
    have e1 : (Fm.two o g1 g2).lev = max g1.lev g2.lev + 1 := rfl
    have k1 : ∀ k ∈ g1.keys, k ∈ (Fm.two o g1 g2).keys := fun k hk => by
      obtain ⟨l, hl, e⟩ := List.mem_map.mp hk
      exact List.mem_map.mpr ⟨l, List.mem_append_left _ hl, e⟩
    have k2 : ∀ k ∈ g2.keys, k ∈ (Fm.two o g1 g2).keys := fun k hk => by
      obtain ⟨l, hl, e⟩ := List.mem_map.mp hk
      exact List.mem_map.mpr ⟨l, List.mem_append_right _ hl, e⟩
    cases hf with
    | tup hx ax =>
    match ax, hx with
    | .cons (.str _) (.cons (v := y1) h1 (.cons (v := y2) h2 .nil)), hx =>
    cases o with
    | false =>
      have hx : H _ = some (.tup [.str "and", y1, y2]) := hx
      walk_at "sx"
      refine i_ixT (.inl (.inl hx)) rfl ?_
      walk_at "sx"
      refine i_ixT (T.t_TWO H) rfl ?_
      walk_at "sx"
      refine i_ixT (.inl (.inl hx)) rfl ?_
      walk_at "sx"
      refine ⟨g1, ρ, a, h1, by omega, rfl, hd.sub k1, fun H1 s1 => ?_⟩
      cases e2 : g1.ev ρ with
      | false =>
        have ev : (Fm.two false g1 g2).ev ρ = false := by show (if false = true then (g1.ev ρ || g2.ev ρ) else (g1.ev ρ && g2.ev ρ)) = false; rw [e2] <;> rfl
        refine ⟨_, rfl, ?_⟩
        walk_at "sx"
        rw [← ev]
        exact q H1 s1
      | true =>
        have ev : (Fm.two false g1 g2).ev ρ = g2.ev ρ := by show (if false = true then (g1.ev ρ || g2.ev ρ) else (g1.ev ρ && g2.ev ρ)) = _; rw [e2]; simp
        refine ⟨_, rfl, ?_⟩
        walk_at "sx"
        refine i_ixT (.inl (.inl (s1 _ _ hx))) rfl ?_
        walk_at "sx"
        refine ⟨g2, ρ, a, h2.mono (Same.tq s1), by omega, rfl, (hd.sub k2).mono s1, fun H2 s2 => ?_⟩
        rw [← ev]
        exact q H2 (s1.trans s2)
    | true =>
      have hx : H _ = some (.tup [.str "or", y1, y2]) := hx
      walk_at "sx"
      refine i_ixT (.inl (.inl hx)) rfl ?_
      walk_at "sx"
      refine i_ixT (T.t_TWO H) rfl ?_
      walk_at "sx"
      refine i_ixT (.inl (.inl hx)) rfl ?_
      walk_at "sx"
      refine ⟨g1, ρ, a, h1, by omega, rfl, hd.sub k1, fun H1 s1 => ?_⟩
      cases e2 : g1.ev ρ with
      | true =>
        have ev : (Fm.two true g1 g2).ev ρ = true := by show (if true = true then (g1.ev ρ || g2.ev ρ) else (g1.ev ρ && g2.ev ρ)) = true; rw [e2] <;> rfl
        refine ⟨_, rfl, ?_⟩
        walk_at "sx"
        rw [← ev]
        exact q H1 s1
      | false =>
        have ev : (Fm.two true g1 g2).ev ρ = g2.ev ρ := by show (if true = true then (g1.ev ρ || g2.ev ρ) else (g1.ev ρ && g2.ev ρ)) = _; rw [e2]; simp
        refine ⟨_, rfl, ?_⟩
        walk_at "sx"
        refine i_ixT (.inl (.inl (s1 _ _ hx))) rfl ?_
        walk_at "sx"
        refine ⟨g2, ρ, a, h2.mono (Same.tq s1), by omega, rfl, (hd.sub k2).mono s1, fun H2 s2 => ?_⟩
        rw [← ev]
        exact q H2 (s1.trans s2)

theorem ok_is_true_n {P : Program} {w : World} {K : PySem.W.Frag} {mg : Str → Option Value} {base : Heap} (T : Tx K mg) : ∀ n : Nat, Cn P w K mg base (n + 1) (He.fAd K ("is_true", none)) ["formula", "readings"] (sp_is_true_n K n)
  | 0 => cnZ (d := d_is_true) (k := 0) T.st_is_true sc_is_true sp2_len (fun _ _ _ _ _ _ us hl => match us, hl with | [_, _], _ => rfl) zero_is_true
  | n + 1 => (st_is_true (n := n) T (C_is_true := ok_is_true_n T n)).mono (by omega)
theorem ok_is_true {P : Program} {w : World} {K : PySem.W.Frag} {mg : Str → Option Value} {base : Heap} (T : Tx K mg) : Cn P w K mg base 9 (He.fAd K ("is_true", none)) ["formula", "readings"] (sp_is_true K) := ok_is_true_n T 8

end H68

set_option maxHeartbeats 1000000
namespace H68
open PySem PySem.Spec PyProof.Rows L2 KB
local macro_rules | `(tactic| walk_at "kb1") => `(tactic| with_reducible first
  | refine i_var rfl ?_ | refine i_c ?_ | refine i_cons ?_ | refine i_nil ?_ | refine i_op ?_ | refine i_seq ?_ | refine i_if ?_ | refine i_ret ?_ | refine i_asg ?_ | refine i_name ?_ | refine i_next ?_ | refine i_drop ?_
  | refine i_un ?_ | refine i_cb ?_ | refine i_cal ?_ | refine i_calM ?_ | refine i_test ?_ | refine i_tb ?_ | refine i_k ?_ | refine i_not ?_ | refine i_and ?_ | refine i_or ?_ | refine i_andV ?_ | refine i_orV ?_ | refine i_notV ?_ | refine i_ife ?_
  | refine i_isN ?_ | refine i_notN ?_ | refine i_chain ?_ | refine i_tup ?_ | refine i_lst ?_ | refine i_sl ?_ | refine i_noPart ?_ | refine i_part ?_ | refine i_ik ?_ | refine i_sk ?_ | refine i_bm0 ?_ | refine i_bm ?_ | refine i_m1 ?_ | refine i_m0 ?_ | refine i_fld ?_ | refine i_tru ?_
  | refine i_gC ?_ | refine i_gN ?_ | refine i_for0L ?_ | refine i_for0E ?_ | refine i_for0R ?_ | refine i_lc0L ?_ | refine i_lc0S ?_ | refine i_lc0Z ?_ | refine i_tix ?_ | refine i_lorei ?_ | refine i_js0 ?_ | refine i_xf ?_ | refine i_calR ?_ | refine i_calRS ?_ | refine i_calS ?_ | refine i_for0R3 ?_ | refine i_mak ?_ | refine i_dget ?_ | refine i_din ?_ | refine i_dnotin ?_ | refine i_dput ?_ | refine i_dnewT ?_ | refine i_sub ?_ | refine i_rng1 ?_ | refine i_rng2 ?_ | refine i_rev ?_ | refine i_replC ?_ | refine i_lenset ?_ | refine i_mS ?_ | refine i_js ?_ | refine i_fmt ?_ | refine i_par ?_ | refine i_v2 ?_ | refine i_par3 ?_ | refine i_v3 ?_ | refine i_mkO ?_ | refine i_ost ?_ | refine i_sFld ?_ | refine i_yes ?_ | refine i_dget1 ?_ | refine i_dnewK ?_ | refine i_dpop1 ?_ | refine i_ndnew ?_ | refine i_nget2 ?_ | refine i_nsetd ?_ | refine i_nix ?_ | refine i_nput ?_ | refine i_listItems ?_ | refine i_for0Nv ?_ | refine i_lc0Nk ?_ | refine i_dstar ?_ | refine i_lc20L ?_ | refine i_sp1 ?_ | refine i_sp2 ?_ | refine i_sp3 ?_ | refine i_sp4 ?_)
local macro_rules | `(tactic| walk_at "dr") => `(tactic| first
  | assumption | exact Dr.non | exact Dr.bl _ | exact Dr.int _ | exact Dr.str _ | exact Dr.tup (by assumption) (by assumption) | exact Dr.lst (by assumption) (by assumption) | exact Dr.dic (by assumption) | exact Im.dr (by assumption))
local macro_rules | `(tactic| walk_at "if") => `(tactic| first
  | ((with_reducible refine i_iT ?_ ?_); · rfl) | ((with_reducible refine i_iF ?_ ?_); · rfl))
local macro_rules | `(tactic| walk_at "isi") => `(tactic| ((with_reducible show rIsiU _ _ _ _); first
  | (with_reducible refine j_isTup (by walk_at "dr") ?_) | (with_reducible refine j_isLst (by walk_at "dr") ?_) | (with_reducible refine j_isStr (by walk_at "dr") ?_)
  | (with_reducible refine j_isBl (by walk_at "dr") ?_) | (with_reducible refine j_isInt (by walk_at "dr") ?_)))
local macro_rules | `(tactic| walk_at "op") => `(tactic| with_reducible first
  | refine i_rI0 ?_ | refine i_addI ?_ | refine i_rU ?_ | refine i_ltI ?_ | refine i_inC ?_ | refine i_notInC ?_ | refine i_intI ?_ | refine i_intB ?_ | refine i_abs ?_ | refine i_max2 ?_ | refine i_min2 ?_ | refine i_isBl ?_
  | (refine i_eqS rfl ?_) | (refine i_neS rfl ?_))
local macro_rules | `(tactic| walk_at "wp") => `(tactic| ((with_reducible refine i_wp ?_ ?_); · rfl))
local macro_rules | `(tactic| walk_at "sx") => `(tactic| repeat first | walk_at "kb1" | walk_at "if" | walk_at "isi" | walk_at "op" | walk_at "wp")
local macro_rules | `(tactic| walk_at "cd") => `(tactic| refine ⟨_, (by walk_at "dr"), ?_⟩)
local macro_rules | `(tactic| walk_at "len") => `(tactic| (simp only [List.length_cons, List.length_nil]; decide))
local macro_rules | `(tactic| walk_at "ic") => `(tactic| first
  | ((with_reducible refine i_iT ?_ ?_); · first | with_reducible rfl | (simp only [Bool.not_true, Bool.not_false, isTupD, isLstD, isStrD, isBlD, isIntD, isSeqD]; done))
  | ((with_reducible refine i_iF ?_ ?_); · first | with_reducible rfl | (simp only [Bool.not_true, Bool.not_false, isTupD, isLstD, isStrD, isBlD, isIntD, isSeqD]; done)))
local macro_rules | `(tactic| walk_at "sy") => `(tactic| repeat first | walk_at "kb1" | walk_at "ic" | walk_at "isi" | walk_at "op" | walk_at "wp")
theorem sc_holds : FnScope ["formula", "readings"] ["formula", "readings"] (defScope s_holds) := ⟨rfl, rfl, rfl, by decide +kernel, rfl, by decide +kernel, by decide +kernel⟩
theorem ok_holds {P : Program} {w : World} {K : PySem.W.Frag} {mg : Str → Option Value} {base : Heap} (T : Tx K mg)
    (C_is_true : Cn P w K mg base 9 (He.fAd K ("is_true", none)) ["formula", "readings"] (sp_is_true K))
    (C_need_formula : Cn P w K mg base 12 (He.fAd K ("need_formula", none)) ["thing"] (sp_need_formula K)) :
    CnR P w K mg base 13 (He.fAd K ("holds", none)) ["formula", "readings"] (sp_holds K) := by
  refine cnXR (d := d_holds) T.st_holds sc_holds sp2_len (fun _ _ _ _ _ _ us hl => match us, hl with | [_, _], _ => rfl) (fun cdv A outer s H vs Q E hr h => ?_) (fun _ _ _ _ _ _ us ws hl => match us, ws, hl with | [], [_, _], _ => rfl | [_], [_], _ => rfl | [_, _], [], _ => rfl | [], [], h => (by cases h) | [], [_], h => (by cases h) | [], _ :: _ :: _ :: _, h => (by simp at h) | [_], [], h => (by cases h) | [_], _ :: _ :: _, h => (by simp at h; omega) | [_, _], _ :: _, h => (by simp at h) | _ :: _ :: _ :: _, _, h => (by simp at h; omega))
  obtain ⟨v_formula, v_readings, rfl, h⟩ := h
  refine ⟨_, (pss_cons (ps_expr (pe_cn C_need_formula hr (by decide) (by rfl) T.g_need_formula (L2N.passes_call (L2N.takes_of rfl rfl rfl rfl) (fun _ _ _ _ h => h)) (pa_cons (pv 0) pa_nil)))
  (pss_one (ps_ret (pe_cn C_is_true hr (by decide) (by rfl) T.g_is_true passN (pa_cons (pv 0) (pa_cons (pv 1) pa_nil)))))), ?_⟩
  rw [show start ["formula", "readings"] [v_formula, v_readings] = [some v_formula, some v_readings] from rfl]
  obtain ⟨d, hd, oks, h1, h2⟩ := h
  walk_at "sx"
  refine ⟨d, hd, oks, fun e H' s => ?_, fun e => h2 e⟩
  walk_at "sx"
  obtain ⟨f, rfl, hk⟩ := isForm_ex e
  obtain ⟨ρ, a, rfl, hr2, q⟩ := h1 f rfl hk
  have := hk.lev
  exact ⟨f, ρ, a, (Fm.im hd).mono (Same.tq s), by omega, rfl, hr2.mono s, fun H2 s2 => q H2 (s.trans s2)⟩


end H68

set_option maxHeartbeats 1000000
namespace H68
open PySem PySem.Spec PyProof.Rows L2 KB
local macro_rules | `(tactic| walk_at "kb1") => `(tactic| with_reducible first
  | refine i_var rfl ?_ | refine i_c ?_ | refine i_cons ?_ | refine i_nil ?_ | refine i_op ?_ | refine i_seq ?_ | refine i_if ?_ | refine i_ret ?_ | refine i_asg ?_ | refine i_name ?_ | refine i_next ?_ | refine i_drop ?_
  | refine i_un ?_ | refine i_cb ?_ | refine i_cal ?_ | refine i_calM ?_ | refine i_test ?_ | refine i_tb ?_ | refine i_k ?_ | refine i_not ?_ | refine i_and ?_ | refine i_or ?_ | refine i_andV ?_ | refine i_orV ?_ | refine i_notV ?_ | refine i_ife ?_
  | refine i_isN ?_ | refine i_notN ?_ | refine i_chain ?_ | refine i_tup ?_ | refine i_lst ?_ | refine i_sl ?_ | refine i_noPart ?_ | refine i_part ?_ | refine i_ik ?_ | refine i_sk ?_ | refine i_bm0 ?_ | refine i_bm ?_ | refine i_m1 ?_ | refine i_m0 ?_ | refine i_fld ?_ | refine i_tru ?_
  | refine i_gC ?_ | refine i_gN ?_ | refine i_for0L ?_ | refine i_for0E ?_ | refine i_for0R ?_ | refine i_lc0L ?_ | refine i_lc0S ?_ | refine i_lc0Z ?_ | refine i_tix ?_ | refine i_lorei ?_ | refine i_js0 ?_ | refine i_xf ?_ | refine i_calR ?_ | refine i_calRS ?_ | refine i_calS ?_ | refine i_for0R3 ?_ | refine i_mak ?_ | refine i_dget ?_ | refine i_din ?_ | refine i_dnotin ?_ | refine i_dput ?_ | refine i_dnewT ?_ | refine i_sub ?_ | refine i_rng1 ?_ | refine i_rng2 ?_ | refine i_rev ?_ | refine i_replC ?_ | refine i_lenset ?_ | refine i_mS ?_ | refine i_js ?_ | refine i_fmt ?_ | refine i_par ?_ | refine i_v2 ?_ | refine i_par3 ?_ | refine i_v3 ?_ | refine i_mkO ?_ | refine i_ost ?_ | refine i_sFld ?_ | refine i_yes ?_ | refine i_dget1 ?_ | refine i_dnewK ?_ | refine i_dpop1 ?_ | refine i_ndnew ?_ | refine i_nget2 ?_ | refine i_nsetd ?_ | refine i_nix ?_ | refine i_nput ?_ | refine i_listItems ?_ | refine i_for0Nv ?_ | refine i_lc0Nk ?_ | refine i_dstar ?_ | refine i_lc20L ?_ | refine i_sp1 ?_ | refine i_sp2 ?_ | refine i_sp3 ?_ | refine i_sp4 ?_)
local macro_rules | `(tactic| walk_at "dr") => `(tactic| first
  | assumption | exact Dr.non | exact Dr.bl _ | exact Dr.int _ | exact Dr.str _ | exact Dr.tup (by assumption) (by assumption) | exact Dr.lst (by assumption) (by assumption) | exact Dr.dic (by assumption) | exact Im.dr (by assumption))
local macro_rules | `(tactic| walk_at "if") => `(tactic| first
  | ((with_reducible refine i_iT ?_ ?_); · rfl) | ((with_reducible refine i_iF ?_ ?_); · rfl))
local macro_rules | `(tactic| walk_at "isi") => `(tactic| ((with_reducible show rIsiU _ _ _ _); first
  | (with_reducible refine j_isTup (by walk_at "dr") ?_) | (with_reducible refine j_isLst (by walk_at "dr") ?_) | (with_reducible refine j_isStr (by walk_at "dr") ?_)
  | (with_reducible refine j_isBl (by walk_at "dr") ?_) | (with_reducible refine j_isInt (by walk_at "dr") ?_)))
local macro_rules | `(tactic| walk_at "op") => `(tactic| with_reducible first
  | refine i_rI0 ?_ | refine i_addI ?_ | refine i_rU ?_ | refine i_ltI ?_ | refine i_inC ?_ | refine i_notInC ?_ | refine i_intI ?_ | refine i_intB ?_ | refine i_abs ?_ | refine i_max2 ?_ | refine i_min2 ?_ | refine i_isBl ?_
  | (refine i_eqS rfl ?_) | (refine i_neS rfl ?_))
local macro_rules | `(tactic| walk_at "wp") => `(tactic| ((with_reducible refine i_wp ?_ ?_); · rfl))
local macro_rules | `(tactic| walk_at "sx") => `(tactic| repeat first | walk_at "kb1" | walk_at "if" | walk_at "isi" | walk_at "op" | walk_at "wp")
local macro_rules | `(tactic| walk_at "cd") => `(tactic| refine ⟨_, (by walk_at "dr"), ?_⟩)
local macro_rules | `(tactic| walk_at "len") => `(tactic| (simp only [List.length_cons, List.length_nil]; decide))
local macro_rules | `(tactic| walk_at "ic") => `(tactic| first
  | ((with_reducible refine i_iT ?_ ?_); · first | with_reducible rfl | (simp only [Bool.not_true, Bool.not_false, isTupD, isLstD, isStrD, isBlD, isIntD, isSeqD]; done))
  | ((with_reducible refine i_iF ?_ ?_); · first | with_reducible rfl | (simp only [Bool.not_true, Bool.not_false, isTupD, isLstD, isStrD, isBlD, isIntD, isSeqD]; done)))
local macro_rules | `(tactic| walk_at "sy") => `(tactic| repeat first | walk_at "kb1" | walk_at "ic" | walk_at "isi" | walk_at "op" | walk_at "wp")
theorem sc_values_named : FnScope ["formula", "key", "leaf"] ["formula", "key"] (defScope s_values_named) := ⟨rfl, rfl, rfl, by decide +kernel, rfl, by decide +kernel, by decide +kernel⟩
theorem ok_values_named {P : Program} {w : World} {K : PySem.W.Frag} {mg : Str → Option Value} {base : Heap} (T : Tx K mg)
    (C_leaves : Cn P w K mg base 1 (He.fAd K ("leaves", none)) ["formula"] (sp_leaves K)) :
    Cn P w K mg base 2 (He.fAd K ("values_named", none)) ["formula", "key"] (sp_values_named K) := by
  refine cnN (d := d_values_named) T.st_values_named sc_values_named sp2_len (fun _ _ _ _ _ _ us hl => match us, hl with | [_, _], _ => rfl) (fun cdv A outer s H vs Q E hr h => ?_)
  obtain ⟨v_formula, v_key, rfl, h⟩ := h
  refine ⟨_, (pss_one (ps_ret (pe_callB (c_sortT rfl) (by rfl) T.f_sorted (by decide +kernel) (pa_cons (pe_scT (own := [("leaf", 2)]) (g := (gName 2)) rfl sc_values_named.nd (w_list (K := K) rfl (pe_cn C_leaves hr (by decide) (by rfl) T.g_leaves passN (pa_cons (pv 0) pa_nil))) (blkOk_by (own := [("leaf", 2)]) (N := ["formula", "key", "leaf"]) (sc := defScope s_values_named) (by decide +kernel)) (fun _ _ _ _ _ => (pg_name (i := 2) sc_values_named.nd rfl (by first | exact Or.inl rfl | exact Or.inr rfl))) (fun _ _ _ _ _ => (pts_one (PW.pt (pw_and (pt_cmpR (o_eq (K := K) rfl hr.units) (pe_ix (x_seq (K := K) rfl) (pv 2) pe_int (fun _ _ => rfl)) (e_gc (by rfl) T.c_IS) (by rfl)) (pw_and1 (pt_cmpR (o_eq (K := K) rfl hr.units) (pe_ix (x_seq (K := K) rfl) (pv 2) pe_int (fun _ _ => rfl)) (pv 1) (by rfl))))))) (fun _ _ _ _ _ => (pe_ix (x_seq (K := K) rfl) (pv 2) pe_int (fun _ _ => rfl)))) pa_nil)))), ?_⟩
  rw [show start ["formula", "key", "leaf"] [v_formula, v_key] = [some v_formula, some v_key, none] from rfl]
  obtain ⟨f, s, hf, hk, rfl, q⟩ := h
  walk_at "sx"
  refine i_sc0L ?_
  walk_at "sx"
  refine ⟨f, hf, Nat.le_trans (Nat.le_of_lt hk.size) (by decide), fun H2 p vs s2 hp h1 im => ?_⟩
  have h6 := hk.six
  refine i_scF (fun d => match d with | .tuple [_, .str k, _] => decide (k = s) | _ => false) valD (.inl (.inl h1)) im (by rw [List.length_map]; omega) (fun D i x d H3 hD ed ix s3 N no yes => ?_) (fun D H3 l hD s3 hl nd hm hll => ?_)
  · rw [List.getElem?_map] at ed
    obtain ⟨g, hg, rfl⟩ := Option.map_eq_some_iff.mp ed
    have hlf := (Fm.leaf_leaves (List.mem_of_getElem? hg)).1
    cases g with
    | is k v =>
      cases ix with
      | tup hx ax =>
      match ax, hx with
      | .cons (.str _) (.cons (.str _) (.cons (.str _) .nil)), hx =>
        walk_at "sx"
        refine i_ixT (.inl (.inl hx)) rfl ?_
        walk_at "sx"
        refine i_ixT (.inl (.inl hx)) rfl ?_
        walk_at "sx"
        have e : decide (V.str k = V.str s) = decide (k = s) := by
          rw [Bool.eq_iff_iff, decide_eq_true_iff, decide_eq_true_iff]
          exact ⟨fun h => V.str.inj h, fun h => by rw [h]⟩
        refine i_i2 (fun e1 => ?_) (fun e1 => ?_)
        · walk_at "sx"
          refine i_ixT (.inl (.inl hx)) rfl ?_
          exact yes (e.symm.trans e1) _ (fun _ _ e => e)
        · exact no (e.symm.trans e1) _ (fun _ _ e => e)
    | sil k =>
      cases ix with
      | tup hx ax =>
      match ax, hx with
      | .cons (.str _) (.cons (.str _) .nil), hx =>
        walk_at "sx"
        refine i_ixT (.inl (.inl hx)) rfl ?_
        walk_at "sx"
        exact no rfl _ (fun _ _ e => e)
    | no g => cases hlf
    | two o a b => cases hlf
  · walk_at "sx"
    rw [List.length_map] at hll
    refine i_sortT hl (by omega) fun ys p2 perm so hp2 => ?_
    refine q _ p2 ys (((s2.trans s3)).trans (Same.new hp2)) (fresh_of (s2.trans s3) hp2) upd_same (Asc.perm so nd (fun x => ?_) perm) (by rw [perm.length_eq]; omega)
    rw [hm x, List.mem_map]
    constructor
    · rintro ⟨d, hd, rfl⟩
      obtain ⟨hd1, hd2⟩ := List.mem_filter.mp hd
      obtain ⟨g, hg, rfl⟩ := List.mem_map.mp hd1
      have hlf := (Fm.leaf_leaves hg).1
      cases g with
      | is k v =>
        have e : k = s := of_decide_eq_true hd2
        subst e
        exact hg
      | sil k => cases hd2
      | no g => cases hlf
      | two o a b => cases hlf
    · intro hx
      exact ⟨(Fm.is s x).d, List.mem_filter.mpr ⟨List.mem_map.mpr ⟨_, hx, rfl⟩, decide_eq_true rfl⟩, rfl⟩


end H68

set_option maxHeartbeats 1000000
namespace H68
open PySem PySem.Spec PyProof.Rows L2 KB
local macro_rules | `(tactic| walk_at "kb1") => `(tactic| with_reducible first
  | refine i_var rfl ?_ | refine i_c ?_ | refine i_cons ?_ | refine i_nil ?_ | refine i_op ?_ | refine i_seq ?_ | refine i_if ?_ | refine i_ret ?_ | refine i_asg ?_ | refine i_name ?_ | refine i_next ?_ | refine i_drop ?_
  | refine i_un ?_ | refine i_cb ?_ | refine i_cal ?_ | refine i_calM ?_ | refine i_test ?_ | refine i_tb ?_ | refine i_k ?_ | refine i_not ?_ | refine i_and ?_ | refine i_or ?_ | refine i_andV ?_ | refine i_orV ?_ | refine i_notV ?_ | refine i_ife ?_
  | refine i_isN ?_ | refine i_notN ?_ | refine i_chain ?_ | refine i_tup ?_ | refine i_lst ?_ | refine i_sl ?_ | refine i_noPart ?_ | refine i_part ?_ | refine i_ik ?_ | refine i_sk ?_ | refine i_bm0 ?_ | refine i_bm ?_ | refine i_m1 ?_ | refine i_m0 ?_ | refine i_fld ?_ | refine i_tru ?_
  | refine i_gC ?_ | refine i_gN ?_ | refine i_for0L ?_ | refine i_for0E ?_ | refine i_for0R ?_ | refine i_lc0L ?_ | refine i_lc0S ?_ | refine i_lc0Z ?_ | refine i_tix ?_ | refine i_lorei ?_ | refine i_js0 ?_ | refine i_xf ?_ | refine i_calR ?_ | refine i_calRS ?_ | refine i_calS ?_ | refine i_for0R3 ?_ | refine i_mak ?_ | refine i_dget ?_ | refine i_din ?_ | refine i_dnotin ?_ | refine i_dput ?_ | refine i_dnewT ?_ | refine i_sub ?_ | refine i_rng1 ?_ | refine i_rng2 ?_ | refine i_rev ?_ | refine i_replC ?_ | refine i_lenset ?_ | refine i_mS ?_ | refine i_js ?_ | refine i_fmt ?_ | refine i_par ?_ | refine i_v2 ?_ | refine i_par3 ?_ | refine i_v3 ?_ | refine i_mkO ?_ | refine i_ost ?_ | refine i_sFld ?_ | refine i_yes ?_ | refine i_dget1 ?_ | refine i_dnewK ?_ | refine i_dpop1 ?_ | refine i_ndnew ?_ | refine i_nget2 ?_ | refine i_nsetd ?_ | refine i_nix ?_ | refine i_nput ?_ | refine i_listItems ?_ | refine i_for0Nv ?_ | refine i_lc0Nk ?_ | refine i_dstar ?_ | refine i_lc20L ?_ | refine i_sp1 ?_ | refine i_sp2 ?_ | refine i_sp3 ?_ | refine i_sp4 ?_)
local macro_rules | `(tactic| walk_at "dr") => `(tactic| first
  | assumption | exact Dr.non | exact Dr.bl _ | exact Dr.int _ | exact Dr.str _ | exact Dr.tup (by assumption) (by assumption) | exact Dr.lst (by assumption) (by assumption) | exact Dr.dic (by assumption) | exact Im.dr (by assumption))
local macro_rules | `(tactic| walk_at "if") => `(tactic| first
  | ((with_reducible refine i_iT ?_ ?_); · rfl) | ((with_reducible refine i_iF ?_ ?_); · rfl))
local macro_rules | `(tactic| walk_at "isi") => `(tactic| ((with_reducible show rIsiU _ _ _ _); first
  | (with_reducible refine j_isTup (by walk_at "dr") ?_) | (with_reducible refine j_isLst (by walk_at "dr") ?_) | (with_reducible refine j_isStr (by walk_at "dr") ?_)
  | (with_reducible refine j_isBl (by walk_at "dr") ?_) | (with_reducible refine j_isInt (by walk_at "dr") ?_)))
local macro_rules | `(tactic| walk_at "op") => `(tactic| with_reducible first
  | refine i_rI0 ?_ | refine i_addI ?_ | refine i_rU ?_ | refine i_ltI ?_ | refine i_inC ?_ | refine i_notInC ?_ | refine i_intI ?_ | refine i_intB ?_ | refine i_abs ?_ | refine i_max2 ?_ | refine i_min2 ?_ | refine i_isBl ?_
  | (refine i_eqS rfl ?_) | (refine i_neS rfl ?_))
local macro_rules | `(tactic| walk_at "wp") => `(tactic| ((with_reducible refine i_wp ?_ ?_); · rfl))
local macro_rules | `(tactic| walk_at "sx") => `(tactic| repeat first | walk_at "kb1" | walk_at "if" | walk_at "isi" | walk_at "op" | walk_at "wp")
local macro_rules | `(tactic| walk_at "cd") => `(tactic| refine ⟨_, (by walk_at "dr"), ?_⟩)
local macro_rules | `(tactic| walk_at "len") => `(tactic| (simp only [List.length_cons, List.length_nil]; decide))
local macro_rules | `(tactic| walk_at "ic") => `(tactic| first
  | ((with_reducible refine i_iT ?_ ?_); · first | with_reducible rfl | (simp only [Bool.not_true, Bool.not_false, isTupD, isLstD, isStrD, isBlD, isIntD, isSeqD]; done))
  | ((with_reducible refine i_iF ?_ ?_); · first | with_reducible rfl | (simp only [Bool.not_true, Bool.not_false, isTupD, isLstD, isStrD, isBlD, isIntD, isSeqD]; done)))
local macro_rules | `(tactic| walk_at "sy") => `(tactic| repeat first | walk_at "kb1" | walk_at "ic" | walk_at "isi" | walk_at "op" | walk_at "wp")
theorem sc_value_beside : FnScope ["values", "name", "size"] ["values"] (defScope s_value_beside) := ⟨rfl, rfl, rfl, by decide +kernel, rfl, by decide +kernel, by decide +kernel⟩
theorem ok_value_beside {P : Program} {w : World} {K : PySem.W.Frag} {mg : Str → Option Value} {base : Heap} (T : Tx K mg) :
    Cn P w K mg base 1 (He.fAd K ("value_beside", none)) ["values"] (sp_value_beside K) := by
  refine cnN (d := d_value_beside) T.st_value_beside sc_value_beside sp1_len (fun _ _ _ _ _ _ us hl => match us, hl with | [_], _ => rfl) (fun cdv A outer s H vs Q E hr h => ?_)
  obtain ⟨v_values, rfl, h⟩ := h
  refine ⟨_, (pss_one (ps_ret (pe_ix (x_seq (K := K) rfl) (pe_lc (own := [("name", 1)]) (g := (gName 1)) rfl sc_value_beside.nd (w_list (K := K) rfl (pe_lc (own := [("size", 2)]) (g := (gName 2)) rfl sc_value_beside.nd (pi_range2 (by rfl) T.f_range (pa_cons pe_int (pa_cons pe_int pa_nil))) (blkOk_by (own := [("size", 2)]) (N := ["values", "name", "size"]) (sc := defScope s_value_beside) (by decide +kernel)) (fun _ _ _ _ _ => (pg_name (i := 2) sc_value_beside.nd rfl (by first | exact Or.inl rfl | exact Or.inr rfl))) (fun _ _ _ _ _ => pts_nil) (fun _ _ _ _ _ => (pe_op o_mulS pe_str (pv 2))))) (blkOk_by (own := [("name", 1)]) (N := ["values", "name", "size"]) (sc := defScope s_value_beside) (by decide +kernel)) (fun _ _ _ _ _ => (pg_name (i := 1) sc_value_beside.nd rfl (by first | exact Or.inl rfl | exact Or.inr rfl))) (fun _ _ _ _ _ => (pts_one (pt_cmpR (o_notIn (K := K) rfl (rU65 hr)) (pv 1) (pv 0) (by rfl)))) (fun _ _ _ _ _ => (pv 1))) pe_int (fun _ _ => rfl)))), ?_⟩
  rw [show start ["values", "name", "size"] [v_values] = [some v_values, none, none] from rfl]
  obtain ⟨a, l, rfl, ha, hl, q⟩ := h
  walk_at "sx"
  refine i_lcR2 (i := 1) (j := 13) (fun _ => true) (fun d => match d with | .int n => .str (timesS "x" n.toNat) | _ => .none) (by decide) (fun D hD i x d H2 ed ix s2 N no yes => ?_) (fun D H2 ys hD s2 hy im => ?_)
  · obtain ⟨hi, rfl⟩ := rngD_get ed
    cases ix
    walk_at "sx"
    refine ⟨"x", 1 + i, rfl, by simp, by omega, ?_, by decide +kernel, ?_⟩
    · have : (13 - 1 : Int).toNat = 12 := by decide
      omega
    · refine yes rfl _ _ (fun _ _ e => e) ?_
      show Im H2 (.str (timesS "x" (1 + i))) (.str (timesS "x" (1 + (i : Int)).toNat))
      rw [show (1 + (i : Int)).toNat = 1 + i from by omega]
      exact .str _
  · walk_at "sx"
    have e0 : ((rngD 1 (13 - 1 : Int).toNat).filter (fun _ => true)).map (fun d => match d with | .int n => PyData.str (timesS "x" n.toNat) | _ => .none) = xNames.map PyData.str := by
      rw [filter_t]
      rfl
    rw [e0] at im
    have hl2 : xNames.length = 12 := by decide +kernel
    have hb := bes_not hl
    have nd : xNames.Nodup := by decide +kernel
    unfold bes at q hb
    generalize xNames = nm at im hl2 q hb nd
    cases imS_eq im
    refine i_lcL (strP fun k => !decide (k ∈ l)) id (.inl (.inl hy)) im (by simp; rw [hl2, sizeLine_eq]; omega) (fun D3 hD3 i x d H3 ed ix s3 N no yes => ?_) (fun D3 H3 ys hD3 s3 hy3 im3 => ?_)
    · rw [List.getElem?_map] at ed
      obtain ⟨k, hk3, rfl⟩ := Option.map_eq_some_iff.mp ed
      cases ix
      walk_at "sx"
      refine i_notInSq (.inl ((s2.trans s3).seq ha)) rfl (KB.flat_strs l) ?_
      rw [inV_strs]
      refine ⟨_, rfl, ?_⟩
      refine i_i2 (fun e1 => ?_) (fun e1 => ?_)
      · walk_at "sx"
        exact yes e1 _ _ (fun _ _ e => e) (.str k)
      · exact no e1 _ (fun _ _ e => e)
    · walk_at "sx"
      rw [filter_strs] at im3
      cases imS_eq im3
      cases e2 : nm.filter fun k => !decide (k ∈ l) with
      | nil =>
        have sub : ∀ x ∈ nm, x ∈ l := fun x hx => by
          have := List.filter_eq_nil_iff.mp e2 x hx
          simpa using this
        have := nodup_len nd sub
        omega
      | cons z r =>
        rw [e2] at hy3 q
        refine i_ixL (.inl (.inl hy3)) at_0 ?_
        exact q H3 (s2.trans s3)


end H68

set_option maxHeartbeats 1000000
namespace H68
open PySem PySem.Spec PyProof.Rows L2 KB
local macro_rules | `(tactic| walk_at "kb1") => `(tactic| with_reducible first
  | refine i_var rfl ?_ | refine i_c ?_ | refine i_cons ?_ | refine i_nil ?_ | refine i_op ?_ | refine i_seq ?_ | refine i_if ?_ | refine i_ret ?_ | refine i_asg ?_ | refine i_name ?_ | refine i_next ?_ | refine i_drop ?_
  | refine i_un ?_ | refine i_cb ?_ | refine i_cal ?_ | refine i_calM ?_ | refine i_test ?_ | refine i_tb ?_ | refine i_k ?_ | refine i_not ?_ | refine i_and ?_ | refine i_or ?_ | refine i_andV ?_ | refine i_orV ?_ | refine i_notV ?_ | refine i_ife ?_
  | refine i_isN ?_ | refine i_notN ?_ | refine i_chain ?_ | refine i_tup ?_ | refine i_lst ?_ | refine i_sl ?_ | refine i_noPart ?_ | refine i_part ?_ | refine i_ik ?_ | refine i_sk ?_ | refine i_bm0 ?_ | refine i_bm ?_ | refine i_m1 ?_ | refine i_m0 ?_ | refine i_fld ?_ | refine i_tru ?_
  | refine i_gC ?_ | refine i_gN ?_ | refine i_for0L ?_ | refine i_for0E ?_ | refine i_for0R ?_ | refine i_lc0L ?_ | refine i_lc0S ?_ | refine i_lc0Z ?_ | refine i_tix ?_ | refine i_lorei ?_ | refine i_js0 ?_ | refine i_xf ?_ | refine i_calR ?_ | refine i_calRS ?_ | refine i_calS ?_ | refine i_for0R3 ?_ | refine i_mak ?_ | refine i_dget ?_ | refine i_din ?_ | refine i_dnotin ?_ | refine i_dput ?_ | refine i_dnewT ?_ | refine i_sub ?_ | refine i_rng1 ?_ | refine i_rng2 ?_ | refine i_rev ?_ | refine i_replC ?_ | refine i_lenset ?_ | refine i_mS ?_ | refine i_js ?_ | refine i_fmt ?_ | refine i_par ?_ | refine i_v2 ?_ | refine i_par3 ?_ | refine i_v3 ?_ | refine i_mkO ?_ | refine i_ost ?_ | refine i_sFld ?_ | refine i_yes ?_ | refine i_dget1 ?_ | refine i_dnewK ?_ | refine i_dpop1 ?_ | refine i_ndnew ?_ | refine i_nget2 ?_ | refine i_nsetd ?_ | refine i_nix ?_ | refine i_nput ?_ | refine i_listItems ?_ | refine i_for0Nv ?_ | refine i_lc0Nk ?_ | refine i_dstar ?_ | refine i_lc20L ?_ | refine i_sp1 ?_ | refine i_sp2 ?_ | refine i_sp3 ?_ | refine i_sp4 ?_)
local macro_rules | `(tactic| walk_at "dr") => `(tactic| first
  | assumption | exact Dr.non | exact Dr.bl _ | exact Dr.int _ | exact Dr.str _ | exact Dr.tup (by assumption) (by assumption) | exact Dr.lst (by assumption) (by assumption) | exact Dr.dic (by assumption) | exact Im.dr (by assumption))
local macro_rules | `(tactic| walk_at "if") => `(tactic| first
  | ((with_reducible refine i_iT ?_ ?_); · rfl) | ((with_reducible refine i_iF ?_ ?_); · rfl))
local macro_rules | `(tactic| walk_at "isi") => `(tactic| ((with_reducible show rIsiU _ _ _ _); first
  | (with_reducible refine j_isTup (by walk_at "dr") ?_) | (with_reducible refine j_isLst (by walk_at "dr") ?_) | (with_reducible refine j_isStr (by walk_at "dr") ?_)
  | (with_reducible refine j_isBl (by walk_at "dr") ?_) | (with_reducible refine j_isInt (by walk_at "dr") ?_)))
local macro_rules | `(tactic| walk_at "op") => `(tactic| with_reducible first
  | refine i_rI0 ?_ | refine i_addI ?_ | refine i_rU ?_ | refine i_ltI ?_ | refine i_inC ?_ | refine i_notInC ?_ | refine i_intI ?_ | refine i_intB ?_ | refine i_abs ?_ | refine i_max2 ?_ | refine i_min2 ?_ | refine i_isBl ?_
  | (refine i_eqS rfl ?_) | (refine i_neS rfl ?_))
local macro_rules | `(tactic| walk_at "wp") => `(tactic| ((with_reducible refine i_wp ?_ ?_); · rfl))
local macro_rules | `(tactic| walk_at "sx") => `(tactic| repeat first | walk_at "kb1" | walk_at "if" | walk_at "isi" | walk_at "op" | walk_at "wp")
local macro_rules | `(tactic| walk_at "cd") => `(tactic| refine ⟨_, (by walk_at "dr"), ?_⟩)
local macro_rules | `(tactic| walk_at "len") => `(tactic| (simp only [List.length_cons, List.length_nil]; decide))
local macro_rules | `(tactic| walk_at "ic") => `(tactic| first
  | ((with_reducible refine i_iT ?_ ?_); · first | with_reducible rfl | (simp only [Bool.not_true, Bool.not_false, isTupD, isLstD, isStrD, isBlD, isIntD, isSeqD]; done))
  | ((with_reducible refine i_iF ?_ ?_); · first | with_reducible rfl | (simp only [Bool.not_true, Bool.not_false, isTupD, isLstD, isStrD, isBlD, isIntD, isSeqD]; done)))
local macro_rules | `(tactic| walk_at "sy") => `(tactic| repeat first | walk_at "kb1" | walk_at "ic" | walk_at "isi" | walk_at "op" | walk_at "wp")
theorem sc_samples : FnScope ["formula", "key", "values", "value"] ["formula", "key"] (defScope s_samples) := ⟨rfl, rfl, rfl, by decide +kernel, rfl, by decide +kernel, by decide +kernel⟩
theorem ok_samples {P : Program} {w : World} {K : PySem.W.Frag} {mg : Str → Option Value} {base : Heap} (T : Tx K mg)
    (C_value_beside : Cn P w K mg base 1 (He.fAd K ("value_beside", none)) ["values"] (sp_value_beside K))
    (C_values_named : Cn P w K mg base 2 (He.fAd K ("values_named", none)) ["formula", "key"] (sp_values_named K)) :
    Cn P w K mg base 3 (He.fAd K ("samples", none)) ["formula", "key"] (sp_samples K) := by
  refine cnN (d := d_samples) T.st_samples sc_samples sp2_len (fun _ _ _ _ _ _ us hl => match us, hl with | [_, _], _ => rfl) (fun cdv A outer s H vs Q E hr h => ?_)
  obtain ⟨v_formula, v_key, rfl, h⟩ := h
  refine ⟨_, (pss_cons (ps_set (i := 2) sc_samples.nd rfl (.inl rfl) (pe_cn C_values_named hr (by decide) (by rfl) T.g_values_named passN (pa_cons (pv 0) (pa_cons (pv 1) pa_nil))))
  (pss_one (ps_ret (pe_op op_addU (pe_lst (pa_cons pe_non pa_nil)) (pe_lc (own := [("value", 3)]) (g := (gName 3)) rfl sc_samples.nd (w_list (K := K) rfl (pe_op op_addU (pv 2) (pe_lst (pa_cons (pe_cn C_value_beside hr (by decide) (by rfl) T.g_value_beside passN (pa_cons (pv 2) pa_nil)) pa_nil)))) (blkOk_by (own := [("value", 3)]) (N := ["formula", "key", "values", "value"]) (sc := defScope s_samples) (by decide +kernel)) (fun _ _ _ _ _ => (pg_name (i := 3) sc_samples.nd rfl (by first | exact Or.inl rfl | exact Or.inr rfl))) (fun _ _ _ _ _ => pts_nil) (fun _ _ _ _ _ => (pe_tup (pa_cons (pv 3) (pa_cons pe_int pa_nil))))))))), ?_⟩
  rw [show start ["formula", "key", "values", "value"] [v_formula, v_key] = [some v_formula, some v_key, none, none] from rfl]
  obtain ⟨f, s, hf, hk, rfl, q⟩ := h
  walk_at "sx"
  refine ⟨f, s, hf, hk, rfl, fun H1 p1 l s1 hp1 h1 hm h6 => ?_⟩
  walk_at "sx"
  refine ⟨by walk_at "len", fun p2 hp2 => ?_⟩
  have s2 := Same.new (o := .lst [V.non]) hp2
  have f2 : upd H1 p2 (.lst [V.non]) p2 = _ := upd_same
  generalize upd H1 p2 (.lst [V.non]) = H2 at s2 f2 ⊢
  walk_at "sx"
  refine ⟨p1, l, rfl, .inl (.inl (s2 _ _ h1)), h6, fun H3 s3 => ?_⟩
  generalize ez : bes l = z
  walk_at "sx"
  refine ⟨by walk_at "len", fun p4 hp4 => ?_⟩
  have s4 := Same.new (o := .lst [V.str z]) hp4
  have f4 : upd H3 p4 (.lst [V.str z]) p4 = _ := upd_same
  generalize upd H3 p4 (.lst [V.str z]) = H4 at s4 f4 ⊢
  refine i_addL (s4 _ _ (s3 _ _ (s2 _ _ h1))) f4 (by simp; rw [sizeLine_eq]; omega) fun p5 hp5 => ?_
  have s5 := Same.new (o := .lst (l.map V.str ++ [V.str z])) hp5
  have f5 : upd H4 p5 (.lst (l.map V.str ++ [V.str z])) p5 = _ := upd_same
  generalize upd H4 p5 (.lst (l.map V.str ++ [V.str z])) = H5 at s5 f5 ⊢
  have im5 : ImAll H5 (l.map V.str ++ [V.str z]) ((l ++ [z]).map PyData.str) := by
    rw [show l.map V.str ++ [V.str z] = (l ++ [z]).map V.str by simp]
    exact imS _
  refine i_lcL (fun _ => true) (fun d => match d with | .str v => rdgD (some v) | _ => .none) (.inl (.inl f5)) im5 (by simp; rw [sizeLine_eq]; omega) (fun D hD i x d H6 ed ix s6 N no yes => ?_) (fun D H6 ys hD s6 hy im => ?_)
  · rw [List.getElem?_map] at ed
    obtain ⟨v, hv, rfl⟩ := Option.map_eq_some_iff.mp ed
    cases ix
    walk_at "sx"
    refine ⟨by walk_at "len", fun p7 hp7 => ?_⟩
    exact yes rfl _ _ (Same.new hp7) (.tup upd_same (.cons (.str _) (.one (.int _))))
  · refine i_addL (s6 _ _ (s5 _ _ (s4 _ _ (s3 _ _ f2)))) hy (by have := im.length; rw [filter_t] at this; simp at this; simp; rw [sizeLine_eq]; omega) fun p8 hp8 => ?_
    have s8 := ((((s1.trans s2).trans s3).trans s4).trans s5).trans s6
    refine q _ p8 _ (none :: (l ++ [z]).map some) (s8.trans (Same.new hp8)) (fresh_of s8 hp8) upd_same ?_ ⟨l, hm, h6, by rw [ez]⟩
    rw [List.filter_eq_self.mpr (fun _ _ => rfl), List.map_map] at im
    refine .cons .non ?_
    rw [List.map_map]
    exact im.mono (Same.tq (Same.new hp8))


end H68

set_option maxHeartbeats 1000000
namespace H68
open PySem PySem.Spec PyProof.Rows L2 KB
local macro_rules | `(tactic| walk_at "kb1") => `(tactic| with_reducible first
  | refine i_var rfl ?_ | refine i_c ?_ | refine i_cons ?_ | refine i_nil ?_ | refine i_op ?_ | refine i_seq ?_ | refine i_if ?_ | refine i_ret ?_ | refine i_asg ?_ | refine i_name ?_ | refine i_next ?_ | refine i_drop ?_
  | refine i_un ?_ | refine i_cb ?_ | refine i_cal ?_ | refine i_calM ?_ | refine i_test ?_ | refine i_tb ?_ | refine i_k ?_ | refine i_not ?_ | refine i_and ?_ | refine i_or ?_ | refine i_andV ?_ | refine i_orV ?_ | refine i_notV ?_ | refine i_ife ?_
  | refine i_isN ?_ | refine i_notN ?_ | refine i_chain ?_ | refine i_tup ?_ | refine i_lst ?_ | refine i_sl ?_ | refine i_noPart ?_ | refine i_part ?_ | refine i_ik ?_ | refine i_sk ?_ | refine i_bm0 ?_ | refine i_bm ?_ | refine i_m1 ?_ | refine i_m0 ?_ | refine i_fld ?_ | refine i_tru ?_
  | refine i_gC ?_ | refine i_gN ?_ | refine i_for0L ?_ | refine i_for0E ?_ | refine i_for0R ?_ | refine i_lc0L ?_ | refine i_lc0S ?_ | refine i_lc0Z ?_ | refine i_tix ?_ | refine i_lorei ?_ | refine i_js0 ?_ | refine i_xf ?_ | refine i_calR ?_ | refine i_calRS ?_ | refine i_calS ?_ | refine i_for0R3 ?_ | refine i_mak ?_ | refine i_dget ?_ | refine i_din ?_ | refine i_dnotin ?_ | refine i_dput ?_ | refine i_dnewT ?_ | refine i_sub ?_ | refine i_rng1 ?_ | refine i_rng2 ?_ | refine i_rev ?_ | refine i_replC ?_ | refine i_lenset ?_ | refine i_mS ?_ | refine i_js ?_ | refine i_fmt ?_ | refine i_par ?_ | refine i_v2 ?_ | refine i_par3 ?_ | refine i_v3 ?_ | refine i_mkO ?_ | refine i_ost ?_ | refine i_sFld ?_ | refine i_yes ?_ | refine i_dget1 ?_ | refine i_dnewK ?_ | refine i_dpop1 ?_ | refine i_ndnew ?_ | refine i_nget2 ?_ | refine i_nsetd ?_ | refine i_nix ?_ | refine i_nput ?_ | refine i_listItems ?_ | refine i_for0Nv ?_ | refine i_lc0Nk ?_ | refine i_dstar ?_ | refine i_lc20L ?_ | refine i_sp1 ?_ | refine i_sp2 ?_ | refine i_sp3 ?_ | refine i_sp4 ?_)
local macro_rules | `(tactic| walk_at "dr") => `(tactic| first
  | assumption | exact Dr.non | exact Dr.bl _ | exact Dr.int _ | exact Dr.str _ | exact Dr.tup (by assumption) (by assumption) | exact Dr.lst (by assumption) (by assumption) | exact Dr.dic (by assumption) | exact Im.dr (by assumption))
local macro_rules | `(tactic| walk_at "if") => `(tactic| first
  | ((with_reducible refine i_iT ?_ ?_); · rfl) | ((with_reducible refine i_iF ?_ ?_); · rfl))
local macro_rules | `(tactic| walk_at "isi") => `(tactic| ((with_reducible show rIsiU _ _ _ _); first
  | (with_reducible refine j_isTup (by walk_at "dr") ?_) | (with_reducible refine j_isLst (by walk_at "dr") ?_) | (with_reducible refine j_isStr (by walk_at "dr") ?_)
  | (with_reducible refine j_isBl (by walk_at "dr") ?_) | (with_reducible refine j_isInt (by walk_at "dr") ?_)))
local macro_rules | `(tactic| walk_at "op") => `(tactic| with_reducible first
  | refine i_rI0 ?_ | refine i_addI ?_ | refine i_rU ?_ | refine i_ltI ?_ | refine i_inC ?_ | refine i_notInC ?_ | refine i_intI ?_ | refine i_intB ?_ | refine i_abs ?_ | refine i_max2 ?_ | refine i_min2 ?_ | refine i_isBl ?_
  | (refine i_eqS rfl ?_) | (refine i_neS rfl ?_))
local macro_rules | `(tactic| walk_at "wp") => `(tactic| ((with_reducible refine i_wp ?_ ?_); · rfl))
local macro_rules | `(tactic| walk_at "sx") => `(tactic| repeat first | walk_at "kb1" | walk_at "if" | walk_at "isi" | walk_at "op" | walk_at "wp")
local macro_rules | `(tactic| walk_at "cd") => `(tactic| refine ⟨_, (by walk_at "dr"), ?_⟩)
local macro_rules | `(tactic| walk_at "len") => `(tactic| (simp only [List.length_cons, List.length_nil]; decide))
local macro_rules | `(tactic| walk_at "ic") => `(tactic| first
  | ((with_reducible refine i_iT ?_ ?_); · first | with_reducible rfl | (simp only [Bool.not_true, Bool.not_false, isTupD, isLstD, isStrD, isBlD, isIntD, isSeqD]; done))
  | ((with_reducible refine i_iF ?_ ?_); · first | with_reducible rfl | (simp only [Bool.not_true, Bool.not_false, isTupD, isLstD, isStrD, isBlD, isIntD, isSeqD]; done)))
local macro_rules | `(tactic| walk_at "sy") => `(tactic| repeat first | walk_at "kb1" | walk_at "ic" | walk_at "isi" | walk_at "op" | walk_at "wp")
theorem sc_rows_of : FnScope ["formula", "found", "key", "leaf", "row", "reading"] ["formula"] (defScope s_rows_of) := ⟨rfl, rfl, rfl, by decide +kernel, rfl, by decide +kernel, by decide +kernel⟩
theorem ok_rows_of {P : Program} {w : World} {K : PySem.W.Frag} {mg : Str → Option Value} {base : Heap} (T : Tx K mg)
    (C_leaves : Cn P w K mg base 1 (He.fAd K ("leaves", none)) ["formula"] (sp_leaves K))
    (C_samples : Cn P w K mg base 3 (He.fAd K ("samples", none)) ["formula", "key"] (sp_samples K)) :
    Cn P w K mg base 4 (He.fAd K ("rows_of", none)) ["formula"] (sp_rows_of K) := by
  refine cnN (d := d_rows_of) T.st_rows_of sc_rows_of sp1_len (fun _ _ _ _ _ _ us hl => match us, hl with | [_], _ => rfl) (fun cdv A outer s H vs Q E hr h => ?_)
  obtain ⟨v_formula, rfl, h⟩ := h
  refine ⟨_, (pss_cons (ps_set (i := 1) sc_rows_of.nd rfl (.inl rfl) (pe_lst (pa_cons pe_dnewK pa_nil)))
  (pss_cons (ps_for PassesOwn.never rfl (w_list (K := K) rfl (pe_callB (c_sortT rfl) (by rfl) T.f_sorted (by decide +kernel) (pa_cons (pe_scT (own := [("leaf", 3)]) (g := (gName 3)) rfl sc_rows_of.nd (w_list (K := K) rfl (pe_cn C_leaves hr (by decide) (by rfl) T.g_leaves passN (pa_cons (pv 0) pa_nil))) (blkOk_by (own := [("leaf", 3)]) (N := ["formula", "found", "key", "leaf", "row", "reading"]) (sc := defScope s_rows_of) (by decide +kernel)) (fun _ _ _ _ _ => (pg_name (i := 3) sc_rows_of.nd rfl (by first | exact Or.inl rfl | exact Or.inr rfl))) (fun _ _ _ _ _ => pts_nil) (fun _ _ _ _ _ => (pe_ix (x_seq (K := K) rfl) (pv 3) pe_int (fun _ _ => rfl)))) pa_nil))) (pg_name (i := 2) sc_rows_of.nd rfl (.inr rfl))
  (pss_one (ps_setLc2 (i := 1) (own := [("row", 4), ("reading", 5)]) (vs1 := [5]) (g := (gName 4)) (g1 := (gName 5)) rfl sc_rows_of.nd rfl rfl (sw_true rfl rfl rfl (by decide +kernel)) (w_list (K := K) rfl (pv 1)) (blkOk_by (own := [("row", 4), ("reading", 5)]) (N := ["formula", "found", "key", "leaf", "row", "reading"]) (sc := defScope s_rows_of) (by decide +kernel)) (by decide) (fun _ _ _ _ _ => (pg_name (i := 4) sc_rows_of.nd rfl (by first | exact Or.inl rfl | exact Or.inr rfl))) (fun _ _ _ _ _ => pts_nil) (fun _ _ _ _ _ => (w_list (K := K) rfl (pe_cn C_samples hr (by decide) (by rfl) T.g_samples passN (pa_cons (pv 0) (pa_cons (pv 2) pa_nil))))) (fun _ _ _ _ _ => (pg_name (i := 5) sc_rows_of.nd rfl (by first | exact Or.inl rfl | exact Or.inr rfl))) (fun _ _ _ _ _ => pts_nil) (fun _ _ _ _ _ => (pe_dstar (pv 4) (pv 2) (pv 5))))))
  (pss_one (ps_ret (pv 1))))), ?_⟩
  rw [show start ["formula", "found", "key", "leaf", "row", "reading"] [v_formula] = [some v_formula, none, none, none, none, none] from rfl]
  obtain ⟨f, hf, hk, q⟩ := h
  walk_at "sx"
  intro p0 hp0
  have s0 := Same.new (o := .dK []) hp0
  have f0 : upd H p0 (.dK []) p0 = _ := upd_same
  generalize upd H p0 (.dK []) = H0 at s0 f0 ⊢
  walk_at "sx"
  refine ⟨by walk_at "len", fun p1 hp1 => ?_⟩
  have s1 := s0.trans (Same.new (o := .lst [V.ref p0]) hp1)
  have f0 := Same.new (o := .lst [V.ref p0]) hp1 _ _ f0
  have f1 : upd H0 p1 (.lst [V.ref p0]) p1 = _ := upd_same
  have hp1 : H p1 = none := fresh_of s0 hp1
  generalize upd H0 p1 (.lst [V.ref p0]) = H1 at s1 f0 f1 ⊢
  walk_at "sx"
  refine i_sc0L ?_
  walk_at "sx"
  refine ⟨f, hf.mono (Same.tq s1), Nat.le_trans (Nat.le_of_lt hk.size) (by decide), fun H2 p vs s2 hp h1 im => ?_⟩
  have h6 := hk.six
  refine i_scF (fun _ => true) keyD (.inl (.inl h1)) im (by rw [List.length_map]; omega) (fun D i x d H3 hD ed ix s3 N no yes => ?_) (fun D H3 l hD s3 hl nd hm hll => ?_)
  · rw [List.getElem?_map] at ed
    obtain ⟨g, hg, rfl⟩ := Option.map_eq_some_iff.mp ed
    have hlf := (Fm.leaf_leaves (List.mem_of_getElem? hg)).1
    cases g with
    | is k v =>
      cases ix with
      | tup hx ax =>
      match ax, hx with
      | .cons (.str _) (.cons (.str _) (.cons (.str _) .nil)), hx =>
        walk_at "sx"
        refine i_ixT (.inl (.inl hx)) rfl ?_
        exact yes rfl _ (fun _ _ e => e)
    | sil k =>
      cases ix with
      | tup hx ax =>
      match ax, hx with
      | .cons (.str _) (.cons (.str _) .nil), hx =>
        walk_at "sx"
        refine i_ixT (.inl (.inl hx)) rfl ?_
        exact yes rfl _ (fun _ _ e => e)
    | no g => cases hlf
    | two o a b => cases hlf
  · walk_at "sx"
    rw [List.length_map] at hll
    refine i_sortT hl (by omega) fun ks p2 perm so hp2 => ?_
    have asc : Asc (· ∈ f.keys) ks := Asc.perm so nd (fun k => by
      rw [hm k, filter_t, List.map_map]
      unfold Fm.keys
      rw [List.mem_map, List.mem_map]
      constructor
      · rintro ⟨g, hg, rfl⟩
        exact ⟨g, hg, (keyD_leaf hg).symm⟩
      · rintro ⟨g, hg, rfl⟩
        exact ⟨g, hg, keyD_leaf hg⟩) perm
    have l6 : ks.length ≤ 6 := by rw [perm.length_eq]; omega
    have s4 := ((s1.trans s2).trans s3).trans (Same.new (o := .lst (ks.map V.str)) hp2)
    have f0 := Same.new (o := .lst (ks.map V.str)) hp2 _ _ (s3 _ _ (s2 _ _ f0))
    have f1 := Same.new (o := .lst (ks.map V.str)) hp2 _ _ (s3 _ _ (s2 _ _ f1))
    have f2 : upd H3 p2 (.lst (ks.map V.str)) p2 = _ := upd_same
    generalize upd H3 p2 (.lst (ks.map V.str)) = H4 at s4 f0 f1 f2 ⊢
    clear hl hm im h1 s3 s2 hD
    refine i_forL (fun i σ H' => ∃ (pf : Addr) (as : List Addr) (S : Str → List (Option Str)) (x2 x3 x4 x5 : Option V), σ = [some v_formula, some (.ref pf), x2, x3, x4, x5] ∧ Same H4 H' ∧ H pf = none ∧ H' pf = some (.lst (as.map V.ref)) ∧
      (∀ k ∈ ks.take i, SampOk f k (S k)) ∧ RowsAt H H' as (rowsOf S (ks.take i)) ∧ 1 ≤ as.length) (.inl (.inl f2)) ?_ ?_ ?_ ?_
    · refine ⟨p1, [p0], fun _ => [], _, _, _, _, rfl, fun _ _ e => e, hp1, f1, (fun k hk => by simp at hk), .cons ⟨hp0, [], f0, .nil⟩ .nil, Nat.le_refl _⟩
    · rintro i σ H' _ ⟨pf, as, S, x2, x3, x4, x5, rfl, s5, _⟩
      exact .inl (.inl (s5 _ _ f2))
    · rintro i x σ HL hx ⟨pf, as, S, x2, x3, x4, x5, rfl, s5, hpf, hfd, hS, hR, h1a⟩
      rw [List.getElem?_map] at hx
      obtain ⟨k, hki, rfl⟩ := Option.map_eq_some_iff.mp hx
      walk_at "sx"
      have hi : i < ks.length := (List.getElem?_eq_some_iff.mp hki).1
      have ksub : ∀ j ∈ ks.take i, j ≠ k := fun j hj e => by
        obtain ⟨m, hm, e2⟩ := List.mem_take_iff_getElem.mp hj
        have e3 : ks[i] = k := by rw [List.getElem?_eq_getElem hi] at hki; exact Option.some.inj hki
        have := (List.getElem_inj asc.nd (h₀ := by omega) (h₁ := hi)).mp (e2.trans (e.trans e3.symm))
        omega
      have et : ks.take (i + 1) = ks.take i ++ [k] := take_succ_get hki
      have hRl : as.length ≤ 32768 := by
        rw [hR.len]
        have h := prod_len S 8 (ks.take i) [[]] fun j hj => (hS j hj).len
        have h2 : 8 ^ (ks.take i).length ≤ 8 ^ 5 := Nat.pow_le_pow_right (by decide) (by rw [List.length_take]; omega)
        have h3 : (rowsOf S (ks.take i)).length ≤ [([] : KB.Row)].length * 8 ^ (ks.take i).length := h
        rw [List.length_singleton, Nat.one_mul] at h3
        have : (8 : Nat) ^ 5 = 32768 := by decide
        omega
      generalize eR : rowsOf S (ks.take i) = R at hR
      have hRk : ∀ r ∈ R, r.map (·.1) = ks.take i := fun r hr => (mem_rows.mp (by rw [eR]; exact hr)).1
      have sHL := s4.trans s5
      refine i_lc2P (xs := as.map V.ref) (fun D i' H' => ∃ (os : List (Option Str)) (acc : List Addr), (i' = 0 ∨ SampOk f k os) ∧ Same HL H' ∧ H' D = some (.lst (acc.map V.ref)) ∧ RowsAt HL H' acc (grow (fun _ => os) (R.take i') k)) (.inl (.inl hfd)) ?_ ?_ ?_ ?_
      · intro D hD
        exact ⟨[], [], .inl rfl, Same.new hD, upd_same, .nil⟩
      · rintro D i' H' hD ⟨os, acc, _, s6, _⟩
        exact .inl (.inl (s6 _ _ hfd))
      · rintro D i' x H' hD hx' ⟨os, acc, hos, s6, hac, hRa⟩
        rw [List.getElem?_map] at hx'
        obtain ⟨a, hai, rfl⟩ := Option.map_eq_some_iff.mp hx'
        obtain ⟨r, hri, hn, hra⟩ := hR.get hai
        have hi' : i' < as.length := (List.getElem?_eq_some_iff.mp hai).1
        walk_at "sx"
        refine ⟨f, k, hf.mono (Same.tq (sHL.trans s6)), hk, rfl, fun H7 p7 vs7 os7 s7 hp7 h7 im7 ok7 => ?_⟩
        have hgr : grow (fun _ => os) (R.take i') k = grow (fun _ => os7) (R.take i') k := by
          rcases hos with e | e
          · rw [e] <;> rfl
          · rw [e.eq ok7]
        rw [hgr] at hRa
        have nD : D ≠ p7 := fun e => by rw [← e, hac] at hp7; cases hp7
        have hl7 := im7.length
        rw [List.length_map] at hl7
        have ho8 := ok7.len
        have hgl : (grow (fun _ => os7) (R.take i') k).length ≤ i' * 8 := by
          have h1 := grow_len (fun _ => os7) k 8 ho8 (R.take i')
          have h2 : (R.take i').length ≤ i' := by rw [List.length_take]; omega
          have h3 := Nat.mul_le_mul_right 8 h2
          omega
        refine ⟨p7, rfl, ⟨_, .inl (.inl h7)⟩, in_pv (xs := vs7) (fun j H8 => Same HL H8 ∧ H8 p7 = some (.lst vs7) ∧ ImAll H8 vs7 (os7.map rdgD) ∧ ∃ acc : List Addr, H8 D = some (.lst (acc.map V.ref)) ∧
          RowsAt HL H8 acc (grow (fun _ => os7) (R.take i') k ++ (os7.take j).map fun o => r ++ [(k, o)])) ?_ ?_ ?_ ?_⟩
        · refine ⟨s6.trans s7, h7, im7, acc, s7 _ _ hac, ?_⟩
          simp only [List.take_zero, List.map_nil, List.append_nil]
          exact hRa.mono s7
        · rintro j H8 ⟨_, h8, _⟩
          exact .inl (.inl h8)
        · rintro j x H8 hxj ⟨s8, h8, im8, acc8, hac8, hR8⟩
          obtain ⟨d, hd, imx⟩ := im8.get hxj
          rw [List.getElem?_map] at hd
          obtain ⟨o, hoj, rfl⟩ := Option.map_eq_some_iff.mp hd
          have hj : j < os7.length := (List.getElem?_eq_some_iff.mp hoj).1
          obtain ⟨kvs, hkv, hrow⟩ := hra.mono s8
          walk_at "sx"
          intro p hp
          have ne1 : a ≠ p := fun e => by rw [← e, hkv] at hp; cases hp
          have hrl := hrow.len
          have hrk := hRk r (List.mem_of_getElem? hri)
          have hrl2 : r.length ≤ 6 := by
            have : (r.map (·.1)).length = (ks.take i).length := by rw [hrk]
            rw [List.length_map, List.length_take] at this
            omega
          walk_at "sx"
          refine ⟨a, kvs, rfl, ne1, upd_same, .inl (by rw [upd_ne ne1]; exact hkv), by omega, fun q2 hq2 => ?_⟩
          have ne2 : q2 ≠ p := fun e => by rw [e, upd_same] at hq2; cases hq2
          have hq3 : H8 q2 = none := by rw [upd_ne ne2, upd_ne ne2] at hq2; exact hq2
          walk_at "sx"
          refine ⟨.inr k, rfl, by rw [upd_ne (Ne.symm ne2), upd_same], upd_same, ne2, ?_⟩
          obtain ⟨ep, hrow2⟩ := hrow.put (o := o) (v := x) (k := k) (by rw [hrk]; exact fun hm => ksub k hm rfl) imx
          have sP : Same H8 (upd (upd (upd (upd (upd H8 p (.dK [])) p (.dK kvs)) q2 (.dK [])) q2 (.dK [(.inr k, x)])) p (.dK (putK kvs (.inr k) x))) :=
            Same.put (Same.put (Same.put (Same.put (Same.new hp) hp) hq3) hq3) hp
          have fP : (upd (upd (upd (upd (upd H8 p (.dK [])) p (.dK kvs)) q2 (.dK [])) q2 (.dK [(.inr k, x)])) p (.dK (putK kvs (.inr k) x))) p = some (.dK (putK kvs (.inr k) x)) := upd_same
          generalize (upd (upd (upd (upd (upd H8 p (.dK [])) p (.dK kvs)) q2 (.dK [])) q2 (.dK [(.inr k, x)])) p (.dK (putK kvs (.inr k) x))) = H9 at sP fP ⊢
          have hal := hR8.len
          rw [List.length_append, List.length_map, List.length_take] at hal
          have nDp : D ≠ p := fun e => by rw [← e, hac8] at hp; cases hp
          have tqD : Tq H9 (upd H9 D (.lst (acc8.map V.ref ++ [.ref p]))) := Tq.lst (sP _ _ hac8)
          refine ⟨_, sP _ _ hac8, by rw [List.length_map, sizeLine_eq]; omega, Same.put (s8.trans sP) hD, ?_, ?_, acc8 ++ [p], ?_, ?_⟩
          · rw [upd_ne (Ne.symm nD)]; exact sP _ _ h8
          · exact (im8.mono (Same.tq sP)).mono tqD
          · rw [List.map_append]; exact upd_same
          · rw [take_succ_get hoj, List.map_append, ← List.append_assoc]
            refine Paired.snoc (Paired.mapP (hR8.mono sP) fun a' r' z => ⟨z.1, z.2.upd (fun kvs e => ?_) (fun xs e => ?_)⟩) ⟨fresh_of s8 hp, _, by rw [upd_ne (Ne.symm nDp)]; exact fP, (hrow2.mono (Same.tq sP)).mono tqD⟩
            · rw [sP _ _ hac8] at e; cases e
            · rw [sP _ _ hac8] at e; cases e
        · rintro H8 ⟨s8, h8, im8, acc8, hac8, hR8⟩
          refine ⟨os7, acc8, .inr ok7, s8, hac8, ?_⟩
          rw [hl7, List.take_length] at hR8
          rw [grow_take hri]
          exact hR8
      · rintro D H' hD ⟨os, acc, hos, s6, hac, hRa⟩
        rw [List.length_map] at hos hRa
        have hos : SampOk f k os := hos.resolve_left (by omega)
        rw [hR.len, List.take_length] at hRa
        walk_at "sx"
        have e1 : rowsOf (fun j => if j = k then os else S j) (ks.take (i + 1)) = grow (fun _ => os) R k := by
          rw [et]
          unfold rowsOf
          rw [prodR_snoc]
          have e2 : prodR (fun j => if j = k then os else S j) [[]] (ks.take i) = R := by
            rw [← eR]
            exact prodR_congr fun j hj => if_neg (ksub j hj)
          rw [e2]
          unfold grow
          dsimp only
          rw [if_pos rfl]
        refine ⟨D, acc, fun j => if j = k then os else S j, _, _, _, _, rfl, s5.trans s6, fresh_of sHL hD, hac, fun j hj => ?_, ?_, ?_⟩
        · rw [et] at hj
          rcases List.mem_append.mp hj with hj | hj
          · show SampOk f j (if j = k then os else S j)
            rw [if_neg (ksub j hj)]; exact hS j hj
          · rw [List.mem_singleton.mp hj]
            show SampOk f k (if k = k then os else S k)
            rw [if_pos rfl]; exact hos
        · rw [e1]
          exact Paired.mapP hRa fun _ _ z => ⟨fresh_of sHL z.1, z.2⟩
        · rw [hRa.len]
          have hr1 : 1 ≤ R.length := by rw [← hR.len]; exact h1a
          obtain ⟨r, hr⟩ : ∃ r, r ∈ R := ⟨R[0], List.getElem_mem _⟩
          obtain ⟨l2, _, _, e⟩ := hos
          have : r ++ [(k, none)] ∈ grow (fun _ => os) R k := List.mem_flatMap.mpr ⟨r, hr, List.mem_map.mpr ⟨none, by rw [e]; exact List.mem_cons_self, rfl⟩⟩
          exact List.length_pos_of_mem this
    · rintro σ H' ⟨pf, as, S, x2, x3, x4, x5, rfl, s5, hpf, hfd, hS, hR, _⟩
      rw [List.length_map, List.take_length] at hS hR
      walk_at "sx"
      refine q H' pf as ks S (s4.trans s5) hpf hfd asc l6 hS hR ?_
      have h := prod_len S 8 ks [[]] fun j hj => (hS j hj).len
      have h2 : 8 ^ ks.length ≤ 8 ^ 6 := Nat.pow_le_pow_right (by decide) l6
      have h3 : (rowsOf S ks).length ≤ [([] : KB.Row)].length * 8 ^ ks.length := h
      rw [List.length_singleton, Nat.one_mul] at h3
      have : (8 : Nat) ^ 6 = 262144 := by decide
      omega


end H68

set_option maxHeartbeats 1000000
namespace H68
open PySem PySem.Spec PyProof.Rows L2 KB
local macro_rules | `(tactic| walk_at "kb1") => `(tactic| with_reducible first
  | refine i_var rfl ?_ | refine i_c ?_ | refine i_cons ?_ | refine i_nil ?_ | refine i_op ?_ | refine i_seq ?_ | refine i_if ?_ | refine i_ret ?_ | refine i_asg ?_ | refine i_name ?_ | refine i_next ?_ | refine i_drop ?_
  | refine i_un ?_ | refine i_cb ?_ | refine i_cal ?_ | refine i_calM ?_ | refine i_test ?_ | refine i_tb ?_ | refine i_k ?_ | refine i_not ?_ | refine i_and ?_ | refine i_or ?_ | refine i_andV ?_ | refine i_orV ?_ | refine i_notV ?_ | refine i_ife ?_
  | refine i_isN ?_ | refine i_notN ?_ | refine i_chain ?_ | refine i_tup ?_ | refine i_lst ?_ | refine i_sl ?_ | refine i_noPart ?_ | refine i_part ?_ | refine i_ik ?_ | refine i_sk ?_ | refine i_bm0 ?_ | refine i_bm ?_ | refine i_m1 ?_ | refine i_m0 ?_ | refine i_fld ?_ | refine i_tru ?_
  | refine i_gC ?_ | refine i_gN ?_ | refine i_for0L ?_ | refine i_for0E ?_ | refine i_for0R ?_ | refine i_lc0L ?_ | refine i_lc0S ?_ | refine i_lc0Z ?_ | refine i_tix ?_ | refine i_lorei ?_ | refine i_js0 ?_ | refine i_xf ?_ | refine i_calR ?_ | refine i_calRS ?_ | refine i_calS ?_ | refine i_for0R3 ?_ | refine i_mak ?_ | refine i_dget ?_ | refine i_din ?_ | refine i_dnotin ?_ | refine i_dput ?_ | refine i_dnewT ?_ | refine i_sub ?_ | refine i_rng1 ?_ | refine i_rng2 ?_ | refine i_rev ?_ | refine i_replC ?_ | refine i_lenset ?_ | refine i_mS ?_ | refine i_js ?_ | refine i_fmt ?_ | refine i_par ?_ | refine i_v2 ?_ | refine i_par3 ?_ | refine i_v3 ?_ | refine i_mkO ?_ | refine i_ost ?_ | refine i_sFld ?_ | refine i_yes ?_ | refine i_dget1 ?_ | refine i_dnewK ?_ | refine i_dpop1 ?_ | refine i_ndnew ?_ | refine i_nget2 ?_ | refine i_nsetd ?_ | refine i_nix ?_ | refine i_nput ?_ | refine i_listItems ?_ | refine i_for0Nv ?_ | refine i_lc0Nk ?_ | refine i_dstar ?_ | refine i_lc20L ?_ | refine i_sp1 ?_ | refine i_sp2 ?_ | refine i_sp3 ?_ | refine i_sp4 ?_)
local macro_rules | `(tactic| walk_at "dr") => `(tactic| first
  | assumption | exact Dr.non | exact Dr.bl _ | exact Dr.int _ | exact Dr.str _ | exact Dr.tup (by assumption) (by assumption) | exact Dr.lst (by assumption) (by assumption) | exact Dr.dic (by assumption) | exact Im.dr (by assumption))
local macro_rules | `(tactic| walk_at "if") => `(tactic| first
  | ((with_reducible refine i_iT ?_ ?_); · rfl) | ((with_reducible refine i_iF ?_ ?_); · rfl))
local macro_rules | `(tactic| walk_at "isi") => `(tactic| ((with_reducible show rIsiU _ _ _ _); first
  | (with_reducible refine j_isTup (by walk_at "dr") ?_) | (with_reducible refine j_isLst (by walk_at "dr") ?_) | (with_reducible refine j_isStr (by walk_at "dr") ?_)
  | (with_reducible refine j_isBl (by walk_at "dr") ?_) | (with_reducible refine j_isInt (by walk_at "dr") ?_)))
local macro_rules | `(tactic| walk_at "op") => `(tactic| with_reducible first
  | refine i_rI0 ?_ | refine i_addI ?_ | refine i_rU ?_ | refine i_ltI ?_ | refine i_inC ?_ | refine i_notInC ?_ | refine i_intI ?_ | refine i_intB ?_ | refine i_abs ?_ | refine i_max2 ?_ | refine i_min2 ?_ | refine i_isBl ?_
  | (refine i_eqS rfl ?_) | (refine i_neS rfl ?_))
local macro_rules | `(tactic| walk_at "wp") => `(tactic| ((with_reducible refine i_wp ?_ ?_); · rfl))
local macro_rules | `(tactic| walk_at "sx") => `(tactic| repeat first | walk_at "kb1" | walk_at "if" | walk_at "isi" | walk_at "op" | walk_at "wp")
local macro_rules | `(tactic| walk_at "cd") => `(tactic| refine ⟨_, (by walk_at "dr"), ?_⟩)
local macro_rules | `(tactic| walk_at "len") => `(tactic| (simp only [List.length_cons, List.length_nil]; decide))
local macro_rules | `(tactic| walk_at "ic") => `(tactic| first
  | ((with_reducible refine i_iT ?_ ?_); · first | with_reducible rfl | (simp only [Bool.not_true, Bool.not_false, isTupD, isLstD, isStrD, isBlD, isIntD, isSeqD]; done))
  | ((with_reducible refine i_iF ?_ ?_); · first | with_reducible rfl | (simp only [Bool.not_true, Bool.not_false, isTupD, isLstD, isStrD, isBlD, isIntD, isSeqD]; done)))
local macro_rules | `(tactic| walk_at "sy") => `(tactic| repeat first | walk_at "kb1" | walk_at "ic" | walk_at "isi" | walk_at "op" | walk_at "wp")
theorem sc_telling_pair : FnScope ["formula", "key", "by_others", "row", "rest", "rows", "true", "false", "name"] ["formula", "key"] (defScope s_telling_pair) := ⟨rfl, rfl, rfl, by decide +kernel, rfl, by decide +kernel, by decide +kernel⟩
theorem ok_telling_pair {P : Program} {w : World} {K : PySem.W.Frag} {mg : Str → Option Value} {base : Heap} (T : Tx K mg)
    (C_is_true : Cn P w K mg base 9 (He.fAd K ("is_true", none)) ["formula", "readings"] (sp_is_true K))
    (C_rows_of : Cn P w K mg base 4 (He.fAd K ("rows_of", none)) ["formula"] (sp_rows_of K)) :
    Cn P w K mg base 10 (He.fAd K ("telling_pair", none)) ["formula", "key"] (sp_telling_pair K) := by
  refine cnN (d := d_telling_pair) T.st_telling_pair sc_telling_pair sp2_len (fun _ _ _ _ _ _ us hl => match us, hl with | [_, _], _ => rfl) (fun cdv A outer s H vs Q E hr h => ?_)
  obtain ⟨v_formula, v_key, rfl, h⟩ := h
  refine ⟨_, (pss_cons (ps_set (i := 2) sc_telling_pair.nd rfl (.inl rfl) (pe_ndnew (P := P) (w := w) rfl rfl))
  (pss_cons (ps_for PassesOwn.never rfl (w_list (K := K) rfl (pe_cn C_rows_of hr (by decide) (by rfl) T.g_rows_of passN (pa_cons (pv 0) pa_nil))) (pg_name (i := 3) sc_telling_pair.nd rfl (.inr rfl))
  (pss_cons (ps_set (i := 4) sc_telling_pair.nd rfl (.inl rfl) (pe_callTy (c_tuple (K := K) rfl) (by rfl) T.f_tuple (by decide +kernel) (pa_cons (pe_lc (own := [("name", 8)]) (g := (gName 8)) rfl sc_telling_pair.nd (w_list (K := K) rfl (pe_callB (c_sortD rfl) (by rfl) T.f_sorted (by decide +kernel) (pa_cons (pv 3) pa_nil))) (blkOk_by (own := [("name", 8)]) (N := ["formula", "key", "by_others", "row", "rest", "rows", "true", "false", "name"]) (sc := defScope s_telling_pair) (by decide +kernel)) (fun _ _ _ _ _ => (pg_name (i := 8) sc_telling_pair.nd rfl (by first | exact Or.inl rfl | exact Or.inr rfl))) (fun _ _ _ _ _ => (pts_one (pt_cmpR (o_ne (K := K) rfl hr.units) (pv 8) (pv 1) (by rfl)))) (fun _ _ _ _ _ => (pe_tup (pa_cons (pv 8) (pa_cons (pe_dget (rU1 hr) (pv 3) (pv 8) (fun _ _ => rfl)) pa_nil))))) pa_nil)))
  (pss_one (ps_expr (e_append (K := K) rfl (pe_nsetd (P := P) (w := w) rfl rfl hr.units (pv 2) (pv 4) (pe_lst pa_nil) ⟨by rfl, by rfl, by rfl, by rfl⟩) (pv 3))))))
  (pss_cons (ps_lock (ps_for PassesOwn.never rfl (pi_nvals (P := P) (w := w) rfl rfl (pv 2)) (pg_name (i := 5) sc_telling_pair.nd rfl (.inl rfl))
  (pss_cons (ps_setLc (i := 6) (own := [("row", 3)]) (g := (gName 3)) rfl sc_telling_pair.nd rfl rfl (sw_true rfl rfl rfl (by decide +kernel)) (w_list (K := K) rfl (pv 5)) (blkOk_by (own := [("row", 3)]) (N := ["formula", "key", "by_others", "row", "rest", "rows", "true", "false", "name"]) (sc := defScope s_telling_pair) (by decide +kernel)) (fun _ _ _ _ _ => (pg_name (i := 3) sc_telling_pair.nd rfl (by first | exact Or.inl rfl | exact Or.inr rfl))) (fun _ _ _ _ _ => (pts_one (pt_val (pe_cn C_is_true hr (by decide) (by rfl) T.g_is_true passN (pa_cons (pv 0) (pa_cons (pv 3) pa_nil)))))) (fun _ _ _ _ _ => (pv 3)))
  (pss_cons (ps_setLc (i := 7) (own := [("row", 3)]) (g := (gName 3)) rfl sc_telling_pair.nd rfl rfl (sw_true rfl rfl rfl (by decide +kernel)) (w_list (K := K) rfl (pv 5)) (blkOk_by (own := [("row", 3)]) (N := ["formula", "key", "by_others", "row", "rest", "rows", "true", "false", "name"]) (sc := defScope s_telling_pair) (by decide +kernel)) (fun _ _ _ _ _ => (pg_name (i := 3) sc_telling_pair.nd rfl (by first | exact Or.inl rfl | exact Or.inr rfl))) (fun _ _ _ _ _ => (pts_one (pt_not (pt_val (pe_cn C_is_true hr (by decide) (by rfl) T.g_is_true passN (pa_cons (pv 0) (pa_cons (pv 3) pa_nil))))))) (fun _ _ _ _ _ => (pv 3)))
  (pss_one (ps_if (PW.pt (pw_and (pt_cmpR (o_neN (K := K) rfl hr.units0) (pv 6) (pe_lst pa_nil) (by rfl)) (pw_and1 (pt_cmpR (o_neN (K := K) rfl hr.units0) (pv 7) (pe_lst pa_nil) (by rfl))))) (pss_one (ps_ret (pe_tup (pa_cons (pe_ix (x_seq (K := K) rfl) (pv 6) pe_int (fun _ _ => rfl)) (pa_cons (pe_ix (x_seq (K := K) rfl) (pv 7) pe_int (fun _ _ => rfl)) pa_nil))))) pss_nil))))))
  (pss_one (ps_ret pe_non))))), ?_⟩
  rw [show start ["formula", "key", "by_others", "row", "rest", "rows", "true", "false", "name"] [v_formula, v_key] = [some v_formula, some v_key, none, none, none, none, none, none, none] from rfl]
  obtain ⟨f, s, hf, hk, rfl, hs, q⟩ := h
  walk_at "sx"
  intro pb hpb
  have sb := Same.new (o := NO P w pb []) hpb
  have fb : upd H pb (NO P w pb []) pb = _ := upd_same
  generalize upd H pb (NO P w pb []) = H0 at sb fb ⊢
  walk_at "sx"
  refine ⟨f, hf.mono (Same.tq sb), hk, fun H1 p1 as ks S s1 hp1 f1 asc l6 hS hR hRl => ?_⟩
  have hfull : Full f S ks := fun k hk o => (hS k hk).full o
  generalize eR : rowsOf S ks = R at hR hRl
  have hRk : ∀ r ∈ R, r.map (·.1) = ks := fun r hr => (mem_rows.mp (by rw [eR]; exact hr)).1
  have hlen := hR.len
  have f1b := s1 _ _ fb
  generalize ekf : (fun j : Nat => match R[j]? with | some r => restP (ks.filter fun j => decide (j ≠ s)) r | none => NestedKey.none) = kf
  have hkf : ∀ {j : Nat} {r : KB.Row}, R[j]? = some r → kf j = restP (ks.filter fun j => decide (j ≠ s)) r := fun {j r} h => by rw [← ekf]; show (match R[j]? with | some r => restP (ks.filter fun j => decide (j ≠ s)) r | none => NestedKey.none) = _; rw [h]
  clear ekf
  refine i_forL (fun i σ H' => ∃ (xs : NX) (x3 x4 x8 : Option V), σ = [some v_formula, some (.str s), some (.ref pb), x3, x4, none, none, none, x8] ∧ H' pb = some (NO P w pb xs) ∧ SameBut pb H1 H' ∧ Same H H' ∧ Grp H1 H' as kf i xs) (.inl (.inl f1)) ?_ ?_ ?_ ?_
  · exact ⟨[], _, _, _, rfl, f1b, SameBut.refl _ _, sb.trans s1, Grp.nil⟩
  · rintro i σ H' _ ⟨xs, x3, x4, x8, rfl, hx, sB, sH, g⟩
    have ne : p1 ≠ pb := fun e => by rw [e, f1b] at f1; cases f1
    exact .inl (.inl (sB _ _ ne f1))
  · rintro i x σ HL hx ⟨xs, x3, x4, x8, rfl, hpbL, sB, sH, g⟩
    rw [List.getElem?_map] at hx
    obtain ⟨a, hai, rfl⟩ := Option.map_eq_some_iff.mp hx
    obtain ⟨r, hri, hn, kvs, hkv1, hrow1⟩ := hR.get hai
    have hi : i < as.length := (List.getElem?_eq_some_iff.mp hai).1
    have na : a ≠ pb := fun e => by rw [e, f1b] at hkv1; cases hkv1
    have tqL : Tq H1 HL := fun b ys h => sB b _ (fun e => by rw [e, f1b] at h; cases h) h
    have hkv := sB _ _ na hkv1
    have hrow := hrow1.mono tqL
    have hrk := hRk r (List.mem_of_getElem? hri)
    walk_at "sx"
    refine ⟨a, kvs, ks, rfl, .inl hkv, by rw [hrow.keys, hrk], by omega, fun ys p2 perm so hp2 => ?_⟩
    cases sorted_self asc.so so perm
    have s2 := Same.new (o := .lst (ks.map V.str)) hp2
    have f2 : upd HL p2 (.lst (ks.map V.str)) p2 = _ := upd_same
    generalize upd HL p2 (.lst (ks.map V.str)) = H2 at s2 f2 ⊢
    refine i_lcL (strP fun j => decide (j ≠ s)) (fun d => match d with | .str j => .tuple [.str j, rdgD (look r j)] | _ => .none) (.inl (.inl f2)) (imS ks) (by rw [List.length_map, sizeLine_eq]; omega) (fun D hD m x d H3 ed ix s3 N no yes => ?_) (fun D H3 ys hD s3 hy im => ?_)
    · rw [List.getElem?_map] at ed
      obtain ⟨j, hj, rfl⟩ := Option.map_eq_some_iff.mp ed
      cases ix
      walk_at "sx"
      have ej : (!decide (V.str j = V.str s)) = decide (j ≠ s) := by
        rw [Bool.eq_iff_iff]
        simp
      refine i_i2 (fun e1 => ?_) (fun e1 => ?_)
      · walk_at "sx"
        have hkv3 := s3 _ _ (s2 _ _ hkv)
        obtain ⟨im1, is1⟩ := (hrow.mono (Same.tq (s2.trans s3))).val j
        obtain ⟨v, hv⟩ := Option.isSome_iff_exists.mp (is1.mpr (by rw [hrk]; exact List.mem_of_getElem? hj))
        rw [hv] at im1
        refine ⟨a, v, rfl, by rw [← hv]; exact DGet.k (k := .inr j) hkv3, ?_⟩
        walk_at "sx"
        refine ⟨by walk_at "len", fun p3 hp3 => ?_⟩
        exact yes (ej.symm.trans e1) _ _ (Same.new hp3) (.tup upd_same (.cons (.str _) (.one (Im.mono (Same.tq (Same.new hp3)) im1))))
      · exact no (ej.symm.trans e1) _ (fun _ _ e => e)
    · walk_at "sx"
      rw [filter_map_strs] at im
      refine i_tupL (.inl (.inl hy)) fun pr hpr => ?_
      have s4 := Same.new (o := .tup ys) hpr
      have f4 : upd H3 pr (.tup ys) pr = _ := upd_same
      have im4 := im.mono (Same.tq s4)
      generalize upd H3 pr (.tup ys) = H4 at s4 f4 im4 ⊢
      have sL := (s2.trans s3).trans s4
      have hisn : IsN H4 (kf i) (.ref pr) := by
        rw [hkf hri]
        exact .tup f4 (isN_pairs im4)
      have hdep : (kf i).depth ≤ 8 := by rw [hkf hri]; exact restP_depth _ _
      have hpb4 := sL _ _ hpbL
      have g4 := g.same sL
      walk_at "sx"
      refine ⟨pb, xs, rfl, .inl hpb4, ?_⟩
      walk_at "sx"
      refine ⟨by walk_at "len", fun pl hpl => ?_⟩
      have s5 := Same.new (o := .lst []) hpl
      have f5 : upd H4 pl (.lst []) pl = _ := upd_same
      have hn5 : ∀ x ∈ xs, x.2.2 ≠ .ref pl := fun x hx e => by
        obtain ⟨p, ms, ep, _, hp, _⟩ := g4.vals x hx
        rw [ep] at e
        cases V.ref.inj e
        rw [hp] at hpl; cases hpl
      have g5 := g4.same s5
      have hpb5 := s5 _ _ hpb4
      have hisn5 := hisn.mono (Same.tq s5)
      have sL5 := sL.trans s5
      have hpl1 : H1 pl = none := by
        cases e : H1 pl with
        | none => rfl
        | some o =>
          have ne : pl ≠ pb := fun e2 => by rw [e2, hpb4] at hpl; cases hpl
          have := sL _ _ (sB _ _ ne e)
          rw [this] at hpl; cases hpl
      generalize upd H4 pl (.lst []) = H5 at s5 f5 g5 hpb5 hisn5 sL5 ⊢
      have hll := g.len
      refine ⟨xs, kf i, pr, rfl, hpb5, g5.ks, hisn5, hdep, by rw [sizeLine_eq]; omega, fun v hv => ?_, fun hv => ?_⟩
      · obtain ⟨p, ms, rfl, hp0, hp, hml, gN⟩ := g5.old hai hv
        have np : p ≠ pb := fun e => by rw [e, hpb5] at hp; cases hp
        refine ⟨ty_list (.inl (.inl hp)), ?_⟩
        walk_at "sx"
        refine i_append hp (by rw [List.length_map, sizeLine_eq]; omega) ?_
        walk_at "sx"
        refine ⟨xs, _, _, _, rfl, by rw [upd_ne (Ne.symm np)]; exact hpb5, ?_, Same.put (sH.trans sL5) (fresh_of (sb.trans s1) hp0), gN⟩
        exact SameBut.put (sB.trans (Same.but sL5)) hp0
      · have npl : pl ≠ pb := fun e => by rw [e, hpb5] at f5; cases f5
        have f6 : upd H5 pb (NO P w pb (stV xs (kf i) pr (.ref pl))) pl = some (.lst []) := by rw [upd_ne npl]; exact f5
        have tq6 : Tq H5 (upd H5 pb (NO P w pb (stV xs (kf i) pr (.ref pl)))) := fun b ys h => by rw [upd_ne fun e => by rw [e, hpb5] at h; cases h]; exact h
        have g6 := (g5.upd (o := NO P w pb (stV xs (kf i) pr (.ref pl))) hpb5 (fun _ e => by cases e) (fun _ e => by cases e)).more (b := pr) hai hv f6 hpl1 hn5 (hisn5.mono tq6) hdep
        refine ⟨ty_list (.inl (.inl f6)), ?_⟩
        walk_at "sx"
        refine i_append f6 (by rw [sizeLine_eq]; simp) ?_
        walk_at "sx"
        refine ⟨_, _, _, _, rfl, by rw [upd_ne (Ne.symm npl)]; exact upd_same, ?_, Same.put (Same.put (sH.trans sL5) hpb) (fresh_of (sb.trans s1) hpl1), g6⟩
        refine SameBut.put ?_ hpl1
        intro c o hc e
        rw [upd_ne hc]
        exact sL5 _ _ (sB _ _ hc e)
  · rintro σ HL ⟨xs, x3, x4, x8, rfl, hpbL, sB, sH, g⟩
    rw [List.length_map] at g
    walk_at "sx"
    refine ⟨pb, _, hpbL, trivial, fun od => ?_⟩
    have gF := g.upd (o := .frz od (NO P w pb xs)) hpbL (fun _ e => by cases e) (fun _ e => by cases e)
    have sF : SameBut pb H1 (upd HL pb (.frz od (NO P w pb xs))) := fun c o hc e => by rw [upd_ne hc]; exact sB _ _ hc e
    have sHF : Same H (upd HL pb (.frz od (NO P w pb xs))) := Same.put sH hpb
    have fF : upd HL pb (.frz od (NO P w pb xs)) pb = some (.frz od (NO P w pb xs)) := upd_same
    generalize upd HL pb (.frz od (NO P w pb xs)) = HF at gF sF sHF fF ⊢
    walk_at "sx"
    refine i_forNv (fun i σ H' => ∃ (x3 x4 x5 x6 x7 x8 : Option V), σ = [some v_formula, some (.str s), some (.ref pb), x3, x4, x5, x6, x7, x8] ∧ Same HF H' ∧
      ∀ m x, m < i → xs[m]? = some x → ¬ ∃ r1 ∈ R, ∃ r2 ∈ R, restP (ks.filter fun j => decide (j ≠ s)) r1 = x.1 ∧ restP (ks.filter fun j => decide (j ≠ s)) r2 = x.1 ∧ f.ev (look r1) = true ∧ f.ev (look r2) = false) fF ?_ ?_ ?_ ?_
    · exact ⟨_, _, _, _, _, _, rfl, fun _ _ e => e, fun m x hm => absurd hm (Nat.not_lt_zero _)⟩
    · rintro i σ H' ⟨x3, x4, x5, x6, x7, x8, rfl, s6, _⟩
      exact s6 _ _ fF
    · rintro i x σ HT hx ⟨x3, x4, x5, x6, x7, x8, rfl, s6, hno⟩
      obtain ⟨p, ms, ep, hp0, hpF, hml, hmem⟩ := gF.vals x (List.mem_of_getElem? hx)
      have hpT := s6 _ _ hpF
      have sT : SameBut pb H1 HT := sF.trans (Same.but s6)
      have tqT : Tq H1 HT := fun b ys h => sT b _ (fun e => by rw [e, f1b] at h; cases h) h
      have sHT := sHF.trans s6
      have fT := s6 _ _ fF
      have hil := gF.len
      rw [ep]
      walk_at "sx"
      refine i_lcP (xs := ms.map V.ref) (fun D j H'' => Same HT H'' ∧ ∃ acc : List Addr, H'' D = some (.lst (acc.map V.ref)) ∧ acc.length ≤ j ∧ (∀ b ∈ acc, ∃ r ∈ R, restP (ks.filter fun j => decide (j ≠ s)) r = x.1 ∧ f.ev (look r) = true) ∧
        (∀ a ∈ ms.take j, ∀ r, RowAt H1 a r → f.ev (look r) = true → acc ≠ [])) (.inl (.inl hpT)) ?_ ?_ ?_ ?_
      · intro D hD
        exact ⟨Same.new hD, [], upd_same, Nat.le_refl _, (fun _ h => (List.not_mem_nil h).elim), fun a ha => by simp at ha⟩
      · rintro D j H'' hD ⟨s7, _⟩
        exact .inl (.inl (s7 _ _ hpT))
      · rintro D j y H'' hD hy ⟨s7, acc, hac, hal, hin, hcp⟩
        rw [List.getElem?_map] at hy
        obtain ⟨a, haj, rfl⟩ := Option.map_eq_some_iff.mp hy
        obtain ⟨m, hm, hma, hmk⟩ := hmem a (List.mem_of_getElem? haj)
        obtain ⟨r, hrm, _, hra⟩ := hR.get hma
        have hjl : j < ms.length := (List.getElem?_eq_some_iff.mp haj).1
        have hrest : restP (ks.filter fun j => decide (j ≠ s)) r = x.1 := by rw [← hkf hrm]; exact hmk
        walk_at "sx"
        have na : a ≠ pb := fun e => by obtain ⟨kvs, e1, _⟩ := hra; rw [e, f1b] at e1; cases e1
        have hra7 : RowAt H'' a r := by
          obtain ⟨kvs, e1, e2⟩ := hra
          exact ⟨kvs, s7 _ _ (sT _ _ na e1), e2.mono (Tq.trans tqT (Same.tq s7))⟩
        have hlv := hk.lev
        refine ⟨f, look r, a, hf.mono (Same.tq (sHT.trans s7)), by omega, rfl, hra7.drho _, fun H8 s8 => ?_⟩
        walk_at "sx"
        have et : ms.take (j + 1) = ms.take j ++ [a] := take_succ_get haj
        refine i_i2 (fun e1 => ?_) (fun e1 => ?_)
        · walk_at "sx"
          refine ⟨_, s8 _ _ hac, by rw [List.length_map, sizeLine_eq]; omega, Same.put (s7.trans s8) hD, acc ++ [a], by rw [List.map_append]; exact upd_same, by simp; omega, fun b hb => ?_, fun a' ha' r' hr' he' => by simp⟩
          rcases List.mem_append.mp hb with hb | hb
          · exact hin b hb
          · exact ⟨r, List.mem_of_getElem? hrm, hrest, e1⟩
        · refine ⟨s7.trans s8, acc, s8 _ _ hac, by omega, hin, fun a' ha' r' hr' he' => ?_⟩
          rw [et] at ha'
          rcases List.mem_append.mp ha' with ha' | ha'
          · exact hcp a' ha' r' hr' he'
          · rw [List.mem_singleton.mp ha'] at hr'
            rw [hr'.uniq hra] at he'
            rw [he'] at e1; cases e1
      rintro D1 H7 hD1 ⟨s7, acc1, hac1, hal1, hin1, hcp1⟩
      rw [List.length_map, List.take_length] at hcp1
      have hp7 := s7 _ _ hpT
      have sT7 : SameBut pb H1 H7 := sT.trans (Same.but s7)
      have tqT7 := Tq.trans tqT (Same.tq s7)
      have sHT7 := sHT.trans s7
      walk_at "sx"
      refine i_lcP (xs := ms.map V.ref) (fun D j H'' => Same H7 H'' ∧ ∃ acc : List Addr, H'' D = some (.lst (acc.map V.ref)) ∧ acc.length ≤ j ∧ (∀ b ∈ acc, ∃ r ∈ R, restP (ks.filter fun j => decide (j ≠ s)) r = x.1 ∧ f.ev (look r) = false) ∧
        (∀ a ∈ ms.take j, ∀ r, RowAt H1 a r → f.ev (look r) = false → acc ≠ [])) (.inl (.inl hp7)) ?_ ?_ ?_ ?_
      · intro D hD
        exact ⟨Same.new hD, [], upd_same, Nat.le_refl _, (fun _ h => (List.not_mem_nil h).elim), fun a ha => by simp at ha⟩
      · rintro D j H'' hD ⟨s9, _⟩
        exact .inl (.inl (s9 _ _ hp7))
      · rintro D j y H'' hD hy ⟨s9, acc, hac, hal, hin, hcp⟩
        rw [List.getElem?_map] at hy
        obtain ⟨a, haj, rfl⟩ := Option.map_eq_some_iff.mp hy
        obtain ⟨m, hm, hma, hmk⟩ := hmem a (List.mem_of_getElem? haj)
        obtain ⟨r, hrm, _, hra⟩ := hR.get hma
        have hjl : j < ms.length := (List.getElem?_eq_some_iff.mp haj).1
        have hrest : restP (ks.filter fun j => decide (j ≠ s)) r = x.1 := by rw [← hkf hrm]; exact hmk
        walk_at "sx"
        have na : a ≠ pb := fun e => by obtain ⟨kvs, e1, _⟩ := hra; rw [e, f1b] at e1; cases e1
        have hra7 : RowAt H'' a r := by
          obtain ⟨kvs, e1, e2⟩ := hra
          exact ⟨kvs, s9 _ _ (sT7 _ _ na e1), e2.mono (Tq.trans tqT7 (Same.tq s9))⟩
        have hlv := hk.lev
        refine ⟨f, look r, a, hf.mono (Same.tq (sHT7.trans s9)), by omega, rfl, hra7.drho _, fun H8 s10 => ?_⟩
        walk_at "sx"
        have et : ms.take (j + 1) = ms.take j ++ [a] := take_succ_get haj
        refine i_i2 (fun e1 => ?_) (fun e1 => ?_)
        · walk_at "sx"
          refine ⟨_, s10 _ _ hac, by rw [List.length_map, sizeLine_eq]; omega, Same.put (s9.trans s10) hD, acc ++ [a], by rw [List.map_append]; exact upd_same, by simp; omega, fun b hb => ?_, fun a' ha' r' hr' he' => by simp⟩
          rcases List.mem_append.mp hb with hb | hb
          · exact hin b hb
          · exact ⟨r, List.mem_of_getElem? hrm, hrest, by simpa using e1⟩
        · refine ⟨s9.trans s10, acc, s10 _ _ hac, by omega, hin, fun a' ha' r' hr' he' => ?_⟩
          rw [et] at ha'
          rcases List.mem_append.mp ha' with ha' | ha'
          · exact hcp a' ha' r' hr' he'
          · rw [List.mem_singleton.mp ha'] at hr'
            rw [hr'.uniq hra] at he'
            rw [he'] at e1; cases e1
      rintro D2 H8 hD2 ⟨s8, acc2, hac2, hal2, hin2, hcp2⟩
      rw [List.length_map, List.take_length] at hcp2
      walk_at "sx"
      refine ⟨by walk_at "len", fun pe hpe => ?_⟩
      have se := Same.new (o := .lst []) hpe
      refine ⟨D1, pe, _, rfl, rfl, .inl (.inl (se _ _ (s8 _ _ hac1))), .inl (.inl upd_same), ?_⟩
      have nxt : ∀ (Hx : Hp), Same H8 Hx → ¬ (acc1 ≠ [] ∧ acc2 ≠ []) → ∀ m y, m < i + 1 → xs[m]? = some y → ¬ ∃ r1 ∈ R, ∃ r2 ∈ R, restP (ks.filter fun j => decide (j ≠ s)) r1 = y.1 ∧ restP (ks.filter fun j => decide (j ≠ s)) r2 = y.1 ∧ f.ev (look r1) = true ∧ f.ev (look r2) = false := by
        intro Hx _ hnb m y hm hy
        rcases Nat.lt_or_ge m i with h | h
        · exact hno m y h hy
        · have : m = i := by omega
          subst this
          rw [hx] at hy
          cases hy
          rintro ⟨r1, h1, r2, h2, e1, e2, v1, v2⟩
          have find : ∀ r ∈ R, restP (ks.filter fun j => decide (j ≠ s)) r = x.1 → ∃ a ∈ ms, RowAt H1 a r := by
            intro r hr er
            obtain ⟨j, hj, ej⟩ := List.mem_iff_getElem.mp hr
            have hj2 : R[j]? = some r := by rw [List.getElem?_eq_getElem hj, ej]
            have haj : as[j]? = some (as[j]'(by omega)) := List.getElem?_eq_getElem (by omega)
            obtain ⟨r', hr', _, hra⟩ := hR.get haj
            rw [hj2] at hr'
            cases hr'
            obtain ⟨y, hy, ey, hyp⟩ := gF.all j _ (by omega) haj
            have : y = x := gF.inj y hy x (List.mem_of_getElem? hx) (by rw [ey, hkf hj2, er])
            subst this
            have hm2 := hyp p _ ep hpF
            obtain ⟨b, hb, eb⟩ := List.mem_map.mp hm2
            cases V.ref.inj eb
            exact ⟨_, hb, hra⟩
          obtain ⟨a1, ha1, hr1⟩ := find r1 h1 e1
          obtain ⟨a2, ha2, hr2⟩ := find r2 h2 e2
          exact hnb ⟨hcp1 a1 ha1 r1 hr1 v1, hcp2 a2 ha2 r2 hr2 v2⟩
      have sE : Same HF (upd H8 pe (.lst [])) := ((s6.trans s7).trans s8).trans se
      refine ⟨_, rfl, ?_⟩
      refine i_i2 (fun n1 => ?_) (fun n1 => ?_)
      · walk_at "sx"
        refine ⟨by walk_at "len", fun pe2 hpe2 => ?_⟩
        have se2 := se.trans (Same.new (o := .lst []) hpe2)
        have sE2 := sE.trans (Same.new (o := .lst []) hpe2)
        refine ⟨D2, pe2, _, rfl, rfl, .inl (.inl (se2 _ _ hac2)), .inl (.inl upd_same), ?_⟩
        refine ⟨_, rfl, ?_⟩
        refine i_i2 (fun n2 => ?_) (fun n2 => ?_)
        · cases acc1 with
          | nil => cases n1
          | cons b1 c1 =>
          cases acc2 with
          | nil => cases n2
          | cons b2 c2 =>
          walk_at "sx"
          refine i_ixL (.inl (.inl (se2 _ _ (s8 _ _ hac1)))) at_0 ?_
          walk_at "sx"
          refine i_ixL (.inl (.inl (se2 _ _ hac2))) at_0 ?_
          walk_at "sx"
          refine ⟨by walk_at "len", fun pt hpt => ?_⟩
          have sE3 := sE2.trans (Same.new (o := .tup [.ref b1, .ref b2]) hpt)
          obtain ⟨r1, h1, e1, v1⟩ := hin1 b1 List.mem_cons_self
          obtain ⟨r2, h2, e2, v2⟩ := hin2 b2 List.mem_cons_self
          have mt : Mt f s := (pair_mt hfull (fun k hk => (asc.mem k).mpr hk) s).mp (by
            rw [eR]
            exact ⟨r1, h1, r2, h2, (alike (hRk r1 h1) (hRk r2 h2)).mpr (restP_eq.mp (e1.trans e2.symm)), v1, v2⟩)
          exact ⟨sE3 _ _ fF, q _ _ (Same.put (sHF.trans sE3) hpb) (fun _ => ⟨pt, rfl⟩) (fun h => absurd mt h)⟩
        · walk_at "sx"
          exact ⟨_, _, _, _, _, _, rfl, sE2, nxt _ se2 fun h => by cases acc2 with
            | nil => exact h.2 rfl
            | cons b c => cases n2⟩
      · walk_at "sx"
        exact ⟨_, _, _, _, _, _, rfl, sE, nxt _ se fun h => by cases acc1 with
          | nil => exact h.1 rfl
          | cons b c => cases n1⟩
    · rintro σ HT ⟨x3, x4, x5, x6, x7, x8, rfl, s6, hno⟩
      refine ⟨s6 _ _ fF, ?_⟩
      walk_at "sx"
      have nmt : ¬ Mt f s := by
        intro hm
        obtain ⟨r1, h1, r2, h2, al, v1, v2⟩ := (pair_mt hfull (fun k hk => (asc.mem k).mpr hk) s).mpr hm
        rw [eR] at h1 h2
        have er := restP_eq.mpr ((alike (hRk r1 h1) (hRk r2 h2)).mp al)
        obtain ⟨j, hj, ej⟩ := List.mem_iff_getElem.mp h1
        have hj2 : R[j]? = some r1 := by rw [List.getElem?_eq_getElem hj, ej]
        have haj : as[j]? = some (as[j]'(by omega)) := List.getElem?_eq_getElem (by omega)
        obtain ⟨y, hy, ey, _⟩ := gF.all j _ (by omega) haj
        rw [hkf hj2] at ey
        obtain ⟨m, hm, em⟩ := List.mem_iff_getElem.mp hy
        exact hno m y hm (by rw [List.getElem?_eq_getElem hm, em]) ⟨r1, h1, r2, h2, ey.symm, er.symm.trans ey.symm, v1, v2⟩
      exact q _ _ (Same.put (sHF.trans s6) hpb) (fun h => absurd h nmt) (fun _ => rfl)


end H68

set_option maxHeartbeats 1000000
namespace H68
open PySem PySem.Spec PyProof.Rows L2 KB
local macro_rules | `(tactic| walk_at "kb1") => `(tactic| with_reducible first
  | refine i_var rfl ?_ | refine i_c ?_ | refine i_cons ?_ | refine i_nil ?_ | refine i_op ?_ | refine i_seq ?_ | refine i_if ?_ | refine i_ret ?_ | refine i_asg ?_ | refine i_name ?_ | refine i_next ?_ | refine i_drop ?_
  | refine i_un ?_ | refine i_cb ?_ | refine i_cal ?_ | refine i_calM ?_ | refine i_test ?_ | refine i_tb ?_ | refine i_k ?_ | refine i_not ?_ | refine i_and ?_ | refine i_or ?_ | refine i_andV ?_ | refine i_orV ?_ | refine i_notV ?_ | refine i_ife ?_
  | refine i_isN ?_ | refine i_notN ?_ | refine i_chain ?_ | refine i_tup ?_ | refine i_lst ?_ | refine i_sl ?_ | refine i_noPart ?_ | refine i_part ?_ | refine i_ik ?_ | refine i_sk ?_ | refine i_bm0 ?_ | refine i_bm ?_ | refine i_m1 ?_ | refine i_m0 ?_ | refine i_fld ?_ | refine i_tru ?_
  | refine i_gC ?_ | refine i_gN ?_ | refine i_for0L ?_ | refine i_for0E ?_ | refine i_for0R ?_ | refine i_lc0L ?_ | refine i_lc0S ?_ | refine i_lc0Z ?_ | refine i_tix ?_ | refine i_lorei ?_ | refine i_js0 ?_ | refine i_xf ?_ | refine i_calR ?_ | refine i_calRS ?_ | refine i_calS ?_ | refine i_for0R3 ?_ | refine i_mak ?_ | refine i_dget ?_ | refine i_din ?_ | refine i_dnotin ?_ | refine i_dput ?_ | refine i_dnewT ?_ | refine i_sub ?_ | refine i_rng1 ?_ | refine i_rng2 ?_ | refine i_rev ?_ | refine i_replC ?_ | refine i_lenset ?_ | refine i_mS ?_ | refine i_js ?_ | refine i_fmt ?_ | refine i_par ?_ | refine i_v2 ?_ | refine i_par3 ?_ | refine i_v3 ?_ | refine i_mkO ?_ | refine i_ost ?_ | refine i_sFld ?_ | refine i_yes ?_ | refine i_dget1 ?_ | refine i_dnewK ?_ | refine i_dpop1 ?_ | refine i_ndnew ?_ | refine i_nget2 ?_ | refine i_nsetd ?_ | refine i_nix ?_ | refine i_nput ?_ | refine i_listItems ?_ | refine i_for0Nv ?_ | refine i_lc0Nk ?_ | refine i_dstar ?_ | refine i_lc20L ?_ | refine i_sp1 ?_ | refine i_sp2 ?_ | refine i_sp3 ?_ | refine i_sp4 ?_)
local macro_rules | `(tactic| walk_at "dr") => `(tactic| first
  | assumption | exact Dr.non | exact Dr.bl _ | exact Dr.int _ | exact Dr.str _ | exact Dr.tup (by assumption) (by assumption) | exact Dr.lst (by assumption) (by assumption) | exact Dr.dic (by assumption) | exact Im.dr (by assumption))
local macro_rules | `(tactic| walk_at "if") => `(tactic| first
  | ((with_reducible refine i_iT ?_ ?_); · rfl) | ((with_reducible refine i_iF ?_ ?_); · rfl))
local macro_rules | `(tactic| walk_at "isi") => `(tactic| ((with_reducible show rIsiU _ _ _ _); first
  | (with_reducible refine j_isTup (by walk_at "dr") ?_) | (with_reducible refine j_isLst (by walk_at "dr") ?_) | (with_reducible refine j_isStr (by walk_at "dr") ?_)
  | (with_reducible refine j_isBl (by walk_at "dr") ?_) | (with_reducible refine j_isInt (by walk_at "dr") ?_)))
local macro_rules | `(tactic| walk_at "op") => `(tactic| with_reducible first
  | refine i_rI0 ?_ | refine i_addI ?_ | refine i_rU ?_ | refine i_ltI ?_ | refine i_inC ?_ | refine i_notInC ?_ | refine i_intI ?_ | refine i_intB ?_ | refine i_abs ?_ | refine i_max2 ?_ | refine i_min2 ?_ | refine i_isBl ?_
  | (refine i_eqS rfl ?_) | (refine i_neS rfl ?_))
local macro_rules | `(tactic| walk_at "wp") => `(tactic| ((with_reducible refine i_wp ?_ ?_); · rfl))
local macro_rules | `(tactic| walk_at "sx") => `(tactic| repeat first | walk_at "kb1" | walk_at "if" | walk_at "isi" | walk_at "op" | walk_at "wp")
local macro_rules | `(tactic| walk_at "cd") => `(tactic| refine ⟨_, (by walk_at "dr"), ?_⟩)
local macro_rules | `(tactic| walk_at "len") => `(tactic| (simp only [List.length_cons, List.length_nil]; decide))
local macro_rules | `(tactic| walk_at "ic") => `(tactic| first
  | ((with_reducible refine i_iT ?_ ?_); · first | with_reducible rfl | (simp only [Bool.not_true, Bool.not_false, isTupD, isLstD, isStrD, isBlD, isIntD, isSeqD]; done))
  | ((with_reducible refine i_iF ?_ ?_); · first | with_reducible rfl | (simp only [Bool.not_true, Bool.not_false, isTupD, isLstD, isStrD, isBlD, isIntD, isSeqD]; done)))
local macro_rules | `(tactic| walk_at "sy") => `(tactic| repeat first | walk_at "kb1" | walk_at "ic" | walk_at "isi" | walk_at "op" | walk_at "wp")
theorem sc_matters : FnScope ["formula", "key"] ["formula"] (defScope s_matters) := ⟨rfl, rfl, rfl, by decide +kernel, rfl, by decide +kernel, by decide +kernel⟩
theorem ok_matters {P : Program} {w : World} {K : PySem.W.Frag} {mg : Str → Option Value} {base : Heap} (T : Tx K mg)
    (C_keys_of : Cn P w K mg base 13 (He.fAd K ("keys_of", none)) ["formula"] (sp_keys_of K))
    (C_telling_pair : Cn P w K mg base 10 (He.fAd K ("telling_pair", none)) ["formula", "key"] (sp_telling_pair K))
    (C_need_formula : Cn P w K mg base 12 (He.fAd K ("need_formula", none)) ["thing"] (sp_need_formula K)) :
    CnR P w K mg base 14 (He.fAd K ("matters", none)) ["formula"] (sp_matters K) := by
  refine cnXR (d := d_matters) T.st_matters sc_matters sp1_len (fun _ _ _ _ _ _ us hl => match us, hl with | [_], _ => rfl) (fun cdv A outer s H vs Q E hr h => ?_) (fun _ _ _ _ _ _ us ws hl => match us, ws, hl with | [], [_], _ => rfl | [_], [], _ => rfl | [], [], h => (by cases h) | [], _ :: _ :: _, h => (by simp at h) | [_], _ :: _, h => (by simp at h) | _ :: _ :: _, _, h => (by simp at h; omega))
  obtain ⟨v_formula, rfl, h⟩ := h
  refine ⟨_, (pss_cons (ps_expr (pe_cn C_need_formula hr (by decide) (by rfl) T.g_need_formula (L2N.passes_call (L2N.takes_of rfl rfl rfl rfl) (fun _ _ _ _ h => h)) (pa_cons (pv 0) pa_nil)))
  (pss_one (ps_ret (pe_lc (own := [("key", 1)]) (g := (gName 1)) rfl sc_matters.nd (w_list (K := K) rfl (pe_cn C_keys_of hr (by decide) (by rfl) T.g_keys_of (L2N.passes_call (L2N.takes_of rfl rfl rfl rfl) (fun _ _ _ _ h => h)) (pa_cons (pv 0) pa_nil))) (blkOk_by (own := [("key", 1)]) (N := ["formula", "key"]) (sc := defScope s_matters) (by decide +kernel)) (fun _ _ _ _ _ => (pg_name (i := 1) sc_matters.nd rfl (by first | exact Or.inl rfl | exact Or.inr rfl))) (fun _ _ _ _ _ => (pts_one (pt_cmp (pc_notN (pe_cn C_telling_pair hr (by decide) (by rfl) T.g_telling_pair passN (pa_cons (pv 0) (pa_cons (pv 1) pa_nil)))) rfl))) (fun _ _ _ _ _ => (pv 1)))))), ?_⟩
  rw [show start ["formula", "key"] [v_formula] = [some v_formula, none] from rfl]
  obtain ⟨d, hd, oks, h1, h2⟩ := h
  walk_at "sx"
  refine ⟨d, hd, oks, fun e H' s => ?_, fun e => h2 e⟩
  obtain ⟨f, rfl, hk⟩ := isForm_ex e
  have hf := Fm.im hd
  walk_at "sx"
  refine ⟨f.d, hd.mono s, oks, fun g eg hg H2 p ks s2 hp hk2 asc h6 => ?_, fun e => by rw [isForm_of hk] at e; cases e⟩
  cases d_inj eg
  walk_at "sx"
  refine i_lcL (strP (mtB f)) id (.inl (.inl hk2)) (imS ks) (by rw [List.length_map, sizeLine_eq]; omega) (fun D hD i x d H6 ed ix s6 N no yes => ?_) (fun D H6 ys hD s6 hy im => ?_)
  · rw [List.getElem?_map] at ed
    obtain ⟨k, hk3, rfl⟩ := Option.map_eq_some_iff.mp ed
    cases ix
    walk_at "sx"
    refine ⟨f, k, hf.mono (Same.tq ((s.trans s2).trans s6)), hk, rfl, (asc.mem k).mp (List.mem_of_getElem? hk3), fun H7 u s7 t1 t2 => ?_⟩
    by_cases m : Mt f k
    · obtain ⟨p3, rfl⟩ := t1 m
      walk_at "sx"
      exact yes (mtB_t.mpr m) _ _ s7 (.str k)
    · cases t2 m
      walk_at "sx"
      refine no ?_ _ s7
      show mtB f k = false
      cases e : mtB f k with
      | false => rfl
      | true => exact absurd (mtB_t.mp e) m
  · rw [filter_strs] at im
    cases imS_eq im
    exact h1 f rfl hk H6 D ks ((s.trans s2).trans s6) (fresh_of (s.trans s2) hD) asc h6 hy


end H68

set_option maxHeartbeats 4000000
/-! promises of the law's defs -/
namespace H68
open PySem PySem.Spec PyProof.Rows L2 KB
theorem fresh_but {x p : Addr} {H H' : Hp} (b : Box H' x) (s : SameBut x H H') (h : H' p = none) : H p = none := by
  have n := box_ne b h
  cases e : H p with
  | none => rfl
  | some o =>
    rw [s p o n e] at h
    cases h
/-! ### level by level -/
def layL : Nat → List Fm → List Fm
  | 0, l => l
  | t + 1, l => (layL t l).flatMap Fm.kids
def levL (l : List Fm) : Nat := (l.map Fm.lev).foldr max 0
theorem levL_cons (f : Fm) (l : List Fm) : levL (f :: l) = max f.lev (levL l) := rfl
theorem levL_app (a b : List Fm) : levL (a ++ b) = max (levL a) (levL b) := by
  induction a with
  | nil => exact (Nat.zero_max _).symm
  | cons x a ih => rw [List.cons_append, levL_cons, levL_cons, ih, Nat.max_assoc]
theorem levL_kids (f : Fm) : levL f.kids = f.lev - 1 := by
  cases f with
  | is k v => rfl
  | sil k => rfl
  | no g => show max g.lev 0 = g.lev + 1 - 1; omega
  | two o a b => show max a.lev (max b.lev 0) = max a.lev b.lev + 1 - 1; omega
theorem levL_flat (l : List Fm) : levL (l.flatMap Fm.kids) = levL l - 1 := by
  induction l with
  | nil => rfl
  | cons x l ih =>
    rw [List.flatMap_cons, levL_app, levL_kids, ih, levL_cons]
    omega
theorem levL_lay (f : Fm) : ∀ t, levL (layL t [f]) = f.lev - t
  | 0 => by show max f.lev 0 = f.lev - 0; omega
  | t + 1 => by
    show levL ((layL t [f]).flatMap Fm.kids) = _
    rw [levL_flat, levL_lay f t]
    omega
theorem levL_nil {l : List Fm} : l = [] ↔ levL l = 0 := by
  cases l with
  | nil => exact ⟨fun _ => rfl, fun _ => rfl⟩
  | cons x l =>
    have := x.lev_pos
    rw [levL_cons]
    constructor
    · intro h; cases h
    · intro h; omega
theorem size_kids (f : Fm) : (f.kids.map Fm.size).sum ≤ f.size := by
  cases f with
  | is k v => exact Nat.zero_le _
  | sil k => exact Nat.zero_le _
  | no g => show g.size + 0 ≤ g.size + 1; omega
  | two o a b => show a.size + (b.size + 0) ≤ a.size + b.size + 1; omega
theorem size_flat (l : List Fm) : ((l.flatMap Fm.kids).map Fm.size).sum ≤ (l.map Fm.size).sum := by
  induction l with
  | nil => exact Nat.zero_le _
  | cons x l ih =>
    have := size_kids x
    rw [List.flatMap_cons, List.map_append, List.sum_append, List.map_cons, List.sum_cons]
    omega
theorem size_lay (f : Fm) : ∀ t, ((layL t [f]).map Fm.size).sum ≤ f.size
  | 0 => by show f.size + 0 ≤ f.size; omega
  | t + 1 => Nat.le_trans (size_flat _) (size_lay f t)
theorem len_lay (f : Fm) (t : Nat) : (layL t [f]).length ≤ f.size := Nat.le_trans (len_sum _) (size_lay f t)
def kind3 : List Str := ["not", "and", "or"]
theorem kids_d {g : Fm} (h : g.isLeaf = false) : g.d = .tuple (.str g.word :: g.kids.map Fm.d) ∧ g.word ∈ kind3 := by
  cases g with
  | is k v => cases h
  | sil k => cases h
  | no g => exact ⟨rfl, (by decide +kernel : ("not" : Str) ∈ kind3)⟩
  | two o a b =>
    cases o with
    | false => exact ⟨rfl, (by decide +kernel : ("and" : Str) ∈ kind3)⟩
    | true => exact ⟨rfl, (by decide +kernel : ("or" : Str) ∈ kind3)⟩
theorem leaf_d {g : Fm} (h : g.isLeaf = true) : (∃ ds, g.d = .tuple (.str g.word :: ds)) ∧ ¬ g.word ∈ kind3 ∧ g.kids = [] ∧ g.leaves = [g] := by
  cases g with
  | is k v => exact ⟨⟨_, rfl⟩, (by decide +kernel : ¬ ("is" : Str) ∈ kind3), rfl, rfl⟩
  | sil k => exact ⟨⟨_, rfl⟩, (by decide +kernel : ¬ ("silent" : Str) ∈ kind3), rfl, rfl⟩
  | no g => cases h
  | two o a b => cases h
theorem kids_leaves {g : Fm} (h : g.isLeaf = false) : g.leaves = g.kids.flatMap Fm.leaves := by
  cases g with
  | is k v => cases h
  | sil k => cases h
  | no g => simp [Fm.leaves, Fm.kids]
  | two o a b => simp [Fm.leaves, Fm.kids]
theorem flat_perm (l : List Fm) : (l.flatMap Fm.leaves).Perm (l.filter Fm.isLeaf ++ (l.flatMap Fm.kids).flatMap Fm.leaves) := by
  induction l with
  | nil => exact .refl _
  | cons x l ih =>
    cases h : x.isLeaf with
    | true =>
      obtain ⟨_, _, hk, hl⟩ := leaf_d h
      rw [List.flatMap_cons, List.flatMap_cons, hk, hl, List.filter_cons_of_pos h]
      exact ih.cons x
    | false =>
      rw [List.flatMap_cons, List.flatMap_cons, List.filter_cons_of_neg (by rw [h]; exact Bool.false_ne_true), List.flatMap_append, ← kids_leaves h]
      refine (ih.append_left _).trans ?_
      rw [← List.append_assoc, ← List.append_assoc]
      exact List.perm_append_comm.append_right _
def fnd (f : Fm) : Nat → List Fm
  | 0 => []
  | t + 1 => fnd f t ++ (layL t [f]).filter Fm.isLeaf
theorem fnd_perm (f : Fm) : ∀ t, (fnd f t ++ (layL t [f]).flatMap Fm.leaves).Perm f.leaves
  | 0 => by show ([] ++ ([f].flatMap Fm.leaves)).Perm f.leaves; simp
  | t + 1 => by
    refine List.Perm.trans ?_ (fnd_perm f t)
    show ((fnd f t ++ (layL t [f]).filter Fm.isLeaf) ++ ((layL t [f]).flatMap Fm.kids).flatMap Fm.leaves).Perm _
    rw [List.append_assoc]
    exact (flat_perm _).symm.append_left _
theorem fnd_end {f : Fm} {t : Nat} (h : f.lev ≤ t) : (fnd f t).Perm f.leaves := by
  have := fnd_perm f t
  rw [levL_nil.mpr (by rw [levL_lay]; omega : levL (layL t [f]) = 0)] at this
  simpa using this
/-- a drawn formula -/
structure Drawn (F : Fr) (f : Fm) (m : Nat) : Prop where
  ok : f.ok = true
  lev : f.lev ≤ 5
  leaves : f.leaves.length ≤ m
  keys : ∀ k ∈ f.keys, k ∈ F.keys
  vals : ∀ k v, Fm.is k v ∈ f.leaves → v ∈ vals
theorem Drawn.fm {F : Fr} {f : Fm} {m : Nat} (h : Drawn F f m) (hm : m ≤ 6) : FmOk f := ⟨h.ok, Nat.le_trans h.lev (by decide), Nat.le_trans h.leaves hm⟩
theorem Drawn.mono {F : Fr} {f : Fm} {m n : Nat} (h : Drawn F f m) (hm : m ≤ n) : Drawn F f n := ⟨h.ok, h.lev, Nat.le_trans h.leaves hm, h.keys, h.vals⟩
theorem keys_two (o : Bool) (a b : Fm) : (Fm.two o a b).keys = a.keys ++ b.keys := by simp [Fm.keys, Fm.leaves]
theorem Drawn.two {F : Fr} {f g : Fm} {m k : Nat} (h : Drawn F f m) (h2 : Drawn F g k) (lf : f.lev < 5) (lg : g.lev < 5) (o : Bool) : Drawn F (.two o f g) (m + k) := by
  refine ⟨Bool.and_eq_true_iff.mpr ⟨h.ok, h2.ok⟩, ?_, ?_, fun y hy => ?_, fun y v hy => ?_⟩
  · show max f.lev g.lev + 1 ≤ 5
    omega
  · show (f.leaves ++ g.leaves).length ≤ m + k
    have a := h.leaves
    have b := h2.leaves
    rw [List.length_append]
    omega
  · rw [keys_two] at hy
    rcases List.mem_append.mp hy with hy | hy
    · exact h.keys y hy
    · exact h2.keys y hy
  · rcases List.mem_append.mp (show Fm.is y v ∈ f.leaves ++ g.leaves from hy) with hy | hy
    · exact h.vals y v hy
    · exact h2.vals y v hy
theorem Drawn.no {F : Fr} {f : Fm} {m : Nat} (h : Drawn F f m) (lf : f.lev < 5) : Drawn F (.no f) m := ⟨h.ok, (show f.lev + 1 ≤ 5 by omega), h.leaves, h.keys, h.vals⟩
/-- the law's own readings -/
def five : List (Option Str) := [none, some "r", some "x1", some "7", some "other"]
theorem five_full {F : Fr} {f : Fm} {m : Nat} (h : Drawn F f m) (ks : List Str) : Full f (fun _ => five) ks := by
  intro k _ o
  cases o with
  | none => exact ⟨none, List.mem_cons_self, fun _ _ _ => rfl⟩
  | some v =>
    by_cases q : v ∈ vals
    · refine ⟨some v, ?_, fun _ _ _ => rfl⟩
      simp only [vals, List.mem_cons, List.not_mem_nil, or_false] at q
      rcases q with rfl | rfl | rfl <;> simp [five]
    · refine ⟨some "other", by simp [five], fun l hl hk => ?_⟩
      cases l with
      | is k' x =>
        have hx := h.vals k' x hl
        show decide (some v = some x) = decide (some ("other" : Str) = some x)
        have e1 : ¬ some v = some x := fun e => q (by rw [Option.some.inj e]; exact hx)
        have e2 : ¬ some ("other" : Str) = some x := fun e => by
          rw [← Option.some.inj e] at hx
          exact absurd hx (by decide +kernel)
        rw [decide_eq_false e1, decide_eq_false e2]
      | sil k' => rfl
      | no g => rfl
      | two o a b => rfl
/-! ### judged level by level -/
def lvs (n : Nat) (d : PyData) : Nat := match fmOf n d with
  | some f => f.leaves.length
  | none => 0
def lvN (n : Nat) (ds : List PyData) : Nat := (ds.map (lvs n)).sum
structure Proc (n : Nat) (e : PyData) (c : Nat) (kids : List PyData) : Prop where
  form : hasForm (n + 1) e = kids.all (hasForm n)
  sum : hasForm (n + 1) e = true → lvs (n + 1) e = c + lvN n kids
theorem proc_sil {n : Nat} {a : PyData} (h : isNameD a = true) : Proc n (.tuple [.str "silent", a]) 1 [] := by
  have hf := hf_sil2 (n := n) (w := "silent") (a := a) rfl
  rw [h] at hf
  refine ⟨hf, fun _ => ?_⟩
  obtain ⟨f, e, _, _, hs⟩ := hasForm_ex hf
  unfold lvs
  rw [hs]
  cases f with
  | is k v => exact absurd (congrArg List.length (PyData.tuple.inj e)) (by show ¬ (2 = 3); decide)
  | sil k => rfl
  | no g => exact absurd (PyData.str.inj (List.cons.inj (PyData.tuple.inj e)).1) (by decide +kernel)
  | two o x y => exact absurd (congrArg List.length (PyData.tuple.inj e)) (by show ¬ (2 = 3); decide)
theorem proc_is {n : Nat} {a b : PyData} (h : isNameD a = true) (h2 : isValueD b = true) : Proc n (.tuple [.str "is", a, b]) 1 [] := by
  have hf := hf_is3 (n := n) (w := "is") (a := a) (b := b) rfl
  rw [h, h2] at hf
  refine ⟨hf, fun _ => ?_⟩
  obtain ⟨f, e, _, _, hs⟩ := hasForm_ex hf
  unfold lvs
  rw [hs]
  cases f with
  | is k v => rfl
  | sil k => exact absurd (congrArg List.length (PyData.tuple.inj e)) (by show ¬ (3 = 2); decide)
  | no g => exact absurd (congrArg List.length (PyData.tuple.inj e)) (by show ¬ (3 = 2); decide)
  | two o x y =>
    have := PyData.str.inj (List.cons.inj (PyData.tuple.inj e)).1
    cases o
    · exact absurd this (by decide +kernel)
    · exact absurd this (by decide +kernel)
theorem proc_not {n : Nat} {a : PyData} : Proc n (.tuple [.str "not", a]) 0 [a] := by
  have hf := hf_not2 (n := n) (w := "not") (a := a) (by decide +kernel) rfl
  refine ⟨by rw [hf]; simp, fun hh => ?_⟩
  rw [hf] at hh
  obtain ⟨f, e, _, _, hs⟩ := hasForm_ex hh
  have h3 : fmOf (n + 1) (.tuple [.str "not", a]) = some (.no f) := by
    show (if ("not" : Str) = "silent" then _ else if ("not" : Str) = "not" then (fmOf n a).map Fm.no else none) = _
    rw [if_neg ne_sil_not, if_pos rfl, hs] <;> rfl
  unfold lvN lvs
  rw [h3]
  show f.leaves.length = 0 + ((match fmOf n a with | some f => f.leaves.length | none => 0) + 0)
  rw [hs]
  show f.leaves.length = 0 + (f.leaves.length + 0)
  omega
theorem proc_two {n : Nat} {w : Str} {a b : PyData} (h : w = "and" ∨ w = "or") : Proc n (.tuple [.str w, a, b]) 0 [a, b] := by
  have h0 : ¬ w = "is" := by rcases h with rfl | rfl <;> decide +kernel
  have hf := hf_two3 (n := n) (w := w) (a := a) (b := b) h0 h
  refine ⟨by rw [hf]; simp, fun hh => ?_⟩
  rw [hf] at hh
  obtain ⟨ha, hb⟩ := Bool.and_eq_true_iff.mp hh
  obtain ⟨f, _, _, _, hs⟩ := hasForm_ex ha
  obtain ⟨g, _, _, _, ht⟩ := hasForm_ex hb
  have h3 : ∃ o, fmOf (n + 1) (.tuple [.str w, a, b]) = some (.two o f g) := by
    rcases h with rfl | rfl
    · refine ⟨false, ?_⟩
      show (if ("and" : Str) = "is" then leaf2 a b else if ("and" : Str) = "and" then both false (fmOf n a) (fmOf n b) else if ("and" : Str) = "or" then both true (fmOf n a) (fmOf n b) else none) = _
      rw [if_neg ne_and_is, if_pos rfl, hs, ht] <;> rfl
    · refine ⟨true, ?_⟩
      show (if ("or" : Str) = "is" then leaf2 a b else if ("or" : Str) = "and" then both false (fmOf n a) (fmOf n b) else if ("or" : Str) = "or" then both true (fmOf n a) (fmOf n b) else none) = _
      rw [if_neg ne_or_is, if_neg ne_or_and, if_pos rfl, hs, ht] <;> rfl
  obtain ⟨o, h3⟩ := h3
  unfold lvN lvs
  rw [h3]
  show (f.leaves ++ g.leaves).length = 0 + ((match fmOf n a with | some f => f.leaves.length | none => 0) + ((match fmOf n b with | some f => f.leaves.length | none => 0) + 0))
  rw [hs, ht, List.length_append]
  show _ = 0 + (f.leaves.length + (g.leaves.length + 0))
  omega
theorem lvN_app (n : Nat) (a b : List PyData) : lvN n (a ++ b) = lvN n a + lvN n b := by unfold lvN; rw [List.map_append, List.sum_append]
theorem inv_step {n j c c0 k0 : Nat} {ds es kids : List PyData} {e : PyData} (hj : ds[j]? = some e) (P : Proc n e c0 kids) (h1 : (ds.take j).all (hasForm (n + 1)) = es.all (hasForm n))
    (h2 : (ds.take j).all (hasForm (n + 1)) = true → c + lvN n es = k0 + lvN (n + 1) (ds.take j)) :
    (ds.take (j + 1)).all (hasForm (n + 1)) = (es ++ kids).all (hasForm n) ∧ ((ds.take (j + 1)).all (hasForm (n + 1)) = true → (c + c0) + lvN n (es ++ kids) = k0 + lvN (n + 1) (ds.take (j + 1))) := by
  have et := take_succ_get hj
  rw [et, List.all_append, List.all_append, h1]
  have e1 : [e].all (hasForm (n + 1)) = kids.all (hasForm n) := by rw [← P.form]; simp
  rw [e1]
  refine ⟨rfl, fun hh => ?_⟩
  obtain ⟨g1, g2⟩ := Bool.and_eq_true_iff.mp hh
  have h3 := h2 (h1.trans g1)
  have h4 := P.sum (P.form.trans g2)
  rw [lvN_app, lvN_app]
  have : lvN (n + 1) [e] = lvs (n + 1) e := by unfold lvN; simp
  omega
theorem hf_other {n : Nat} {d : PyData} (h : isTupD d = false) : hasForm n d = false := by
  cases n with
  | zero => exact hf_zero _
  | succ n => cases d <;> first | rfl | cases h
theorem form_of {d : PyData} {c : Nat} (h : hasForm 6 d = true) (hc : c = lvs 6 d) : isFormD d = decide (c ≤ 6) := by
  rw [isForm_eq, h, Bool.true_and, hc]
  obtain ⟨f, _, _, _, hs⟩ := hasForm_ex h
  unfold lvs
  rw [hs]
theorem form_no {d : PyData} (h : hasForm 6 d = false) : isFormD d = false := by rw [isForm_eq, h] <;> rfl
theorem drAll_app {H : Hp} : ∀ {vs ws : List V} {ds es : List PyData}, DrAll H vs ds → DrAll H ws es → DrAll H (vs ++ ws) (ds ++ es)
  | _, _, _, _, .nil, h => h
  | _, _, _, _, .cons a t, h => .cons a (drAll_app t h)
/-- a value that may be none: told of it -/
def NearV (H : Hp) (v : V) : Prop := ∃ d, Dr H v d ∧ (okD 12 d ∨ d = .dict []) ∧ (isLstD d = true → Sd H v d) ∧ ∀ ds, d = .list ds → ds.length ≤ 1000
theorem NearV.mono {H H' : Hp} {v : V} (s : Same H H') (h : NearV H v) : NearV H' v := by
  obtain ⟨d, h1, h2, h3, h4⟩ := h
  exact ⟨d, h1.mono s, h2, fun e => (h3 e).mono s, h4⟩
theorem okD_le {d : PyData} {m n : Nat} (h : m ≤ n) (ho : okD m d) : okD n d := by
  induction h with
  | refl => exact ho
  | step _ ih => exact okD_up _ _ ih
theorem near_im {H : Hp} {v : V} {d : PyData} (h : Im H v d) (ho : okD 12 d) : NearV H v := by
  refine ⟨d, h.dr, .inl ho, fun e => .im h, fun ds e => ?_⟩
  subst e
  cases h
def deepF (f : Fm) : Nat → Fm
  | 0 => f
  | n + 1 => .no (deepF f n)
def wideA (f : Fm) : Nat → Fm
  | 0 => f
  | n + 1 => .two false (wideA f n) (.sil "a")
theorem deep_ok {f : Fm} (h : f.ok = true) : ∀ n, (deepF f n).ok = true ∧ (deepF f n).lev = f.lev + n
  | 0 => ⟨h, rfl⟩
  | n + 1 => by
    obtain ⟨h1, h2⟩ := deep_ok h n
    refine ⟨h1, ?_⟩
    show (deepF f n).lev + 1 = _; omega
theorem wide_ok {f : Fm} (h : f.ok = true) : ∀ n, (wideA f n).ok = true ∧ (wideA f n).lev = f.lev + n
  | 0 => ⟨h, rfl⟩
  | n + 1 => by
    obtain ⟨h1, h2⟩ := wide_ok h n
    have hp := (wideA f n).lev_pos
    refine ⟨Bool.and_eq_true_iff.mpr ⟨h1, (by decide +kernel : isNameS "a" = true)⟩, ?_⟩
    show max (wideA f n).lev 1 + 1 = _; omega
theorem fm_tup (f : Fm) : ∃ ds, f.d = .tuple ds ∧ ds.length ≤ 3 := by
  cases f with
  | is k v => exact ⟨_, rfl, by show 3 ≤ 3; decide⟩
  | sil k => exact ⟨_, rfl, by show 2 ≤ 3; decide⟩
  | no g => exact ⟨_, rfl, by show 2 ≤ 3; decide⟩
  | two o a b => exact ⟨_, rfl, by show 3 ≤ 3; decide⟩
theorem im_tup {H : Hp} {v : V} {ds : List PyData} (h : Im H v (.tuple ds)) : ∃ a vs, v = .ref a ∧ H a = some (.tup vs) ∧ ImAll H vs ds := by
  cases h with
  | tup h a => exact ⟨_, _, rfl, h, a⟩
theorem sm_s {z : Str} {n : Nat} (h : z.length ≤ 1000000) : okD (n + 1) (.str z) := h
theorem okF12 {d : PyData} (h : okD 12 d ∨ d = .dict []) : OkF d := by
  rcases h with h | h
  · exact .inl ⟨12, h⟩
  · exact .inr h
/-- what is told: a list of a word and of a thing -/
def Told (H0 H : Hp) (r : Addr) (w : Str) (v : V) : Prop := H0 r = none ∧ H r = some (.lst [.str w, v])
section
abbrev sp_law_cell (K : PySem.W.Frag) : Sp := sp2 fun sc k H Q E => ∃ (a : Addr) (ns : List Int) (i : Int), sc = .ref a ∧ SqL K H a (ns.map V.int) ∧ k = .int i ∧ 0 ≤ i ∧ ∀ c : Int, Q (.int c) H
abbrev sp_law_box (K : PySem.W.Frag) : Sp := sp1 fun c H Q E => ∃ i : Int, c = .int i ∧ ∀ H' b, Same H H' → H b = none → Box H' b → Q (.ref b) H'
abbrev sp_law_take (K : PySem.W.Frag) : Sp := sp2 fun b n H Q E => ∃ x m, b = .ref x ∧ Box H x ∧ n = .int m ∧ 1 ≤ m ∧ m ≤ 100000 ∧ ∀ r H', 0 ≤ r → r < m → SameBut x H H' → Box H' x → Q (.int r) H'
abbrev sp_law_same_n (K : PySem.W.Frag) (n : Nat) : Sp := sp2 fun a b H Q E => ∃ d, Dr H a d ∧ Dr H b d ∧ (okD n d ∨ (1 ≤ n ∧ d = .dict [] ∧ a = b)) ∧ ∀ H', Same H H' → Q (.bl true) H'
abbrev sp_law_same (K : PySem.W.Frag) : Sp := sp_law_same_n K 12
theorem zero_law_same {K : PySem.W.Frag} (vs : List V) (H : Hp) (Q : VK) (E : XK) (h : sp_law_same_n K 0 vs H Q E) : False := by
  obtain ⟨_, _, rfl, d, _, _, ho, _⟩ := h
  rcases ho with ho | ⟨ho, _⟩
  · cases d <;> exact (show False from ho).elim
  · omega
abbrev sp_law_leaf (K : PySem.W.Frag) : Sp := sp2 fun b kl H Q E => ∃ x a F, b = .ref x ∧ Box H x ∧ kl = .ref a ∧ H a = some (.lst (F.keys.map V.str)) ∧ okFs F ∧ ∀ (H' : Hp) (v : V) (f : Fm), SameBut x H H' → Box H' x → Im H' v f.d → Drawn F f 1 → f.lev = 1 → Q v H'
abbrev sp_law_formula (K : PySem.W.Frag) : Sp := sp3 fun b kl m H Q E => ∃ x a F n, b = .ref x ∧ Box H x ∧ kl = .ref a ∧ H a = some (.lst (F.keys.map V.str)) ∧ okFs F ∧ m = .int ((n : Nat) : Int) ∧ 1 ≤ n ∧ n ≤ 6 ∧ ∀ (H' : Hp) (v : V) (f : Fm), SameBut x H H' → Box H' x → Im H' v f.d → Drawn F f n → Q v H'
abbrev sp_law_levels (K : PySem.W.Frag) : Sp := sp1 fun v H Q E => ∃ f : Fm, Im H v f.d ∧ f.lev ≤ 12 ∧ f.size ≤ 10000 ∧ ∀ H', Same H H' → Q (.int ((f.lev : Nat) : Int)) H'
abbrev sp_law_leaves (K : PySem.W.Frag) : Sp := sp1 fun v H Q E => ∃ f : Fm, Im H v f.d ∧ f.lev ≤ 12 ∧ f.size ≤ 10000 ∧ ∀ (H' : Hp) (p : Addr) (vs : List V) (ls : List Fm), Same H H' → H p = none → H' p = some (.lst vs) → ImAll H' vs (ls.map Fm.d) → ls.Perm f.leaves → Q (.ref p) H'
abbrev sp_law_mixed (K : PySem.W.Frag) : Sp := sp2 fun b l H Q E => ∃ x a xs, b = .ref x ∧ Box H x ∧ l = .ref a ∧ H a = some (.lst xs) ∧ a ≠ x ∧ xs.length ≤ 1000 ∧ ∀ H' p ys, SameBut x H H' → Box H' x → H p = none → H' p = some (.lst ys) → ys.Perm xs → Q (.ref p) H'
abbrev sp_law_very (K : PySem.W.Frag) : Sp := sp2 fun a b H Q E => ∃ d, a = b ∧ Dr H a d ∧ (okD 12 d ∨ d = .dict []) ∧ (isLstD d = true → Sd H a d) ∧ (∀ ds, d = .list ds → ds.length ≤ 1000) ∧ ∀ H', Same H H' → Q (.bl true) H'
abbrev sp_law_is_name (K : PySem.W.Frag) : Sp := sp1 fun v H Q E => ∃ d, Dr H v d ∧ okS d ∧ ∀ H', Same H H' → Q (.bl (isNameD d)) H'
abbrev sp_law_is_value (K : PySem.W.Frag) : Sp := sp1 fun v H Q E => ∃ d, Dr H v d ∧ okS d ∧ ∀ H', Same H H' → Q (.bl (isValueD d)) H'
abbrev sp_law_holds_n (K : PySem.W.Frag) (n : Nat) : Sp := sp2 fun v r H Q E => ∃ (f : Fm) (ρ : Rho) (a : Addr), Im H v f.d ∧ f.lev < n + 1 ∧ r = .ref a ∧ DRho H a ρ f.keys ∧ ∀ H', Same H H' → Q (.bl (f.ev ρ)) H'
abbrev sp_law_holds (K : PySem.W.Frag) : Sp := sp_law_holds_n K 8
theorem zero_law_holds {K : PySem.W.Frag} (vs : List V) (H : Hp) (Q : VK) (E : XK) (h : sp_law_holds_n K 0 vs H Q E) : False := by
  obtain ⟨_, _, rfl, f, _, _, _, h1, _⟩ := h
  have := f.lev_pos
  omega
abbrev sp_law_all_readings (K : PySem.W.Frag) : Sp := sp1 fun v H Q E => ∃ (a : Addr) (ks : List Str), v = .ref a ∧ H a = some (.lst (ks.map V.str)) ∧ ks.length ≤ 3 ∧ ks.Nodup ∧ ∀ (H' : Hp) (p : Addr) (as : List Addr), Same H H' → H p = none → H' p = some (.lst (as.map V.ref)) → RowsAt H H' as (rowsOf (fun _ => five) ks) → as.Nodup → Q (.ref p) H'
abbrev sp_law_matters (K : PySem.W.Frag) : Sp := sp1 fun v H Q E => ∃ (F : Fr) (f : Fm), Im H v f.d ∧ Drawn F f 6 ∧ F.keys.length ≤ 3 ∧ ∀ (H' : Hp) (p : Addr) (ks : List Str), Same H H' → H p = none → Asc (· ∈ f.keys) ks → H' p = some (.lst ((ks.filter (mtB f)).map V.str)) → Q (.ref p) H'
abbrev sp_law_is_formula (K : PySem.W.Frag) : Sp := sp1 fun v H Q E => ∃ d, Dr H v d ∧ OkF d ∧ ∀ H', Same H H' → Q (.bl (isFormD d)) H'
abbrev sp_law_near (K : PySem.W.Frag) : Sp := sp2 fun b v H Q E => ∃ (x : Addr) (F : Fr) (f : Fm), b = .ref x ∧ Box H x ∧ Im H v f.d ∧ Drawn F f 6 ∧ ∀ H' p vs, SameBut x H H' → Box H' x → H' p = some (.lst vs) → (∀ v ∈ vs, NearV H' v) → vs.length ≤ 1000 → Q (.ref p) H'
abbrev sp_law_asked (K : PySem.W.Frag) : Sp := sp4 fun w v r b H Q E => ∃ (d : PyData) (word : Str) (c : Bool), w = .str word ∧ b = .bl c ∧ Dr H v d ∧ OkF d ∧ word ∈ (["keys", "matters", "holds"] : List Str) ∧
  (isFormD d = false → ∀ H' q, Same H H' → Told H H' q "formula" v → Q (.ref q) H') ∧
  (∀ f : Fm, d = f.d → FmOk f →
    (word = "keys" → ∀ (H' : Hp) (q p : Addr) (ks : List Str), Same H H' → Told H H' q "told" (.ref p) → H p = none → p ≠ q → H' p = some (.lst (ks.map V.str)) → Asc (· ∈ f.keys) ks → ks.length ≤ 6 → Q (.ref q) H') ∧
    (word = "matters" → ∀ (H' : Hp) (q p : Addr) (ks : List Str), Same H H' → Told H H' q "told" (.ref p) → H p = none → p ≠ q → Asc (· ∈ f.keys) ks → ks.length ≤ 6 → H' p = some (.lst ((ks.filter (mtB f)).map V.str)) → Q (.ref q) H') ∧
    (word = "holds" → ∃ (ρ : Rho) (a : Addr), r = .ref a ∧ DRho H a ρ f.keys ∧ ∀ H' q, Same H H' → Told H H' q "told" (.bl (f.ev ρ)) → Q (.ref q) H'))
abbrev sp_law_formula_right (K : PySem.W.Frag) : Sp := sp3 fun b v k H Q E => ∃ (x : Addr) (F : Fr) (f : Fm) (c : Bool), b = .ref x ∧ Box H x ∧ Im H v f.d ∧ Drawn F f 6 ∧ F.keys.length ≤ 3 ∧ ¬ ("other" : Str) ∈ F.keys ∧ k = .bl c ∧ ∀ H', SameBut x H H' → Box H' x → Q (.bl true) H'
abbrev sp_law (K : PySem.W.Frag) : Sp := sp1 fun a H Q E => ∃ (p : Addr) (ns : List Int), a = .ref p ∧ SqL K H p (ns.map V.int) ∧ ∀ H', Q (.bl true) H'
end
end H68

set_option maxHeartbeats 1000000
namespace H68
open PySem PySem.Spec PyProof.Rows L2 KB
local macro_rules | `(tactic| walk_at "kb1") => `(tactic| with_reducible first
  | refine i_var rfl ?_ | refine i_c ?_ | refine i_cons ?_ | refine i_nil ?_ | refine i_op ?_ | refine i_seq ?_ | refine i_if ?_ | refine i_ret ?_ | refine i_asg ?_ | refine i_name ?_ | refine i_next ?_ | refine i_drop ?_
  | refine i_un ?_ | refine i_cb ?_ | refine i_cal ?_ | refine i_calM ?_ | refine i_test ?_ | refine i_tb ?_ | refine i_k ?_ | refine i_not ?_ | refine i_and ?_ | refine i_or ?_ | refine i_andV ?_ | refine i_orV ?_ | refine i_notV ?_ | refine i_ife ?_
  | refine i_isN ?_ | refine i_notN ?_ | refine i_chain ?_ | refine i_tup ?_ | refine i_lst ?_ | refine i_sl ?_ | refine i_noPart ?_ | refine i_part ?_ | refine i_ik ?_ | refine i_sk ?_ | refine i_bm0 ?_ | refine i_bm ?_ | refine i_m1 ?_ | refine i_m0 ?_ | refine i_fld ?_ | refine i_tru ?_
  | refine i_gC ?_ | refine i_gN ?_ | refine i_for0L ?_ | refine i_for0E ?_ | refine i_for0R ?_ | refine i_lc0L ?_ | refine i_lc0S ?_ | refine i_lc0Z ?_ | refine i_tix ?_ | refine i_lorei ?_ | refine i_js0 ?_ | refine i_xf ?_ | refine i_calR ?_ | refine i_calRS ?_ | refine i_calS ?_ | refine i_for0R3 ?_ | refine i_mak ?_ | refine i_dget ?_ | refine i_din ?_ | refine i_dnotin ?_ | refine i_dput ?_ | refine i_dnewT ?_ | refine i_sub ?_ | refine i_rng1 ?_ | refine i_rng2 ?_ | refine i_rev ?_ | refine i_replC ?_ | refine i_lenset ?_ | refine i_mS ?_ | refine i_js ?_ | refine i_fmt ?_ | refine i_par ?_ | refine i_v2 ?_ | refine i_par3 ?_ | refine i_v3 ?_ | refine i_mkO ?_ | refine i_ost ?_ | refine i_sFld ?_ | refine i_yes ?_ | refine i_dget1 ?_ | refine i_dnewK ?_ | refine i_dpop1 ?_ | refine i_ndnew ?_ | refine i_nget2 ?_ | refine i_nsetd ?_ | refine i_nix ?_ | refine i_nput ?_ | refine i_listItems ?_ | refine i_for0Nv ?_ | refine i_lc0Nk ?_ | refine i_dstar ?_ | refine i_lc20L ?_ | refine i_sp1 ?_ | refine i_sp2 ?_ | refine i_sp3 ?_ | refine i_sp4 ?_)
local macro_rules | `(tactic| walk_at "dr") => `(tactic| first
  | assumption | exact Dr.non | exact Dr.bl _ | exact Dr.int _ | exact Dr.str _ | exact Dr.tup (by assumption) (by assumption) | exact Dr.lst (by assumption) (by assumption) | exact Dr.dic (by assumption) | exact Im.dr (by assumption))
local macro_rules | `(tactic| walk_at "if") => `(tactic| first
  | ((with_reducible refine i_iT ?_ ?_); · rfl) | ((with_reducible refine i_iF ?_ ?_); · rfl))
local macro_rules | `(tactic| walk_at "isi") => `(tactic| ((with_reducible show rIsiU _ _ _ _); first
  | (with_reducible refine j_isTup (by walk_at "dr") ?_) | (with_reducible refine j_isLst (by walk_at "dr") ?_) | (with_reducible refine j_isStr (by walk_at "dr") ?_)
  | (with_reducible refine j_isBl (by walk_at "dr") ?_) | (with_reducible refine j_isInt (by walk_at "dr") ?_)))
local macro_rules | `(tactic| walk_at "op") => `(tactic| with_reducible first
  | refine i_rI0 ?_ | refine i_addI ?_ | refine i_rU ?_ | refine i_ltI ?_ | refine i_inC ?_ | refine i_notInC ?_ | refine i_intI ?_ | refine i_intB ?_ | refine i_abs ?_ | refine i_max2 ?_ | refine i_min2 ?_ | refine i_isBl ?_
  | (refine i_eqS rfl ?_) | (refine i_neS rfl ?_))
local macro_rules | `(tactic| walk_at "wp") => `(tactic| ((with_reducible refine i_wp ?_ ?_); · rfl))
local macro_rules | `(tactic| walk_at "sx") => `(tactic| repeat first | walk_at "kb1" | walk_at "if" | walk_at "isi" | walk_at "op" | walk_at "wp")
local macro_rules | `(tactic| walk_at "cd") => `(tactic| refine ⟨_, (by walk_at "dr"), ?_⟩)
local macro_rules | `(tactic| walk_at "len") => `(tactic| (simp only [List.length_cons, List.length_nil]; decide))
local macro_rules | `(tactic| walk_at "ic") => `(tactic| first
  | ((with_reducible refine i_iT ?_ ?_); · first | with_reducible rfl | (simp only [Bool.not_true, Bool.not_false, isTupD, isLstD, isStrD, isBlD, isIntD, isSeqD]; done))
  | ((with_reducible refine i_iF ?_ ?_); · first | with_reducible rfl | (simp only [Bool.not_true, Bool.not_false, isTupD, isLstD, isStrD, isBlD, isIntD, isSeqD]; done)))
local macro_rules | `(tactic| walk_at "sy") => `(tactic| repeat first | walk_at "kb1" | walk_at "ic" | walk_at "isi" | walk_at "op" | walk_at "wp")
theorem sc_law_cell : FnScope ["script", "k"] ["script", "k"] (defScope s_law_cell) := ⟨rfl, rfl, rfl, by decide +kernel, rfl, by decide +kernel, by decide +kernel⟩
theorem ok_law_cell {P : Program} {w : World} {K : PySem.W.Frag} {mg : Str → Option Value} {base : Heap} (T : Tx K mg) :
    Cn P w K mg base 1 (He.fAd K ("_law_cell", none)) ["script", "k"] (sp_law_cell K) := by
  refine cnN (d := d_law_cell) T.st_law_cell sc_law_cell sp2_len (fun _ _ _ _ _ _ us hl => match us, hl with | [_, _], _ => rfl) (fun cdv A outer s H vs Q E hr h => ?_)
  obtain ⟨v_script, v_k, rfl, h⟩ := h
  refine ⟨_, (pss_cons (ps_if (pt_cmpR (o_lt (K := K) rfl hr.units0) (pv 1) (pe_callB (c_len (K := K) rfl) (by rfl) T.f_len (by decide +kernel) (pa_cons (pv 0) pa_nil)) (by rfl)) (pss_one (ps_ret (pe_callB (call_absU) (by rfl) T.f_abs (by decide +kernel) (pa_cons (pe_ix (x_seq (K := K) rfl) (pv 0) (pv 1) (fun _ _ => rfl)) pa_nil)))) pss_nil)
  (pss_one (ps_ret (pe_op op_addU (pe_op op_addU (pe_op op_mul pe_int (pv 1)) pe_int) (pe_op op_mul pe_int (pe_op op_mod (pe_callTy (call_intU) (by rfl) T.f_int (by decide +kernel) (pa_cons (pe_callB (c_sum (K := K) rfl rfl) (by rfl) T.f_sum (by decide +kernel) (pa_cons (pv 0) pa_nil)) pa_nil)) pe_int)))))), ?_⟩
  rw [show start ["script", "k"] [v_script, v_k] = [some v_script, some v_k] from rfl]
  obtain ⟨a, ns, i, rfl, ha, rfl, hi, q⟩ := h
  walk_at "sx"
  refine i_lenL ha ?_
  walk_at "sx"
  refine i_i2 (fun e => ?_) (fun e => ?_)
  · walk_at "sx"
    have hlt : i < (ns.map V.int).length := by simpa using e
    obtain ⟨n, hn⟩ : ∃ n, ns[i.toNat]? = some n := ⟨ns[i.toNat]'(by rw [List.length_map] at hlt; omega), List.getElem?_eq_getElem _⟩
    refine i_ixL ha (v := .int n) ?_ ?_
    · unfold atI ixN
      rw [if_pos hi, if_pos hlt]
      simp [hn]
    · walk_at "sx"
      exact q _
  · walk_at "sx"
    refine i_mulL (by decide) ?_
    walk_at "sx"
    refine ⟨a, ns, rfl, ha, ?_⟩
    walk_at "sx"
    refine i_mod (by decide) ?_
    refine i_mulL (by decide) ?_
    walk_at "sx"
    exact q _


end H68

set_option maxHeartbeats 1000000
namespace H68
open PySem PySem.Spec PyProof.Rows L2 KB
local macro_rules | `(tactic| walk_at "kb1") => `(tactic| with_reducible first
  | refine i_var rfl ?_ | refine i_c ?_ | refine i_cons ?_ | refine i_nil ?_ | refine i_op ?_ | refine i_seq ?_ | refine i_if ?_ | refine i_ret ?_ | refine i_asg ?_ | refine i_name ?_ | refine i_next ?_ | refine i_drop ?_
  | refine i_un ?_ | refine i_cb ?_ | refine i_cal ?_ | refine i_calM ?_ | refine i_test ?_ | refine i_tb ?_ | refine i_k ?_ | refine i_not ?_ | refine i_and ?_ | refine i_or ?_ | refine i_andV ?_ | refine i_orV ?_ | refine i_notV ?_ | refine i_ife ?_
  | refine i_isN ?_ | refine i_notN ?_ | refine i_chain ?_ | refine i_tup ?_ | refine i_lst ?_ | refine i_sl ?_ | refine i_noPart ?_ | refine i_part ?_ | refine i_ik ?_ | refine i_sk ?_ | refine i_bm0 ?_ | refine i_bm ?_ | refine i_m1 ?_ | refine i_m0 ?_ | refine i_fld ?_ | refine i_tru ?_
  | refine i_gC ?_ | refine i_gN ?_ | refine i_for0L ?_ | refine i_for0E ?_ | refine i_for0R ?_ | refine i_lc0L ?_ | refine i_lc0S ?_ | refine i_lc0Z ?_ | refine i_tix ?_ | refine i_lorei ?_ | refine i_js0 ?_ | refine i_xf ?_ | refine i_calR ?_ | refine i_calRS ?_ | refine i_calS ?_ | refine i_for0R3 ?_ | refine i_mak ?_ | refine i_dget ?_ | refine i_din ?_ | refine i_dnotin ?_ | refine i_dput ?_ | refine i_dnewT ?_ | refine i_sub ?_ | refine i_rng1 ?_ | refine i_rng2 ?_ | refine i_rev ?_ | refine i_replC ?_ | refine i_lenset ?_ | refine i_mS ?_ | refine i_js ?_ | refine i_fmt ?_ | refine i_par ?_ | refine i_v2 ?_ | refine i_par3 ?_ | refine i_v3 ?_ | refine i_mkO ?_ | refine i_ost ?_ | refine i_sFld ?_ | refine i_yes ?_ | refine i_dget1 ?_ | refine i_dnewK ?_ | refine i_dpop1 ?_ | refine i_ndnew ?_ | refine i_nget2 ?_ | refine i_nsetd ?_ | refine i_nix ?_ | refine i_nput ?_ | refine i_listItems ?_ | refine i_for0Nv ?_ | refine i_lc0Nk ?_ | refine i_dstar ?_ | refine i_lc20L ?_ | refine i_sp1 ?_ | refine i_sp2 ?_ | refine i_sp3 ?_ | refine i_sp4 ?_)
local macro_rules | `(tactic| walk_at "dr") => `(tactic| first
  | assumption | exact Dr.non | exact Dr.bl _ | exact Dr.int _ | exact Dr.str _ | exact Dr.tup (by assumption) (by assumption) | exact Dr.lst (by assumption) (by assumption) | exact Dr.dic (by assumption) | exact Im.dr (by assumption))
local macro_rules | `(tactic| walk_at "if") => `(tactic| first
  | ((with_reducible refine i_iT ?_ ?_); · rfl) | ((with_reducible refine i_iF ?_ ?_); · rfl))
local macro_rules | `(tactic| walk_at "isi") => `(tactic| ((with_reducible show rIsiU _ _ _ _); first
  | (with_reducible refine j_isTup (by walk_at "dr") ?_) | (with_reducible refine j_isLst (by walk_at "dr") ?_) | (with_reducible refine j_isStr (by walk_at "dr") ?_)
  | (with_reducible refine j_isBl (by walk_at "dr") ?_) | (with_reducible refine j_isInt (by walk_at "dr") ?_)))
local macro_rules | `(tactic| walk_at "op") => `(tactic| with_reducible first
  | refine i_rI0 ?_ | refine i_addI ?_ | refine i_rU ?_ | refine i_ltI ?_ | refine i_inC ?_ | refine i_notInC ?_ | refine i_intI ?_ | refine i_intB ?_ | refine i_abs ?_ | refine i_max2 ?_ | refine i_min2 ?_ | refine i_isBl ?_
  | (refine i_eqS rfl ?_) | (refine i_neS rfl ?_))
local macro_rules | `(tactic| walk_at "wp") => `(tactic| ((with_reducible refine i_wp ?_ ?_); · rfl))
local macro_rules | `(tactic| walk_at "sx") => `(tactic| repeat first | walk_at "kb1" | walk_at "if" | walk_at "isi" | walk_at "op" | walk_at "wp")
local macro_rules | `(tactic| walk_at "cd") => `(tactic| refine ⟨_, (by walk_at "dr"), ?_⟩)
local macro_rules | `(tactic| walk_at "len") => `(tactic| (simp only [List.length_cons, List.length_nil]; decide))
local macro_rules | `(tactic| walk_at "ic") => `(tactic| first
  | ((with_reducible refine i_iT ?_ ?_); · first | with_reducible rfl | (simp only [Bool.not_true, Bool.not_false, isTupD, isLstD, isStrD, isBlD, isIntD, isSeqD]; done))
  | ((with_reducible refine i_iF ?_ ?_); · first | with_reducible rfl | (simp only [Bool.not_true, Bool.not_false, isTupD, isLstD, isStrD, isBlD, isIntD, isSeqD]; done)))
local macro_rules | `(tactic| walk_at "sy") => `(tactic| repeat first | walk_at "kb1" | walk_at "ic" | walk_at "isi" | walk_at "op" | walk_at "wp")
theorem sc_law_box : FnScope ["cell"] ["cell"] (defScope s_law_box) := ⟨rfl, rfl, rfl, by decide +kernel, rfl, by decide +kernel, by decide +kernel⟩
theorem ok_law_box {P : Program} {w : World} {K : PySem.W.Frag} {mg : Str → Option Value} {base : Heap} (T : Tx K mg) :
    Cn P w K mg base 1 (He.fAd K ("_law_box", none)) ["cell"] (sp_law_box K) := by
  refine cnN (d := d_law_box) T.st_law_box sc_law_box sp1_len (fun _ _ _ _ _ _ us hl => match us, hl with | [_], _ => rfl) (fun cdv A outer s H vs Q E hr h => ?_)
  obtain ⟨v_cell, rfl, h⟩ := h
  refine ⟨_, (pss_one (ps_ret (pe_lst (pa_cons (pe_callB (call_maxU rfl) (by rfl) T.f_max (by decide +kernel) (pa_cons pe_int (pa_cons (pe_op op_sub (pv 0) (pe_op op_pow pe_int pe_int)) pa_nil))) (pa_cons (pe_op op_mod (pv 0) pe_int) (pa_cons pe_int pa_nil)))))), ?_⟩
  rw [show start ["cell"] [v_cell] = [some v_cell] from rfl]
  obtain ⟨i, rfl, q⟩ := h
  walk_at "sx"
  refine i_rI ⟨by decide, by decide, by decide⟩ ?_
  walk_at "sx"
  refine i_mod (by decide) ?_
  walk_at "sx"
  refine ⟨by walk_at "len", fun p hp => ?_⟩
  refine q _ p (Same.new hp) hp ⟨_, _, _, upd_same, ?_, ?_⟩
  · split <;> omega
  · omega


end H68

set_option maxHeartbeats 1000000
namespace H68
open PySem PySem.Spec PyProof.Rows L2 KB
local macro_rules | `(tactic| walk_at "kb1") => `(tactic| with_reducible first
  | refine i_var rfl ?_ | refine i_c ?_ | refine i_cons ?_ | refine i_nil ?_ | refine i_op ?_ | refine i_seq ?_ | refine i_if ?_ | refine i_ret ?_ | refine i_asg ?_ | refine i_name ?_ | refine i_next ?_ | refine i_drop ?_
  | refine i_un ?_ | refine i_cb ?_ | refine i_cal ?_ | refine i_calM ?_ | refine i_test ?_ | refine i_tb ?_ | refine i_k ?_ | refine i_not ?_ | refine i_and ?_ | refine i_or ?_ | refine i_andV ?_ | refine i_orV ?_ | refine i_notV ?_ | refine i_ife ?_
  | refine i_isN ?_ | refine i_notN ?_ | refine i_chain ?_ | refine i_tup ?_ | refine i_lst ?_ | refine i_sl ?_ | refine i_noPart ?_ | refine i_part ?_ | refine i_ik ?_ | refine i_sk ?_ | refine i_bm0 ?_ | refine i_bm ?_ | refine i_m1 ?_ | refine i_m0 ?_ | refine i_fld ?_ | refine i_tru ?_
  | refine i_gC ?_ | refine i_gN ?_ | refine i_for0L ?_ | refine i_for0E ?_ | refine i_for0R ?_ | refine i_lc0L ?_ | refine i_lc0S ?_ | refine i_lc0Z ?_ | refine i_tix ?_ | refine i_lorei ?_ | refine i_js0 ?_ | refine i_xf ?_ | refine i_calR ?_ | refine i_calRS ?_ | refine i_calS ?_ | refine i_for0R3 ?_ | refine i_mak ?_ | refine i_dget ?_ | refine i_din ?_ | refine i_dnotin ?_ | refine i_dput ?_ | refine i_dnewT ?_ | refine i_sub ?_ | refine i_rng1 ?_ | refine i_rng2 ?_ | refine i_rev ?_ | refine i_replC ?_ | refine i_lenset ?_ | refine i_mS ?_ | refine i_js ?_ | refine i_fmt ?_ | refine i_par ?_ | refine i_v2 ?_ | refine i_par3 ?_ | refine i_v3 ?_ | refine i_mkO ?_ | refine i_ost ?_ | refine i_sFld ?_ | refine i_yes ?_ | refine i_dget1 ?_ | refine i_dnewK ?_ | refine i_dpop1 ?_ | refine i_ndnew ?_ | refine i_nget2 ?_ | refine i_nsetd ?_ | refine i_nix ?_ | refine i_nput ?_ | refine i_listItems ?_ | refine i_for0Nv ?_ | refine i_lc0Nk ?_ | refine i_dstar ?_ | refine i_lc20L ?_ | refine i_sp1 ?_ | refine i_sp2 ?_ | refine i_sp3 ?_ | refine i_sp4 ?_)
local macro_rules | `(tactic| walk_at "dr") => `(tactic| first
  | assumption | exact Dr.non | exact Dr.bl _ | exact Dr.int _ | exact Dr.str _ | exact Dr.tup (by assumption) (by assumption) | exact Dr.lst (by assumption) (by assumption) | exact Dr.dic (by assumption) | exact Im.dr (by assumption))
local macro_rules | `(tactic| walk_at "if") => `(tactic| first
  | ((with_reducible refine i_iT ?_ ?_); · rfl) | ((with_reducible refine i_iF ?_ ?_); · rfl))
local macro_rules | `(tactic| walk_at "isi") => `(tactic| ((with_reducible show rIsiU _ _ _ _); first
  | (with_reducible refine j_isTup (by walk_at "dr") ?_) | (with_reducible refine j_isLst (by walk_at "dr") ?_) | (with_reducible refine j_isStr (by walk_at "dr") ?_)
  | (with_reducible refine j_isBl (by walk_at "dr") ?_) | (with_reducible refine j_isInt (by walk_at "dr") ?_)))
local macro_rules | `(tactic| walk_at "op") => `(tactic| with_reducible first
  | refine i_rI0 ?_ | refine i_addI ?_ | refine i_rU ?_ | refine i_ltI ?_ | refine i_inC ?_ | refine i_notInC ?_ | refine i_intI ?_ | refine i_intB ?_ | refine i_abs ?_ | refine i_max2 ?_ | refine i_min2 ?_ | refine i_isBl ?_
  | (refine i_eqS rfl ?_) | (refine i_neS rfl ?_))
local macro_rules | `(tactic| walk_at "wp") => `(tactic| ((with_reducible refine i_wp ?_ ?_); · rfl))
local macro_rules | `(tactic| walk_at "sx") => `(tactic| repeat first | walk_at "kb1" | walk_at "if" | walk_at "isi" | walk_at "op" | walk_at "wp")
local macro_rules | `(tactic| walk_at "cd") => `(tactic| refine ⟨_, (by walk_at "dr"), ?_⟩)
local macro_rules | `(tactic| walk_at "len") => `(tactic| (simp only [List.length_cons, List.length_nil]; decide))
local macro_rules | `(tactic| walk_at "ic") => `(tactic| first
  | ((with_reducible refine i_iT ?_ ?_); · first | with_reducible rfl | (simp only [Bool.not_true, Bool.not_false, isTupD, isLstD, isStrD, isBlD, isIntD, isSeqD]; done))
  | ((with_reducible refine i_iF ?_ ?_); · first | with_reducible rfl | (simp only [Bool.not_true, Bool.not_false, isTupD, isLstD, isStrD, isBlD, isIntD, isSeqD]; done)))
local macro_rules | `(tactic| walk_at "sy") => `(tactic| repeat first | walk_at "kb1" | walk_at "ic" | walk_at "isi" | walk_at "op" | walk_at "wp")
theorem sc_law_take : FnScope ["box", "size", "digit", "mixed"] ["box", "size"] (defScope s_law_take) := ⟨rfl, rfl, rfl, by decide +kernel, rfl, by decide +kernel, by decide +kernel⟩
theorem ok_law_take {P : Program} {w : World} {K : PySem.W.Frag} {mg : Str → Option Value} {base : Heap} (T : Tx K mg) :
    Cn P w K mg base 1 (He.fAd K ("_law_take", none)) ["box", "size"] (sp_law_take K) := by
  refine cnN (d := d_law_take) T.st_law_take sc_law_take sp2_len (fun _ _ _ _ _ _ us hl => match us, hl with | [_, _], _ => rfl) (fun cdv A outer s H vs Q E hr h => ?_)
  obtain ⟨v_box, v_size, rfl, h⟩ := h
  refine ⟨_, (pss_cons (ps_if (pt_cmpR op_gt (pe_ix (x_seq (K := K) rfl) (pv 0) pe_int (fun _ _ => rfl)) pe_int (by rfl)) (pss_cons (ps_set (i := 2) sc_law_take.nd rfl (.inl rfl) (pe_op op_mod (pe_ix (x_seq (K := K) rfl) (pv 0) pe_int (fun _ _ => rfl)) (pv 1)))
  (pss_cons (ps_asg (pe_op op_fdiv (pe_ix (x_seq (K := K) rfl) (pv 0) pe_int (fun _ _ => rfl)) (pv 1)) (pg_sub (pv 0) pe_int set_list))
  (pss_one (ps_ret (pv 2))))) pss_nil)
  (pss_cons (ps_asg (pe_op op_addU (pe_ix (x_seq (K := K) rfl) (pv 0) pe_int (fun _ _ => rfl)) pe_int) (pg_sub (pv 0) pe_int set_list))
  (pss_cons (ps_set (i := 3) sc_law_take.nd rfl (.inl rfl) (pe_op op_mod (pe_op op_addU (pe_op op_addU (pe_op op_mul (pe_ix (x_seq (K := K) rfl) (pv 0) pe_int (fun _ _ => rfl)) pe_int) (pe_op op_mul pe_int (pe_ix (x_seq (K := K) rfl) (pv 0) pe_int (fun _ _ => rfl)))) pe_int) pe_int))
  (pss_cons (ps_asg (pe_op op_mod (pe_op op_addU (pe_op op_pow (pv 3) pe_int) (pe_op op_mul pe_int (pe_ix (x_seq (K := K) rfl) (pv 0) pe_int (fun _ _ => rfl)))) pe_int) (pg_sub (pv 0) pe_int set_list))
  (pss_one (ps_ret (pe_op op_mod (pe_op op_fdiv (pe_ix (x_seq (K := K) rfl) (pv 0) pe_int (fun _ _ => rfl)) pe_int) (pv 1)))))))), ?_⟩
  rw [show start ["box", "size", "digit", "mixed"] [v_box, v_size] = [some v_box, some v_size, none, none] from rfl]
  obtain ⟨x, m, rfl, ⟨i, j, k, hb, hi, hj⟩, rfl, h1, h2, q⟩ := h
  walk_at "sx"
  refine i_ixL (.inl (.inl hb)) rfl ?_
  walk_at "sx"
  refine i_i2 (fun e => ?_) (fun e => ?_)
  · walk_at "sx"
    refine i_ixL (.inl (.inl hb)) rfl ?_
    walk_at "sx"
    refine i_mod (by omega) ?_
    walk_at "sx"
    refine i_ixL (.inl (.inl hb)) rfl ?_
    walk_at "sx"
    refine i_rI ⟨by omega, by omega⟩ ?_
    walk_at "sx"
    refine i_setL hb rfl ?_
    walk_at "sx"
    exact q _ _ (Int.emod_nonneg _ (by omega)) (Int.emod_lt_of_pos _ (by omega)) .self ⟨_, _, _, upd_same, Int.ediv_nonneg hi (by omega), hj⟩
  · walk_at "sx"
    refine i_ixL (.inl (.inl hb)) rfl ?_
    walk_at "sx"
    refine i_setL hb rfl ?_
    walk_at "sx"
    refine i_ixL (.inl (.inl upd_same)) rfl ?_
    walk_at "sx"
    refine i_mulR (by decide) ?_
    walk_at "sx"
    refine i_ixL (.inl (.inl upd_same)) rfl ?_
    walk_at "sx"
    refine i_mulL (by decide) ?_
    walk_at "sx"
    refine i_mod (by decide) ?_
    walk_at "sx"
    refine i_rI ⟨by decide, by decide, by omega⟩ ?_
    walk_at "sx"
    refine i_ixL (.inl (.inl upd_same)) rfl ?_
    walk_at "sx"
    refine i_mulL (by decide) ?_
    walk_at "sx"
    refine i_mod (by decide) ?_
    walk_at "sx"
    refine i_setL upd_same rfl ?_
    walk_at "sx"
    refine i_ixL (.inl (.inl upd_same)) rfl ?_
    walk_at "sx"
    refine i_rI ⟨by decide, by decide⟩ ?_
    walk_at "sx"
    refine i_mod (by omega) ?_
    exact q _ _ (Int.emod_nonneg _ (by omega)) (Int.emod_lt_of_pos _ (by omega)) (SameBut.trans .self .self) ⟨_, _, _, upd_same, hi, Int.emod_nonneg _ (by decide)⟩


end H68

set_option maxHeartbeats 1000000
namespace H68
open PySem PySem.Spec PyProof.Rows L2 KB
local macro_rules | `(tactic| walk_at "kb1") => `(tactic| with_reducible first
  | refine i_var rfl ?_ | refine i_c ?_ | refine i_cons ?_ | refine i_nil ?_ | refine i_op ?_ | refine i_seq ?_ | refine i_if ?_ | refine i_ret ?_ | refine i_asg ?_ | refine i_name ?_ | refine i_next ?_ | refine i_drop ?_
  | refine i_un ?_ | refine i_cb ?_ | refine i_cal ?_ | refine i_calM ?_ | refine i_test ?_ | refine i_tb ?_ | refine i_k ?_ | refine i_not ?_ | refine i_and ?_ | refine i_or ?_ | refine i_andV ?_ | refine i_orV ?_ | refine i_notV ?_ | refine i_ife ?_
  | refine i_isN ?_ | refine i_notN ?_ | refine i_chain ?_ | refine i_tup ?_ | refine i_lst ?_ | refine i_sl ?_ | refine i_noPart ?_ | refine i_part ?_ | refine i_ik ?_ | refine i_sk ?_ | refine i_bm0 ?_ | refine i_bm ?_ | refine i_m1 ?_ | refine i_m0 ?_ | refine i_fld ?_ | refine i_tru ?_
  | refine i_gC ?_ | refine i_gN ?_ | refine i_for0L ?_ | refine i_for0E ?_ | refine i_for0R ?_ | refine i_lc0L ?_ | refine i_lc0S ?_ | refine i_lc0Z ?_ | refine i_tix ?_ | refine i_lorei ?_ | refine i_js0 ?_ | refine i_xf ?_ | refine i_calR ?_ | refine i_calRS ?_ | refine i_calS ?_ | refine i_for0R3 ?_ | refine i_mak ?_ | refine i_dget ?_ | refine i_din ?_ | refine i_dnotin ?_ | refine i_dput ?_ | refine i_dnewT ?_ | refine i_sub ?_ | refine i_rng1 ?_ | refine i_rng2 ?_ | refine i_rev ?_ | refine i_replC ?_ | refine i_lenset ?_ | refine i_mS ?_ | refine i_js ?_ | refine i_fmt ?_ | refine i_par ?_ | refine i_v2 ?_ | refine i_par3 ?_ | refine i_v3 ?_ | refine i_mkO ?_ | refine i_ost ?_ | refine i_sFld ?_ | refine i_yes ?_ | refine i_dget1 ?_ | refine i_dnewK ?_ | refine i_dpop1 ?_ | refine i_ndnew ?_ | refine i_nget2 ?_ | refine i_nsetd ?_ | refine i_nix ?_ | refine i_nput ?_ | refine i_listItems ?_ | refine i_for0Nv ?_ | refine i_lc0Nk ?_ | refine i_dstar ?_ | refine i_lc20L ?_ | refine i_sp1 ?_ | refine i_sp2 ?_ | refine i_sp3 ?_ | refine i_sp4 ?_)
local macro_rules | `(tactic| walk_at "dr") => `(tactic| first
  | assumption | exact Dr.non | exact Dr.bl _ | exact Dr.int _ | exact Dr.str _ | exact Dr.tup (by assumption) (by assumption) | exact Dr.lst (by assumption) (by assumption) | exact Dr.dic (by assumption) | exact Im.dr (by assumption))
local macro_rules | `(tactic| walk_at "if") => `(tactic| first
  | ((with_reducible refine i_iT ?_ ?_); · rfl) | ((with_reducible refine i_iF ?_ ?_); · rfl))
local macro_rules | `(tactic| walk_at "isi") => `(tactic| ((with_reducible show rIsiU _ _ _ _); first
  | (with_reducible refine j_isTup (by walk_at "dr") ?_) | (with_reducible refine j_isLst (by walk_at "dr") ?_) | (with_reducible refine j_isStr (by walk_at "dr") ?_)
  | (with_reducible refine j_isBl (by walk_at "dr") ?_) | (with_reducible refine j_isInt (by walk_at "dr") ?_)))
local macro_rules | `(tactic| walk_at "op") => `(tactic| with_reducible first
  | refine i_rI0 ?_ | refine i_addI ?_ | refine i_rU ?_ | refine i_ltI ?_ | refine i_inC ?_ | refine i_notInC ?_ | refine i_intI ?_ | refine i_intB ?_ | refine i_abs ?_ | refine i_max2 ?_ | refine i_min2 ?_ | refine i_isBl ?_
  | (refine i_eqS rfl ?_) | (refine i_neS rfl ?_))
local macro_rules | `(tactic| walk_at "wp") => `(tactic| ((with_reducible refine i_wp ?_ ?_); · rfl))
local macro_rules | `(tactic| walk_at "sx") => `(tactic| repeat first | walk_at "kb1" | walk_at "if" | walk_at "isi" | walk_at "op" | walk_at "wp")
local macro_rules | `(tactic| walk_at "cd") => `(tactic| refine ⟨_, (by walk_at "dr"), ?_⟩)
local macro_rules | `(tactic| walk_at "len") => `(tactic| (simp only [List.length_cons, List.length_nil]; decide))
local macro_rules | `(tactic| walk_at "ic") => `(tactic| first
  | ((with_reducible refine i_iT ?_ ?_); · first | with_reducible rfl | (simp only [Bool.not_true, Bool.not_false, isTupD, isLstD, isStrD, isBlD, isIntD, isSeqD]; done))
  | ((with_reducible refine i_iF ?_ ?_); · first | with_reducible rfl | (simp only [Bool.not_true, Bool.not_false, isTupD, isLstD, isStrD, isBlD, isIntD, isSeqD]; done)))
local macro_rules | `(tactic| walk_at "sy") => `(tactic| repeat first | walk_at "kb1" | walk_at "ic" | walk_at "isi" | walk_at "op" | walk_at "wp")
theorem sc_law_mixed : FnScope ["box", "items", "left", "found", "turn"] ["box", "items"] (defScope s_law_mixed) := ⟨rfl, rfl, rfl, by decide +kernel, rfl, by decide +kernel, by decide +kernel⟩
theorem ok_law_mixed {P : Program} {w : World} {K : PySem.W.Frag} {mg : Str → Option Value} {base : Heap} (T : Tx K mg)
    (C_law_take : Cn P w K mg base 1 (He.fAd K ("_law_take", none)) ["box", "size"] (sp_law_take K)) :
    Cn P w K mg base 2 (He.fAd K ("_law_mixed", none)) ["box", "items"] (sp_law_mixed K) := by
  refine cnN (d := d_law_mixed) T.st_law_mixed sc_law_mixed sp2_len (fun _ _ _ _ _ _ us hl => match us, hl with | [_, _], _ => rfl) (fun cdv A outer s H vs Q E hr h => ?_)
  obtain ⟨v_box, v_items, rfl, h⟩ := h
  refine ⟨_, (pss_cons (ps_par rfl sc_law_mixed.nd (i := 2) (j := 3) rfl rfl (by decide) rfl rfl (pa_cons (pe_callTy (c_list (K := K) rfl) (by rfl) T.f_list (by decide +kernel) (pa_cons (pv 1) pa_nil)) (pa_cons (pe_lst pa_nil) pa_nil)) (by rfl))
  (pss_cons (ps_for PassesOwn.never rfl (pi_range1 (by rfl) T.f_range (pa_cons (pe_callB (c_len (K := K) rfl) (by rfl) T.f_len (by decide +kernel) (pa_cons (pv 1) pa_nil)) pa_nil)) (pg_name (i := 4) sc_law_mixed.nd rfl (.inl rfl))
  (pss_one (ps_expr (e_append (K := K) rfl (pv 3) (e_popAt (K := K) rfl (pv 2) (pe_cn C_law_take hr (by decide) (by rfl) T.g_law_take passN (pa_cons (pv 0) (pa_cons (pe_callB (c_len (K := K) rfl) (by rfl) T.f_len (by decide +kernel) (pa_cons (pv 2) pa_nil)) pa_nil))))))))
  (pss_one (ps_ret (pv 3))))), ?_⟩
  rw [show start ["box", "items", "left", "found", "turn"] [v_box, v_items] = [some v_box, some v_items, none, none, none] from rfl]
  obtain ⟨x, a, xs, rfl, hB, rfl, ha, hn, hz, q⟩ := h
  walk_at "sx"
  refine i_listL (.inl (.inl ha)) fun l hl => ?_
  walk_at "sx"
  refine ⟨by walk_at "len", fun f hf => ?_⟩
  walk_at "sx"
  have hfl : l ≠ f := fun e => by rw [← e, upd_same] at hf; cases hf
  have s1 : Same H (upd (upd H l (.lst xs)) f (.lst [])) := (Same.new hl).trans (Same.new hf)
  refine i_lenL (.inl (.inl (s1 _ _ ha))) ?_
  walk_at "sx"
  refine i_forR (fun i σ H' => ∃ ls ys u, σ = [some (.ref x), some (.ref a), some (.ref l), some (.ref f), u] ∧ SameBut x H H' ∧ Box H' x ∧ H' l = some (.lst ls) ∧ H' f = some (.lst ys) ∧ ls.length + i = xs.length ∧ ys.length = i ∧ (ys ++ ls).Perm xs) (by omega) ?_ ?_ ?_
  · exact ⟨xs, [], _, rfl, Same.but s1, hB.same s1, by rw [upd_ne hfl, upd_same], upd_same, by omega, rfl, by simp⟩
  · rintro i σ H' hi ⟨ls, ys, u, rfl, s, hB', h1, h2, h3, h4, h5⟩
    have hi' : i < xs.length := by omega
    walk_at "sx"
    refine ⟨ty_list (.inl (.inl h2)), ?_⟩
    walk_at "sx"
    refine ⟨ty_list (.inl (.inl h1)), ?_⟩
    walk_at "sx"
    refine i_lenL (.inl (.inl h1)) ?_
    walk_at "sx"
    refine ⟨x, _, rfl, hB', rfl, by omega, by omega, fun r H2 r0 r1 s2 hB2 => ?_⟩
    have n1 : l ≠ x := fun e => by obtain ⟨i, j, k, hb, _⟩ := hB; rw [← e, hl] at hb; cases hb
    have n2 : f ≠ x := fun e => by obtain ⟨i, j, k, hb, _⟩ := hB; rw [← e, fresh_of (Same.new hl) hf] at hb; cases hb
    have g1 : H2 l = some (.lst ls) := s2 l _ n1 h1
    have g2 : H2 f = some (.lst ys) := s2 f _ n2 h2
    · walk_at "sx"
      have er : r = ((r.toNat : Nat) : Int) := by omega
      rw [er]
      refine i_popAt g1 (i := r.toNat) (y := ls[r.toNat]'(by omega)) (List.getElem?_eq_getElem _) (by omega) ?_
      have hfl' : f ≠ l := Ne.symm hfl
      walk_at "sx"
      refine i_append (l := f) (xs := ys) (by show upd H2 l _ f = _; rw [upd_ne hfl']; exact g2) (by rw [sizeLine_eq]; omega) ?_
      walk_at "sx"
      refine ⟨_, _, _, rfl, ?_, ?_, by rw [upd_ne hfl, upd_same], upd_same, ?_, by simp [h4], ?_⟩
      · exact SameBut.put (SameBut.put (s.trans s2) hl) (fresh_of (Same.new hl) hf)
      · obtain ⟨i, j, k, hb, r⟩ := hB2
        exact ⟨i, j, k, by rw [upd_ne (Ne.symm n2), upd_ne (Ne.symm n1)]; exact hb, r⟩
      · rw [List.length_eraseIdx, if_pos (by omega)]; omega
      · refine List.Perm.trans ?_ h5
        rw [List.append_assoc]
        exact (perm_erase ls r.toNat (by omega)).append_left ys
  · rintro σ H' ⟨ls, ys, u, rfl, s, hB', h1, h2, h3, h4, h5⟩
    walk_at "sx"
    have h0 : ls = [] := List.eq_nil_of_length_eq_zero (by omega)
    rw [h0, List.append_nil] at h5
    exact q _ f ys s hB' (fresh_of (Same.new hl) hf) h2 h5


end H68

set_option maxHeartbeats 1000000
namespace H68
open PySem PySem.Spec PyProof.Rows L2 KB
local macro_rules | `(tactic| walk_at "kb1") => `(tactic| with_reducible first
  | refine i_var rfl ?_ | refine i_c ?_ | refine i_cons ?_ | refine i_nil ?_ | refine i_op ?_ | refine i_seq ?_ | refine i_if ?_ | refine i_ret ?_ | refine i_asg ?_ | refine i_name ?_ | refine i_next ?_ | refine i_drop ?_
  | refine i_un ?_ | refine i_cb ?_ | refine i_cal ?_ | refine i_calM ?_ | refine i_test ?_ | refine i_tb ?_ | refine i_k ?_ | refine i_not ?_ | refine i_and ?_ | refine i_or ?_ | refine i_andV ?_ | refine i_orV ?_ | refine i_notV ?_ | refine i_ife ?_
  | refine i_isN ?_ | refine i_notN ?_ | refine i_chain ?_ | refine i_tup ?_ | refine i_lst ?_ | refine i_sl ?_ | refine i_noPart ?_ | refine i_part ?_ | refine i_ik ?_ | refine i_sk ?_ | refine i_bm0 ?_ | refine i_bm ?_ | refine i_m1 ?_ | refine i_m0 ?_ | refine i_fld ?_ | refine i_tru ?_
  | refine i_gC ?_ | refine i_gN ?_ | refine i_for0L ?_ | refine i_for0E ?_ | refine i_for0R ?_ | refine i_lc0L ?_ | refine i_lc0S ?_ | refine i_lc0Z ?_ | refine i_tix ?_ | refine i_lorei ?_ | refine i_js0 ?_ | refine i_xf ?_ | refine i_calR ?_ | refine i_calRS ?_ | refine i_calS ?_ | refine i_for0R3 ?_ | refine i_mak ?_ | refine i_dget ?_ | refine i_din ?_ | refine i_dnotin ?_ | refine i_dput ?_ | refine i_dnewT ?_ | refine i_sub ?_ | refine i_rng1 ?_ | refine i_rng2 ?_ | refine i_rev ?_ | refine i_replC ?_ | refine i_lenset ?_ | refine i_mS ?_ | refine i_js ?_ | refine i_fmt ?_ | refine i_par ?_ | refine i_v2 ?_ | refine i_par3 ?_ | refine i_v3 ?_ | refine i_mkO ?_ | refine i_ost ?_ | refine i_sFld ?_ | refine i_yes ?_ | refine i_dget1 ?_ | refine i_dnewK ?_ | refine i_dpop1 ?_ | refine i_ndnew ?_ | refine i_nget2 ?_ | refine i_nsetd ?_ | refine i_nix ?_ | refine i_nput ?_ | refine i_listItems ?_ | refine i_for0Nv ?_ | refine i_lc0Nk ?_ | refine i_dstar ?_ | refine i_lc20L ?_ | refine i_sp1 ?_ | refine i_sp2 ?_ | refine i_sp3 ?_ | refine i_sp4 ?_)
local macro_rules | `(tactic| walk_at "dr") => `(tactic| first
  | assumption | exact Dr.non | exact Dr.bl _ | exact Dr.int _ | exact Dr.str _ | exact Dr.tup (by assumption) (by assumption) | exact Dr.lst (by assumption) (by assumption) | exact Dr.dic (by assumption) | exact Im.dr (by assumption))
local macro_rules | `(tactic| walk_at "if") => `(tactic| first
  | ((with_reducible refine i_iT ?_ ?_); · rfl) | ((with_reducible refine i_iF ?_ ?_); · rfl))
local macro_rules | `(tactic| walk_at "isi") => `(tactic| ((with_reducible show rIsiU _ _ _ _); first
  | (with_reducible refine j_isTup (by walk_at "dr") ?_) | (with_reducible refine j_isLst (by walk_at "dr") ?_) | (with_reducible refine j_isStr (by walk_at "dr") ?_)
  | (with_reducible refine j_isBl (by walk_at "dr") ?_) | (with_reducible refine j_isInt (by walk_at "dr") ?_)))
local macro_rules | `(tactic| walk_at "op") => `(tactic| with_reducible first
  | refine i_rI0 ?_ | refine i_addI ?_ | refine i_rU ?_ | refine i_ltI ?_ | refine i_inC ?_ | refine i_notInC ?_ | refine i_intI ?_ | refine i_intB ?_ | refine i_abs ?_ | refine i_max2 ?_ | refine i_min2 ?_ | refine i_isBl ?_
  | (refine i_eqS rfl ?_) | (refine i_neS rfl ?_))
local macro_rules | `(tactic| walk_at "wp") => `(tactic| ((with_reducible refine i_wp ?_ ?_); · rfl))
local macro_rules | `(tactic| walk_at "sx") => `(tactic| repeat first | walk_at "kb1" | walk_at "if" | walk_at "isi" | walk_at "op" | walk_at "wp")
local macro_rules | `(tactic| walk_at "cd") => `(tactic| refine ⟨_, (by walk_at "dr"), ?_⟩)
local macro_rules | `(tactic| walk_at "len") => `(tactic| (simp only [List.length_cons, List.length_nil]; decide))
local macro_rules | `(tactic| walk_at "ic") => `(tactic| first
  | ((with_reducible refine i_iT ?_ ?_); · first | with_reducible rfl | (simp only [Bool.not_true, Bool.not_false, isTupD, isLstD, isStrD, isBlD, isIntD, isSeqD]; done))
  | ((with_reducible refine i_iF ?_ ?_); · first | with_reducible rfl | (simp only [Bool.not_true, Bool.not_false, isTupD, isLstD, isStrD, isBlD, isIntD, isSeqD]; done)))
local macro_rules | `(tactic| walk_at "sy") => `(tactic| repeat first | walk_at "kb1" | walk_at "ic" | walk_at "isi" | walk_at "op" | walk_at "wp")
theorem sc_law_same : FnScope ["told", "due", "k"] ["told", "due"] (defScope s_law_same) := ⟨rfl, rfl, rfl, by decide +kernel, rfl, by decide +kernel, by decide +kernel⟩
theorem st_law_same {n : Nat} {P : Program} {w : World} {K : PySem.W.Frag} {mg : Str → Option Value} {base : Heap} (T : Tx K mg)
    (C_law_same : Cn P w K mg base (n + 1) (He.fAd K ("_law_same", none)) ["told", "due"] (sp_law_same_n K n)) :
    Cn P w K mg base (n + 1 + 1) (He.fAd K ("_law_same", none)) ["told", "due"] (sp_law_same_n K (n + 1)) := by
  refine cnN (d := d_law_same) T.st_law_same sc_law_same sp2_len (fun _ _ _ _ _ _ us hl => match us, hl with | [_, _], _ => rfl) (fun cdv A outer s H vs Q E hr h => ?_)
  obtain ⟨v_told, v_due, rfl, h⟩ := h
  refine ⟨_, (pss_cons (ps_if (PW.pt (pw_or (pt_cmp (pc_isN (pv 1)) rfl) (pw_or1 (pt_val (pe_callB (c_isi (K := K) rfl) (by rfl) T.f_isinstance (by decide +kernel) (pa_cons (pv 1) (pa_cons (pe_bltn (v := .ty "bool") (by rfl) T.f_bool (by decide +kernel) rfl) pa_nil))))))) (pss_one (ps_ret (pe_ifExp (pt_cmp (pc_isN (pv 1)) rfl) (pe_cmp (pc_isN (pv 0)) rfl) (pe_and (pe_callB (c_isi (K := K) rfl) (by rfl) T.f_isinstance (by decide +kernel) (pa_cons (pv 0) (pa_cons (pe_bltn (v := .ty "bool") (by rfl) T.f_bool (by decide +kernel) rfl) pa_nil))) (pe_one (pe_cmpR (o_eq (K := K) rfl hr.units) (pe_cmpR op_isBl (pv 0) pe_bl (by rfl)) (pe_cmpR op_isBl (pv 1) pe_bl (by rfl)) (by rfl))))))) pss_nil)
  (pss_cons (ps_if (pt_val (pe_callB (c_isi (K := K) rfl) (by rfl) T.f_isinstance (by decide +kernel) (pa_cons (pv 1) (pa_cons (pe_bltn (v := .ty "int") (by rfl) T.f_int (by decide +kernel) rfl) pa_nil)))) (pss_one (ps_ret (pe_and (pe_callB (c_isi (K := K) rfl) (by rfl) T.f_isinstance (by decide +kernel) (pa_cons (pv 0) (pa_cons (pe_bltn (v := .ty "int") (by rfl) T.f_int (by decide +kernel) rfl) pa_nil))) (pe_and (pe_not (pe_callB (c_isi (K := K) rfl) (by rfl) T.f_isinstance (by decide +kernel) (pa_cons (pv 0) (pa_cons (pe_bltn (v := .ty "bool") (by rfl) T.f_bool (by decide +kernel) rfl) pa_nil)))) (pe_one (pe_cmpR (o_eq (K := K) rfl hr.units) (pe_op op_sub (pe_callTy (call_intU) (by rfl) T.f_int (by decide +kernel) (pa_cons (pv 0) pa_nil)) (pv 1)) pe_int (by rfl))))))) pss_nil)
  (pss_cons (ps_if (pt_val (pe_callB (c_isi (K := K) rfl) (by rfl) T.f_isinstance (by decide +kernel) (pa_cons (pv 1) (pa_cons (pe_bltn (v := .ty "str") (by rfl) T.f_str (by decide +kernel) rfl) pa_nil)))) (pss_one (ps_ret (pe_and (pe_callB (c_isi (K := K) rfl) (by rfl) T.f_isinstance (by decide +kernel) (pa_cons (pv 0) (pa_cons (pe_bltn (v := .ty "str") (by rfl) T.f_str (by decide +kernel) rfl) pa_nil))) (pe_and (pe_cmpR (o_eq (K := K) rfl hr.units) (pe_callB (c_len (K := K) rfl) (by rfl) T.f_len (by decide +kernel) (pa_cons (pv 0) pa_nil)) (pe_callB (c_len (K := K) rfl) (by rfl) T.f_len (by decide +kernel) (pa_cons (pv 1) pa_nil)) (by rfl)) (pe_one (pe_cmpR (o_eqN (K := K) rfl hr.units0) (pe_lc (own := [("k", 2)]) (g := (gName 2)) rfl sc_law_same.nd (pi_range1 (by rfl) T.f_range (pa_cons (pe_callB (c_len (K := K) rfl) (by rfl) T.f_len (by decide +kernel) (pa_cons (pv 1) pa_nil)) pa_nil)) (blkOk_by (own := [("k", 2)]) (N := ["told", "due", "k"]) (sc := defScope s_law_same) (by decide +kernel)) (fun _ _ _ _ _ => (pg_name (i := 2) sc_law_same.nd rfl (by first | exact Or.inl rfl | exact Or.inr rfl))) (fun _ _ _ _ _ => (pts_one (pt_cmpR (o_ne (K := K) rfl hr.units) (pe_slice (s_seq (K := K) rfl) (pv 0) (po_some (pv 2)) (po_some (pe_op op_addU (pv 2) pe_int))) (pe_ix (x_seq (K := K) rfl) (pv 1) (pv 2) (fun _ _ => rfl)) (by rfl)))) (fun _ _ _ _ _ => (pv 2))) (pe_lst pa_nil) (by rfl))))))) pss_nil)
  (pss_cons (ps_if (PW.pt (pw_or (pt_cmpR (o_ne (K := K) rfl hr.units) (pe_callB (c_isi (K := K) rfl) (by rfl) T.f_isinstance (by decide +kernel) (pa_cons (pv 0) (pa_cons (pe_bltn (v := .ty "list") (by rfl) T.f_list (by decide +kernel) rfl) pa_nil))) (pe_callB (c_isi (K := K) rfl) (by rfl) T.f_isinstance (by decide +kernel) (pa_cons (pv 1) (pa_cons (pe_bltn (v := .ty "list") (by rfl) T.f_list (by decide +kernel) rfl) pa_nil))) (by rfl)) (pw_or1 (pt_cmpR (o_ne (K := K) rfl hr.units) (pe_callB (c_isi (K := K) rfl) (by rfl) T.f_isinstance (by decide +kernel) (pa_cons (pv 0) (pa_cons (pe_bltn (v := .ty "tuple") (by rfl) T.f_tuple (by decide +kernel) rfl) pa_nil))) (pe_callB (c_isi (K := K) rfl) (by rfl) T.f_isinstance (by decide +kernel) (pa_cons (pv 1) (pa_cons (pe_bltn (v := .ty "tuple") (by rfl) T.f_tuple (by decide +kernel) rfl) pa_nil))) (by rfl))))) (pss_one (ps_ret pe_bl)) pss_nil)
  (pss_cons (ps_if (pt_not (pt_val (pe_callB (c_isi (K := K) rfl) (by rfl) T.f_isinstance (by decide +kernel) (pa_cons (pv 1) (pa_cons (pe_tup (pa_cons (pe_bltn (v := .ty "list") (by rfl) T.f_list (by decide +kernel) rfl) (pa_cons (pe_bltn (v := .ty "tuple") (by rfl) T.f_tuple (by decide +kernel) rfl) pa_nil))) pa_nil))))) (pss_one (ps_ret (pe_guards fun g => pe_cmpR op_eq (pe_callB (call_reprE (g := g) rfl (by have h8 := rU8 hr; exact h8)) (by rfl) T.f_repr (by decide +kernel) (pa_cons (pv 0) pa_nil)) (pe_callB (call_reprE (g := g) rfl (by have h8 := rU8 hr; exact h8)) (by rfl) T.f_repr (by decide +kernel) (pa_cons (pv 1) pa_nil)) (by rfl)))) pss_nil)
  (pss_one (ps_ret (pe_and (pe_cmpR (o_eq (K := K) rfl hr.units) (pe_callB (c_len (K := K) rfl) (by rfl) T.f_len (by decide +kernel) (pa_cons (pv 0) pa_nil)) (pe_callB (c_len (K := K) rfl) (by rfl) T.f_len (by decide +kernel) (pa_cons (pv 1) pa_nil)) (by rfl)) (pe_one (pe_cmpR (o_eqN (K := K) rfl hr.units0) (pe_lc (own := [("k", 2)]) (g := (gName 2)) rfl sc_law_same.nd (pi_range1 (by rfl) T.f_range (pa_cons (pe_callB (c_len (K := K) rfl) (by rfl) T.f_len (by decide +kernel) (pa_cons (pv 1) pa_nil)) pa_nil)) (blkOk_by (own := [("k", 2)]) (N := ["told", "due", "k"]) (sc := defScope s_law_same) (by decide +kernel)) (fun _ _ _ _ _ => (pg_name (i := 2) sc_law_same.nd rfl (by first | exact Or.inl rfl | exact Or.inr rfl))) (fun _ _ _ _ _ => (pts_one (pt_not (pt_val (pe_cn C_law_same hr (by omega) (by rfl) T.g_law_same passN (pa_cons (pe_ix (x_seq (K := K) rfl) (pv 0) (pv 2) (fun _ _ => rfl)) (pa_cons (pe_ix (x_seq (K := K) rfl) (pv 1) (pv 2) (fun _ _ => rfl)) pa_nil))))))) (fun _ _ _ _ _ => (pv 2))) (pe_lst pa_nil) (by rfl))))))))))), ?_⟩
  rw [show start ["told", "due", "k"] [v_told, v_due] = [some v_told, some v_due, none] from rfl]
  obtain ⟨d, hd, he, ho, q⟩ := h
  have q0 : Q (.bl true) H := q _ (fun _ _ e => e)
  cases he with
  | non =>
    cases hd
    walk_at "sx"
    exact q0
  | bl b =>
    cases hd
    cases b <;> (walk_at "sx"; exact q0)
  | int i =>
    cases hd
    walk_at "sx"
    rw [Int.sub_self]
    exact q0
  | str z =>
    cases hd
    have hz : Sm z := by
      rcases ho with ho | ⟨_, h, _⟩
      · exact ho
      · cases h
    have hz' : z.length ≤ 1000000 := hz
    walk_at "sx"
    refine i_lenS hz.z ?_
    walk_at "sx"
    refine i_lenS hz.z ?_
    walk_at "sx"
    refine i_iT (decide_eq_true rfl) ?_
    walk_at "sx"
    refine i_lenS hz.z ?_
    walk_at "sx"
    refine i_lcR (fun _ => false) (fun d => d) (by omega) (by omega) (fun D hD m x dd H3 ed ix s3 N no yes => ?_) (fun D H3 ys hD s3 hy im => ?_)
    · obtain ⟨hm, rfl⟩ := rngD_get ed
      cases ix
      have hm' : m < z.cps.toList.length := by
        have : z.cps.toList.length = z.length := by rw [Array.length_toList]; rfl
        omega
      walk_at "sx"
      refine i_slS hz.z ?_
      walk_at "sx"
      refine i_ixS hz.z (c := z.cps.toList[m]) (by rw [show (0 + (m : Int)) = ((m : Nat) : Int) from by omega]; exact at_nat (List.getElem?_eq_getElem hm')) ?_
      walk_at "sx"
      rw [cut_one hm']
      refine i_iF (by rw [decide_eq_true rfl]; rfl) ?_
      exact no rfl _ (fun _ _ e => e)
    · walk_at "sx"
      refine ⟨by walk_at "len", fun p9 hp9 => ?_⟩
      have t9 := Same.new (o := .lst []) hp9
      have e0 : ys = [] := List.eq_nil_of_length_eq_zero (by rw [im.length]; simp)
      subst e0
      refine ⟨D, p9, [], rfl, rfl, .inl (.inl (t9 _ _ hy)), .inl (.inl upd_same), ?_⟩
      exact q _ (s3.trans t9)
  | @tup b vs ds ha al =>
    have ho' : ds.length ≤ 2000000 ∧ ∀ d ∈ ds, okD n d := by
      rcases ho with ho | ⟨_, h, _⟩
      · exact ho
      · cases h
    cases hd with
    | @tup a us _ ha' al' =>
    have hda : Dr H (.ref a) (.tuple ds) := .tup ha' al'
    have hdb : Dr H (.ref b) (.tuple ds) := .tup ha al
    have l1 := al.length
    have l2 := al'.length
    walk_at "sx"
    refine ⟨by walk_at "len", fun p hp => ?_⟩
    have s0 := Same.new (o := .tup [V.ty "list", V.ty "tuple"]) hp
    walk_at "sx"
    refine j_isSeq upd_same (hdb.mono s0) ?_
    walk_at "sx"
    refine i_lenT (.inl (.inl (s0 _ _ ha'))) ?_
    walk_at "sx"
    refine i_lenT (.inl (.inl (s0 _ _ ha))) ?_
    walk_at "sx"
    rw [l1, l2]
    refine i_iT (decide_eq_true rfl) ?_
    walk_at "sx"
    refine i_lenT (.inl (.inl (s0 _ _ ha))) ?_
    walk_at "sx"
    rw [l1]
    refine i_lcR (fun _ => false) (fun d => d) (by omega) (by omega) (fun D hD m x dd H3 ed ix s3 N no yes => ?_) (fun D H3 ys hD s3 hy im => ?_)
    · obtain ⟨hm, rfl⟩ := rngD_get ed
      cases ix
      have hm' : m < ds.length := by omega
      have s03 := s0.trans s3
      obtain ⟨v1, hv1, iv1⟩ := al'.get' (List.getElem?_eq_getElem hm')
      obtain ⟨v2, hv2, iv2⟩ := al.get' (List.getElem?_eq_getElem hm')
      walk_at "sx"
      refine i_ixT (.inl (.inl (s03 _ _ ha'))) (by rw [show (0 + (m : Int)) = ((m : Nat) : Int) from by omega]; exact at_nat hv1) ?_
      walk_at "sx"
      refine i_ixT (.inl (.inl (s03 _ _ ha))) (by rw [show (0 + (m : Int)) = ((m : Nat) : Int) from by omega]; exact at_nat hv2) ?_
      walk_at "sx"
      refine ⟨ds[m], iv1.mono s03, iv2.mono s03, .inl (ho'.2 _ (List.getElem_mem hm')), fun H4 s4 => ?_⟩
      walk_at "sx"
      exact no rfl _ s4
    · walk_at "sx"
      refine ⟨by walk_at "len", fun p9 hp9 => ?_⟩
      have t9 := Same.new (o := .lst []) hp9
      have e0 : ys = [] := List.eq_nil_of_length_eq_zero (by rw [im.length]; simp)
      subst e0
      refine ⟨D, p9, [], rfl, rfl, .inl (.inl (t9 _ _ hy)), .inl (.inl upd_same), ?_⟩
      exact q _ ((s0.trans s3).trans t9)
  | @lst b vs ds ha al =>
    have ho' : ds.length ≤ 2000000 ∧ ∀ d ∈ ds, okD n d := by
      rcases ho with ho | ⟨_, h, _⟩
      · exact ho
      · cases h
    cases hd with
    | @lst a us _ ha' al' =>
    have hda : Dr H (.ref a) (.list ds) := .lst ha' al'
    have hdb : Dr H (.ref b) (.list ds) := .lst ha al
    have l1 := al.length
    have l2 := al'.length
    walk_at "sx"
    refine ⟨by walk_at "len", fun p hp => ?_⟩
    have s0 := Same.new (o := .tup [V.ty "list", V.ty "tuple"]) hp
    walk_at "sx"
    refine j_isSeq upd_same (hdb.mono s0) ?_
    walk_at "sx"
    refine i_lenL (.inl (.inl (s0 _ _ ha'))) ?_
    walk_at "sx"
    refine i_lenL (.inl (.inl (s0 _ _ ha))) ?_
    walk_at "sx"
    rw [l1, l2]
    refine i_iT (decide_eq_true rfl) ?_
    walk_at "sx"
    refine i_lenL (.inl (.inl (s0 _ _ ha))) ?_
    walk_at "sx"
    rw [l1]
    refine i_lcR (fun _ => false) (fun d => d) (by omega) (by omega) (fun D hD m x dd H3 ed ix s3 N no yes => ?_) (fun D H3 ys hD s3 hy im => ?_)
    · obtain ⟨hm, rfl⟩ := rngD_get ed
      cases ix
      have hm' : m < ds.length := by omega
      have s03 := s0.trans s3
      obtain ⟨v1, hv1, iv1⟩ := al'.get' (List.getElem?_eq_getElem hm')
      obtain ⟨v2, hv2, iv2⟩ := al.get' (List.getElem?_eq_getElem hm')
      walk_at "sx"
      refine i_ixL (.inl (.inl (s03 _ _ ha'))) (by rw [show (0 + (m : Int)) = ((m : Nat) : Int) from by omega]; exact at_nat hv1) ?_
      walk_at "sx"
      refine i_ixL (.inl (.inl (s03 _ _ ha))) (by rw [show (0 + (m : Int)) = ((m : Nat) : Int) from by omega]; exact at_nat hv2) ?_
      walk_at "sx"
      refine ⟨ds[m], iv1.mono s03, iv2.mono s03, .inl (ho'.2 _ (List.getElem_mem hm')), fun H4 s4 => ?_⟩
      walk_at "sx"
      exact no rfl _ s4
    · walk_at "sx"
      refine ⟨by walk_at "len", fun p9 hp9 => ?_⟩
      have t9 := Same.new (o := .lst []) hp9
      have e0 : ys = [] := List.eq_nil_of_length_eq_zero (by rw [im.length]; simp)
      subst e0
      refine ⟨D, p9, [], rfl, rfl, .inl (.inl (t9 _ _ hy)), .inl (.inl upd_same), ?_⟩
      exact q _ ((s0.trans s3).trans t9)
  | @dic b ha =>
    have eab : v_told = .ref b := by
      rcases ho with ho | ⟨_, _, h⟩
      · exact ho.elim
      · exact h
    subst eab
    have hdb : Dr H (.ref b) (.dict []) := .dic ha
    walk_at "sx"
    refine ⟨by walk_at "len", fun p hp => ?_⟩
    have s0 := Same.new (o := .tup [V.ty "list", V.ty "tuple"]) hp
    walk_at "sx"
    refine j_isSeq upd_same (hdb.mono s0) ?_
    walk_at "sx"
    intro g
    walk_at "sx"
    refine ⟨b, rfl, s0 _ _ ha, ?_⟩
    walk_at "sx"
    refine ⟨b, rfl, s0 _ _ ha, rfl, ?_⟩
    rw [decide_eq_true rfl]
    exact q _ s0

theorem ok_law_same_n {P : Program} {w : World} {K : PySem.W.Frag} {mg : Str → Option Value} {base : Heap} (T : Tx K mg) : ∀ n : Nat, Cn P w K mg base (n + 1) (He.fAd K ("_law_same", none)) ["told", "due"] (sp_law_same_n K n)
  | 0 => cnZ (d := d_law_same) (k := 0) T.st_law_same sc_law_same sp2_len (fun _ _ _ _ _ _ us hl => match us, hl with | [_, _], _ => rfl) zero_law_same
  | n + 1 => (st_law_same (n := n) T (C_law_same := ok_law_same_n T n)).mono (by omega)
theorem ok_law_same {P : Program} {w : World} {K : PySem.W.Frag} {mg : Str → Option Value} {base : Heap} (T : Tx K mg) : Cn P w K mg base 13 (He.fAd K ("_law_same", none)) ["told", "due"] (sp_law_same K) := ok_law_same_n T 12

end H68

set_option maxHeartbeats 1000000
namespace H68
open PySem PySem.Spec PyProof.Rows L2 KB
local macro_rules | `(tactic| walk_at "kb1") => `(tactic| with_reducible first
  | refine i_var rfl ?_ | refine i_c ?_ | refine i_cons ?_ | refine i_nil ?_ | refine i_op ?_ | refine i_seq ?_ | refine i_if ?_ | refine i_ret ?_ | refine i_asg ?_ | refine i_name ?_ | refine i_next ?_ | refine i_drop ?_
  | refine i_un ?_ | refine i_cb ?_ | refine i_cal ?_ | refine i_calM ?_ | refine i_test ?_ | refine i_tb ?_ | refine i_k ?_ | refine i_not ?_ | refine i_and ?_ | refine i_or ?_ | refine i_andV ?_ | refine i_orV ?_ | refine i_notV ?_ | refine i_ife ?_
  | refine i_isN ?_ | refine i_notN ?_ | refine i_chain ?_ | refine i_tup ?_ | refine i_lst ?_ | refine i_sl ?_ | refine i_noPart ?_ | refine i_part ?_ | refine i_ik ?_ | refine i_sk ?_ | refine i_bm0 ?_ | refine i_bm ?_ | refine i_m1 ?_ | refine i_m0 ?_ | refine i_fld ?_ | refine i_tru ?_
  | refine i_gC ?_ | refine i_gN ?_ | refine i_for0L ?_ | refine i_for0E ?_ | refine i_for0R ?_ | refine i_lc0L ?_ | refine i_lc0S ?_ | refine i_lc0Z ?_ | refine i_tix ?_ | refine i_lorei ?_ | refine i_js0 ?_ | refine i_xf ?_ | refine i_calR ?_ | refine i_calRS ?_ | refine i_calS ?_ | refine i_for0R3 ?_ | refine i_mak ?_ | refine i_dget ?_ | refine i_din ?_ | refine i_dnotin ?_ | refine i_dput ?_ | refine i_dnewT ?_ | refine i_sub ?_ | refine i_rng1 ?_ | refine i_rng2 ?_ | refine i_rev ?_ | refine i_replC ?_ | refine i_lenset ?_ | refine i_mS ?_ | refine i_js ?_ | refine i_fmt ?_ | refine i_par ?_ | refine i_v2 ?_ | refine i_par3 ?_ | refine i_v3 ?_ | refine i_mkO ?_ | refine i_ost ?_ | refine i_sFld ?_ | refine i_yes ?_ | refine i_dget1 ?_ | refine i_dnewK ?_ | refine i_dpop1 ?_ | refine i_ndnew ?_ | refine i_nget2 ?_ | refine i_nsetd ?_ | refine i_nix ?_ | refine i_nput ?_ | refine i_listItems ?_ | refine i_for0Nv ?_ | refine i_lc0Nk ?_ | refine i_dstar ?_ | refine i_lc20L ?_ | refine i_sp1 ?_ | refine i_sp2 ?_ | refine i_sp3 ?_ | refine i_sp4 ?_)
local macro_rules | `(tactic| walk_at "dr") => `(tactic| first
  | assumption | exact Dr.non | exact Dr.bl _ | exact Dr.int _ | exact Dr.str _ | exact Dr.tup (by assumption) (by assumption) | exact Dr.lst (by assumption) (by assumption) | exact Dr.dic (by assumption) | exact Im.dr (by assumption))
local macro_rules | `(tactic| walk_at "if") => `(tactic| first
  | ((with_reducible refine i_iT ?_ ?_); · rfl) | ((with_reducible refine i_iF ?_ ?_); · rfl))
local macro_rules | `(tactic| walk_at "isi") => `(tactic| ((with_reducible show rIsiU _ _ _ _); first
  | (with_reducible refine j_isTup (by walk_at "dr") ?_) | (with_reducible refine j_isLst (by walk_at "dr") ?_) | (with_reducible refine j_isStr (by walk_at "dr") ?_)
  | (with_reducible refine j_isBl (by walk_at "dr") ?_) | (with_reducible refine j_isInt (by walk_at "dr") ?_)))
local macro_rules | `(tactic| walk_at "op") => `(tactic| with_reducible first
  | refine i_rI0 ?_ | refine i_addI ?_ | refine i_rU ?_ | refine i_ltI ?_ | refine i_inC ?_ | refine i_notInC ?_ | refine i_intI ?_ | refine i_intB ?_ | refine i_abs ?_ | refine i_max2 ?_ | refine i_min2 ?_ | refine i_isBl ?_
  | (refine i_eqS rfl ?_) | (refine i_neS rfl ?_))
local macro_rules | `(tactic| walk_at "wp") => `(tactic| ((with_reducible refine i_wp ?_ ?_); · rfl))
local macro_rules | `(tactic| walk_at "sx") => `(tactic| repeat first | walk_at "kb1" | walk_at "if" | walk_at "isi" | walk_at "op" | walk_at "wp")
local macro_rules | `(tactic| walk_at "cd") => `(tactic| refine ⟨_, (by walk_at "dr"), ?_⟩)
local macro_rules | `(tactic| walk_at "len") => `(tactic| (simp only [List.length_cons, List.length_nil]; decide))
local macro_rules | `(tactic| walk_at "ic") => `(tactic| first
  | ((with_reducible refine i_iT ?_ ?_); · first | with_reducible rfl | (simp only [Bool.not_true, Bool.not_false, isTupD, isLstD, isStrD, isBlD, isIntD, isSeqD]; done))
  | ((with_reducible refine i_iF ?_ ?_); · first | with_reducible rfl | (simp only [Bool.not_true, Bool.not_false, isTupD, isLstD, isStrD, isBlD, isIntD, isSeqD]; done)))
local macro_rules | `(tactic| walk_at "sy") => `(tactic| repeat first | walk_at "kb1" | walk_at "ic" | walk_at "isi" | walk_at "op" | walk_at "wp")
theorem sc_law_very : FnScope ["told", "value", "right"] ["told", "value"] (defScope s_law_very) := ⟨rfl, rfl, rfl, by decide +kernel, rfl, by decide +kernel, by decide +kernel⟩
theorem ok_law_very {P : Program} {w : World} {K : PySem.W.Frag} {mg : Str → Option Value} {base : Heap} (T : Tx K mg)
    (C_law_same : Cn P w K mg base 13 (He.fAd K ("_law_same", none)) ["told", "due"] (sp_law_same K)) :
    Cn P w K mg base 14 (He.fAd K ("_law_very", none)) ["told", "value"] (sp_law_very K) := by
  refine cnN (d := d_law_very) T.st_law_very sc_law_very sp2_len (fun _ _ _ _ _ _ us hl => match us, hl with | [_, _], _ => rfl) (fun cdv A outer s H vs Q E hr h => ?_)
  obtain ⟨v_told, v_value, rfl, h⟩ := h
  refine ⟨_, (pss_cons (ps_if (PW.pt (pw_or (pt_not (pt_val (pe_cn C_law_same hr (by decide) (by rfl) T.g_law_same passN (pa_cons (pv 0) (pa_cons (pv 1) pa_nil))))) (pw_or1 (pt_not (pt_val (pe_callB (c_isi (K := K) rfl) (by rfl) T.f_isinstance (by decide +kernel) (pa_cons (pv 1) (pa_cons (pe_bltn (v := .ty "list") (by rfl) T.f_list (by decide +kernel) rfl) pa_nil)))))))) (pss_one (ps_ret (pe_cn C_law_same hr (by decide) (by rfl) T.g_law_same passN (pa_cons (pv 0) (pa_cons (pv 1) pa_nil))))) pss_nil)
  (pss_cons (ps_expr (e_append (K := K) rfl (pv 1) pe_str))
  (pss_cons (ps_set (i := 2) sc_law_very.nd rfl (.inl rfl) (pe_cn C_law_same hr (by decide) (by rfl) T.g_law_same passN (pa_cons (pv 0) (pa_cons (pv 1) pa_nil))))
  (pss_cons (ps_expr (e_pop (K := K) rfl (pv 1)))
  (pss_one (ps_ret (pv 2))))))), ?_⟩
  rw [show start ["told", "value", "right"] [v_told, v_value] = [some v_told, some v_value, none] from rfl]
  obtain ⟨d, rfl, hdr, ho, hsd, hl, q⟩ := h
  have okS : okD 12 d ∨ (1 ≤ 12 ∧ d = .dict [] ∧ v_told = v_told) := by
    rcases ho with ho | ho
    · exact .inl ho
    · exact .inr ⟨by decide, ho, rfl⟩
  walk_at "sx"
  refine ⟨d, hdr, hdr, okS, fun H1 s1 => ?_⟩
  walk_at "sx"
  have hdr1 := hdr.mono s1
  cases hdr1 with
  | non => walk_at "sx"; exact ⟨_, .non, .non, okS, fun H3 s3 => q _ (s1.trans s3)⟩
  | bl b => walk_at "sx"; exact ⟨_, .bl b, .bl b, okS, fun H3 s3 => q _ (s1.trans s3)⟩
  | int i => walk_at "sx"; exact ⟨_, .int i, .int i, okS, fun H3 s3 => q _ (s1.trans s3)⟩
  | str z => walk_at "sx"; exact ⟨_, .str z, .str z, okS, fun H3 s3 => q _ (s1.trans s3)⟩
  | tup ht at_ => walk_at "sx"; exact ⟨_, .tup ht at_, .tup ht at_, okS, fun H3 s3 => q _ (s1.trans s3)⟩
  | dic hc => walk_at "sx"; exact ⟨_, .dic hc, .dic hc, okS, fun H3 s3 => q _ (s1.trans s3)⟩
  | @lst a vs ds ha alr =>
    have hd := hsd rfl
    have al : ImAll H1 vs ds := by
      have h := hd.mono s1
      cases h with
      | im hi => cases hi
      | @lst _ vs' _ hb al =>
        rw [ha] at hb
        cases hb
        exact al
    have ha0 : H a = some (.lst vs) := by
      cases hd with
      | im hi => cases hi
      | @lst _ vs' _ hb _ =>
        have := s1 _ _ hb
        rw [ha] at this
        cases this
        exact hb
    have l1 := al.length
    have l2 := hl ds rfl
    walk_at "sx"
    refine ⟨ty_list (.inl (.inl ha)), ?_⟩
    walk_at "sx"
    refine i_append ha (by rw [sizeLine_eq]; omega) ?_
    walk_at "sx"
    have al2 : ImAll (upd H1 a (.lst (vs ++ [V.str "more"]))) (vs ++ [V.str "more"]) (ds ++ [.str "more"]) := (al.mono (Tq.lst ha)).append (.one (.str _))
    have dr2 : Dr (upd H1 a (.lst (vs ++ [V.str "more"]))) (.ref a) (.list (ds ++ [.str "more"])) := .lst upd_same al2.dr
    have ok2 : okD 12 (.list (ds ++ [.str "more"])) := by
      rcases ho with ho | ho
      · refine ⟨by simp; omega, fun d hd => ?_⟩
        rcases List.mem_append.mp hd with hd | hd
        · exact ho.2 d hd
        · rw [List.mem_singleton.mp hd]
          show Sm _
          exact (by decide +kernel : (Str.ofString "more").length ≤ 1000000)
      · cases ho
    refine ⟨_, dr2, dr2, .inl ok2, fun H3 s3 => ?_⟩
    have ha3 := s3 _ _ (upd_same (H := H1) (a := a) (o := .lst (vs ++ [V.str "more"])))
    walk_at "sx"
    refine ⟨ty_list (.inl (.inl ha3)), ?_⟩
    refine i_pop ha3 (y := .str "more") (by simp) ?_
    walk_at "sx"
    refine q _ fun c o hc => ?_
    rw [List.dropLast_concat]
    by_cases e : c = a
    · subst e
      rw [ha0] at hc
      rw [upd_same, ← hc]
    · rw [upd_ne e]
      exact s3 _ _ (by rw [upd_ne e]; exact s1 _ _ hc)


end H68

set_option maxHeartbeats 1000000
namespace H68
open PySem PySem.Spec PyProof.Rows L2 KB
local macro_rules | `(tactic| walk_at "kb1") => `(tactic| with_reducible first
  | refine i_var rfl ?_ | refine i_c ?_ | refine i_cons ?_ | refine i_nil ?_ | refine i_op ?_ | refine i_seq ?_ | refine i_if ?_ | refine i_ret ?_ | refine i_asg ?_ | refine i_name ?_ | refine i_next ?_ | refine i_drop ?_
  | refine i_un ?_ | refine i_cb ?_ | refine i_cal ?_ | refine i_calM ?_ | refine i_test ?_ | refine i_tb ?_ | refine i_k ?_ | refine i_not ?_ | refine i_and ?_ | refine i_or ?_ | refine i_andV ?_ | refine i_orV ?_ | refine i_notV ?_ | refine i_ife ?_
  | refine i_isN ?_ | refine i_notN ?_ | refine i_chain ?_ | refine i_tup ?_ | refine i_lst ?_ | refine i_sl ?_ | refine i_noPart ?_ | refine i_part ?_ | refine i_ik ?_ | refine i_sk ?_ | refine i_bm0 ?_ | refine i_bm ?_ | refine i_m1 ?_ | refine i_m0 ?_ | refine i_fld ?_ | refine i_tru ?_
  | refine i_gC ?_ | refine i_gN ?_ | refine i_for0L ?_ | refine i_for0E ?_ | refine i_for0R ?_ | refine i_lc0L ?_ | refine i_lc0S ?_ | refine i_lc0Z ?_ | refine i_tix ?_ | refine i_lorei ?_ | refine i_js0 ?_ | refine i_xf ?_ | refine i_calR ?_ | refine i_calRS ?_ | refine i_calS ?_ | refine i_for0R3 ?_ | refine i_mak ?_ | refine i_dget ?_ | refine i_din ?_ | refine i_dnotin ?_ | refine i_dput ?_ | refine i_dnewT ?_ | refine i_sub ?_ | refine i_rng1 ?_ | refine i_rng2 ?_ | refine i_rev ?_ | refine i_replC ?_ | refine i_lenset ?_ | refine i_mS ?_ | refine i_js ?_ | refine i_fmt ?_ | refine i_par ?_ | refine i_v2 ?_ | refine i_par3 ?_ | refine i_v3 ?_ | refine i_mkO ?_ | refine i_ost ?_ | refine i_sFld ?_ | refine i_yes ?_ | refine i_dget1 ?_ | refine i_dnewK ?_ | refine i_dpop1 ?_ | refine i_ndnew ?_ | refine i_nget2 ?_ | refine i_nsetd ?_ | refine i_nix ?_ | refine i_nput ?_ | refine i_listItems ?_ | refine i_for0Nv ?_ | refine i_lc0Nk ?_ | refine i_dstar ?_ | refine i_lc20L ?_ | refine i_sp1 ?_ | refine i_sp2 ?_ | refine i_sp3 ?_ | refine i_sp4 ?_)
local macro_rules | `(tactic| walk_at "dr") => `(tactic| first
  | assumption | exact Dr.non | exact Dr.bl _ | exact Dr.int _ | exact Dr.str _ | exact Dr.tup (by assumption) (by assumption) | exact Dr.lst (by assumption) (by assumption) | exact Dr.dic (by assumption) | exact Im.dr (by assumption))
local macro_rules | `(tactic| walk_at "if") => `(tactic| first
  | ((with_reducible refine i_iT ?_ ?_); · rfl) | ((with_reducible refine i_iF ?_ ?_); · rfl))
local macro_rules | `(tactic| walk_at "isi") => `(tactic| ((with_reducible show rIsiU _ _ _ _); first
  | (with_reducible refine j_isTup (by walk_at "dr") ?_) | (with_reducible refine j_isLst (by walk_at "dr") ?_) | (with_reducible refine j_isStr (by walk_at "dr") ?_)
  | (with_reducible refine j_isBl (by walk_at "dr") ?_) | (with_reducible refine j_isInt (by walk_at "dr") ?_)))
local macro_rules | `(tactic| walk_at "op") => `(tactic| with_reducible first
  | refine i_rI0 ?_ | refine i_addI ?_ | refine i_rU ?_ | refine i_ltI ?_ | refine i_inC ?_ | refine i_notInC ?_ | refine i_intI ?_ | refine i_intB ?_ | refine i_abs ?_ | refine i_max2 ?_ | refine i_min2 ?_ | refine i_isBl ?_
  | (refine i_eqS rfl ?_) | (refine i_neS rfl ?_))
local macro_rules | `(tactic| walk_at "wp") => `(tactic| ((with_reducible refine i_wp ?_ ?_); · rfl))
local macro_rules | `(tactic| walk_at "sx") => `(tactic| repeat first | walk_at "kb1" | walk_at "if" | walk_at "isi" | walk_at "op" | walk_at "wp")
local macro_rules | `(tactic| walk_at "cd") => `(tactic| refine ⟨_, (by walk_at "dr"), ?_⟩)
local macro_rules | `(tactic| walk_at "len") => `(tactic| (simp only [List.length_cons, List.length_nil]; decide))
local macro_rules | `(tactic| walk_at "ic") => `(tactic| first
  | ((with_reducible refine i_iT ?_ ?_); · first | with_reducible rfl | (simp only [Bool.not_true, Bool.not_false, isTupD, isLstD, isStrD, isBlD, isIntD, isSeqD]; done))
  | ((with_reducible refine i_iF ?_ ?_); · first | with_reducible rfl | (simp only [Bool.not_true, Bool.not_false, isTupD, isLstD, isStrD, isBlD, isIntD, isSeqD]; done)))
local macro_rules | `(tactic| walk_at "sy") => `(tactic| repeat first | walk_at "kb1" | walk_at "ic" | walk_at "isi" | walk_at "op" | walk_at "wp")
theorem sc_law_leaf : FnScope ["box", "keys", "key"] ["box", "keys"] (defScope s_law_leaf) := ⟨rfl, rfl, rfl, by decide +kernel, rfl, by decide +kernel, by decide +kernel⟩
theorem ok_law_leaf {P : Program} {w : World} {K : PySem.W.Frag} {mg : Str → Option Value} {base : Heap} (T : Tx K mg)
    (C_law_take : Cn P w K mg base 1 (He.fAd K ("_law_take", none)) ["box", "size"] (sp_law_take K)) :
    Cn P w K mg base 2 (He.fAd K ("_law_leaf", none)) ["box", "keys"] (sp_law_leaf K) := by
  refine cnN (d := d_law_leaf) T.st_law_leaf sc_law_leaf sp2_len (fun _ _ _ _ _ _ us hl => match us, hl with | [_, _], _ => rfl) (fun cdv A outer s H vs Q E hr h => ?_)
  obtain ⟨v_box, v_keys, rfl, h⟩ := h
  refine ⟨_, (pss_cons (ps_set (i := 2) sc_law_leaf.nd rfl (.inl rfl) (pe_ix (x_seq (K := K) rfl) (pv 1) (pe_cn C_law_take hr (by decide) (by rfl) T.g_law_take passN (pa_cons (pv 0) (pa_cons (pe_callB (c_len (K := K) rfl) (by rfl) T.f_len (by decide +kernel) (pa_cons (pv 1) pa_nil)) pa_nil))) (fun _ _ => rfl)))
  (pss_one (ps_ret (pe_ifExp (pt_cmpR (o_eq (K := K) rfl hr.units) (pe_cn C_law_take hr (by decide) (by rfl) T.g_law_take passN (pa_cons (pv 0) (pa_cons pe_int pa_nil))) pe_int (by rfl)) (pe_tup (pa_cons pe_str (pa_cons (pv 2) pa_nil))) (pe_tup (pa_cons pe_str (pa_cons (pv 2) (pa_cons (pe_ix (x_seq (K := K) rfl) (pe_lst (pa_cons pe_str (pa_cons pe_str (pa_cons pe_str pa_nil)))) (pe_cn C_law_take hr (by decide) (by rfl) T.g_law_take passN (pa_cons (pv 0) (pa_cons pe_int pa_nil))) (fun _ _ => rfl)) pa_nil)))))))), ?_⟩
  rw [show start ["box", "keys", "key"] [v_box, v_keys] = [some v_box, some v_keys, none] from rfl]
  obtain ⟨x, a, F, rfl, hB, rfl, ha, hF, q⟩ := h
  have nx : ∀ {p : Addr} {H' : Hp}, Same H H' → H' p = none → p ≠ x := fun s hp => box_ne (hB.same s) hp
  have h3 := hF.k3
  have h1 := hF.ok.keys
  have h1' : 1 ≤ F.keys.length := by
    simp only [okKeys, Bool.and_eq_true, decide_eq_true_iff] at h1
    exact h1.1.1.1
  walk_at "sx"
  refine i_lenL (.inl (.inl ha)) ?_
  walk_at "sx"
  rw [List.length_map]
  refine ⟨x, _, rfl, hB, rfl, by omega, by omega, fun r H1 r0 r1 sb1 hB1 => ?_⟩
  have ha1 := hB.keep sb1 ha (fun _ _ _ => strs_ne)
  obtain ⟨m, rfl⟩ := Int.eq_ofNat_of_zero_le r0
  have hm : m < F.keys.length := by omega
  obtain ⟨k, hk⟩ : ∃ k, F.keys[m]? = some k := ⟨_, List.getElem?_eq_getElem hm⟩
  have hkm := List.mem_of_getElem? hk
  have hkn := okF_name hF.ok hkm
  walk_at "sx"
  refine i_ixL (.inl (.inl ha1)) (at_nat (by rw [List.getElem?_map, hk] <;> rfl)) ?_
  walk_at "sx"
  refine ⟨x, 4, rfl, hB1, rfl, by decide, by decide, fun r2 H2 r20 r21 sb2 hB2 => ?_⟩
  have sb := SameBut.trans sb1 sb2
  walk_at "sx"
  refine i_i2 (fun e => ?_) (fun e => ?_)
  · walk_at "sx"
    refine ⟨by walk_at "len", fun p hp => ?_⟩
    refine q _ _ (.sil k) (SameBut.trans sb (Same.but (Same.new hp))) (hB2.same (Same.new hp)) (.tup upd_same (.cons (.str _) (.one (.str _)))) ⟨hkn, (by decide : 1 ≤ 5), Nat.le_refl 1, fun y hy => ?_, fun y v hy => by simp [Fm.leaves] at hy⟩ rfl
    have : y = k := by simpa [Fm.keys, Fm.leaves, Fm.key] using hy
    rw [this]; exact hkm
  · walk_at "sx"
    refine ⟨by walk_at "len", fun p1 hp1 => ?_⟩
    have s1 := Same.new (o := .lst [V.str "r", V.str "x1", V.str "7"]) hp1
    have n1 := box_ne hB2 hp1
    walk_at "sx"
    refine ⟨x, 3, rfl, hB2.same s1, rfl, by decide, by decide, fun r3 H3 r30 r31 sb3 hB3 => ?_⟩
    have hv : ∃ v, atI ([V.str "r", V.str "x1", V.str "7"] : List V) r3 = some (.str v) ∧ isValueS v = true ∧ v ∈ vals := by
      rcases (by omega : r3 = 0 ∨ r3 = 1 ∨ r3 = 2) with rfl | rfl | rfl
      · exact ⟨_, rfl, by decide +kernel, by decide +kernel⟩
      · exact ⟨_, rfl, by decide +kernel, by decide +kernel⟩
      · exact ⟨_, rfl, by decide +kernel, by decide +kernel⟩
    obtain ⟨v, hv1, hv2, hv3⟩ := hv
    walk_at "sx"
    refine i_ixL (.inl (.inl (sb3 _ _ n1 upd_same))) hv1 ?_
    walk_at "sx"
    refine ⟨by walk_at "len", fun p hp => ?_⟩
    have sb4 := (SameBut.trans sb (Same.but s1)).trans sb3
    refine q _ _ (.is k v) (SameBut.trans sb4 (Same.but (Same.new hp))) (hB3.same (Same.new hp)) (.tup upd_same (.cons (.str _) (.cons (.str _) (.one (.str _))))) ⟨by show (isNameS k && isValueS v) = true; rw [hkn, hv2] <;> rfl, (by decide : 1 ≤ 5), Nat.le_refl 1, fun y hy => ?_, fun y u hy => ?_⟩ rfl
    · have : y = k := by simpa [Fm.keys, Fm.leaves, Fm.key] using hy
      rw [this]; exact hkm
    · have h9 : Fm.is y u = Fm.is k v := by simpa [Fm.leaves] using hy
      cases h9
      exact hv3


end H68

set_option maxHeartbeats 1000000
namespace H68
open PySem PySem.Spec PyProof.Rows L2 KB
local macro_rules | `(tactic| walk_at "kb1") => `(tactic| with_reducible first
  | refine i_var rfl ?_ | refine i_c ?_ | refine i_cons ?_ | refine i_nil ?_ | refine i_op ?_ | refine i_seq ?_ | refine i_if ?_ | refine i_ret ?_ | refine i_asg ?_ | refine i_name ?_ | refine i_next ?_ | refine i_drop ?_
  | refine i_un ?_ | refine i_cb ?_ | refine i_cal ?_ | refine i_calM ?_ | refine i_test ?_ | refine i_tb ?_ | refine i_k ?_ | refine i_not ?_ | refine i_and ?_ | refine i_or ?_ | refine i_andV ?_ | refine i_orV ?_ | refine i_notV ?_ | refine i_ife ?_
  | refine i_isN ?_ | refine i_notN ?_ | refine i_chain ?_ | refine i_tup ?_ | refine i_lst ?_ | refine i_sl ?_ | refine i_noPart ?_ | refine i_part ?_ | refine i_ik ?_ | refine i_sk ?_ | refine i_bm0 ?_ | refine i_bm ?_ | refine i_m1 ?_ | refine i_m0 ?_ | refine i_fld ?_ | refine i_tru ?_
  | refine i_gC ?_ | refine i_gN ?_ | refine i_for0L ?_ | refine i_for0E ?_ | refine i_for0R ?_ | refine i_lc0L ?_ | refine i_lc0S ?_ | refine i_lc0Z ?_ | refine i_tix ?_ | refine i_lorei ?_ | refine i_js0 ?_ | refine i_xf ?_ | refine i_calR ?_ | refine i_calRS ?_ | refine i_calS ?_ | refine i_for0R3 ?_ | refine i_mak ?_ | refine i_dget ?_ | refine i_din ?_ | refine i_dnotin ?_ | refine i_dput ?_ | refine i_dnewT ?_ | refine i_sub ?_ | refine i_rng1 ?_ | refine i_rng2 ?_ | refine i_rev ?_ | refine i_replC ?_ | refine i_lenset ?_ | refine i_mS ?_ | refine i_js ?_ | refine i_fmt ?_ | refine i_par ?_ | refine i_v2 ?_ | refine i_par3 ?_ | refine i_v3 ?_ | refine i_mkO ?_ | refine i_ost ?_ | refine i_sFld ?_ | refine i_yes ?_ | refine i_dget1 ?_ | refine i_dnewK ?_ | refine i_dpop1 ?_ | refine i_ndnew ?_ | refine i_nget2 ?_ | refine i_nsetd ?_ | refine i_nix ?_ | refine i_nput ?_ | refine i_listItems ?_ | refine i_for0Nv ?_ | refine i_lc0Nk ?_ | refine i_dstar ?_ | refine i_lc20L ?_ | refine i_sp1 ?_ | refine i_sp2 ?_ | refine i_sp3 ?_ | refine i_sp4 ?_)
local macro_rules | `(tactic| walk_at "dr") => `(tactic| first
  | assumption | exact Dr.non | exact Dr.bl _ | exact Dr.int _ | exact Dr.str _ | exact Dr.tup (by assumption) (by assumption) | exact Dr.lst (by assumption) (by assumption) | exact Dr.dic (by assumption) | exact Im.dr (by assumption))
local macro_rules | `(tactic| walk_at "if") => `(tactic| first
  | ((with_reducible refine i_iT ?_ ?_); · rfl) | ((with_reducible refine i_iF ?_ ?_); · rfl))
local macro_rules | `(tactic| walk_at "isi") => `(tactic| ((with_reducible show rIsiU _ _ _ _); first
  | (with_reducible refine j_isTup (by walk_at "dr") ?_) | (with_reducible refine j_isLst (by walk_at "dr") ?_) | (with_reducible refine j_isStr (by walk_at "dr") ?_)
  | (with_reducible refine j_isBl (by walk_at "dr") ?_) | (with_reducible refine j_isInt (by walk_at "dr") ?_)))
local macro_rules | `(tactic| walk_at "op") => `(tactic| with_reducible first
  | refine i_rI0 ?_ | refine i_addI ?_ | refine i_rU ?_ | refine i_ltI ?_ | refine i_inC ?_ | refine i_notInC ?_ | refine i_intI ?_ | refine i_intB ?_ | refine i_abs ?_ | refine i_max2 ?_ | refine i_min2 ?_ | refine i_isBl ?_
  | (refine i_eqS rfl ?_) | (refine i_neS rfl ?_))
local macro_rules | `(tactic| walk_at "wp") => `(tactic| ((with_reducible refine i_wp ?_ ?_); · rfl))
local macro_rules | `(tactic| walk_at "sx") => `(tactic| repeat first | walk_at "kb1" | walk_at "if" | walk_at "isi" | walk_at "op" | walk_at "wp")
local macro_rules | `(tactic| walk_at "cd") => `(tactic| refine ⟨_, (by walk_at "dr"), ?_⟩)
local macro_rules | `(tactic| walk_at "len") => `(tactic| (simp only [List.length_cons, List.length_nil]; decide))
local macro_rules | `(tactic| walk_at "ic") => `(tactic| first
  | ((with_reducible refine i_iT ?_ ?_); · first | with_reducible rfl | (simp only [Bool.not_true, Bool.not_false, isTupD, isLstD, isStrD, isBlD, isIntD, isSeqD]; done))
  | ((with_reducible refine i_iF ?_ ?_); · first | with_reducible rfl | (simp only [Bool.not_true, Bool.not_false, isTupD, isLstD, isStrD, isBlD, isIntD, isSeqD]; done)))
local macro_rules | `(tactic| walk_at "sy") => `(tactic| repeat first | walk_at "kb1" | walk_at "ic" | walk_at "isi" | walk_at "op" | walk_at "wp")
theorem sc_law_formula : FnScope ["box", "keys", "most", "found", "turn", "way", "more", "word"] ["box", "keys", "most"] (defScope s_law_formula) := ⟨rfl, rfl, rfl, by decide +kernel, rfl, by decide +kernel, by decide +kernel⟩
theorem ok_law_formula {P : Program} {w : World} {K : PySem.W.Frag} {mg : Str → Option Value} {base : Heap} (T : Tx K mg)
    (C_law_take : Cn P w K mg base 1 (He.fAd K ("_law_take", none)) ["box", "size"] (sp_law_take K))
    (C_law_levels : Cn P w K mg base 1 (He.fAd K ("_law_levels", none)) ["formula"] (sp_law_levels K))
    (C_law_leaf : Cn P w K mg base 2 (He.fAd K ("_law_leaf", none)) ["box", "keys"] (sp_law_leaf K)) :
    Cn P w K mg base 3 (He.fAd K ("_law_formula", none)) ["box", "keys", "most"] (sp_law_formula K) := by
  refine cnN (d := d_law_formula) T.st_law_formula sc_law_formula sp3_len (fun _ _ _ _ _ _ us hl => match us, hl with | [_, _, _], _ => rfl) (fun cdv A outer s H vs Q E hr h => ?_)
  obtain ⟨v_box, v_keys, v_most, rfl, h⟩ := h
  refine ⟨_, (pss_cons (ps_set (i := 3) sc_law_formula.nd rfl (.inl rfl) (pe_cn C_law_leaf hr (by decide) (by rfl) T.g_law_leaf passN (pa_cons (pv 0) (pa_cons (pv 1) pa_nil))))
  (pss_cons (ps_for PassesOwn.never rfl (pi_range1 (by rfl) T.f_range (pa_cons (pe_cn C_law_take hr (by decide) (by rfl) T.g_law_take passN (pa_cons (pv 0) (pa_cons (pv 2) pa_nil))) pa_nil)) (pg_name (i := 4) sc_law_formula.nd rfl (.inl rfl))
  (pss_cons (ps_par rfl sc_law_formula.nd (i := 5) (j := 6) rfl rfl (by decide) rfl rfl (pa_cons (pe_cn C_law_take hr (by decide) (by rfl) T.g_law_take passN (pa_cons (pv 0) (pa_cons pe_int pa_nil))) (pa_cons (pe_cn C_law_leaf hr (by decide) (by rfl) T.g_law_leaf passN (pa_cons (pv 0) (pa_cons (pv 1) pa_nil))) pa_nil)) (by rfl))
  (pss_cons (ps_set (i := 6) sc_law_formula.nd rfl (.inl rfl) (pe_ifExp (pt_cmpR (o_eq (K := K) rfl hr.units) (pe_cn C_law_take hr (by decide) (by rfl) T.g_law_take passN (pa_cons (pv 0) (pa_cons pe_int pa_nil))) pe_int (by rfl)) (pe_tup (pa_cons pe_str (pa_cons (pv 6) pa_nil))) (pv 6)))
  (pss_cons (ps_set (i := 7) sc_law_formula.nd rfl (.inl rfl) (pe_ix (x_seq (K := K) rfl) (pe_lst (pa_cons pe_str (pa_cons pe_str pa_nil))) (pe_cn C_law_take hr (by decide) (by rfl) T.g_law_take passN (pa_cons (pv 0) (pa_cons pe_int pa_nil))) (fun _ _ => rfl)))
  (pss_one (ps_if (pt_cmpR (o_lt (K := K) rfl hr.units0) (pe_cn C_law_levels hr (by decide) (by rfl) T.g_law_levels passN (pa_cons (pv 3) pa_nil)) pe_int (by rfl)) (pss_one (ps_set (i := 3) sc_law_formula.nd rfl (.inl rfl) (pe_ix (x_seq (K := K) rfl) (pe_lst (pa_cons (pe_tup (pa_cons (pv 7) (pa_cons (pv 3) (pa_cons (pv 6) pa_nil)))) (pa_cons (pe_tup (pa_cons (pv 7) (pa_cons (pv 6) (pa_cons (pv 3) pa_nil)))) (pa_cons (pe_tup (pa_cons (pv 7) (pa_cons (pv 3) (pa_cons (pv 6) pa_nil)))) (pa_cons (pe_tup (pa_cons pe_str (pa_cons (pv 3) pa_nil))) pa_nil))))) (pv 5) (fun _ _ => rfl)))) pss_nil))))))
  (pss_one (ps_ret (pv 3))))), ?_⟩
  rw [show start ["box", "keys", "most", "found", "turn", "way", "more", "word"] [v_box, v_keys, v_most] = [some v_box, some v_keys, some v_most, none, none, none, none, none] from rfl]
  obtain ⟨x, a, F, n, rfl, hB, rfl, ha, hF, rfl, hn1, hn6, q⟩ := h
  walk_at "sx"
  refine ⟨x, a, F, rfl, hB, rfl, ha, hF, fun H1 v0 f0 sb1 hB1 im0 hD0 hl0 => ?_⟩
  walk_at "sx"
  refine ⟨x, _, rfl, hB1, rfl, by omega, by omega, fun r H2 r0 r1 sb2 hB2 => ?_⟩
  have sb := SameBut.trans sb1 sb2
  obtain ⟨m, rfl⟩ := Int.eq_ofNat_of_zero_le r0
  have hm : m < n := by omega
  walk_at "sx"
  have hj : ((m : Nat) : Int).toNat = m := rfl
  refine i_forR (fun i σ H' => ∃ (v : V) (f : Fm) (b c d e : Option V), σ = [some (.ref x), some (.ref a), some (.int ((n : Nat) : Int)), some v, b, c, d, e] ∧ SameBut x H H' ∧ Box H' x ∧ Im H' v f.d ∧ Drawn F f (i + 1) ∧ i ≤ m) (by omega) ?_ ?_ ?_
  · exact ⟨v0, f0, _, _, _, _, rfl, sb, hB2, im0.mono (hB1.tq sb2), hD0, Nat.zero_le _⟩
  · rintro i σ H' hi ⟨v, f, b, c, d, e, rfl, s, hb, im, hD, hi2⟩
    rw [hj] at hi
    have ha1 := hB.keep s ha (fun _ _ _ => strs_ne)
    walk_at "sx"
    refine ⟨x, _, rfl, hb, rfl, by decide, by decide, fun way H3 w0 w1 sb3 hB3 => ?_⟩
    have s3 := SameBut.trans s sb3
    walk_at "sx"
    refine ⟨x, a, F, rfl, hB3, rfl, hB.keep s3 ha (fun _ _ _ => strs_ne), hF, fun H4 v1 f1 sb4 hB4 im1 hD1 hl1 => ?_⟩
    have s4 := SameBut.trans s3 sb4
    have im4 := (im.mono (hb.tq sb3)).mono (hB3.tq sb4)
    walk_at "sx"
    refine ⟨x, _, rfl, hB4, rfl, by decide, by decide, fun r5 H5 r50 r51 sb5 hB5 => ?_⟩
    have s5 := SameBut.trans s4 sb5
    have im5 := im4.mono (hB4.tq sb5)
    have im15 := im1.mono (hB4.tq sb5)
    walk_at "sx"
    refine i_i2 (fun e6 => ?_) (fun e6 => ?_)
    · walk_at "sx"
      refine ⟨by walk_at "len", fun p6 hp6 => ?_⟩
      have sn := Same.new (o := .tup [V.str "not", v1]) hp6
      have hB6 := hB5.same sn
      have s6 := SameBut.trans s5 (Same.but sn)
      have im6 := im5.mono (Same.tq sn)
      have im26 : Im (upd H5 p6 (.tup [V.str "not", v1])) (.ref p6) (Fm.no f1).d := .tup upd_same (.cons (.str _) (.one (im15.mono (Same.tq sn))))
      have hD2 : Drawn F (.no f1) 1 := hD1.no (by omega)
      have hl2 : (Fm.no f1).lev = 2 := by show f1.lev + 1 = 2; omega
      walk_at "sx"
      refine ⟨by walk_at "len", fun pw hpw => ?_⟩
      have sw := Same.new (o := .lst [V.str "and", V.str "or"]) hpw
      have nw := box_ne hB6 hpw
      walk_at "sx"
      refine ⟨x, _, rfl, hB6.same sw, rfl, by decide, by decide, fun r7 H7 r70 r71 sb7 hB7 => ?_⟩
      have s7 := SameBut.trans (SameBut.trans s6 (Same.but sw)) sb7
      have hwd : ∃ o, atI ([V.str "and", V.str "or"] : List V) r7 = some (.str (twoW o)) := by
        rcases (by omega : r7 = 0 ∨ r7 = 1) with rfl | rfl
        · exact ⟨false, rfl⟩
        · exact ⟨true, rfl⟩
      obtain ⟨o, ho⟩ := hwd
      have im7 := (im6.mono (Same.tq sw)).mono ((hB6.same sw).tq sb7)
      have im27 := (im26.mono (Same.tq sw)).mono ((hB6.same sw).tq sb7)
      walk_at "sx"
      refine i_ixL (.inl (.inl (sb7 _ _ nw upd_same))) ho ?_
      walk_at "sx"
      have hsz := f.size_lt
      have hl5 := hD.lev
      have h32 : 2 ^ f.lev ≤ 2 ^ 5 := Nat.pow_le_pow_right (by decide) hl5
      have h33 : (2 : Nat) ^ 5 = 32 := rfl
      refine ⟨f, im7, by omega, by omega, fun H8 s8 => ?_⟩
      have im8 := im7.mono (Same.tq s8)
      have im28 := im27.mono (Same.tq s8)
      have sb8 := SameBut.trans s7 (Same.but s8)
      have hB8 := hB7.same s8
      walk_at "sx"
      refine i_i2 (fun e9 => ?_) (fun e9 => ?_)
      · have lf : f.lev < 5 := by have := of_decide_eq_true e9; omega
        walk_at "sx"
        refine ⟨by walk_at "len", fun p1 hp1 => ?_⟩
        have t1 := Same.new (o := .tup [V.str (twoW o), v, V.ref p6]) hp1
        have i1 : Im (upd H8 p1 (.tup [V.str (twoW o), v, V.ref p6])) (.ref p1) (Fm.two o f (Fm.no f1)).d := .tup upd_same (.cons (.str _) (.cons (im8.mono (Same.tq t1)) (.one (im28.mono (Same.tq t1)))))
        walk_at "sx"
        refine ⟨by walk_at "len", fun p2 hp2 => ?_⟩
        have t2 := Same.new (o := .tup [V.str (twoW o), V.ref p6, v]) hp2
        have t12 := t1.trans t2
        have i2 : Im (upd (upd H8 p1 (.tup [V.str (twoW o), v, V.ref p6])) p2 (.tup [V.str (twoW o), V.ref p6, v])) (.ref p2) (Fm.two o (Fm.no f1) f).d := .tup upd_same (.cons (.str _) (.cons (im28.mono (Same.tq t12)) (.one (im8.mono (Same.tq t12)))))
        walk_at "sx"
        refine ⟨by walk_at "len", fun p3 hp3 => ?_⟩
        have t3 := Same.new (o := .tup [V.str (twoW o), v, V.ref p6]) hp3
        have t13 := t12.trans t3
        walk_at "sx"
        refine ⟨by walk_at "len", fun p4 hp4 => ?_⟩
        have t4 := Same.new (o := .tup [V.str "not", v]) hp4
        have t14 := t13.trans t4
        have i4 : Im _ (.ref p4) (Fm.no f).d := .tup (upd_same (a := p4) (o := .tup [V.str "not", v])) (.cons (.str _) (.one (im8.mono (Same.tq t14))))
        walk_at "sx"
        refine ⟨by walk_at "len", fun p5 hp5 => ?_⟩
        have t5 := Same.new (o := .lst [V.ref p1, V.ref p2, V.ref p3, V.ref p4]) hp5
        have t15 := t14.trans t5
        have sbe := SameBut.trans sb8 (Same.but t15)
        have hBe := hB8.same t15
        walk_at "sx"
        rcases (by omega : way = 0 ∨ way = 1 ∨ way = 2 ∨ way = 3) with rfl | rfl | rfl | rfl
        · refine i_ixL (.inl (.inl upd_same)) rfl ?_
          walk_at "sx"
          exact ⟨_, _, _, _, _, _, rfl, sbe, hBe, i1.mono (Same.tq ((t2.trans (t3.trans t4)).trans t5)), hD.two hD2 lf (by omega) o, by omega⟩
        · refine i_ixL (.inl (.inl upd_same)) rfl ?_
          walk_at "sx"
          exact ⟨_, _, _, _, _, _, rfl, sbe, hBe, i2.mono (Same.tq ((t3.trans t4).trans t5)), (hD2.two hD (by omega) lf o).mono (by omega), by omega⟩
        · refine i_ixL (.inl (.inl upd_same)) rfl ?_
          walk_at "sx"
          exact ⟨_, Fm.two o f (Fm.no f1), _, _, _, _, rfl, sbe, hBe, Im.mono (Same.tq (t4.trans t5)) (.tup upd_same (.cons (.str _) (.cons (im8.mono (Same.tq t13)) (.one (im28.mono (Same.tq t13)))))), hD.two hD2 lf (by omega) o, by omega⟩
        · refine i_ixL (.inl (.inl upd_same)) rfl ?_
          walk_at "sx"
          exact ⟨_, _, _, _, _, _, rfl, sbe, hBe, i4.mono (Same.tq t5), (hD.no lf).mono (by omega), by omega⟩
      · walk_at "sx"
        exact ⟨_, f, _, _, _, _, rfl, sb8, hB8, im8, hD.mono (by omega), by omega⟩
    · walk_at "sx"
      have hB6 := hB5
      have s6 := s5
      have im6 := im5
      have im26 := im15
      have hD2 := hD1
      walk_at "sx"
      refine ⟨by walk_at "len", fun pw hpw => ?_⟩
      have sw := Same.new (o := .lst [V.str "and", V.str "or"]) hpw
      have nw := box_ne hB6 hpw
      walk_at "sx"
      refine ⟨x, _, rfl, hB6.same sw, rfl, by decide, by decide, fun r7 H7 r70 r71 sb7 hB7 => ?_⟩
      have s7 := SameBut.trans (SameBut.trans s6 (Same.but sw)) sb7
      have hwd : ∃ o, atI ([V.str "and", V.str "or"] : List V) r7 = some (.str (twoW o)) := by
        rcases (by omega : r7 = 0 ∨ r7 = 1) with rfl | rfl
        · exact ⟨false, rfl⟩
        · exact ⟨true, rfl⟩
      obtain ⟨o, ho⟩ := hwd
      have im7 := (im6.mono (Same.tq sw)).mono ((hB6.same sw).tq sb7)
      have im27 := (im26.mono (Same.tq sw)).mono ((hB6.same sw).tq sb7)
      walk_at "sx"
      refine i_ixL (.inl (.inl (sb7 _ _ nw upd_same))) ho ?_
      walk_at "sx"
      have hsz := f.size_lt
      have hl5 := hD.lev
      have h32 : 2 ^ f.lev ≤ 2 ^ 5 := Nat.pow_le_pow_right (by decide) hl5
      have h33 : (2 : Nat) ^ 5 = 32 := rfl
      refine ⟨f, im7, by omega, by omega, fun H8 s8 => ?_⟩
      have im8 := im7.mono (Same.tq s8)
      have im28 := im27.mono (Same.tq s8)
      have sb8 := SameBut.trans s7 (Same.but s8)
      have hB8 := hB7.same s8
      walk_at "sx"
      refine i_i2 (fun e9 => ?_) (fun e9 => ?_)
      · have lf : f.lev < 5 := by have := of_decide_eq_true e9; omega
        walk_at "sx"
        refine ⟨by walk_at "len", fun p1 hp1 => ?_⟩
        have t1 := Same.new (o := .tup [V.str (twoW o), v, v1]) hp1
        have i1 : Im (upd H8 p1 (.tup [V.str (twoW o), v, v1])) (.ref p1) (Fm.two o f f1).d := .tup upd_same (.cons (.str _) (.cons (im8.mono (Same.tq t1)) (.one (im28.mono (Same.tq t1)))))
        walk_at "sx"
        refine ⟨by walk_at "len", fun p2 hp2 => ?_⟩
        have t2 := Same.new (o := .tup [V.str (twoW o), v1, v]) hp2
        have t12 := t1.trans t2
        have i2 : Im (upd (upd H8 p1 (.tup [V.str (twoW o), v, v1])) p2 (.tup [V.str (twoW o), v1, v])) (.ref p2) (Fm.two o f1 f).d := .tup upd_same (.cons (.str _) (.cons (im28.mono (Same.tq t12)) (.one (im8.mono (Same.tq t12)))))
        walk_at "sx"
        refine ⟨by walk_at "len", fun p3 hp3 => ?_⟩
        have t3 := Same.new (o := .tup [V.str (twoW o), v, v1]) hp3
        have t13 := t12.trans t3
        walk_at "sx"
        refine ⟨by walk_at "len", fun p4 hp4 => ?_⟩
        have t4 := Same.new (o := .tup [V.str "not", v]) hp4
        have t14 := t13.trans t4
        have i4 : Im _ (.ref p4) (Fm.no f).d := .tup (upd_same (a := p4) (o := .tup [V.str "not", v])) (.cons (.str _) (.one (im8.mono (Same.tq t14))))
        walk_at "sx"
        refine ⟨by walk_at "len", fun p5 hp5 => ?_⟩
        have t5 := Same.new (o := .lst [V.ref p1, V.ref p2, V.ref p3, V.ref p4]) hp5
        have t15 := t14.trans t5
        have sbe := SameBut.trans sb8 (Same.but t15)
        have hBe := hB8.same t15
        walk_at "sx"
        rcases (by omega : way = 0 ∨ way = 1 ∨ way = 2 ∨ way = 3) with rfl | rfl | rfl | rfl
        · refine i_ixL (.inl (.inl upd_same)) rfl ?_
          walk_at "sx"
          exact ⟨_, _, _, _, _, _, rfl, sbe, hBe, i1.mono (Same.tq ((t2.trans (t3.trans t4)).trans t5)), hD.two hD2 lf (by omega) o, by omega⟩
        · refine i_ixL (.inl (.inl upd_same)) rfl ?_
          walk_at "sx"
          exact ⟨_, _, _, _, _, _, rfl, sbe, hBe, i2.mono (Same.tq ((t3.trans t4).trans t5)), (hD2.two hD (by omega) lf o).mono (by omega), by omega⟩
        · refine i_ixL (.inl (.inl upd_same)) rfl ?_
          walk_at "sx"
          exact ⟨_, Fm.two o f f1, _, _, _, _, rfl, sbe, hBe, Im.mono (Same.tq (t4.trans t5)) (.tup upd_same (.cons (.str _) (.cons (im8.mono (Same.tq t13)) (.one (im28.mono (Same.tq t13)))))), hD.two hD2 lf (by omega) o, by omega⟩
        · refine i_ixL (.inl (.inl upd_same)) rfl ?_
          walk_at "sx"
          exact ⟨_, _, _, _, _, _, rfl, sbe, hBe, i4.mono (Same.tq t5), (hD.no lf).mono (by omega), by omega⟩
      · walk_at "sx"
        exact ⟨_, f, _, _, _, _, rfl, sb8, hB8, im8, hD.mono (by omega), by omega⟩
  · rintro σ H' ⟨v, f, b, c, d, e, rfl, s, hb, im, hD, hi2⟩
    rw [hj] at hD
    walk_at "sx"
    exact q _ v f s hb im ⟨hD.ok, hD.lev, Nat.le_trans hD.leaves (by omega), hD.keys, hD.vals⟩


end H68

set_option maxHeartbeats 1000000
namespace H68
open PySem PySem.Spec PyProof.Rows L2 KB
local macro_rules | `(tactic| walk_at "kb1") => `(tactic| with_reducible first
  | refine i_var rfl ?_ | refine i_c ?_ | refine i_cons ?_ | refine i_nil ?_ | refine i_op ?_ | refine i_seq ?_ | refine i_if ?_ | refine i_ret ?_ | refine i_asg ?_ | refine i_name ?_ | refine i_next ?_ | refine i_drop ?_
  | refine i_un ?_ | refine i_cb ?_ | refine i_cal ?_ | refine i_calM ?_ | refine i_test ?_ | refine i_tb ?_ | refine i_k ?_ | refine i_not ?_ | refine i_and ?_ | refine i_or ?_ | refine i_andV ?_ | refine i_orV ?_ | refine i_notV ?_ | refine i_ife ?_
  | refine i_isN ?_ | refine i_notN ?_ | refine i_chain ?_ | refine i_tup ?_ | refine i_lst ?_ | refine i_sl ?_ | refine i_noPart ?_ | refine i_part ?_ | refine i_ik ?_ | refine i_sk ?_ | refine i_bm0 ?_ | refine i_bm ?_ | refine i_m1 ?_ | refine i_m0 ?_ | refine i_fld ?_ | refine i_tru ?_
  | refine i_gC ?_ | refine i_gN ?_ | refine i_for0L ?_ | refine i_for0E ?_ | refine i_for0R ?_ | refine i_lc0L ?_ | refine i_lc0S ?_ | refine i_lc0Z ?_ | refine i_tix ?_ | refine i_lorei ?_ | refine i_js0 ?_ | refine i_xf ?_ | refine i_calR ?_ | refine i_calRS ?_ | refine i_calS ?_ | refine i_for0R3 ?_ | refine i_mak ?_ | refine i_dget ?_ | refine i_din ?_ | refine i_dnotin ?_ | refine i_dput ?_ | refine i_dnewT ?_ | refine i_sub ?_ | refine i_rng1 ?_ | refine i_rng2 ?_ | refine i_rev ?_ | refine i_replC ?_ | refine i_lenset ?_ | refine i_mS ?_ | refine i_js ?_ | refine i_fmt ?_ | refine i_par ?_ | refine i_v2 ?_ | refine i_par3 ?_ | refine i_v3 ?_ | refine i_mkO ?_ | refine i_ost ?_ | refine i_sFld ?_ | refine i_yes ?_ | refine i_dget1 ?_ | refine i_dnewK ?_ | refine i_dpop1 ?_ | refine i_ndnew ?_ | refine i_nget2 ?_ | refine i_nsetd ?_ | refine i_nix ?_ | refine i_nput ?_ | refine i_listItems ?_ | refine i_for0Nv ?_ | refine i_lc0Nk ?_ | refine i_dstar ?_ | refine i_lc20L ?_ | refine i_sp1 ?_ | refine i_sp2 ?_ | refine i_sp3 ?_ | refine i_sp4 ?_)
local macro_rules | `(tactic| walk_at "dr") => `(tactic| first
  | assumption | exact Dr.non | exact Dr.bl _ | exact Dr.int _ | exact Dr.str _ | exact Dr.tup (by assumption) (by assumption) | exact Dr.lst (by assumption) (by assumption) | exact Dr.dic (by assumption) | exact Im.dr (by assumption))
local macro_rules | `(tactic| walk_at "if") => `(tactic| first
  | ((with_reducible refine i_iT ?_ ?_); · rfl) | ((with_reducible refine i_iF ?_ ?_); · rfl))
local macro_rules | `(tactic| walk_at "isi") => `(tactic| ((with_reducible show rIsiU _ _ _ _); first
  | (with_reducible refine j_isTup (by walk_at "dr") ?_) | (with_reducible refine j_isLst (by walk_at "dr") ?_) | (with_reducible refine j_isStr (by walk_at "dr") ?_)
  | (with_reducible refine j_isBl (by walk_at "dr") ?_) | (with_reducible refine j_isInt (by walk_at "dr") ?_)))
local macro_rules | `(tactic| walk_at "op") => `(tactic| with_reducible first
  | refine i_rI0 ?_ | refine i_addI ?_ | refine i_rU ?_ | refine i_ltI ?_ | refine i_inC ?_ | refine i_notInC ?_ | refine i_intI ?_ | refine i_intB ?_ | refine i_abs ?_ | refine i_max2 ?_ | refine i_min2 ?_ | refine i_isBl ?_
  | (refine i_eqS rfl ?_) | (refine i_neS rfl ?_))
local macro_rules | `(tactic| walk_at "wp") => `(tactic| ((with_reducible refine i_wp ?_ ?_); · rfl))
local macro_rules | `(tactic| walk_at "sx") => `(tactic| repeat first | walk_at "kb1" | walk_at "if" | walk_at "isi" | walk_at "op" | walk_at "wp")
local macro_rules | `(tactic| walk_at "cd") => `(tactic| refine ⟨_, (by walk_at "dr"), ?_⟩)
local macro_rules | `(tactic| walk_at "len") => `(tactic| (simp only [List.length_cons, List.length_nil]; decide))
local macro_rules | `(tactic| walk_at "ic") => `(tactic| first
  | ((with_reducible refine i_iT ?_ ?_); · first | with_reducible rfl | (simp only [Bool.not_true, Bool.not_false, isTupD, isLstD, isStrD, isBlD, isIntD, isSeqD]; done))
  | ((with_reducible refine i_iF ?_ ?_); · first | with_reducible rfl | (simp only [Bool.not_true, Bool.not_false, isTupD, isLstD, isStrD, isBlD, isIntD, isSeqD]; done)))
local macro_rules | `(tactic| walk_at "sy") => `(tactic| repeat first | walk_at "kb1" | walk_at "ic" | walk_at "isi" | walk_at "op" | walk_at "wp")
theorem sc_law_levels : FnScope ["formula", "rows", "count", "turn", "inner", "one"] ["formula"] (defScope s_law_levels) := ⟨rfl, rfl, rfl, by decide +kernel, rfl, by decide +kernel, by decide +kernel⟩
theorem ok_law_levels {P : Program} {w : World} {K : PySem.W.Frag} {mg : Str → Option Value} {base : Heap} (T : Tx K mg) :
    Cn P w K mg base 1 (He.fAd K ("_law_levels", none)) ["formula"] (sp_law_levels K) := by
  refine cnN (d := d_law_levels) T.st_law_levels sc_law_levels sp1_len (fun _ _ _ _ _ _ us hl => match us, hl with | [_], _ => rfl) (fun cdv A outer s H vs Q E hr h => ?_)
  obtain ⟨v_formula, rfl, h⟩ := h
  refine ⟨_, (pss_cons (ps_par rfl sc_law_levels.nd (i := 1) (j := 2) rfl rfl (by decide) rfl rfl (pa_cons (pe_lst (pa_cons (pv 0) pa_nil)) (pa_cons pe_int pa_nil)) (by rfl))
  (pss_cons (ps_for PassesOwn.never rfl (pi_range1 (by rfl) T.f_range (pa_cons pe_int pa_nil)) (pg_name (i := 3) sc_law_levels.nd rfl (.inl rfl))
  (pss_cons (ps_set (i := 2) sc_law_levels.nd rfl (.inl rfl) (pe_op op_addU (pv 2) (pe_callTy (call_intU) (by rfl) T.f_int (by decide +kernel) (pa_cons (pe_cmpR (o_neN (K := K) rfl hr.units0) (pv 1) (pe_lst pa_nil) (by rfl)) pa_nil))))
  (pss_cons (ps_set (i := 4) sc_law_levels.nd rfl (.inl rfl) (pe_lst pa_nil))
  (pss_cons (ps_for PassesOwn.never rfl (w_list (K := K) rfl (pv 1)) (pg_name (i := 5) sc_law_levels.nd rfl (.inl rfl))
  (pss_one (ps_if (pt_cmpR (o_in (K := K) rfl (rU65 hr)) (pe_ix (x_seq (K := K) rfl) (pv 5) pe_int (fun _ _ => rfl)) (pe_lst (pa_cons pe_str (pa_cons pe_str (pa_cons pe_str pa_nil)))) (by rfl)) (pss_one (ps_expr (e_extend (K := K) rfl (pv 4) (pe_callTy (c_list (K := K) rfl) (by rfl) T.f_list (by decide +kernel) (pa_cons (pe_slice (s_seq (K := K) rfl) (pv 5) (po_some pe_int) po_none) pa_nil))))) pss_nil)))
  (pss_one (ps_set (i := 1) sc_law_levels.nd rfl (.inl rfl) (pv 4)))))))
  (pss_one (ps_ret (pv 2))))), ?_⟩
  rw [show start ["formula", "rows", "count", "turn", "inner", "one"] [v_formula] = [some v_formula, none, none, none, none, none] from rfl]
  obtain ⟨f, hf, hl, hz, q⟩ := h
  walk_at "sx"
  refine ⟨by walk_at "len", fun p0 hp0 => ?_⟩
  have s0 := Same.new (o := .lst [v_formula]) hp0
  walk_at "sx"
  refine i_forR (fun i σ H' => ∃ (pr : Addr) (vs : List V) (a b c : Option V), σ = [some v_formula, some (.ref pr), some (.int ((min i f.lev : Nat) : Int)), a, b, c] ∧ Same H H' ∧ H' pr = some (.lst vs) ∧ ImAll H' vs ((layL i [f]).map Fm.d)) (by decide) ?_ ?_ ?_
  · exact ⟨p0, [v_formula], _, _, _, by rw [Nat.zero_min] <;> rfl, s0, upd_same, .one (hf.mono (Same.tq s0))⟩
  · rintro i σ H' hi ⟨pr, vs, a, b, c, rfl, s, h1, im⟩
    have lv := im.length
    rw [List.length_map] at lv
    have ll := len_lay f i
    walk_at "sx"
    refine ⟨by walk_at "len", fun pe hpe => ?_⟩
    have se := Same.new (o := .lst []) hpe
    refine ⟨pr, pe, vs, rfl, rfl, .inl (.inl (se _ _ h1)), .inl (.inl upd_same), ?_⟩
    walk_at "sx"
    have ec : ((min i f.lev : Nat) : Int) + (if (!vs.isEmpty) = true then 1 else 0) = ((min (i + 1) f.lev : Nat) : Int) := by
      have hll := levL_lay f i
      cases vs with
      | nil =>
        have : layL i [f] = [] := List.eq_nil_of_length_eq_zero lv.symm
        rw [levL_nil.mp this] at hll
        show ((min i f.lev : Nat) : Int) + 0 = _
        omega
      | cons y r =>
        have : ¬ layL i [f] = [] := fun e => by rw [e] at lv; cases lv
        rw [levL_nil] at this
        show ((min i f.lev : Nat) : Int) + 1 = _
        omega
    rw [ec]
    have h1e := se _ _ h1
    have s1 := s.trans se
    have im1 := im.mono (Same.tq se)
    refine ⟨by walk_at "len", fun pi hpi => ?_⟩
    have hpi0 := fresh_of s1 hpi
    have npi : pr ≠ pi := fun e => by rw [e, hpi] at h1e; cases h1e
    have si := Same.new (o := .lst []) hpi
    walk_at "sx"
    refine i_forL (fun j σ H2 => ∃ (c : Option V) (ws : List V), σ = [some v_formula, some (.ref pr), some (.int ((min (i + 1) f.lev : Nat) : Int)), some (.int (0 + ((i : Nat) : Int))), some (.ref pi), c] ∧ Same H H2 ∧ H2 pr = some (.lst vs) ∧ H2 pi = some (.lst ws) ∧ ImAll H2 vs ((layL i [f]).map Fm.d) ∧ ImAll H2 ws ((((layL i [f]).take j).flatMap Fm.kids).map Fm.d)) (.inl (.inl (si _ _ h1e))) ?_ ?_ ?_ ?_
    · exact ⟨_, [], rfl, s1.trans si, si _ _ h1e, upd_same, im1.mono (Same.tq si), .nil⟩
    · rintro j σ H2 hj ⟨c, ws, rfl, s2, g1, g2, g3, g4⟩
      exact .inl (.inl g1)
    · rintro j y σ H2 hy ⟨c, ws, rfl, s2, g1, g2, g3, g4⟩
      obtain ⟨d, hd, iy⟩ := g3.get hy
      rw [List.getElem?_map] at hd
      obtain ⟨g, hg, rfl⟩ := Option.map_eq_some_iff.mp hd
      have et : (layL i [f]).take (j + 1) = (layL i [f]).take j ++ [g] := by rw [List.take_succ, hg] <;> rfl
      have lw := g4.length
      rw [List.length_map] at lw
      have lk : (((layL i [f]).take j).flatMap Fm.kids).length ≤ f.size := by
        refine Nat.le_trans (len_sum _) (Nat.le_trans (size_flat _) (Nat.le_trans ?_ (size_lay f i)))
        have := List.take_append_drop j (layL i [f])
        rw [← this, List.map_append, List.sum_append, this]
        omega
      walk_at "sx"
      cases hlf : g.isLeaf with
      | true =>
        obtain ⟨⟨ds, ed⟩, nk, ek, el⟩ := leaf_d hlf
        have iy' := iy
        rw [ed] at iy'
        obtain ⟨ya, ys, rfl, hx, ax⟩ := im_parts iy'
        refine i_ixT (.inl (.inl hx)) at_0 ?_
        walk_at "sx"
        refine ⟨by walk_at "len", fun pk hpk => ?_⟩
        have sk := Same.new (o := .lst [V.str "not", V.str "and", V.str "or"]) hpk
        refine i_inSq (.inl (.inl (.inl upd_same))) rfl rfl ?_
        rw [show ([V.str "not", V.str "and", V.str "or"] : List V) = kind3.map V.str from rfl, inV_strs, decide_eq_false nk]
        walk_at "sx"
        refine ⟨_, ws, rfl, s2.trans sk, sk _ _ g1, sk _ _ g2, g3.mono (Same.tq sk), ?_⟩
        rw [et, List.flatMap_append, List.flatMap_singleton, ek, List.append_nil]
        exact g4.mono (Same.tq sk)
      | false =>
        obtain ⟨ed, hk⟩ := kids_d hlf
        have iy' := iy
        rw [ed] at iy'
        obtain ⟨ya, ys, rfl, hx, ax⟩ := im_parts iy'
        refine i_ixT (.inl (.inl hx)) at_0 ?_
        walk_at "sx"
        refine ⟨by walk_at "len", fun pk hpk => ?_⟩
        have sk := Same.new (o := .lst [V.str "not", V.str "and", V.str "or"]) hpk
        refine i_inSq (.inl (.inl (.inl upd_same))) rfl rfl ?_
        rw [show ([V.str "not", V.str "and", V.str "or"] : List V) = kind3.map V.str from rfl, inV_strs, decide_eq_true hk]
        walk_at "sx"
        refine ⟨ty_list (.inl (.inl (sk _ _ g2))), ?_⟩
        walk_at "sx"
        refine i_sl1 (.inl (.inl (sk _ _ hx))) fun pt hpt => ?_
        have st := sk.trans (Same.new (o := .tup ys) hpt)
        walk_at "sx"
        refine i_listT (.inl (.inl upd_same)) fun pl hpl => ?_
        have sl := st.trans (Same.new (o := .lst ys) hpl)
        walk_at "sx"
        have ly := ax.length
        rw [List.length_map] at ly
        have l2 : g.kids.length ≤ 2 := by cases g <;> simp [Fm.kids]
        refine i_extend (sl _ _ g2) upd_same (by rw [sizeLine_eq]; omega) ?_
        walk_at "sx"
        refine ⟨_, ws ++ ys, rfl, Same.put (s2.trans sl) hpi0, ?_, upd_same, (g3.mono (Same.tq sl)).mono (Tq.lst (sl _ _ g2)), ?_⟩
        · rw [upd_ne npi]; exact sl _ _ g1
        · rw [et, List.flatMap_append, List.flatMap_singleton, List.map_append]
          exact ((g4.mono (Same.tq sl)).append (ax.mono (Same.tq sl))).mono (Tq.lst (sl _ _ g2))
    · rintro σ H2 ⟨c, ws, rfl, s2, g1, g2, g3, g4⟩
      rw [List.take_of_length_le (by omega)] at g4
      walk_at "sx"
      exact ⟨pi, ws, _, _, _, rfl, s2, g2, g4⟩
  · rintro σ H' ⟨pr, vs, a, b, c, rfl, s, h1, im⟩
    walk_at "sx"
    rw [show min ((12 : Int).toNat) f.lev = f.lev from by have : (12 : Int).toNat = 12 := rfl; omega]
    exact q _ s


end H68

set_option maxHeartbeats 1000000
namespace H68
open PySem PySem.Spec PyProof.Rows L2 KB
local macro_rules | `(tactic| walk_at "kb1") => `(tactic| with_reducible first
  | refine i_var rfl ?_ | refine i_c ?_ | refine i_cons ?_ | refine i_nil ?_ | refine i_op ?_ | refine i_seq ?_ | refine i_if ?_ | refine i_ret ?_ | refine i_asg ?_ | refine i_name ?_ | refine i_next ?_ | refine i_drop ?_
  | refine i_un ?_ | refine i_cb ?_ | refine i_cal ?_ | refine i_calM ?_ | refine i_test ?_ | refine i_tb ?_ | refine i_k ?_ | refine i_not ?_ | refine i_and ?_ | refine i_or ?_ | refine i_andV ?_ | refine i_orV ?_ | refine i_notV ?_ | refine i_ife ?_
  | refine i_isN ?_ | refine i_notN ?_ | refine i_chain ?_ | refine i_tup ?_ | refine i_lst ?_ | refine i_sl ?_ | refine i_noPart ?_ | refine i_part ?_ | refine i_ik ?_ | refine i_sk ?_ | refine i_bm0 ?_ | refine i_bm ?_ | refine i_m1 ?_ | refine i_m0 ?_ | refine i_fld ?_ | refine i_tru ?_
  | refine i_gC ?_ | refine i_gN ?_ | refine i_for0L ?_ | refine i_for0E ?_ | refine i_for0R ?_ | refine i_lc0L ?_ | refine i_lc0S ?_ | refine i_lc0Z ?_ | refine i_tix ?_ | refine i_lorei ?_ | refine i_js0 ?_ | refine i_xf ?_ | refine i_calR ?_ | refine i_calRS ?_ | refine i_calS ?_ | refine i_for0R3 ?_ | refine i_mak ?_ | refine i_dget ?_ | refine i_din ?_ | refine i_dnotin ?_ | refine i_dput ?_ | refine i_dnewT ?_ | refine i_sub ?_ | refine i_rng1 ?_ | refine i_rng2 ?_ | refine i_rev ?_ | refine i_replC ?_ | refine i_lenset ?_ | refine i_mS ?_ | refine i_js ?_ | refine i_fmt ?_ | refine i_par ?_ | refine i_v2 ?_ | refine i_par3 ?_ | refine i_v3 ?_ | refine i_mkO ?_ | refine i_ost ?_ | refine i_sFld ?_ | refine i_yes ?_ | refine i_dget1 ?_ | refine i_dnewK ?_ | refine i_dpop1 ?_ | refine i_ndnew ?_ | refine i_nget2 ?_ | refine i_nsetd ?_ | refine i_nix ?_ | refine i_nput ?_ | refine i_listItems ?_ | refine i_for0Nv ?_ | refine i_lc0Nk ?_ | refine i_dstar ?_ | refine i_lc20L ?_ | refine i_sp1 ?_ | refine i_sp2 ?_ | refine i_sp3 ?_ | refine i_sp4 ?_)
local macro_rules | `(tactic| walk_at "dr") => `(tactic| first
  | assumption | exact Dr.non | exact Dr.bl _ | exact Dr.int _ | exact Dr.str _ | exact Dr.tup (by assumption) (by assumption) | exact Dr.lst (by assumption) (by assumption) | exact Dr.dic (by assumption) | exact Im.dr (by assumption))
local macro_rules | `(tactic| walk_at "if") => `(tactic| first
  | ((with_reducible refine i_iT ?_ ?_); · rfl) | ((with_reducible refine i_iF ?_ ?_); · rfl))
local macro_rules | `(tactic| walk_at "isi") => `(tactic| ((with_reducible show rIsiU _ _ _ _); first
  | (with_reducible refine j_isTup (by walk_at "dr") ?_) | (with_reducible refine j_isLst (by walk_at "dr") ?_) | (with_reducible refine j_isStr (by walk_at "dr") ?_)
  | (with_reducible refine j_isBl (by walk_at "dr") ?_) | (with_reducible refine j_isInt (by walk_at "dr") ?_)))
local macro_rules | `(tactic| walk_at "op") => `(tactic| with_reducible first
  | refine i_rI0 ?_ | refine i_addI ?_ | refine i_rU ?_ | refine i_ltI ?_ | refine i_inC ?_ | refine i_notInC ?_ | refine i_intI ?_ | refine i_intB ?_ | refine i_abs ?_ | refine i_max2 ?_ | refine i_min2 ?_ | refine i_isBl ?_
  | (refine i_eqS rfl ?_) | (refine i_neS rfl ?_))
local macro_rules | `(tactic| walk_at "wp") => `(tactic| ((with_reducible refine i_wp ?_ ?_); · rfl))
local macro_rules | `(tactic| walk_at "sx") => `(tactic| repeat first | walk_at "kb1" | walk_at "if" | walk_at "isi" | walk_at "op" | walk_at "wp")
local macro_rules | `(tactic| walk_at "cd") => `(tactic| refine ⟨_, (by walk_at "dr"), ?_⟩)
local macro_rules | `(tactic| walk_at "len") => `(tactic| (simp only [List.length_cons, List.length_nil]; decide))
local macro_rules | `(tactic| walk_at "ic") => `(tactic| first
  | ((with_reducible refine i_iT ?_ ?_); · first | with_reducible rfl | (simp only [Bool.not_true, Bool.not_false, isTupD, isLstD, isStrD, isBlD, isIntD, isSeqD]; done))
  | ((with_reducible refine i_iF ?_ ?_); · first | with_reducible rfl | (simp only [Bool.not_true, Bool.not_false, isTupD, isLstD, isStrD, isBlD, isIntD, isSeqD]; done)))
local macro_rules | `(tactic| walk_at "sy") => `(tactic| repeat first | walk_at "kb1" | walk_at "ic" | walk_at "isi" | walk_at "op" | walk_at "wp")
theorem sc_law_leaves : FnScope ["formula", "rows", "found", "turn", "inner", "one"] ["formula"] (defScope s_law_leaves) := ⟨rfl, rfl, rfl, by decide +kernel, rfl, by decide +kernel, by decide +kernel⟩
theorem ok_law_leaves {P : Program} {w : World} {K : PySem.W.Frag} {mg : Str → Option Value} {base : Heap} (T : Tx K mg) :
    Cn P w K mg base 1 (He.fAd K ("_law_leaves", none)) ["formula"] (sp_law_leaves K) := by
  refine cnN (d := d_law_leaves) T.st_law_leaves sc_law_leaves sp1_len (fun _ _ _ _ _ _ us hl => match us, hl with | [_], _ => rfl) (fun cdv A outer s H vs Q E hr h => ?_)
  obtain ⟨v_formula, rfl, h⟩ := h
  refine ⟨_, (pss_cons (ps_par rfl sc_law_leaves.nd (i := 1) (j := 2) rfl rfl (by decide) rfl rfl (pa_cons (pe_lst (pa_cons (pv 0) pa_nil)) (pa_cons (pe_lst pa_nil) pa_nil)) (by rfl))
  (pss_cons (ps_for PassesOwn.never rfl (pi_range1 (by rfl) T.f_range (pa_cons pe_int pa_nil)) (pg_name (i := 3) sc_law_leaves.nd rfl (.inl rfl))
  (pss_cons (ps_set (i := 4) sc_law_leaves.nd rfl (.inl rfl) (pe_lst pa_nil))
  (pss_cons (ps_for PassesOwn.never rfl (w_list (K := K) rfl (pv 1)) (pg_name (i := 5) sc_law_leaves.nd rfl (.inl rfl))
  (pss_one (ps_if (pt_cmpR (o_in (K := K) rfl (rU65 hr)) (pe_ix (x_seq (K := K) rfl) (pv 5) pe_int (fun _ _ => rfl)) (pe_lst (pa_cons pe_str (pa_cons pe_str (pa_cons pe_str pa_nil)))) (by rfl)) (pss_one (ps_expr (e_extend (K := K) rfl (pv 4) (pe_callTy (c_list (K := K) rfl) (by rfl) T.f_list (by decide +kernel) (pa_cons (pe_slice (s_seq (K := K) rfl) (pv 5) (po_some pe_int) po_none) pa_nil))))) (pss_one (ps_expr (e_append (K := K) rfl (pv 2) (pv 5)))))))
  (pss_one (ps_set (i := 1) sc_law_leaves.nd rfl (.inl rfl) (pv 4))))))
  (pss_one (ps_ret (pv 2))))), ?_⟩
  rw [show start ["formula", "rows", "found", "turn", "inner", "one"] [v_formula] = [some v_formula, none, none, none, none, none] from rfl]
  obtain ⟨f, hf, hl, hz, q⟩ := h
  walk_at "sx"
  refine ⟨by walk_at "len", fun p0 hp0 => ?_⟩
  have s0 := Same.new (o := .lst [v_formula]) hp0
  walk_at "sx"
  refine ⟨by walk_at "len", fun pf hpf => ?_⟩
  have n0 : p0 ≠ pf := fun e => by rw [← e, upd_same] at hpf; cases hpf
  have hpf0 := fresh_of s0 hpf
  have s0 := s0.trans (Same.new (o := .lst []) hpf)
  walk_at "sx"
  refine i_forR (fun i σ H' => ∃ (pr : Addr) (vs : List V) (a b c : Option V) (fs : List V), σ = [some v_formula, some (.ref pr), some (.ref pf), a, b, c] ∧ Same H H' ∧ H' pr = some (.lst vs) ∧ ImAll H' vs ((layL i [f]).map Fm.d) ∧ pr ≠ pf ∧ H' pf = some (.lst fs) ∧ ImAll H' fs ((fnd f i).map Fm.d)) (by decide) ?_ ?_ ?_
  · exact ⟨p0, [v_formula], _, _, _, [], rfl, s0, by rw [upd_ne n0, upd_same], .one (hf.mono (Same.tq s0)), n0, upd_same, .nil⟩
  · rintro i σ H' hi ⟨pr, vs, a, b, c, fs, rfl, s, h1, im, npr, hfs, imf⟩
    have lv := im.length
    rw [List.length_map] at lv
    have ll := len_lay f i
    walk_at "sx"
    have h1e := h1
    have s1 := s
    have im1 := im
    refine ⟨by walk_at "len", fun pi hpi => ?_⟩
    have hpi0 := fresh_of s1 hpi
    have npi : pr ≠ pi := fun e => by rw [e, hpi] at h1e; cases h1e
    have si := Same.new (o := .lst []) hpi
    walk_at "sx"
    have npif : pi ≠ pf := fun e => by rw [← e, hpi] at hfs; cases hfs
    refine i_forL (fun j σ H2 => ∃ (c : Option V) (ws : List V) (fs : List V), σ = [some v_formula, some (.ref pr), some (.ref pf), some (.int (0 + ((i : Nat) : Int))), some (.ref pi), c] ∧ Same H H2 ∧ H2 pr = some (.lst vs) ∧ H2 pi = some (.lst ws) ∧ ImAll H2 vs ((layL i [f]).map Fm.d) ∧ ImAll H2 ws ((((layL i [f]).take j).flatMap Fm.kids).map Fm.d) ∧ H2 pf = some (.lst fs) ∧ ImAll H2 fs ((fnd f i ++ ((layL i [f]).take j).filter Fm.isLeaf).map Fm.d)) (.inl (.inl (si _ _ h1e))) ?_ ?_ ?_ ?_
    · exact ⟨_, [], fs, rfl, s1.trans si, si _ _ h1e, upd_same, im1.mono (Same.tq si), .nil, si _ _ hfs, by simpa using imf.mono (Same.tq si)⟩
    · rintro j σ H2 hj ⟨c, ws, fs, rfl, s2, g1, g2, g3, g4, g5, g6⟩
      exact .inl (.inl g1)
    · rintro j y σ H2 hy ⟨c, ws, fs, rfl, s2, g1, g2, g3, g4, g5, g6⟩
      obtain ⟨d, hd, iy⟩ := g3.get hy
      rw [List.getElem?_map] at hd
      obtain ⟨g, hg, rfl⟩ := Option.map_eq_some_iff.mp hd
      have et : (layL i [f]).take (j + 1) = (layL i [f]).take j ++ [g] := by rw [List.take_succ, hg] <;> rfl
      have lw := g4.length
      rw [List.length_map] at lw
      have lk : (((layL i [f]).take j).flatMap Fm.kids).length ≤ f.size := by
        refine Nat.le_trans (len_sum _) (Nat.le_trans (size_flat _) (Nat.le_trans ?_ (size_lay f i)))
        have := List.take_append_drop j (layL i [f])
        rw [← this, List.map_append, List.sum_append, this]
        omega
      walk_at "sx"
      cases hlf : g.isLeaf with
      | true =>
        obtain ⟨⟨ds, ed⟩, nk, ek, el⟩ := leaf_d hlf
        have iy' := iy
        rw [ed] at iy'
        obtain ⟨ya, ys, rfl, hx, ax⟩ := im_parts iy'
        refine i_ixT (.inl (.inl hx)) at_0 ?_
        walk_at "sx"
        refine ⟨by walk_at "len", fun pk hpk => ?_⟩
        have sk := Same.new (o := .lst [V.str "not", V.str "and", V.str "or"]) hpk
        refine i_inSq (.inl (.inl (.inl upd_same))) rfl rfl ?_
        rw [show ([V.str "not", V.str "and", V.str "or"] : List V) = kind3.map V.str from rfl, inV_strs, decide_eq_false nk]
        walk_at "sx"
        have g5' := sk _ _ g5
        refine ⟨ty_list (.inl (.inl g5')), ?_⟩
        walk_at "sx"
        have l6 := g6.length
        rw [List.length_map, List.length_append] at l6
        have l7 : (fnd f i).length ≤ f.size := Nat.le_trans (by have := (fnd_perm f i).length_eq; rw [List.length_append] at this; omega) f.leaves_le
        have l8 : (((layL i [f]).take j).filter Fm.isLeaf).length ≤ f.size := Nat.le_trans (List.length_filter_le _ _) (by rw [List.length_take]; omega)
        refine i_append g5' (by rw [sizeLine_eq]; omega) ?_
        walk_at "sx"
        refine ⟨_, ws, fs ++ [.ref ya], rfl, Same.put (s2.trans sk) hpf0, ?_, ?_, (g3.mono (Same.tq sk)).mono (Tq.lst g5'), ?_, upd_same, ?_⟩
        · rw [upd_ne npr]; exact sk _ _ g1
        · rw [upd_ne npif]; exact sk _ _ g2
        · rw [et, List.flatMap_append, List.flatMap_singleton, ek, List.append_nil]
          exact (g4.mono (Same.tq sk)).mono (Tq.lst g5')
        · rw [et, List.filter_append, ← List.append_assoc, List.map_append, show [g].filter Fm.isLeaf = [g] from by simp [List.filter, hlf]]
          exact ((g6.mono (Same.tq sk)).append (.one (iy.mono (Same.tq sk)))).mono (Tq.lst g5')
      | false =>
        obtain ⟨ed, hk⟩ := kids_d hlf
        have iy' := iy
        rw [ed] at iy'
        obtain ⟨ya, ys, rfl, hx, ax⟩ := im_parts iy'
        refine i_ixT (.inl (.inl hx)) at_0 ?_
        walk_at "sx"
        refine ⟨by walk_at "len", fun pk hpk => ?_⟩
        have sk := Same.new (o := .lst [V.str "not", V.str "and", V.str "or"]) hpk
        refine i_inSq (.inl (.inl (.inl upd_same))) rfl rfl ?_
        rw [show ([V.str "not", V.str "and", V.str "or"] : List V) = kind3.map V.str from rfl, inV_strs, decide_eq_true hk]
        walk_at "sx"
        refine ⟨ty_list (.inl (.inl (sk _ _ g2))), ?_⟩
        walk_at "sx"
        refine i_sl1 (.inl (.inl (sk _ _ hx))) fun pt hpt => ?_
        have st := sk.trans (Same.new (o := .tup ys) hpt)
        walk_at "sx"
        refine i_listT (.inl (.inl upd_same)) fun pl hpl => ?_
        have sl := st.trans (Same.new (o := .lst ys) hpl)
        walk_at "sx"
        have ly := ax.length
        rw [List.length_map] at ly
        have l2 : g.kids.length ≤ 2 := by cases g <;> simp [Fm.kids]
        refine i_extend (sl _ _ g2) upd_same (by rw [sizeLine_eq]; omega) ?_
        walk_at "sx"
        refine ⟨_, ws ++ ys, fs, rfl, Same.put (s2.trans sl) hpi0, ?_, upd_same, (g3.mono (Same.tq sl)).mono (Tq.lst (sl _ _ g2)), ?_, ?_, ?_⟩
        · rw [upd_ne npi]; exact sl _ _ g1
        · rw [et, List.flatMap_append, List.flatMap_singleton, List.map_append]
          exact ((g4.mono (Same.tq sl)).append (ax.mono (Same.tq sl))).mono (Tq.lst (sl _ _ g2))
        · rw [upd_ne (Ne.symm npif)]; exact sl _ _ g5
        · rw [et, List.filter_append, show [g].filter Fm.isLeaf = [] from by simp [List.filter, hlf], List.append_nil]
          exact (g6.mono (Same.tq sl)).mono (Tq.lst (sl _ _ g2))
    · rintro σ H2 ⟨c, ws, fs, rfl, s2, g1, g2, g3, g4, g5, g6⟩
      rw [List.take_of_length_le (by omega)] at g4 g6
      walk_at "sx"
      exact ⟨pi, ws, _, _, _, fs, rfl, s2, g2, g4, npif, g5, g6⟩
  · rintro σ H' ⟨pr, vs, a, b, c, fs, rfl, s, h1, im, npr, hfs, imf⟩
    walk_at "sx"
    exact q _ pf fs _ s hpf0 hfs imf (fnd_end hl)


end H68

set_option maxHeartbeats 1000000
namespace H68
open PySem PySem.Spec PyProof.Rows L2 KB
local macro_rules | `(tactic| walk_at "kb1") => `(tactic| with_reducible first
  | refine i_var rfl ?_ | refine i_c ?_ | refine i_cons ?_ | refine i_nil ?_ | refine i_op ?_ | refine i_seq ?_ | refine i_if ?_ | refine i_ret ?_ | refine i_asg ?_ | refine i_name ?_ | refine i_next ?_ | refine i_drop ?_
  | refine i_un ?_ | refine i_cb ?_ | refine i_cal ?_ | refine i_calM ?_ | refine i_test ?_ | refine i_tb ?_ | refine i_k ?_ | refine i_not ?_ | refine i_and ?_ | refine i_or ?_ | refine i_andV ?_ | refine i_orV ?_ | refine i_notV ?_ | refine i_ife ?_
  | refine i_isN ?_ | refine i_notN ?_ | refine i_chain ?_ | refine i_tup ?_ | refine i_lst ?_ | refine i_sl ?_ | refine i_noPart ?_ | refine i_part ?_ | refine i_ik ?_ | refine i_sk ?_ | refine i_bm0 ?_ | refine i_bm ?_ | refine i_m1 ?_ | refine i_m0 ?_ | refine i_fld ?_ | refine i_tru ?_
  | refine i_gC ?_ | refine i_gN ?_ | refine i_for0L ?_ | refine i_for0E ?_ | refine i_for0R ?_ | refine i_lc0L ?_ | refine i_lc0S ?_ | refine i_lc0Z ?_ | refine i_tix ?_ | refine i_lorei ?_ | refine i_js0 ?_ | refine i_xf ?_ | refine i_calR ?_ | refine i_calRS ?_ | refine i_calS ?_ | refine i_for0R3 ?_ | refine i_mak ?_ | refine i_dget ?_ | refine i_din ?_ | refine i_dnotin ?_ | refine i_dput ?_ | refine i_dnewT ?_ | refine i_sub ?_ | refine i_rng1 ?_ | refine i_rng2 ?_ | refine i_rev ?_ | refine i_replC ?_ | refine i_lenset ?_ | refine i_mS ?_ | refine i_js ?_ | refine i_fmt ?_ | refine i_par ?_ | refine i_v2 ?_ | refine i_par3 ?_ | refine i_v3 ?_ | refine i_mkO ?_ | refine i_ost ?_ | refine i_sFld ?_ | refine i_yes ?_ | refine i_dget1 ?_ | refine i_dnewK ?_ | refine i_dpop1 ?_ | refine i_ndnew ?_ | refine i_nget2 ?_ | refine i_nsetd ?_ | refine i_nix ?_ | refine i_nput ?_ | refine i_listItems ?_ | refine i_for0Nv ?_ | refine i_lc0Nk ?_ | refine i_dstar ?_ | refine i_lc20L ?_ | refine i_sp1 ?_ | refine i_sp2 ?_ | refine i_sp3 ?_ | refine i_sp4 ?_)
local macro_rules | `(tactic| walk_at "dr") => `(tactic| first
  | assumption | exact Dr.non | exact Dr.bl _ | exact Dr.int _ | exact Dr.str _ | exact Dr.tup (by assumption) (by assumption) | exact Dr.lst (by assumption) (by assumption) | exact Dr.dic (by assumption) | exact Im.dr (by assumption))
local macro_rules | `(tactic| walk_at "if") => `(tactic| first
  | ((with_reducible refine i_iT ?_ ?_); · rfl) | ((with_reducible refine i_iF ?_ ?_); · rfl))
local macro_rules | `(tactic| walk_at "isi") => `(tactic| ((with_reducible show rIsiU _ _ _ _); first
  | (with_reducible refine j_isTup (by walk_at "dr") ?_) | (with_reducible refine j_isLst (by walk_at "dr") ?_) | (with_reducible refine j_isStr (by walk_at "dr") ?_)
  | (with_reducible refine j_isBl (by walk_at "dr") ?_) | (with_reducible refine j_isInt (by walk_at "dr") ?_)))
local macro_rules | `(tactic| walk_at "op") => `(tactic| with_reducible first
  | refine i_rI0 ?_ | refine i_addI ?_ | refine i_rU ?_ | refine i_ltI ?_ | refine i_inC ?_ | refine i_notInC ?_ | refine i_intI ?_ | refine i_intB ?_ | refine i_abs ?_ | refine i_max2 ?_ | refine i_min2 ?_ | refine i_isBl ?_
  | (refine i_eqS rfl ?_) | (refine i_neS rfl ?_))
local macro_rules | `(tactic| walk_at "wp") => `(tactic| ((with_reducible refine i_wp ?_ ?_); · rfl))
local macro_rules | `(tactic| walk_at "sx") => `(tactic| repeat first | walk_at "kb1" | walk_at "if" | walk_at "isi" | walk_at "op" | walk_at "wp")
local macro_rules | `(tactic| walk_at "cd") => `(tactic| refine ⟨_, (by walk_at "dr"), ?_⟩)
local macro_rules | `(tactic| walk_at "len") => `(tactic| (simp only [List.length_cons, List.length_nil]; decide))
local macro_rules | `(tactic| walk_at "ic") => `(tactic| first
  | ((with_reducible refine i_iT ?_ ?_); · first | with_reducible rfl | (simp only [Bool.not_true, Bool.not_false, isTupD, isLstD, isStrD, isBlD, isIntD, isSeqD]; done))
  | ((with_reducible refine i_iF ?_ ?_); · first | with_reducible rfl | (simp only [Bool.not_true, Bool.not_false, isTupD, isLstD, isStrD, isBlD, isIntD, isSeqD]; done)))
local macro_rules | `(tactic| walk_at "sy") => `(tactic| repeat first | walk_at "kb1" | walk_at "ic" | walk_at "isi" | walk_at "op" | walk_at "wp")
theorem sc_law_holds : FnScope ["formula", "readings", "word", "both"] ["formula", "readings"] (defScope s_law_holds) := ⟨rfl, rfl, rfl, by decide +kernel, rfl, by decide +kernel, by decide +kernel⟩
theorem st_law_holds {n : Nat} {P : Program} {w : World} {K : PySem.W.Frag} {mg : Str → Option Value} {base : Heap} (T : Tx K mg)
    (C_law_holds : Cn P w K mg base (n + 1) (He.fAd K ("_law_holds", none)) ["formula", "readings"] (sp_law_holds_n K n)) :
    Cn P w K mg base (n + 1 + 1) (He.fAd K ("_law_holds", none)) ["formula", "readings"] (sp_law_holds_n K (n + 1)) := by
  refine cnN (d := d_law_holds) T.st_law_holds sc_law_holds sp2_len (fun _ _ _ _ _ _ us hl => match us, hl with | [_, _], _ => rfl) (fun cdv A outer s H vs Q E hr h => ?_)
  obtain ⟨v_formula, v_readings, rfl, h⟩ := h
  refine ⟨_, (pss_cons (ps_set (i := 2) sc_law_holds.nd rfl (.inl rfl) (pe_ix (x_seq (K := K) rfl) (pv 0) pe_int (fun _ _ => rfl)))
  (pss_cons (ps_if (pt_cmpR (o_eq (K := K) rfl hr.units) (pv 2) pe_str (by rfl)) (pss_one (ps_ret (pe_and (pe_cmp (pc_notN (pe_dget1 (rU1 hr) (pv 1) (pe_ix (x_seq (K := K) rfl) (pv 0) pe_int (fun _ _ => rfl)) ⟨by rfl, by rfl, by rfl, by rfl⟩)) rfl) (pe_one (pe_cmpR (o_eq (K := K) rfl hr.units) (pe_ix (x_seq (K := K) rfl) (pe_dget (rU1 hr) (pv 1) (pe_ix (x_seq (K := K) rfl) (pv 0) pe_int (fun _ _ => rfl)) (fun _ _ => rfl)) pe_int (fun _ _ => rfl)) (pe_ix (x_seq (K := K) rfl) (pv 0) pe_int (fun _ _ => rfl)) (by rfl)))))) pss_nil)
  (pss_cons (ps_if (pt_cmpR (o_eq (K := K) rfl hr.units) (pv 2) pe_str (by rfl)) (pss_one (ps_ret (pe_cmp (pc_isN (pe_dget1 (rU1 hr) (pv 1) (pe_ix (x_seq (K := K) rfl) (pv 0) pe_int (fun _ _ => rfl)) ⟨by rfl, by rfl, by rfl, by rfl⟩)) rfl))) pss_nil)
  (pss_cons (ps_if (pt_cmpR (o_eq (K := K) rfl hr.units) (pv 2) pe_str (by rfl)) (pss_one (ps_ret (pe_not (pe_cn C_law_holds hr (by omega) (by rfl) T.g_law_holds passN (pa_cons (pe_ix (x_seq (K := K) rfl) (pv 0) pe_int (fun _ _ => rfl)) (pa_cons (pv 1) pa_nil)))))) pss_nil)
  (pss_cons (ps_set (i := 3) sc_law_holds.nd rfl (.inl rfl) (pe_lst (pa_cons (pe_cn C_law_holds hr (by omega) (by rfl) T.g_law_holds passN (pa_cons (pe_ix (x_seq (K := K) rfl) (pv 0) pe_int (fun _ _ => rfl)) (pa_cons (pv 1) pa_nil))) (pa_cons (pe_cn C_law_holds hr (by omega) (by rfl) T.g_law_holds passN (pa_cons (pe_ix (x_seq (K := K) rfl) (pv 0) pe_int (fun _ _ => rfl)) (pa_cons (pv 1) pa_nil))) pa_nil))))
  (pss_one (ps_ret (pe_ifExp (pt_cmpR (o_eq (K := K) rfl hr.units) (pv 2) pe_str (by rfl)) (pe_and (pe_ix (x_seq (K := K) rfl) (pv 3) pe_int (fun _ _ => rfl)) (pe_one (pe_ix (x_seq (K := K) rfl) (pv 3) pe_int (fun _ _ => rfl)))) (pe_or (pe_ix (x_seq (K := K) rfl) (pv 3) pe_int (fun _ _ => rfl)) (pe_one (pe_ix (x_seq (K := K) rfl) (pv 3) pe_int (fun _ _ => rfl)))))))))))), ?_⟩
  rw [show start ["formula", "readings", "word", "both"] [v_formula, v_readings] = [some v_formula, some v_readings, none, none] from rfl]
  obtain ⟨f, ρ, a, hf, hl, rfl, hd, q⟩ := h
  cases f with
  | is k v =>
    cases hf with
    | tup hx ax =>
    match ax, hx with
    | .cons (.str _) (.cons (.str _) (.cons (.str _) .nil)), hx =>
    obtain ⟨kvs, ha, hr2⟩ := hd
    have hr3 := hr2 k (List.mem_singleton.mpr rfl)
    walk_at "sx"
    refine i_ixT (.inl (.inl hx)) rfl ?_
    walk_at "sx"
    refine ⟨_, rfl, .inl ⟨_, ha⟩, ?_⟩
    walk_at "sx"
    refine i_ixT (.inl (.inl hx)) rfl ?_
    walk_at "sx"
    refine ⟨_, .inl ⟨kvs, .inr k, ha, rfl, rfl⟩, ?_⟩
    walk_at "sx"
    cases e9 : valV kvs (.inr k) with
    | none =>
      rw [e9] at hr3
      have er : ρ k = none := by
        cases e : ρ k with
        | none => rfl
        | some s =>
          rw [e] at hr3
          obtain ⟨m, hm⟩ := hr3
          cases hm
      refine i_iF (by simp) ?_
      have ev : (Fm.is k v).ev ρ = false := by show decide (ρ k = some v) = false; rw [er] <;> rfl
      rw [← ev]; exact q H (fun _ _ h => h)
    | some y =>
      rw [e9] at hr3
      have hr3 : RdV H y (ρ k) := hr3
      cases e : ρ k with
      | none =>
        rw [e] at hr3
        cases (show y = V.non from hr3)
        refine i_iF (by simp) ?_
        have ev : (Fm.is k v).ev ρ = false := by show decide (ρ k = some v) = false; rw [e] <;> rfl
        rw [← ev]; exact q H (fun _ _ h => h)
      | some s =>
        rw [e] at hr3
        obtain ⟨m, hm⟩ := hr3
        cases hm with
        | tup hy ay =>
        match ay, hy with
        | .cons (.str _) (.cons (.int _) .nil), hy =>
        refine i_iT (by simp) ?_
        walk_at "sx"
        refine i_ixT (.inl (.inl hx)) rfl ?_
        refine ⟨a, _, rfl, .inl ⟨kvs, .inr k, ha, rfl, e9.symm⟩, ?_⟩
        walk_at "sx"
        refine i_ixT (.inl (.inl hy)) rfl ?_
        walk_at "sx"
        refine i_ixT (.inl (.inl hx)) rfl ?_
        walk_at "sx"
        have ev : (Fm.is k v).ev ρ = decide (V.str s = V.str v) := by
          show decide (ρ k = some v) = _
          rw [e, Bool.eq_iff_iff, decide_eq_true_iff, decide_eq_true_iff]
          exact ⟨fun h => by rw [Option.some.inj h], fun h => by rw [V.str.inj h]⟩
        rw [← ev]; exact q H (fun _ _ h => h)
  | sil k =>
    cases hf with
    | tup hx ax =>
    match ax, hx with
    | .cons (.str _) (.cons (.str _) .nil), hx =>
    obtain ⟨kvs, ha, hr2⟩ := hd
    have hr3 := hr2 k (List.mem_singleton.mpr rfl)
    walk_at "sx"
    refine i_ixT (.inl (.inl hx)) rfl ?_
    walk_at "sx"
    refine ⟨_, rfl, .inl ⟨_, ha⟩, ?_⟩
    walk_at "sx"
    refine i_ixT (.inl (.inl hx)) rfl ?_
    walk_at "sx"
    refine ⟨_, .inl ⟨kvs, .inr k, ha, rfl, rfl⟩, ?_⟩
    have ev : (Fm.sil k).ev ρ = decide ((valV kvs (.inr k)).getD .non = .non) := by
      show (ρ k).isNone = _
      cases e : ρ k with
      | none =>
        rw [e] at hr3
        have e3 : (valV kvs (.inr k)).getD .non = .non := hr3
        rw [e3]; simp
      | some s =>
        rw [e] at hr3
        obtain ⟨m, hm⟩ := hr3
        generalize (valV kvs (.inr k)).getD .non = y at hm ⊢
        cases hm
        simp
    rw [← ev]; exact q H (fun _ _ h => h)
  | no g =>
    cases hf with
    | tup hx ax =>
    match ax, hx with
    | .cons (.str _) (.cons (v := y1) g1 .nil), hx =>
    walk_at "sx"
    refine i_ixT (.inl (.inl hx)) rfl ?_
    walk_at "sx"
    refine i_ixT (.inl (.inl hx)) rfl ?_
    walk_at "sx"
    refine ⟨g, ρ, a, g1, ?_, rfl, hd.sub fun k hk => hk, fun H' s => ⟨_, rfl, q H' s⟩⟩
    have : (Fm.no g).lev = g.lev + 1 := rfl
    omega
  | two o g1 g2 =>
    have e1 : (Fm.two o g1 g2).lev = max g1.lev g2.lev + 1 := rfl
    have k1 : ∀ k ∈ g1.keys, k ∈ (Fm.two o g1 g2).keys := fun k hk => by
      obtain ⟨l, hl, e⟩ := List.mem_map.mp hk
      exact List.mem_map.mpr ⟨l, List.mem_append_left _ hl, e⟩
    have k2 : ∀ k ∈ g2.keys, k ∈ (Fm.two o g1 g2).keys := fun k hk => by
      obtain ⟨l, hl, e⟩ := List.mem_map.mp hk
      exact List.mem_map.mpr ⟨l, List.mem_append_right _ hl, e⟩
    cases hf with
    | tup hx ax =>
    match ax, hx with
    | .cons (.str _) (.cons (v := y1) h1 (.cons (v := y2) h2 .nil)), hx =>
    have ew : (twoW o = "and" ∧ o = false) ∨ (twoW o = "or" ∧ o = true) := by cases o <;> simp [twoW]
    have ni : ∀ z ∈ (["is", "silent", "not"] : List Str), decide (V.str (twoW o) = V.str z) = false := by
      intro z hz
      simp only [List.mem_cons, List.not_mem_nil, or_false] at hz
      cases o <;> rcases hz with rfl | rfl | rfl <;> decide +kernel
    walk_at "sx"
    refine i_ixT (.inl (.inl hx)) rfl ?_
    walk_at "sx"
    refine i_iF (ni "is" (by simp)) ?_
    walk_at "sx"
    refine i_iF (ni "silent" (by simp)) ?_
    walk_at "sx"
    refine i_iF (ni "not" (by simp)) ?_
    walk_at "sx"
    refine i_ixT (.inl (.inl hx)) rfl ?_
    walk_at "sx"
    refine ⟨g1, ρ, a, h1, by omega, rfl, hd.sub k1, fun H1 s1 => ?_⟩
    walk_at "sx"
    refine i_ixT (.inl (.inl (s1 _ _ hx))) rfl ?_
    walk_at "sx"
    refine ⟨g2, ρ, a, h2.mono (Same.tq s1), by omega, rfl, (hd.sub k2).mono s1, fun H2 s2 => ?_⟩
    walk_at "sx"
    refine ⟨by walk_at "len", fun p3 hp3 => ?_⟩
    have s3 := (s1.trans s2).trans (Same.new (o := .lst [V.bl (g1.ev ρ), V.bl (g2.ev ρ)]) hp3)
    have f3 : upd H2 p3 (.lst [V.bl (g1.ev ρ), V.bl (g2.ev ρ)]) p3 = _ := upd_same
    generalize upd H2 p3 (.lst [V.bl (g1.ev ρ), V.bl (g2.ev ρ)]) = H3 at s3 f3 ⊢
    walk_at "sx"
    refine i_i2 (fun e2 => ?_) (fun e2 => ?_)
    · have eo : o = false := by
        have := V.str.inj (of_decide_eq_true e2)
        rcases ew with ⟨_, h⟩ | ⟨h, _⟩
        · exact h
        · rw [h] at this; exact absurd this (by decide +kernel)
      subst eo
      walk_at "sx"
      refine i_ixL (.inl (.inl f3)) rfl ?_
      refine ⟨_, rfl, ?_⟩
      have ev : (Fm.two false g1 g2).ev ρ = (g1.ev ρ && g2.ev ρ) := rfl
      refine i_i2 (fun e4 => ?_) (fun e4 => ?_)
      · walk_at "sx"
        refine i_ixL (.inl (.inl f3)) rfl ?_
        rw [e4, Bool.true_and] at ev
        rw [← ev]; exact q H3 s3
      · rw [e4, Bool.false_and] at ev
        rw [← ev]; exact q H3 s3
    · have eo : o = true := by
        rcases ew with ⟨h, _⟩ | ⟨_, h⟩
        · rw [h] at e2; exact absurd e2 (by simp)
        · exact h
      subst eo
      walk_at "sx"
      refine i_ixL (.inl (.inl f3)) rfl ?_
      refine ⟨_, rfl, ?_⟩
      have ev : (Fm.two true g1 g2).ev ρ = (g1.ev ρ || g2.ev ρ) := rfl
      refine i_i2 (fun e4 => ?_) (fun e4 => ?_)
      · rw [e4, Bool.true_or] at ev
        rw [← ev]; exact q H3 s3
      · walk_at "sx"
        refine i_ixL (.inl (.inl f3)) rfl ?_
        rw [e4, Bool.false_or] at ev
        rw [← ev]; exact q H3 s3

theorem ok_law_holds_n {P : Program} {w : World} {K : PySem.W.Frag} {mg : Str → Option Value} {base : Heap} (T : Tx K mg) : ∀ n : Nat, Cn P w K mg base (n + 1) (He.fAd K ("_law_holds", none)) ["formula", "readings"] (sp_law_holds_n K n)
  | 0 => cnZ (d := d_law_holds) (k := 0) T.st_law_holds sc_law_holds sp2_len (fun _ _ _ _ _ _ us hl => match us, hl with | [_, _], _ => rfl) zero_law_holds
  | n + 1 => (st_law_holds (n := n) T (C_law_holds := ok_law_holds_n T n)).mono (by omega)
theorem ok_law_holds {P : Program} {w : World} {K : PySem.W.Frag} {mg : Str → Option Value} {base : Heap} (T : Tx K mg) : Cn P w K mg base 9 (He.fAd K ("_law_holds", none)) ["formula", "readings"] (sp_law_holds K) := ok_law_holds_n T 8

end H68

set_option maxHeartbeats 1000000
namespace H68
open PySem PySem.Spec PyProof.Rows L2 KB
local macro_rules | `(tactic| walk_at "kb1") => `(tactic| with_reducible first
  | refine i_var rfl ?_ | refine i_c ?_ | refine i_cons ?_ | refine i_nil ?_ | refine i_op ?_ | refine i_seq ?_ | refine i_if ?_ | refine i_ret ?_ | refine i_asg ?_ | refine i_name ?_ | refine i_next ?_ | refine i_drop ?_
  | refine i_un ?_ | refine i_cb ?_ | refine i_cal ?_ | refine i_calM ?_ | refine i_test ?_ | refine i_tb ?_ | refine i_k ?_ | refine i_not ?_ | refine i_and ?_ | refine i_or ?_ | refine i_andV ?_ | refine i_orV ?_ | refine i_notV ?_ | refine i_ife ?_
  | refine i_isN ?_ | refine i_notN ?_ | refine i_chain ?_ | refine i_tup ?_ | refine i_lst ?_ | refine i_sl ?_ | refine i_noPart ?_ | refine i_part ?_ | refine i_ik ?_ | refine i_sk ?_ | refine i_bm0 ?_ | refine i_bm ?_ | refine i_m1 ?_ | refine i_m0 ?_ | refine i_fld ?_ | refine i_tru ?_
  | refine i_gC ?_ | refine i_gN ?_ | refine i_for0L ?_ | refine i_for0E ?_ | refine i_for0R ?_ | refine i_lc0L ?_ | refine i_lc0S ?_ | refine i_lc0Z ?_ | refine i_tix ?_ | refine i_lorei ?_ | refine i_js0 ?_ | refine i_xf ?_ | refine i_calR ?_ | refine i_calRS ?_ | refine i_calS ?_ | refine i_for0R3 ?_ | refine i_mak ?_ | refine i_dget ?_ | refine i_din ?_ | refine i_dnotin ?_ | refine i_dput ?_ | refine i_dnewT ?_ | refine i_sub ?_ | refine i_rng1 ?_ | refine i_rng2 ?_ | refine i_rev ?_ | refine i_replC ?_ | refine i_lenset ?_ | refine i_mS ?_ | refine i_js ?_ | refine i_fmt ?_ | refine i_par ?_ | refine i_v2 ?_ | refine i_par3 ?_ | refine i_v3 ?_ | refine i_mkO ?_ | refine i_ost ?_ | refine i_sFld ?_ | refine i_yes ?_ | refine i_dget1 ?_ | refine i_dnewK ?_ | refine i_dpop1 ?_ | refine i_ndnew ?_ | refine i_nget2 ?_ | refine i_nsetd ?_ | refine i_nix ?_ | refine i_nput ?_ | refine i_listItems ?_ | refine i_for0Nv ?_ | refine i_lc0Nk ?_ | refine i_dstar ?_ | refine i_lc20L ?_ | refine i_sp1 ?_ | refine i_sp2 ?_ | refine i_sp3 ?_ | refine i_sp4 ?_)
local macro_rules | `(tactic| walk_at "dr") => `(tactic| first
  | assumption | exact Dr.non | exact Dr.bl _ | exact Dr.int _ | exact Dr.str _ | exact Dr.tup (by assumption) (by assumption) | exact Dr.lst (by assumption) (by assumption) | exact Dr.dic (by assumption) | exact Im.dr (by assumption))
local macro_rules | `(tactic| walk_at "if") => `(tactic| first
  | ((with_reducible refine i_iT ?_ ?_); · rfl) | ((with_reducible refine i_iF ?_ ?_); · rfl))
local macro_rules | `(tactic| walk_at "isi") => `(tactic| ((with_reducible show rIsiU _ _ _ _); first
  | (with_reducible refine j_isTup (by walk_at "dr") ?_) | (with_reducible refine j_isLst (by walk_at "dr") ?_) | (with_reducible refine j_isStr (by walk_at "dr") ?_)
  | (with_reducible refine j_isBl (by walk_at "dr") ?_) | (with_reducible refine j_isInt (by walk_at "dr") ?_)))
local macro_rules | `(tactic| walk_at "op") => `(tactic| with_reducible first
  | refine i_rI0 ?_ | refine i_addI ?_ | refine i_rU ?_ | refine i_ltI ?_ | refine i_inC ?_ | refine i_notInC ?_ | refine i_intI ?_ | refine i_intB ?_ | refine i_abs ?_ | refine i_max2 ?_ | refine i_min2 ?_ | refine i_isBl ?_
  | (refine i_eqS rfl ?_) | (refine i_neS rfl ?_))
local macro_rules | `(tactic| walk_at "wp") => `(tactic| ((with_reducible refine i_wp ?_ ?_); · rfl))
local macro_rules | `(tactic| walk_at "sx") => `(tactic| repeat first | walk_at "kb1" | walk_at "if" | walk_at "isi" | walk_at "op" | walk_at "wp")
local macro_rules | `(tactic| walk_at "cd") => `(tactic| refine ⟨_, (by walk_at "dr"), ?_⟩)
local macro_rules | `(tactic| walk_at "len") => `(tactic| (simp only [List.length_cons, List.length_nil]; decide))
local macro_rules | `(tactic| walk_at "ic") => `(tactic| first
  | ((with_reducible refine i_iT ?_ ?_); · first | with_reducible rfl | (simp only [Bool.not_true, Bool.not_false, isTupD, isLstD, isStrD, isBlD, isIntD, isSeqD]; done))
  | ((with_reducible refine i_iF ?_ ?_); · first | with_reducible rfl | (simp only [Bool.not_true, Bool.not_false, isTupD, isLstD, isStrD, isBlD, isIntD, isSeqD]; done)))
local macro_rules | `(tactic| walk_at "sy") => `(tactic| repeat first | walk_at "kb1" | walk_at "ic" | walk_at "isi" | walk_at "op" | walk_at "wp")
theorem sc_law_all_readings : FnScope ["keys", "rows", "key", "longer", "row", "value"] ["keys"] (defScope s_law_all_readings) := ⟨rfl, rfl, rfl, by decide +kernel, rfl, by decide +kernel, by decide +kernel⟩
theorem ok_law_all_readings {P : Program} {w : World} {K : PySem.W.Frag} {mg : Str → Option Value} {base : Heap} (T : Tx K mg) :
    Cn P w K mg base 1 (He.fAd K ("_law_all_readings", none)) ["keys"] (sp_law_all_readings K) := by
  refine cnN (d := d_law_all_readings) T.st_law_all_readings sc_law_all_readings sp1_len (fun _ _ _ _ _ _ us hl => match us, hl with | [_], _ => rfl) (fun cdv A outer s H vs Q E hr h => ?_)
  obtain ⟨v_keys, rfl, h⟩ := h
  refine ⟨_, (pss_cons (ps_set (i := 1) sc_law_all_readings.nd rfl (.inl rfl) (pe_lst (pa_cons pe_dnewK pa_nil)))
  (pss_cons (ps_for PassesOwn.never rfl (w_list (K := K) rfl (pv 0)) (pg_name (i := 2) sc_law_all_readings.nd rfl (.inl rfl))
  (pss_cons (ps_set (i := 3) sc_law_all_readings.nd rfl (.inl rfl) (pe_lst pa_nil))
  (pss_cons (ps_for PassesOwn.never rfl (w_list (K := K) rfl (pv 1)) (pg_name (i := 4) sc_law_all_readings.nd rfl (.inl rfl))
  (pss_one (ps_for PassesOwn.never rfl (w_list (K := K) rfl (pe_lst (pa_cons pe_non (pa_cons pe_str (pa_cons pe_str (pa_cons pe_str (pa_cons pe_str pa_nil))))))) (pg_name (i := 5) sc_law_all_readings.nd rfl (.inl rfl))
  (pss_one (ps_expr (e_append (K := K) rfl (pv 3) (pe_callTy (c_dictP (K := K) rfl rfl) (by rfl) T.f_dict (by decide +kernel) (pa_cons (pe_op op_addU (LiI.pe_listItems rfl (pv 4) (by rfl) T.f_list (by decide +kernel)) (pe_lst (pa_cons (pe_tup (pa_cons (pv 2) (pa_cons (pe_ifExp (pt_cmp (pc_isN (pv 5)) rfl) pe_non (pe_tup (pa_cons (pv 5) (pa_cons pe_int pa_nil)))) pa_nil))) pa_nil))) pa_nil))))))))
  (pss_one (ps_set (i := 1) sc_law_all_readings.nd rfl (.inl rfl) (pv 3))))))
  (pss_one (ps_ret (pv 1))))), ?_⟩
  rw [show start ["keys", "rows", "key", "longer", "row", "value"] [v_keys] = [some v_keys, none, none, none, none, none] from rfl]
  obtain ⟨a, ks, rfl, ha, h3, nd, q⟩ := h
  walk_at "sx"
  intro p0 hp0
  have s0 := Same.new (o := .dK []) hp0
  have f0 : upd H p0 (.dK []) p0 = _ := upd_same
  generalize upd H p0 (.dK []) = H0 at s0 f0 ⊢
  walk_at "sx"
  refine ⟨by walk_at "len", fun p1 hp1 => ?_⟩
  have s1 := s0.trans (Same.new (o := .lst [V.ref p0]) hp1)
  have f0 := Same.new (o := .lst [V.ref p0]) hp1 _ _ f0
  have f1 : upd H0 p1 (.lst [V.ref p0]) p1 = _ := upd_same
  have hp1 : H p1 = none := fresh_of s0 hp1
  generalize upd H0 p1 (.lst [V.ref p0]) = H1 at s1 f0 f1 ⊢
  walk_at "sx"
  refine i_forL (fun i σ H' => ∃ (pf : Addr) (as : List Addr) (x2 x3 x4 x5 : Option V), σ = [some (.ref a), some (.ref pf), x2, x3, x4, x5] ∧ Same H1 H' ∧ H pf = none ∧ H' pf = some (.lst (as.map V.ref)) ∧
    RowsAt H H' as (rowsOf (fun _ => five) (ks.take i)) ∧ as.Nodup) (.inl (.inl (s1 _ _ ha))) ?_ ?_ ?_ ?_
  · exact ⟨p1, [p0], _, _, _, _, rfl, fun _ _ e => e, hp1, f1, .cons ⟨hp0, [], f0, .nil⟩ .nil, List.pairwise_singleton _ _⟩
  · rintro i σ H' _ ⟨pf, as, x2, x3, x4, x5, rfl, s5, _⟩
    exact .inl (.inl (s5 _ _ (s1 _ _ ha)))
  · rintro i x σ HL hx ⟨pf, as, x2, x3, x4, x5, rfl, s5, hpf, hfd, hR, hnd⟩
    rw [List.getElem?_map] at hx
    obtain ⟨k, hki, rfl⟩ := Option.map_eq_some_iff.mp hx
    have hi : i < ks.length := (List.getElem?_eq_some_iff.mp hki).1
    have ksub : ¬ k ∈ ks.take i := fun hj => by
      obtain ⟨m, hm, e2⟩ := List.mem_take_iff_getElem.mp hj
      have e3 : ks[i] = k := by rw [List.getElem?_eq_getElem hi] at hki; exact Option.some.inj hki
      have := (List.getElem_inj nd (h₀ := by omega) (h₁ := hi)).mp (e2.trans e3.symm)
      omega
    have et : ks.take (i + 1) = ks.take i ++ [k] := take_succ_get hki
    have ndt : (ks.take i).Nodup := nd.sublist (List.take_sublist _ _)
    have hRl : as.length ≤ 125 := by
      rw [hR.len]
      have h := prod_len (fun _ => five) 5 (ks.take i) [[]] fun j _ => (by decide : five.length ≤ 5)
      have h2 : 5 ^ (ks.take i).length ≤ 5 ^ 3 := Nat.pow_le_pow_right (by decide) (by rw [List.length_take]; omega)
      have h4 : (rowsOf (fun _ => five) (ks.take i)).length ≤ [([] : KB.Row)].length * 5 ^ (ks.take i).length := h
      rw [List.length_singleton, Nat.one_mul] at h4
      have : (5 : Nat) ^ 3 = 125 := by decide
      omega
    have e1 : rowsOf (fun _ => five) (ks.take (i + 1)) = grow (fun _ => five) (rowsOf (fun _ => five) (ks.take i)) k := by
      rw [et]; unfold rowsOf; rw [prodR_snoc]
    generalize eR : rowsOf (fun _ => five) (ks.take i) = R at hR e1
    have hRk : ∀ r ∈ R, r.map (·.1) = ks.take i := fun r hr => (mem_rows.mp (by rw [eR]; exact hr)).1
    have sHL := s1.trans s5
    walk_at "sx"
    refine ⟨by walk_at "len", fun pl hpl => ?_⟩
    have sl := Same.new (o := .lst []) hpl
    have fl : upd HL pl (.lst []) pl = _ := upd_same
    generalize upd HL pl (.lst []) = HM at sl fl ⊢
    walk_at "sx"
    refine i_forL (fun j σ H' => ∃ (acc : List Addr) (x4 x5 : Option V), σ = [some (.ref a), some (.ref pf), some (.str k), some (.ref pl), x4, x5] ∧ Same HL H' ∧ H' pl = some (.lst (acc.map V.ref)) ∧
      RowsAt HL H' acc (grow (fun _ => five) (R.take j) k) ∧ acc.Nodup) (.inl (.inl (sl _ _ hfd))) ?_ ?_ ?_ ?_
    · exact ⟨[], _, _, rfl, sl, fl, .nil, List.nodup_nil⟩
    · rintro j σ H' _ ⟨acc, x4, x5, rfl, s6, _⟩
      exact .inl (.inl (s6 _ _ hfd))
    · rintro j x σ HJ hxj ⟨acc, x4, x5, rfl, s6, hac, hRa, hna⟩
      rw [List.getElem?_map] at hxj
      obtain ⟨b, hbj, rfl⟩ := Option.map_eq_some_iff.mp hxj
      obtain ⟨r, hrj, _, hrb⟩ := hR.get hbj
      have hjl : j < as.length := (List.getElem?_eq_some_iff.mp hbj).1
      have hrk := hRk r (List.mem_of_getElem? hrj)
      walk_at "sx"
      refine ⟨by walk_at "len", fun pv hpv => ?_⟩
      have sv := Same.new (o := .lst [V.non, .str "r", .str "x1", .str "7", .str "other"]) hpv
      have fv : upd HJ pv (.lst [V.non, .str "r", .str "x1", .str "7", .str "other"]) pv = _ := upd_same
      generalize upd HJ pv (.lst [V.non, .str "r", .str "x1", .str "7", .str "other"]) = HV at sv fv ⊢
      have ne : pl ≠ pv := fun e => by rw [← e, hac] at hpv; cases hpv
      have hgl : (grow (fun _ => five) (R.take j) k).length ≤ j * 5 := by
        have h1 := grow_len (fun _ => five) k 5 (by decide : five.length ≤ 5) (R.take j)
        have h2 : (R.take j).length ≤ j := by rw [List.length_take]; omega
        have h3 := Nat.mul_le_mul_right 5 h2
        omega
      walk_at "sx"
      refine i_forL (fun m σ H' => ∃ (acc : List Addr) (x5 : Option V), σ = [some (.ref a), some (.ref pf), some (.str k), some (.ref pl), some (.ref b), x5] ∧ Same HL H' ∧ H' pv = some (.lst [V.non, .str "r", .str "x1", .str "7", .str "other"]) ∧ H' pl = some (.lst (acc.map V.ref)) ∧
        RowsAt HL H' acc (grow (fun _ => five) (R.take j) k ++ (five.take m).map fun o => r ++ [(k, o)]) ∧ acc.Nodup) (.inl (.inl fv)) ?_ ?_ ?_ ?_
      · refine ⟨acc, _, rfl, s6.trans sv, fv, sv _ _ hac, ?_, hna⟩
        simp only [List.take_zero, List.map_nil, List.append_nil]
        exact hRa.mono sv
      · rintro m σ H' _ ⟨acc, x5, rfl, _, h, _⟩
        exact .inl (.inl h)
      · rintro m x σ HW hxm ⟨acc, x5, rfl, s7, hv7, hac7, hRa7, hna7⟩
        obtain ⟨o, hom, hxo⟩ : ∃ o, five[m]? = some o ∧ x = (match o with | none => V.non | some z => .str z) := by
          have hml : m < 5 := by simpa using (List.getElem?_eq_some_iff.mp hxm).1
          rcases (by omega : m = 0 ∨ m = 1 ∨ m = 2 ∨ m = 3 ∨ m = 4) with rfl | rfl | rfl | rfl | rfl <;> cases hxm <;> exact ⟨_, rfl, rfl⟩
        obtain ⟨kvs, hkv, hrow⟩ := hrb.mono s7
        have hml : m < 5 := (List.getElem?_eq_some_iff.mp hom).1
        have hal := hRa7.len
        rw [List.length_append, List.length_map, List.length_take] at hal
        walk_at "sx"
        refine ⟨ty_list (.inl (.inl hac7)), ?_⟩
        walk_at "sx"
        refine ⟨b, kvs, rfl, hkv, fun H8 q8 ts s8 hq8 hts hnt hq8b hpr => ?_⟩
        walk_at "sx"
        cases o with
        | none =>
          have hxo : x = .non := hxo
          subst hxo
          have s89 : Same H8 H8 := fun _ _ e => e
          have im9 : Im H8 .non (rdgD none) := .non
          generalize eH9 : H8 = H9 at s89 im9 ⊢
          subst eH9
          walk_at "sx"
          refine ⟨by walk_at "len", fun pt hpt => ?_⟩
          have st := Same.new (o := .tup [.str k, .non]) hpt
          have ft : upd H8 pt (.tup [.str k, .non]) pt = _ := upd_same
          generalize upd H8 pt (.tup [.str k, .non]) = HT at st ft ⊢
          walk_at "sx"
          refine ⟨by walk_at "len", fun pu hpu => ?_⟩
          have su := Same.new (o := .lst [.ref pt]) hpu
          have fu : upd HT pu (.lst [.ref pt]) pu = _ := upd_same
          generalize upd HT pu (.lst [.ref pt]) = HU at su fu ⊢
          have s9U := st.trans su
          have s8U : Same H8 HU := s89.trans s9U
          have htl : ts.length = kvs.length := Paired.length hpr
          have hrl := hrow.len
          have hrl2 : r.length ≤ 3 := by
            have : (r.map (·.1)).length = (ks.take i).length := by rw [hrk]
            rw [List.length_map, List.length_take] at this
            omega
          refine i_addL (s8U _ _ hq8b) fu (by rw [List.length_map, sizeLine_eq]; simp; omega) fun pw hpw => ?_
          have sw := Same.new (o := .lst (ts.map V.ref ++ [.ref pt])) hpw
          have fw : upd HU pw (.lst (ts.map V.ref ++ [.ref pt])) pw = _ := upd_same
          generalize upd HU pw (.lst (ts.map V.ref ++ [.ref pt])) = HX at sw fw ⊢
          have s9X := s9U.trans sw
          have s8X := s8U.trans sw
          walk_at "sx"
          have imX := im9.mono (Same.tq s9X)
          obtain ⟨em, hrowX⟩ := (hrow.mono (Same.tq (Same.trans s8 s8X))).snoc (by rw [hrk]; exact ndt) (by rw [hrk]; exact ksub) imX
          refine ⟨pw, ts ++ [pt], kvs ++ [(.inr k, .non)], rfl, by rw [List.map_append]; exact .inl (.inl fw), Paired.snoc (Paired.mapP hpr fun t q z => .inl (.inl (s8X _ _ z))) (.inl (.inl (show HX pt = some (.tup [kV (Sum.inr k : Key), .non]) from sw _ _ (su _ _ ft)))), fun pd hpd => ?_⟩
          rw [em]
          have sd := Same.new (o := .dK (kvs ++ [(.inr k, .non)])) hpd
          have fd : upd HX pd (.dK (kvs ++ [(.inr k, .non)])) pd = _ := upd_same
          have hrowD := hrowX.mono (Same.tq sd)
          generalize upd HX pd (.dK (kvs ++ [(.inr k, .non)])) = HD at sd fd hrowD ⊢
          walk_at "sx"
          have sWD : Same HW HD := (Same.trans s8 s8X).trans sd
          refine i_append (sWD _ _ hac7) (by rw [List.length_map, sizeLine_eq]; omega) ?_
          walk_at "sx"
          have npd : ∀ c u, HW c = some u → c ≠ pd := fun c u h e => by rw [← e, s8X _ _ (s8 _ _ h)] at hpd; cases hpd
          have nlv : pl ≠ pv := ne
          have tqD : Tq HD (upd HD pl (.lst (acc.map V.ref ++ [.ref pd]))) := Tq.lst (sWD _ _ hac7)
          refine ⟨acc ++ [pd], _, rfl, Same.put (s7.trans sWD) hpl, by rw [upd_ne (Ne.symm nlv)]; exact sWD _ _ hv7, by rw [List.map_append]; exact upd_same, ?_, ?_⟩
          · rw [take_succ_get hom, List.map_append, ← List.append_assoc]
            refine Paired.snoc (Paired.mapP (hRa7.mono sWD) fun a' r' z => ⟨z.1, z.2.upd (fun kvs e => ?_) (fun xs e => ?_)⟩) ⟨fresh_of ((s7.trans (Same.trans s8 s8X))) hpd, _, by rw [upd_ne (Ne.symm (npd _ _ hac7))]; exact fd, hrowD.mono tqD⟩
            · rw [sWD _ _ hac7] at e; cases e
            · rw [sWD _ _ hac7] at e; cases e
          · refine List.nodup_append.mpr ⟨hna7, List.pairwise_singleton _ _, fun c hc d hd => ?_⟩
            rw [List.mem_singleton.mp hd]
            obtain ⟨m2, hm2⟩ := List.mem_iff_getElem?.mp hc
            obtain ⟨r2, _, _, kv2, hk2, _⟩ := hRa7.get hm2
            exact npd _ _ hk2
        | some z =>
          have hxo : x = .str z := hxo
          subst hxo
          walk_at "sx"
          refine ⟨by walk_at "len", fun pz hpz => ?_⟩
          have s89 : Same H8 (upd H8 pz (.tup [.str z, .int 0])) := Same.new hpz
          have im9 : Im (upd H8 pz (.tup [.str z, .int 0])) (.ref pz) (rdgD (some z)) := .tup upd_same (.cons (.str _) (.one (.int _)))
          generalize upd H8 pz (.tup [.str z, .int 0]) = H9 at s89 im9 ⊢
          walk_at "sx"
          refine ⟨by walk_at "len", fun pt hpt => ?_⟩
          have st := Same.new (o := .tup [.str k, .ref pz]) hpt
          have ft : upd H9 pt (.tup [.str k, .ref pz]) pt = _ := upd_same
          generalize upd H9 pt (.tup [.str k, .ref pz]) = HT at st ft ⊢
          walk_at "sx"
          refine ⟨by walk_at "len", fun pu hpu => ?_⟩
          have su := Same.new (o := .lst [.ref pt]) hpu
          have fu : upd HT pu (.lst [.ref pt]) pu = _ := upd_same
          generalize upd HT pu (.lst [.ref pt]) = HU at su fu ⊢
          have s9U := st.trans su
          have s8U : Same H8 HU := s89.trans s9U
          have htl : ts.length = kvs.length := Paired.length hpr
          have hrl := hrow.len
          have hrl2 : r.length ≤ 3 := by
            have : (r.map (·.1)).length = (ks.take i).length := by rw [hrk]
            rw [List.length_map, List.length_take] at this
            omega
          refine i_addL (s8U _ _ hq8b) fu (by rw [List.length_map, sizeLine_eq]; simp; omega) fun pw hpw => ?_
          have sw := Same.new (o := .lst (ts.map V.ref ++ [.ref pt])) hpw
          have fw : upd HU pw (.lst (ts.map V.ref ++ [.ref pt])) pw = _ := upd_same
          generalize upd HU pw (.lst (ts.map V.ref ++ [.ref pt])) = HX at sw fw ⊢
          have s9X := s9U.trans sw
          have s8X := s8U.trans sw
          walk_at "sx"
          have imX := im9.mono (Same.tq s9X)
          obtain ⟨em, hrowX⟩ := (hrow.mono (Same.tq (Same.trans s8 s8X))).snoc (by rw [hrk]; exact ndt) (by rw [hrk]; exact ksub) imX
          refine ⟨pw, ts ++ [pt], kvs ++ [(.inr k, .ref pz)], rfl, by rw [List.map_append]; exact .inl (.inl fw), Paired.snoc (Paired.mapP hpr fun t q z => .inl (.inl (s8X _ _ z))) (.inl (.inl (show HX pt = some (.tup [kV (Sum.inr k : Key), .ref pz]) from sw _ _ (su _ _ ft)))), fun pd hpd => ?_⟩
          rw [em]
          have sd := Same.new (o := .dK (kvs ++ [(.inr k, .ref pz)])) hpd
          have fd : upd HX pd (.dK (kvs ++ [(.inr k, .ref pz)])) pd = _ := upd_same
          have hrowD := hrowX.mono (Same.tq sd)
          generalize upd HX pd (.dK (kvs ++ [(.inr k, .ref pz)])) = HD at sd fd hrowD ⊢
          walk_at "sx"
          have sWD : Same HW HD := (Same.trans s8 s8X).trans sd
          refine i_append (sWD _ _ hac7) (by rw [List.length_map, sizeLine_eq]; omega) ?_
          walk_at "sx"
          have npd : ∀ c u, HW c = some u → c ≠ pd := fun c u h e => by rw [← e, s8X _ _ (s8 _ _ h)] at hpd; cases hpd
          have nlv : pl ≠ pv := ne
          have tqD : Tq HD (upd HD pl (.lst (acc.map V.ref ++ [.ref pd]))) := Tq.lst (sWD _ _ hac7)
          refine ⟨acc ++ [pd], _, rfl, Same.put (s7.trans sWD) hpl, by rw [upd_ne (Ne.symm nlv)]; exact sWD _ _ hv7, by rw [List.map_append]; exact upd_same, ?_, ?_⟩
          · rw [take_succ_get hom, List.map_append, ← List.append_assoc]
            refine Paired.snoc (Paired.mapP (hRa7.mono sWD) fun a' r' z => ⟨z.1, z.2.upd (fun kvs e => ?_) (fun xs e => ?_)⟩) ⟨fresh_of ((s7.trans (Same.trans s8 s8X))) hpd, _, by rw [upd_ne (Ne.symm (npd _ _ hac7))]; exact fd, hrowD.mono tqD⟩
            · rw [sWD _ _ hac7] at e; cases e
            · rw [sWD _ _ hac7] at e; cases e
          · refine List.nodup_append.mpr ⟨hna7, List.pairwise_singleton _ _, fun c hc d hd => ?_⟩
            rw [List.mem_singleton.mp hd]
            obtain ⟨m2, hm2⟩ := List.mem_iff_getElem?.mp hc
            obtain ⟨r2, _, _, kv2, hk2, _⟩ := hRa7.get hm2
            exact npd _ _ hk2
      · rintro σ H' ⟨acc, x5, rfl, s7, _, hac7, hRa7, hna7⟩
        refine ⟨acc, _, _, rfl, s7, hac7, ?_, hna7⟩
        rw [grow_take hrj]
        exact hRa7
    · rintro σ H' ⟨acc, x4, x5, rfl, s6, hac, hRa, hna⟩
      rw [List.length_map, hR.len, List.take_length] at hRa
      walk_at "sx"
      refine ⟨pl, acc, _, _, _, _, rfl, s5.trans s6, fresh_of sHL hpl, hac, ?_, hna⟩
      rw [e1]
      exact Paired.mapP hRa fun _ _ z => ⟨fresh_of sHL z.1, z.2⟩
  · rintro σ H' ⟨pf, as, x2, x3, x4, x5, rfl, s5, hpf, hfd, hR, hnd⟩
    rw [List.length_map, List.take_length] at hR
    walk_at "sx"
    exact q H' pf as (s1.trans s5) hpf hfd hR hnd


end H68

set_option maxHeartbeats 1000000
namespace H68
open PySem PySem.Spec PyProof.Rows L2 KB
local macro_rules | `(tactic| walk_at "kb1") => `(tactic| with_reducible first
  | refine i_var rfl ?_ | refine i_c ?_ | refine i_cons ?_ | refine i_nil ?_ | refine i_op ?_ | refine i_seq ?_ | refine i_if ?_ | refine i_ret ?_ | refine i_asg ?_ | refine i_name ?_ | refine i_next ?_ | refine i_drop ?_
  | refine i_un ?_ | refine i_cb ?_ | refine i_cal ?_ | refine i_calM ?_ | refine i_test ?_ | refine i_tb ?_ | refine i_k ?_ | refine i_not ?_ | refine i_and ?_ | refine i_or ?_ | refine i_andV ?_ | refine i_orV ?_ | refine i_notV ?_ | refine i_ife ?_
  | refine i_isN ?_ | refine i_notN ?_ | refine i_chain ?_ | refine i_tup ?_ | refine i_lst ?_ | refine i_sl ?_ | refine i_noPart ?_ | refine i_part ?_ | refine i_ik ?_ | refine i_sk ?_ | refine i_bm0 ?_ | refine i_bm ?_ | refine i_m1 ?_ | refine i_m0 ?_ | refine i_fld ?_ | refine i_tru ?_
  | refine i_gC ?_ | refine i_gN ?_ | refine i_for0L ?_ | refine i_for0E ?_ | refine i_for0R ?_ | refine i_lc0L ?_ | refine i_lc0S ?_ | refine i_lc0Z ?_ | refine i_tix ?_ | refine i_lorei ?_ | refine i_js0 ?_ | refine i_xf ?_ | refine i_calR ?_ | refine i_calRS ?_ | refine i_calS ?_ | refine i_for0R3 ?_ | refine i_mak ?_ | refine i_dget ?_ | refine i_din ?_ | refine i_dnotin ?_ | refine i_dput ?_ | refine i_dnewT ?_ | refine i_sub ?_ | refine i_rng1 ?_ | refine i_rng2 ?_ | refine i_rev ?_ | refine i_replC ?_ | refine i_lenset ?_ | refine i_mS ?_ | refine i_js ?_ | refine i_fmt ?_ | refine i_par ?_ | refine i_v2 ?_ | refine i_par3 ?_ | refine i_v3 ?_ | refine i_mkO ?_ | refine i_ost ?_ | refine i_sFld ?_ | refine i_yes ?_ | refine i_dget1 ?_ | refine i_dnewK ?_ | refine i_dpop1 ?_ | refine i_ndnew ?_ | refine i_nget2 ?_ | refine i_nsetd ?_ | refine i_nix ?_ | refine i_nput ?_ | refine i_listItems ?_ | refine i_for0Nv ?_ | refine i_lc0Nk ?_ | refine i_dstar ?_ | refine i_lc20L ?_ | refine i_sp1 ?_ | refine i_sp2 ?_ | refine i_sp3 ?_ | refine i_sp4 ?_)
local macro_rules | `(tactic| walk_at "dr") => `(tactic| first
  | assumption | exact Dr.non | exact Dr.bl _ | exact Dr.int _ | exact Dr.str _ | exact Dr.tup (by assumption) (by assumption) | exact Dr.lst (by assumption) (by assumption) | exact Dr.dic (by assumption) | exact Im.dr (by assumption))
local macro_rules | `(tactic| walk_at "if") => `(tactic| first
  | ((with_reducible refine i_iT ?_ ?_); · rfl) | ((with_reducible refine i_iF ?_ ?_); · rfl))
local macro_rules | `(tactic| walk_at "isi") => `(tactic| ((with_reducible show rIsiU _ _ _ _); first
  | (with_reducible refine j_isTup (by walk_at "dr") ?_) | (with_reducible refine j_isLst (by walk_at "dr") ?_) | (with_reducible refine j_isStr (by walk_at "dr") ?_)
  | (with_reducible refine j_isBl (by walk_at "dr") ?_) | (with_reducible refine j_isInt (by walk_at "dr") ?_)))
local macro_rules | `(tactic| walk_at "op") => `(tactic| with_reducible first
  | refine i_rI0 ?_ | refine i_addI ?_ | refine i_rU ?_ | refine i_ltI ?_ | refine i_inC ?_ | refine i_notInC ?_ | refine i_intI ?_ | refine i_intB ?_ | refine i_abs ?_ | refine i_max2 ?_ | refine i_min2 ?_ | refine i_isBl ?_
  | (refine i_eqS rfl ?_) | (refine i_neS rfl ?_))
local macro_rules | `(tactic| walk_at "wp") => `(tactic| ((with_reducible refine i_wp ?_ ?_); · rfl))
local macro_rules | `(tactic| walk_at "sx") => `(tactic| repeat first | walk_at "kb1" | walk_at "if" | walk_at "isi" | walk_at "op" | walk_at "wp")
local macro_rules | `(tactic| walk_at "cd") => `(tactic| refine ⟨_, (by walk_at "dr"), ?_⟩)
local macro_rules | `(tactic| walk_at "len") => `(tactic| (simp only [List.length_cons, List.length_nil]; decide))
local macro_rules | `(tactic| walk_at "ic") => `(tactic| first
  | ((with_reducible refine i_iT ?_ ?_); · first | with_reducible rfl | (simp only [Bool.not_true, Bool.not_false, isTupD, isLstD, isStrD, isBlD, isIntD, isSeqD]; done))
  | ((with_reducible refine i_iF ?_ ?_); · first | with_reducible rfl | (simp only [Bool.not_true, Bool.not_false, isTupD, isLstD, isStrD, isBlD, isIntD, isSeqD]; done)))
local macro_rules | `(tactic| walk_at "sy") => `(tactic| repeat first | walk_at "kb1" | walk_at "ic" | walk_at "isi" | walk_at "op" | walk_at "wp")
theorem sc_law_matters : FnScope ["formula", "keys", "found", "key", "seen", "row", "rest", "leaf", "other"] ["formula"] (defScope s_law_matters) := ⟨rfl, rfl, rfl, by decide +kernel, rfl, by decide +kernel, by decide +kernel⟩
theorem ok_law_matters {P : Program} {w : World} {K : PySem.W.Frag} {mg : Str → Option Value} {base : Heap} (T : Tx K mg)
    (C_law_all_readings : Cn P w K mg base 1 (He.fAd K ("_law_all_readings", none)) ["keys"] (sp_law_all_readings K))
    (C_law_holds : Cn P w K mg base 9 (He.fAd K ("_law_holds", none)) ["formula", "readings"] (sp_law_holds K))
    (C_law_leaves : Cn P w K mg base 1 (He.fAd K ("_law_leaves", none)) ["formula"] (sp_law_leaves K)) :
    Cn P w K mg base 10 (He.fAd K ("_law_matters", none)) ["formula"] (sp_law_matters K) := by
  refine cnN (d := d_law_matters) T.st_law_matters sc_law_matters sp1_len (fun _ _ _ _ _ _ us hl => match us, hl with | [_], _ => rfl) (fun cdv A outer s H vs Q E hr h => ?_)
  obtain ⟨v_formula, rfl, h⟩ := h
  refine ⟨_, (pss_cons (ps_set (i := 1) sc_law_matters.nd rfl (.inl rfl) (pe_callB (c_sortT rfl) (by rfl) T.f_sorted (by decide +kernel) (pa_cons (pe_callTy (c_setT (w := w) rfl rfl) (by rfl) T.f_set (by decide +kernel) (pa_cons (pe_lc (own := [("leaf", 7)]) (g := (gName 7)) rfl sc_law_matters.nd (w_list (K := K) rfl (pe_cn C_law_leaves hr (by decide) (by rfl) T.g_law_leaves passN (pa_cons (pv 0) pa_nil))) (blkOk_by (own := [("leaf", 7)]) (N := ["formula", "keys", "found", "key", "seen", "row", "rest", "leaf", "other"]) (sc := defScope s_law_matters) (by decide +kernel)) (fun _ _ _ _ _ => (pg_name (i := 7) sc_law_matters.nd rfl (by first | exact Or.inl rfl | exact Or.inr rfl))) (fun _ _ _ _ _ => pts_nil) (fun _ _ _ _ _ => (pe_ix (x_seq (K := K) rfl) (pv 7) pe_int (fun _ _ => rfl)))) pa_nil)) pa_nil)))
  (pss_cons (ps_set (i := 2) sc_law_matters.nd rfl (.inl rfl) (pe_lst pa_nil))
  (pss_cons (ps_for PassesOwn.never rfl (w_list (K := K) rfl (pv 1)) (pg_name (i := 3) sc_law_matters.nd rfl (.inr rfl))
  (pss_cons (ps_set (i := 4) sc_law_matters.nd rfl (.inr rfl) (pe_ndnew (P := P) (w := w) rfl rfl))
  (pss_cons (ps_for PassesOwn.never rfl (w_list (K := K) rfl (pe_cn C_law_all_readings hr (by decide) (by rfl) T.g_law_all_readings passN (pa_cons (pv 1) pa_nil))) (pg_name (i := 5) sc_law_matters.nd rfl (.inr rfl))
  (pss_cons (ps_set (i := 6) sc_law_matters.nd rfl (.inl rfl) (pe_callTy (c_tuple (K := K) rfl) (by rfl) T.f_tuple (by decide +kernel) (pa_cons (pe_lc (own := [("other", 8)]) (g := (gName 8)) rfl sc_law_matters.nd (w_list (K := K) rfl (pv 1)) (blkOk_by (own := [("other", 8)]) (N := ["formula", "keys", "found", "key", "seen", "row", "rest", "leaf", "other"]) (sc := defScope s_law_matters) (by decide +kernel)) (fun _ _ _ _ _ => (pg_name (i := 8) sc_law_matters.nd rfl (by first | exact Or.inl rfl | exact Or.inr rfl))) (fun _ _ _ _ _ => (pts_one (pt_cmpR (o_ne (K := K) rfl hr.units) (pv 8) (pv 3) (by rfl)))) (fun _ _ _ _ _ => (pe_dget (rU1 hr) (pv 5) (pv 8) (fun _ _ => rfl)))) pa_nil)))
  (pss_one (ps_nput (P := P) (w := w) rfl rfl hr.units (pv 4) (pv 6) (pe_op op_addU (pe_nget2 (P := P) (w := w) rfl rfl hr.units (pv 4) (pv 6) (pe_lst pa_nil) ⟨by rfl, by rfl, by rfl, by rfl⟩) (pe_lst (pa_cons (pe_cn C_law_holds hr (by decide) (by rfl) T.g_law_holds passN (pa_cons (pv 0) (pa_cons (pv 5) pa_nil))) pa_nil))) rfl))))
  (pss_one (ps_if (pt_cmpR (o_neN (K := K) rfl hr.units0) (pe_lock (pe_lc (own := [("rest", 6)]) (g := (gName 6)) rfl sc_law_matters.nd (pi_nkeys (P := P) (w := w) rfl rfl (pv 4)) (blkOk_by (own := [("rest", 6)]) (N := ["formula", "keys", "found", "key", "seen", "row", "rest", "leaf", "other"]) (sc := defScope s_law_matters) (by decide +kernel)) (fun _ _ _ _ _ => (pg_name (i := 6) sc_law_matters.nd rfl (by first | exact Or.inl rfl | exact Or.inr rfl))) (fun _ _ _ _ _ => (pts_one (PW.pt (pw_and (pt_cmpR (o_in (K := K) rfl (rU65 hr)) pe_bl (pe_nix (P := P) (w := w) rfl rfl hr.units (pv 4) (pv 6) (fun _ _ => rfl)) (by rfl)) (pw_and1 (pt_cmpR (o_in (K := K) rfl (rU65 hr)) pe_bl (pe_nix (P := P) (w := w) rfl rfl hr.units (pv 4) (pv 6) (fun _ _ => rfl)) (by rfl))))))) (fun _ _ _ _ _ => pe_int))) (pe_lst pa_nil) (by rfl)) (pss_one (ps_expr (e_append (K := K) rfl (pv 2) (pv 3)))) pss_nil)))))
  (pss_one (ps_ret (pv 2)))))), ?_⟩
  rw [show start ["formula", "keys", "found", "key", "seen", "row", "rest", "leaf", "other"] [v_formula] = [some v_formula, none, none, none, none, none, none, none, none] from rfl]
  obtain ⟨F, f, hf, hD, hF3, q⟩ := h
  have hk := hD.fm (Nat.le_refl 6)
  walk_at "sx"
  refine ⟨f, hf, by have := hD.lev; omega, by have := hk.size; omega, fun H2 p vs ls s2 hp h1 im hls => ?_⟩
  walk_at "sx"
  have hll : ls.length ≤ 6 := by rw [hls.length_eq]; exact hk.six
  refine i_lcL (fun _ => true) (fun d => .str (keyD d)) (.inl (.inl h1)) im (by rw [List.length_map, sizeLine_eq]; omega) (fun D hDx i x d H3 ed ix s3 N no yes => ?_) (fun D H3 ys hD3 s3 hy im3 => ?_)
  · rw [List.getElem?_map] at ed
    obtain ⟨g, hg, rfl⟩ := Option.map_eq_some_iff.mp ed
    have hlf := (Fm.leaf_leaves (hls.mem_iff.mp (List.mem_of_getElem? hg))).1
    cases g with
    | is k v =>
      cases ix with
      | tup hx ax =>
      match ax, hx with
      | .cons (.str _) (.cons (.str _) (.cons (.str _) .nil)), hx =>
        walk_at "sx"
        refine i_ixT (.inl (.inl hx)) rfl ?_
        exact yes rfl _ _ (fun _ _ e => e) (.str _)
    | sil k =>
      cases ix with
      | tup hx ax =>
      match ax, hx with
      | .cons (.str _) (.cons (.str _) .nil), hx =>
        walk_at "sx"
        refine i_ixT (.inl (.inl hx)) rfl ?_
        exact yes rfl _ _ (fun _ _ e => e) (.str _)
    | no g => cases hlf
    | two o a b => cases hlf
  · walk_at "sx"
    have ek : ((ls.map Fm.d).filter (fun _ => true)).map (fun d => PyData.str (keyD d)) = (ls.map fun l => keyD l.d).map PyData.str := by
      rw [filter_t, List.map_map, List.map_map] <;> rfl
    rw [ek] at im3
    cases imS_eq im3
    refine ⟨D, _, rfl, hy, by rw [List.length_map]; omega, fun ps l hps nd hm hl2 => ?_⟩
    have s4 := Same.new (o := TxtO w ps l) hps
    have f4 : upd H3 ps (TxtO w ps l) ps = _ := upd_same
    generalize upd H3 ps (TxtO w ps l) = H4 at s4 f4 ⊢
    walk_at "sx"
    rw [List.length_map] at hl2
    refine i_sortT f4 (by omega) fun ks pk perm so hpk => ?_
    have asc : Asc (· ∈ f.keys) ks := Asc.perm so nd (fun k => by
      rw [hm k]
      unfold Fm.keys
      rw [List.mem_map, List.mem_map]
      constructor
      · rintro ⟨g, hg, rfl⟩
        have hg := hls.mem_iff.mp hg
        exact ⟨g, hg, (keyD_leaf hg).symm⟩
      · rintro ⟨g, hg, rfl⟩
        exact ⟨g, hls.mem_iff.mpr hg, keyD_leaf hg⟩) perm
    have l3 : ks.length ≤ 3 := Nat.le_trans (nodup_len asc.nd fun k hk => hD.keys k ((asc.mem k).mp hk)) hF3
    have s5 := ((s2.trans s3).trans s4).trans (Same.new (o := .lst (ks.map V.str)) hpk)
    have f5 : upd H4 pk (.lst (ks.map V.str)) pk = _ := upd_same
    generalize upd H4 pk (.lst (ks.map V.str)) = H5 at s5 f5 ⊢
    walk_at "sx"
    refine ⟨by walk_at "len", fun pf hpf => ?_⟩
    have s6 := s5.trans (Same.new (o := .lst []) hpf)
    have f6k := Same.new (o := .lst []) hpf _ _ f5
    have f6 : upd H5 pf (.lst []) pf = _ := upd_same
    have npk : pk ≠ pf := fun e => by rw [← e, f5] at hpf; cases hpf
    have hpfH : H pf = none := fresh_of s5 hpf
    generalize upd H5 pf (.lst []) = H6 at s6 f6k f6 ⊢
    walk_at "sx"
    refine i_forL (fun i σ H' => ∃ (x3 x4 x5 x6 : Option V), σ = [some v_formula, some (.ref pk), some (.ref pf), x3, x4, x5, x6, none, none] ∧ Same H H' ∧ H' pk = some (.lst (ks.map V.str)) ∧ H' pf = some (.lst (((ks.take i).filter (mtB f)).map V.str))) (.inl (.inl f6k)) ?_ ?_ ?_ ?_
    · exact ⟨_, _, _, _, rfl, s6, f6k, f6⟩
    · rintro i σ H' _ ⟨x3, x4, x5, x6, rfl, _, h, _⟩
      exact .inl (.inl h)
    · rintro i x σ HL hx ⟨x3, x4, x5, x6, rfl, sL, hkL, hfL⟩
      rw [List.getElem?_map] at hx
      obtain ⟨s, hsi, rfl⟩ := Option.map_eq_some_iff.mp hx
      walk_at "sx"
      intro pb hpb
      have sb := Same.new (o := NO P w pb []) hpb
      have fb : upd HL pb (NO P w pb []) pb = _ := upd_same
      generalize upd HL pb (NO P w pb []) = H7 at sb fb ⊢
      walk_at "sx"
      refine ⟨pk, ks, rfl, sb _ _ hkL, l3, asc.nd, fun H8 pr as s8 hpr h8 hR hndA => ?_⟩
      have hRl : as.length ≤ 125 := by
        rw [hR.len]
        have h := prod_len (fun _ => five) 5 ks [[]] fun j _ => (by decide : five.length ≤ 5)
        have h2 : 5 ^ ks.length ≤ 5 ^ 3 := Nat.pow_le_pow_right (by decide) l3
        have h4 : (rowsOf (fun _ => five) ks).length ≤ [([] : KB.Row)].length * 5 ^ ks.length := h
        rw [List.length_singleton, Nat.one_mul] at h4
        have : (5 : Nat) ^ 3 = 125 := by decide
        omega
      have hfull := five_full hD ks
      generalize eR : rowsOf (fun _ => five) ks = R at hR
      have hRk : ∀ r ∈ R, r.map (·.1) = ks := fun r hr => (mem_rows.mp (by rw [eR]; exact hr)).1
      have hlen := hR.len
      have f8b := s8 _ _ fb
      have f8k := s8 _ _ (sb _ _ hkL)
      have s8L := sb.trans s8
      have hfL8 := s8L _ _ hfL
      generalize ekf : (fun j : Nat => match R[j]? with | some r => restL (ks.filter fun j => decide (j ≠ s)) r | none => NestedKey.none) = kf
      have hkf : ∀ {j : Nat} {r : KB.Row}, R[j]? = some r → kf j = restL (ks.filter fun j => decide (j ≠ s)) r := fun {j r} h => by rw [← ekf]; show (match R[j]? with | some r => restL (ks.filter fun j => decide (j ≠ s)) r | none => NestedKey.none) = _; rw [h]
      generalize etv : (fun j : Nat => match R[j]? with | some r => f.ev (look r) | none => false) = tv
      have htv : ∀ {j : Nat} {r : KB.Row}, R[j]? = some r → tv j = f.ev (look r) := fun {j r} h => by rw [← etv]; show (match R[j]? with | some r => f.ev (look r) | none => false) = _; rw [h]
      clear ekf etv
      refine i_forL (fun j σ H' => ∃ (xs : NX) (x5 x6 : Option V), σ = [some v_formula, some (.ref pk), some (.ref pf), some (.str s), some (.ref pb), x5, x6, none, none] ∧ H' pb = some (NO P w pb xs) ∧ SameBut pb H8 H' ∧ Same HL H' ∧ Grb H' kf tv j xs) (.inl (.inl h8)) ?_ ?_ ?_ ?_
      · exact ⟨[], _, _, rfl, f8b, SameBut.refl _ _, s8L, Grb.nil⟩
      · rintro j σ H' _ ⟨xs, x5, x6, rfl, hx, sB, _⟩
        have ne : pr ≠ pb := fun e => by rw [e, f8b] at h8; cases h8
        exact .inl (.inl (sB _ _ ne h8))
      · rintro j x σ HJ hxj ⟨xs, x5, x6, rfl, hpbJ, sB, sLJ, g⟩
        rw [List.getElem?_map] at hxj
        obtain ⟨a, haj, rfl⟩ := Option.map_eq_some_iff.mp hxj
        obtain ⟨r, hrj, _, kvs, hkv1, hrow1⟩ := hR.get haj
        have hjl : j < as.length := (List.getElem?_eq_some_iff.mp haj).1
        have na : a ≠ pb := fun e => by rw [e, f8b] at hkv1; cases hkv1
        have tqJ : Tq H8 HJ := fun b ys h => sB b _ (fun e => by rw [e, f8b] at h; cases h) h
        have hkv := sB _ _ na hkv1
        have hrow := hrow1.mono tqJ
        have hrk := hRk r (List.mem_of_getElem? hrj)
        walk_at "sx"
        refine i_lcL (strP fun j => decide (j ≠ s)) (fun d => match d with | .str j => rdgD (look r j) | _ => .none) (.inl (.inl (sLJ _ _ hkL))) (imS ks) (by rw [List.length_map, sizeLine_eq]; omega) (fun D hD m x d H9 ed ix s9 N no yes => ?_) (fun D H9 ys hD9 s9 hy9 im9 => ?_)
        · rw [List.getElem?_map] at ed
          obtain ⟨t, ht, rfl⟩ := Option.map_eq_some_iff.mp ed
          cases ix
          walk_at "sx"
          have ej : (!decide (V.str t = V.str s)) = decide (t ≠ s) := by
            rw [Bool.eq_iff_iff]
            simp
          refine i_i2 (fun e1 => ?_) (fun e1 => ?_)
          · walk_at "sx"
            have hkv9 := s9 _ _ hkv
            obtain ⟨im1, is1⟩ := (hrow.mono (Same.tq s9)).val t
            obtain ⟨v, hv⟩ := Option.isSome_iff_exists.mp (is1.mpr (by rw [hrk]; exact List.mem_of_getElem? ht))
            rw [hv] at im1
            refine ⟨a, v, rfl, by rw [← hv]; exact DGet.k (k := .inr t) hkv9, ?_⟩
            exact yes (ej.symm.trans e1) _ _ (fun _ _ e => e) im1
          · exact no (ej.symm.trans e1) _ (fun _ _ e => e)
        · walk_at "sx"
          rw [filter_map_strs] at im9
          refine i_tupL (.inl (.inl hy9)) fun pt hpt => ?_
          have st := Same.new (o := .tup ys) hpt
          have ft : upd H9 pt (.tup ys) pt = _ := upd_same
          have imt := im9.mono (Same.tq st)
          generalize upd H9 pt (.tup ys) = HT at st ft imt ⊢
          have sJT := s9.trans st
          have hisn : IsN HT (kf j) (.ref pt) := by
            rw [hkf hrj]
            exact .tup ft (isN_rdgs imt)
          have hdep : (kf j).depth ≤ 8 := by rw [hkf hrj]; exact restL_depth _ _
          walk_at "sx"
          refine ⟨pb, xs, rfl, .inl (sJT _ _ hpbJ), ?_⟩
          walk_at "sx"
          refine ⟨by walk_at "len", fun pe hpe => ?_⟩
          have se := Same.new (o := .lst []) hpe
          have fe : upd HT pe (.lst []) pe = _ := upd_same
          generalize upd HT pe (.lst []) = HE at se fe ⊢
          have sJE := sJT.trans se
          have gE := g.same sJE
          have hisE := hisn.mono (Same.tq se)
          refine ⟨xs, kf j, pt, rfl, .inl (sJE _ _ hpbJ), gE.ks, hisE, hdep, ?_⟩
          obtain ⟨po, bs, epo, hpo, hbl, hbs⟩ : ∃ (po : Addr) (bs : List Bool), (valV (nkv xs) (kf j)).getD (.ref pe) = .ref po ∧ HE po = some (.lst (bs.map V.bl)) ∧ bs.length ≤ j ∧ ∀ c, c ∈ bs ↔ ∃ m, m < j ∧ kf m = kf j ∧ tv m = c := by
            cases hv : valV (nkv xs) (kf j) with
            | none => exact ⟨pe, [], rfl, fe, Nat.zero_le _, fun c => ⟨fun h => (List.not_mem_nil h).elim, fun ⟨m, h1, h2, _⟩ => absurd h2 (gE.none hv m h1)⟩⟩
            | some v =>
              obtain ⟨p, bs, rfl, h1, h2, h3⟩ := gE.at hv
              exact ⟨p, bs, rfl, h1, h2, h3⟩
          rw [epo]
          walk_at "sx"
          have hlv := hD.lev
          have hraE : RowAt HE a r := ⟨kvs, sJE _ _ hkv, hrow.mono (Same.tq sJE)⟩
          refine ⟨f, look r, a, hf.mono (Same.tq ((sL.trans sLJ).trans sJE)), by omega, rfl, hraE.drho _, fun HX sX => ?_⟩
          walk_at "sx"
          refine ⟨by walk_at "len", fun pl hpl => ?_⟩
          have sl := sX.trans (Same.new (o := .lst [V.bl (f.ev (look r))]) hpl)
          have fl : upd HX pl (.lst [V.bl (f.ev (look r))]) pl = _ := upd_same
          generalize upd HX pl (.lst [V.bl (f.ev (look r))]) = HY at sl fl ⊢
          refine i_addL (sl _ _ hpo) fl (by rw [List.length_map, sizeLine_eq]; simp; omega) fun pn hpn => ?_
          have sn := sl.trans (Same.new (o := .lst (bs.map V.bl ++ [V.bl (f.ev (look r))])) hpn)
          have fn : upd HY pn (.lst (bs.map V.bl ++ [V.bl (f.ev (look r))])) pn = some (.lst ((bs ++ [tv j]).map V.bl)) := by
            rw [upd_same, htv hrj, List.map_append] <;> rfl
          generalize upd HY pn (.lst (bs.map V.bl ++ [V.bl (f.ev (look r))])) = HN at sn fn ⊢
          walk_at "sx"
          have sJN := sJE.trans sn
          have gN := (gE.same sn).put (b := pt) hbs hbl fn (hisE.mono (Same.tq sn)) hdep
          have hxl := g.len
          refine ⟨pb, xs, kf j, pt, rfl, rfl, sJN _ _ hpbJ, (gE.same sn).ks, hisE.mono (Same.tq sn), hdep, by rw [sizeLine_eq]; omega, ?_⟩
          refine ⟨_, _, _, rfl, upd_same, fun c o hc e => ?_, Same.put (sLJ.trans sJN) hpb, gN.upd (sJN _ _ hpbJ) (fun _ e => by cases e) (fun _ e => by cases e)⟩
          rw [upd_ne hc]
          exact sJN _ _ (sB _ _ hc e)
      · rintro σ HJ ⟨xs, x5, x6, rfl, hpbJ, sB, sLJ, g⟩
        rw [List.length_map] at g
        walk_at "sx"
        refine ⟨pb, _, hpbJ, trivial, fun od => ?_⟩
        have gF := g.upd (o := .frz od (NO P w pb xs)) hpbJ (fun _ e => by cases e) (fun _ e => by cases e)
        have sLF : Same HL (upd HJ pb (.frz od (NO P w pb xs))) := Same.put sLJ hpb
        have fF : upd HJ pb (.frz od (NO P w pb xs)) pb = some (.frz od (NO P w pb xs)) := upd_same
        generalize upd HJ pb (.frz od (NO P w pb xs)) = HF at gF sLF fF ⊢
        have hxl := g.len
        walk_at "sx"
        refine i_lcNk (fun D m H' => Same HF H' ∧ ∃ n : Nat, H' D = some (.lst (List.replicate n (V.int 1))) ∧ n ≤ m ∧ (n ≠ 0 ↔ ∃ t x, t < m ∧ xs[t]? = some x ∧ (∃ j, j < as.length ∧ kf j = x.1 ∧ tv j = true) ∧ ∃ j, j < as.length ∧ kf j = x.1 ∧ tv j = false)) fF ?_ ?_ ?_ ?_
        · intro D hDn
          exact ⟨Same.new hDn, 0, upd_same, Nat.le_refl _, ⟨fun h => absurd rfl h, fun ⟨t, _, h, _⟩ => absurd h (Nat.not_lt_zero _)⟩⟩
        · rintro D m H' hDn ⟨sm, _⟩
          exact sm _ _ fF
        · rintro D m x H' hDn hxm ⟨sm, n, hn, hnm, hiff⟩
          have hml : m < xs.length := (List.getElem?_eq_some_iff.mp hxm).1
          obtain ⟨p, bs, ep, hp, _, hbs⟩ := gF.vals x (List.mem_of_getElem? hxm)
          have hkx := (gF.ks.mono (Same.tq sm)) x (List.mem_of_getElem? hxm)
          have hval : valV (nkv xs) x.1 = some (.ref p) := by rw [← ep]; exact valV_some gF.inj (List.mem_of_getElem? hxm)
          have stop : ¬ ((∃ j, j < as.length ∧ kf j = x.1 ∧ tv j = true) ∧ ∃ j, j < as.length ∧ kf j = x.1 ∧ tv j = false) → Same HF H' ∧ ∃ n : Nat, H' D = some (.lst (List.replicate n (V.int 1))) ∧ n ≤ m + 1 ∧ (n ≠ 0 ↔ ∃ t x, t < m + 1 ∧ xs[t]? = some x ∧ (∃ j, j < as.length ∧ kf j = x.1 ∧ tv j = true) ∧ ∃ j, j < as.length ∧ kf j = x.1 ∧ tv j = false) := by
            intro hno
            refine ⟨sm, n, hn, by omega, hiff.trans ⟨fun ⟨t, y, h1, h2⟩ => ⟨t, y, by omega, h2⟩, fun ⟨t, y, h1, h2, h3⟩ => ?_⟩⟩
            rcases Nat.lt_or_ge t m with h | h
            · exact ⟨t, y, h, h2, h3⟩
            · have : t = m := by omega
              subst this
              rw [hxm] at h2
              cases h2
              exact absurd h3 hno
          walk_at "sx"
          refine ⟨pb, xs, x.1, x.2.1, .ref p, rfl, rfl, .inr ⟨od, sm _ _ fF⟩, gF.ks.mono (Same.tq sm), hkx.1, hkx.2, hval, ?_⟩
          refine i_inSq (.inl (.inl (.inl (sm _ _ hp)))) rfl (flat_bls bs) ?_
          rw [inV_bls]
          refine ⟨_, rfl, ?_⟩
          refine i_i2 (fun e1 => ?_) (fun e1 => ?_)
          · walk_at "sx"
            refine ⟨pb, xs, x.1, x.2.1, .ref p, rfl, rfl, .inr ⟨od, sm _ _ fF⟩, gF.ks.mono (Same.tq sm), hkx.1, hkx.2, hval, ?_⟩
            refine i_inSq (.inl (.inl (.inl (sm _ _ hp)))) rfl (flat_bls bs) ?_
            rw [inV_bls]
            refine ⟨_, rfl, ?_⟩
            refine i_i2 (fun e2 => ?_) (fun e2 => ?_)
            · walk_at "sx"
              refine ⟨_, hn, by rw [List.length_replicate, sizeLine_eq]; omega, Same.put sm hDn, n + 1, by rw [upd_same, List.replicate_succ'], by omega, ⟨fun _ => ⟨m, x, by omega, hxm, (hbs true).mp (of_decide_eq_true e1), (hbs false).mp (of_decide_eq_true e2)⟩, fun _ => by omega⟩⟩
            · exact stop fun h => of_decide_eq_false e2 ((hbs false).mpr h.2)
          · exact stop fun h => of_decide_eq_false e1 ((hbs true).mpr h.1)
        · rintro D H' hDn ⟨sm, n, hn, hnm, hiff⟩
          have hmt : n ≠ 0 ↔ Mt f s := by
            rw [hiff, ← pair_mt hfull (fun k hk => (asc.mem k).mpr hk) s, eR]
            constructor
            · rintro ⟨t, x, ht, hx, ⟨j1, h1, k1, v1⟩, j2, h2, k2, v2⟩
              have g1 : R[j1]? = some (R[j1]'(by omega)) := List.getElem?_eq_getElem (by omega)
              have g2 : R[j2]? = some (R[j2]'(by omega)) := List.getElem?_eq_getElem (by omega)
              refine ⟨_, List.getElem_mem (by omega : j1 < R.length), _, List.getElem_mem (by omega : j2 < R.length), (alike (hRk _ (List.getElem_mem _)) (hRk _ (List.getElem_mem _))).mpr (restL_eq.mp ?_), by rw [← htv g1]; exact v1, by rw [← htv g2]; exact v2⟩
              rw [← hkf g1, ← hkf g2, k1, k2]
            · rintro ⟨r1, m1, r2, m2, al, v1, v2⟩
              obtain ⟨j1, hj1, e1⟩ := List.mem_iff_getElem.mp m1
              obtain ⟨j2, hj2, e2⟩ := List.mem_iff_getElem.mp m2
              have g1 : R[j1]? = some r1 := by rw [List.getElem?_eq_getElem hj1, e1]
              have g2 : R[j2]? = some r2 := by rw [List.getElem?_eq_getElem hj2, e2]
              obtain ⟨x, hx, ex⟩ := gF.all j1 (by omega)
              obtain ⟨t, ht⟩ := List.mem_iff_getElem?.mp hx
              have htl : t < xs.length := (List.getElem?_eq_some_iff.mp ht).1
              refine ⟨t, x, htl, ht, ⟨j1, by omega, ex.symm, by rw [htv g1]; exact v1⟩, j2, by omega, ?_, by rw [htv g2]; exact v2⟩
              rw [ex, hkf g1, hkf g2]
              exact (restL_eq.mpr ((alike (hRk r1 m1) (hRk r2 m2)).mp al)).symm
          refine ⟨sm _ _ fF, ?_⟩
          have nDb : D ≠ pb := fun e => by rw [e, fF] at hDn; cases hDn
          have sE : Same HL (upd H' pb (NO P w pb xs)) := Same.put (sLF.trans sm) hpb
          have hnE : upd H' pb (NO P w pb xs) D = some (.lst (List.replicate n (V.int 1))) := by rw [upd_ne nDb]; exact hn
          generalize upd H' pb (NO P w pb xs) = HG at sE hnE ⊢
          walk_at "sx"
          refine ⟨by walk_at "len", fun pe hpe => ?_⟩
          have se := Same.new (o := .lst []) hpe
          have fe : upd HG pe (.lst []) pe = _ := upd_same
          generalize upd HG pe (.lst []) = HH at se fe ⊢
          have sLH := sE.trans se
          refine ⟨D, pe, _, rfl, rfl, .inl (.inl (se _ _ hnE)), .inl (.inl fe), ?_⟩
          refine ⟨_, rfl, ?_⟩
          have et : ks.take (i + 1) = ks.take i ++ [s] := take_succ_get hsi
          refine i_i2 (fun e1 => ?_) (fun e1 => ?_)
          · have n0 : n ≠ 0 := fun e => by rw [e] at e1; cases e1
            have ms : mtB f s = true := mtB_t.mpr (hmt.mp n0)
            walk_at "sx"
            have hfH := sLH _ _ hfL
            refine ⟨ty_list (.inl (.inl hfH)), ?_⟩
            walk_at "sx"
            have hfl := List.length_filter_le (mtB f) (ks.take i)
            have htl : (ks.take i).length ≤ 3 := by rw [List.length_take]; omega
            refine i_append hfH (by rw [List.length_map, sizeLine_eq]; omega) ?_
            walk_at "sx"
            refine ⟨_, _, _, _, rfl, Same.put (sL.trans sLH) hpfH, by rw [upd_ne npk]; exact sLH _ _ hkL, ?_⟩
            rw [upd_same, et, List.filter_append, List.map_append]
            simp [List.filter, ms]
          · have n0 : n = 0 := by
              cases n with
              | zero => rfl
              | succ n => cases e1
            have ms : mtB f s = false := by
              cases e : mtB f s with
              | false => rfl
              | true => exact absurd n0 (hmt.mpr (mtB_t.mp e))
            walk_at "sx"
            refine ⟨_, _, _, _, rfl, sL.trans sLH, sLH _ _ hkL, ?_⟩
            rw [sLH _ _ hfL, et, List.filter_append]
            simp [List.filter, ms]
    · rintro σ H' ⟨x3, x4, x5, x6, rfl, sL, hkL, hfL⟩
      rw [List.length_map, List.take_length] at hfL
      walk_at "sx"
      exact q H' pf ks sL hpfH asc hfL


end H68

set_option maxHeartbeats 1000000
namespace H68
open PySem PySem.Spec PyProof.Rows L2 KB
local macro_rules | `(tactic| walk_at "kb1") => `(tactic| with_reducible first
  | refine i_var rfl ?_ | refine i_c ?_ | refine i_cons ?_ | refine i_nil ?_ | refine i_op ?_ | refine i_seq ?_ | refine i_if ?_ | refine i_ret ?_ | refine i_asg ?_ | refine i_name ?_ | refine i_next ?_ | refine i_drop ?_
  | refine i_un ?_ | refine i_cb ?_ | refine i_cal ?_ | refine i_calM ?_ | refine i_test ?_ | refine i_tb ?_ | refine i_k ?_ | refine i_not ?_ | refine i_and ?_ | refine i_or ?_ | refine i_andV ?_ | refine i_orV ?_ | refine i_notV ?_ | refine i_ife ?_
  | refine i_isN ?_ | refine i_notN ?_ | refine i_chain ?_ | refine i_tup ?_ | refine i_lst ?_ | refine i_sl ?_ | refine i_noPart ?_ | refine i_part ?_ | refine i_ik ?_ | refine i_sk ?_ | refine i_bm0 ?_ | refine i_bm ?_ | refine i_m1 ?_ | refine i_m0 ?_ | refine i_fld ?_ | refine i_tru ?_
  | refine i_gC ?_ | refine i_gN ?_ | refine i_for0L ?_ | refine i_for0E ?_ | refine i_for0R ?_ | refine i_lc0L ?_ | refine i_lc0S ?_ | refine i_lc0Z ?_ | refine i_tix ?_ | refine i_lorei ?_ | refine i_js0 ?_ | refine i_xf ?_ | refine i_calR ?_ | refine i_calRS ?_ | refine i_calS ?_ | refine i_for0R3 ?_ | refine i_mak ?_ | refine i_dget ?_ | refine i_din ?_ | refine i_dnotin ?_ | refine i_dput ?_ | refine i_dnewT ?_ | refine i_sub ?_ | refine i_rng1 ?_ | refine i_rng2 ?_ | refine i_rev ?_ | refine i_replC ?_ | refine i_lenset ?_ | refine i_mS ?_ | refine i_js ?_ | refine i_fmt ?_ | refine i_par ?_ | refine i_v2 ?_ | refine i_par3 ?_ | refine i_v3 ?_ | refine i_mkO ?_ | refine i_ost ?_ | refine i_sFld ?_ | refine i_yes ?_ | refine i_dget1 ?_ | refine i_dnewK ?_ | refine i_dpop1 ?_ | refine i_ndnew ?_ | refine i_nget2 ?_ | refine i_nsetd ?_ | refine i_nix ?_ | refine i_nput ?_ | refine i_listItems ?_ | refine i_for0Nv ?_ | refine i_lc0Nk ?_ | refine i_dstar ?_ | refine i_lc20L ?_ | refine i_sp1 ?_ | refine i_sp2 ?_ | refine i_sp3 ?_ | refine i_sp4 ?_)
local macro_rules | `(tactic| walk_at "dr") => `(tactic| first
  | assumption | exact Dr.non | exact Dr.bl _ | exact Dr.int _ | exact Dr.str _ | exact Dr.tup (by assumption) (by assumption) | exact Dr.lst (by assumption) (by assumption) | exact Dr.dic (by assumption) | exact Im.dr (by assumption))
local macro_rules | `(tactic| walk_at "if") => `(tactic| first
  | ((with_reducible refine i_iT ?_ ?_); · rfl) | ((with_reducible refine i_iF ?_ ?_); · rfl))
local macro_rules | `(tactic| walk_at "isi") => `(tactic| ((with_reducible show rIsiU _ _ _ _); first
  | (with_reducible refine j_isTup (by walk_at "dr") ?_) | (with_reducible refine j_isLst (by walk_at "dr") ?_) | (with_reducible refine j_isStr (by walk_at "dr") ?_)
  | (with_reducible refine j_isBl (by walk_at "dr") ?_) | (with_reducible refine j_isInt (by walk_at "dr") ?_)))
local macro_rules | `(tactic| walk_at "op") => `(tactic| with_reducible first
  | refine i_rI0 ?_ | refine i_addI ?_ | refine i_rU ?_ | refine i_ltI ?_ | refine i_inC ?_ | refine i_notInC ?_ | refine i_intI ?_ | refine i_intB ?_ | refine i_abs ?_ | refine i_max2 ?_ | refine i_min2 ?_ | refine i_isBl ?_
  | (refine i_eqS rfl ?_) | (refine i_neS rfl ?_))
local macro_rules | `(tactic| walk_at "wp") => `(tactic| ((with_reducible refine i_wp ?_ ?_); · rfl))
local macro_rules | `(tactic| walk_at "sx") => `(tactic| repeat first | walk_at "kb1" | walk_at "if" | walk_at "isi" | walk_at "op" | walk_at "wp")
local macro_rules | `(tactic| walk_at "cd") => `(tactic| refine ⟨_, (by walk_at "dr"), ?_⟩)
local macro_rules | `(tactic| walk_at "len") => `(tactic| (simp only [List.length_cons, List.length_nil]; decide))
local macro_rules | `(tactic| walk_at "ic") => `(tactic| first
  | ((with_reducible refine i_iT ?_ ?_); · first | with_reducible rfl | (simp only [Bool.not_true, Bool.not_false, isTupD, isLstD, isStrD, isBlD, isIntD, isSeqD]; done))
  | ((with_reducible refine i_iF ?_ ?_); · first | with_reducible rfl | (simp only [Bool.not_true, Bool.not_false, isTupD, isLstD, isStrD, isBlD, isIntD, isSeqD]; done)))
local macro_rules | `(tactic| walk_at "sy") => `(tactic| repeat first | walk_at "kb1" | walk_at "ic" | walk_at "isi" | walk_at "op" | walk_at "wp")
theorem sc_law_is_formula : FnScope ["value", "rows", "leaves_v", "turn", "inner", "one"] ["value"] (defScope s_law_is_formula) := ⟨rfl, rfl, rfl, by decide +kernel, rfl, by decide +kernel, by decide +kernel⟩
theorem ok_law_is_formula {P : Program} {w : World} {K : PySem.W.Frag} {mg : Str → Option Value} {base : Heap} (T : Tx K mg)
    (C_law_is_value : Cn P w K mg base 1 (He.fAd K ("_law_is_value", none)) ["value"] (sp_law_is_value K))
    (C_law_is_name : Cn P w K mg base 1 (He.fAd K ("_law_is_name", none)) ["value"] (sp_law_is_name K)) :
    Cn P w K mg base 2 (He.fAd K ("_law_is_formula", none)) ["value"] (sp_law_is_formula K) := by
  refine cnN (d := d_law_is_formula) T.st_law_is_formula sc_law_is_formula sp1_len (fun _ _ _ _ _ _ us hl => match us, hl with | [_], _ => rfl) (fun cdv A outer s H vs Q E hr h => ?_)
  obtain ⟨v_value, rfl, h⟩ := h
  refine ⟨_, (pss_cons (ps_par rfl sc_law_is_formula.nd (i := 1) (j := 2) rfl rfl (by decide) rfl rfl (pa_cons (pe_lst (pa_cons (pv 0) pa_nil)) (pa_cons pe_int pa_nil)) (by rfl))
  (pss_cons (ps_for PassesOwn.never rfl (pi_range1 (by rfl) T.f_range (pa_cons pe_int pa_nil)) (pg_name (i := 3) sc_law_is_formula.nd rfl (.inl rfl))
  (pss_cons (ps_set (i := 4) sc_law_is_formula.nd rfl (.inl rfl) (pe_lst pa_nil))
  (pss_cons (ps_for PassesOwn.never rfl (w_list (K := K) rfl (pv 1)) (pg_name (i := 5) sc_law_is_formula.nd rfl (.inl rfl))
  (pss_cons (ps_if (PW.pt (pw_or (pt_not (pt_val (pe_callB (c_isi (K := K) rfl) (by rfl) T.f_isinstance (by decide +kernel) (pa_cons (pv 5) (pa_cons (pe_bltn (v := .ty "tuple") (by rfl) T.f_tuple (by decide +kernel) rfl) pa_nil))))) (pw_or (pt_cmpR (o_lt (K := K) rfl hr.units0) (pe_callB (c_len (K := K) rfl) (by rfl) T.f_len (by decide +kernel) (pa_cons (pv 5) pa_nil)) pe_int (by rfl)) (pw_or1 (pt_not (pt_val (pe_callB (c_isi (K := K) rfl) (by rfl) T.f_isinstance (by decide +kernel) (pa_cons (pe_ix (x_seq (K := K) rfl) (pv 5) pe_int (fun _ _ => rfl)) (pa_cons (pe_bltn (v := .ty "str") (by rfl) T.f_str (by decide +kernel) rfl) pa_nil))))))))) (pss_one (ps_ret pe_bl)) pss_nil)
  (pss_one (ps_if (pt_cmpR (o_in (K := K) rfl (rU65 hr)) (pe_ix (x_seq (K := K) rfl) (pv 5) pe_int (fun _ _ => rfl)) (pe_lst (pa_cons pe_str (pa_cons pe_str pa_nil))) (by rfl)) (pss_cons (ps_set (i := 2) sc_law_is_formula.nd rfl (.inl rfl) (pe_op op_addU (pv 2) pe_int))
  (pss_one (ps_if (PW.pt (pw_or (pt_cmpR (o_ne (K := K) rfl hr.units) (pe_callB (c_len (K := K) rfl) (by rfl) T.f_len (by decide +kernel) (pa_cons (pv 5) pa_nil)) (pe_ix (x_seq (K := K) rfl) (pe_lst (pa_cons pe_int (pa_cons pe_int pa_nil))) (pe_callTy (call_intU) (by rfl) T.f_int (by decide +kernel) (pa_cons (pe_cmpR (o_eq (K := K) rfl hr.units) (pe_ix (x_seq (K := K) rfl) (pv 5) pe_int (fun _ _ => rfl)) pe_str (by rfl)) pa_nil)) (fun _ _ => rfl)) (by rfl)) (pw_or (pt_not (pt_val (pe_cn C_law_is_name hr (by decide) (by rfl) T.g_law_is_name passN (pa_cons (pe_ix (x_seq (K := K) rfl) (pv 5) pe_int (fun _ _ => rfl)) pa_nil)))) (pw_or1 (PW.pt (pw_and (pt_cmpR (o_eq (K := K) rfl hr.units) (pe_callB (c_len (K := K) rfl) (by rfl) T.f_len (by decide +kernel) (pa_cons (pv 5) pa_nil)) pe_int (by rfl)) (pw_and1 (pt_not (pt_val (pe_cn C_law_is_value hr (by decide) (by rfl) T.g_law_is_value passN (pa_cons (pe_ix (x_seq (K := K) rfl) (pv 5) pe_int (fun _ _ => rfl)) pa_nil))))))))))) (pss_one (ps_ret pe_bl)) pss_nil))) (pss_one (ps_if (PW.pt (pw_or (pt_cmpR (o_notIn (K := K) rfl (rU65 hr)) (pe_ix (x_seq (K := K) rfl) (pv 5) pe_int (fun _ _ => rfl)) (pe_lst (pa_cons pe_str (pa_cons pe_str (pa_cons pe_str pa_nil)))) (by rfl)) (pw_or1 (pt_cmpR (o_ne (K := K) rfl hr.units) (pe_callB (c_len (K := K) rfl) (by rfl) T.f_len (by decide +kernel) (pa_cons (pv 5) pa_nil)) (pe_ix (x_seq (K := K) rfl) (pe_lst (pa_cons pe_int (pa_cons pe_int pa_nil))) (pe_callTy (call_intU) (by rfl) T.f_int (by decide +kernel) (pa_cons (pe_cmpR (o_eq (K := K) rfl hr.units) (pe_ix (x_seq (K := K) rfl) (pv 5) pe_int (fun _ _ => rfl)) pe_str (by rfl)) pa_nil)) (fun _ _ => rfl)) (by rfl))))) (pss_one (ps_ret pe_bl)) (pss_one (ps_expr (e_extend (K := K) rfl (pv 4) (pe_callTy (c_list (K := K) rfl) (by rfl) T.f_list (by decide +kernel) (pa_cons (pe_slice (s_seq (K := K) rfl) (pv 5) (po_some pe_int) po_none) pa_nil)))))))))))
  (pss_cons (ps_if (PW.pt (pw_and (pt_cmpR (o_neN (K := K) rfl hr.units0) (pv 4) (pe_lst pa_nil) (by rfl)) (pw_and1 (pt_cmpR op_gt (pv 3) pe_int (by rfl))))) (pss_one (ps_ret pe_bl)) pss_nil)
  (pss_one (ps_set (i := 1) sc_law_is_formula.nd rfl (.inl rfl) (pv 4)))))))
  (pss_one (ps_ret (pe_cmpR op_le (pv 2) pe_int (by rfl)))))), ?_⟩
  rw [show start ["value", "rows", "leaves_v", "turn", "inner", "one"] [v_value] = [some v_value, none, none, none, none, none] from rfl]
  obtain ⟨d, hd, ho, q⟩ := h
  walk_at "sx"
  refine ⟨by walk_at "len", fun p0 hp0 => ?_⟩
  have s0 := Same.new (o := .lst [v_value]) hp0
  have f0 : upd H p0 (.lst [v_value]) p0 = _ := upd_same
  generalize upd H p0 (.lst [v_value]) = H0 at s0 f0 ⊢
  walk_at "sx"
  refine i_forR (fun t σ H' => ∃ (pr : Addr) (vs : List V) (ds : List PyData) (c : Nat) (x3 x4 x5 : Option V), σ = [some v_value, some (.ref pr), some (.int ((c : Nat) : Int)), x3, x4, x5] ∧ Same H H' ∧ H' pr = some (.lst vs) ∧ DrAll H' vs ds ∧ (∀ e ∈ ds, OkF e) ∧ ds.length ≤ 2 ^ min t 6 ∧ (6 ≤ t → ds = []) ∧
    hasForm 6 d = ds.all (hasForm (6 - t)) ∧ (hasForm 6 d = true → c + lvN (6 - t) ds = lvs 6 d)) (by decide) ?_ ?_ ?_
  · refine ⟨p0, [v_value], [d], 0, _, _, _, rfl, s0, f0, .cons (hd.mono s0) .nil, fun e he => by rw [List.mem_singleton.mp he]; exact ho, by simp, fun h => absurd h (by decide), by simp, fun _ => by simp [lvN]⟩
  · rintro t σ HT ht ⟨pr, vs, ds, c, x3, x4, x5, rfl, sT, hr, hda, hok, hlen, h6, hfm, hsum⟩
    have ht7 : t < 7 := ht
    walk_at "sx"
    refine ⟨by walk_at "len", fun pi hpi => ?_⟩
    have si := Same.new (o := .lst []) hpi
    have fi : upd HT pi (.lst []) pi = _ := upd_same
    generalize upd HT pi (.lst []) = HI at si fi ⊢
    walk_at "sx"
    obtain ⟨n, hn⟩ : ∃ n, n = 5 - t := ⟨_, rfl⟩
    have hdl := hda.length
    have hmin : 2 ^ min t 6 ≤ 2 ^ 6 := Nat.pow_le_pow_right (by decide) (Nat.min_le_right _ _)
    have h64 : (2 : Nat) ^ 6 = 64 := by decide
    refine i_forL (fun j σ H' => ∃ (ws : List V) (es : List PyData) (k : Nat) (x5 : Option V), σ = [some v_value, some (.ref pr), some (.int ((k : Nat) : Int)), some (.int (0 + (t : Nat))), some (.ref pi), x5] ∧ Same HT H' ∧ H' pi = some (.lst ws) ∧ DrAll HT ws es ∧ (∀ e ∈ es, OkF e) ∧ es.length ≤ 2 * j ∧
      (ds.take j).all (hasForm (n + 1)) = es.all (hasForm n) ∧ ((ds.take j).all (hasForm (n + 1)) = true → k + lvN n es = c + lvN (n + 1) (ds.take j))) (.inl (.inl (si _ _ hr))) ?_ ?_ ?_ ?_
    · exact ⟨[], [], c, _, rfl, si, fi, .nil, fun _ h => (List.not_mem_nil h).elim, Nat.le_refl _, by simp, fun _ => by simp [lvN]⟩
    · rintro j σ H' _ ⟨ws, es, k, x5, rfl, s, _⟩
      exact .inl (.inl (s _ _ hr))
    · rintro j v σ HJ hvj ⟨ws, es, k, x5, rfl, sJ, hi, hdi, hoi, hli, hal, hsm⟩
      obtain ⟨e, hej, hde0⟩ := hda.get hvj
      have heo := hok e (List.mem_of_getElem? hej)
      have hjl : j < ds.length := (List.getElem?_eq_some_iff.mp hej).1
      have ht5 : t < 6 := by
        rcases Nat.lt_or_ge t 6 with h | h
        · exact h
        · rw [h6 h] at hjl; simp at hjl
      have hn1 : n + 1 = 6 - t := by omega
      have bad : hasForm (n + 1) e = false → ∀ H', Same HT H' → Q (.bl false) H' := by
        intro hb H' s
        have h1 : hasForm 6 d = false := by
          rw [hfm, ← hn1, List.all_eq_false]
          exact ⟨e, List.mem_of_getElem? hej, by rw [hb]; exact Bool.false_ne_true⟩
        rw [← form_no h1]
        exact q H' (sT.trans s)
      have good : ∀ (c0 : Nat) (kids : List PyData) (kvs : List V) (H' : Hp) (x : Option V), Proc n e c0 kids → Same HT H' → H' pi = some (.lst (ws ++ kvs)) → DrAll HT kvs kids → (∀ e ∈ kids, OkF e) → kids.length ≤ 2 →
          ∃ (ws' : List V) (es' : List PyData) (k' : Nat) (x5 : Option V), [some v_value, some (.ref pr), some (.int (((k : Nat) : Int) + ((c0 : Nat) : Int))), some (.int (0 + (t : Nat))), some (.ref pi), x] = [some v_value, some (.ref pr), some (.int ((k' : Nat) : Int)), some (.int (0 + (t : Nat))), some (.ref pi), x5] ∧ Same HT H' ∧ H' pi = some (.lst ws') ∧
            DrAll HT ws' es' ∧ (∀ e ∈ es', OkF e) ∧ es'.length ≤ 2 * (j + 1) ∧ (ds.take (j + 1)).all (hasForm (n + 1)) = es'.all (hasForm n) ∧ ((ds.take (j + 1)).all (hasForm (n + 1)) = true → k' + lvN n es' = c + lvN (n + 1) (ds.take (j + 1))) := by
        intro c0 kids kvs H' x P s hp hdk hok2 hl2
        obtain ⟨r1, r2⟩ := inv_step hej P hal hsm
        refine ⟨ws ++ kvs, es ++ kids, k + c0, x, by rw [Int.natCast_add], s, hp, drAll_app hdi hdk, fun y hy => ?_, by rw [List.length_append]; omega, r1, r2⟩
        rcases List.mem_append.mp hy with hy | hy
        · exact hoi y hy
        · exact hok2 y hy
      have no2 : ∀ w : Str, ¬ w = "is" → ¬ w = "silent" → inV (.str w) [.str "is", .str "silent"] = false := fun w h1 h2 => by
        have := inV_strs w ["is", "silent"]
        rw [show ([.str "is", .str "silent"] : List V) = (["is", "silent"] : List Str).map V.str from rfl, this, decide_eq_false]
        simp [h1, h2]
      have no3 : ∀ w : Str, ¬ w = "not" → ¬ w = "and" → ¬ w = "or" → (!inV (.str w) [.str "not", .str "and", .str "or"]) = true := fun w h1 h2 h3 => by
        have := inV_strs w ["not", "and", "or"]
        rw [show ([.str "not", .str "and", .str "or"] : List V) = (["not", "and", "or"] : List Str).map V.str from rfl, this, decide_eq_false]
        · rfl
        · simp [h1, h2, h3]
      have hdJ := hde0.mono sJ
      cases hde0 with
      | tup ha al =>
        have haJ := sJ _ _ ha
        walk_at "sx"
        refine i_lenT (.inl (.inl haJ)) ?_
        match al, ha, haJ, heo, bad, good with
        | .nil, ha, haJ, heo, bad, good =>
          repeat (walk_at "sx"; first | refine i_ixT (.inl (.inl haJ)) rfl ?_ | refine i_lenT (.inl (.inl haJ)) ?_)
          walk_at "sx"
          exact bad (hf_short (by decide)) _ sJ
        | .cons _ .nil, ha, haJ, heo, bad, good =>
          repeat (walk_at "sx"; first | refine i_ixT (.inl (.inl haJ)) rfl ?_ | refine i_lenT (.inl (.inl haJ)) ?_)
          walk_at "sx"
          exact bad (hf_short (by show 1 < 2; decide)) _ sJ
        | .cons (d := d0) g0 (.cons (d := d1) (v := x1) g1 .nil), ha, haJ, heo, bad, good =>
          repeat (walk_at "sx"; first | refine i_ixT (.inl (.inl haJ)) rfl ?_ | refine i_lenT (.inl (.inl haJ)) ?_)
          walk_at "sx"
          have g0J := g0.mono sJ
          cases g0 with
          | str w =>
            walk_at "sx"
            by_cases n1 : w = "is"
            · subst n1
              refine i_ixT (.inl (.inl haJ)) rfl ?_
              walk_at "sx"
              refine ⟨by walk_at "len", fun q1 hq1 => ?_⟩
              have t1 := Same.new (o := .lst [V.str "is", V.str "silent"]) hq1
              have f1 : upd HJ q1 (.lst [V.str "is", V.str "silent"]) q1 = _ := upd_same
              generalize upd HJ q1 (.lst [V.str "is", V.str "silent"]) = G1 at t1 f1 ⊢
              have w1 : Same HT G1 := Same.trans sJ t1
              have haJ := w1 _ _ ha
              refine i_inSq (.inl (.inl (.inl f1))) rfl rfl ?_
              walk_at "sx"
              refine i_lenT (.inl (.inl haJ)) ?_
              walk_at "sx"
              refine ⟨by walk_at "len", fun q2 hq2 => ?_⟩
              have t2 := Same.new (o := .lst [V.int 3, V.int 2]) hq2
              have f2 : upd G1 q2 (.lst [V.int 3, V.int 2]) q2 = _ := upd_same
              generalize upd G1 q2 (.lst [V.int 3, V.int 2]) = G2 at t2 f2 ⊢
              have w2 : Same HT G2 := Same.trans w1 t2
              have haJ := w2 _ _ ha
              walk_at "sx"
              refine i_ixT (.inl (.inl haJ)) rfl ?_
              walk_at "sx"
              refine i_ixL (.inl (.inl f2)) (v := .int 3) (by rfl) ?_
              walk_at "sx"
              exact bad (hf_else2 (by decide +kernel) (by decide +kernel)) _ w2
            by_cases n2 : w = "silent"
            · subst n2
              refine i_ixT (.inl (.inl haJ)) rfl ?_
              walk_at "sx"
              refine ⟨by walk_at "len", fun q3 hq3 => ?_⟩
              have t3 := Same.new (o := .lst [V.str "is", V.str "silent"]) hq3
              have f3 : upd HJ q3 (.lst [V.str "is", V.str "silent"]) q3 = _ := upd_same
              generalize upd HJ q3 (.lst [V.str "is", V.str "silent"]) = G3 at t3 f3 ⊢
              have w3 : Same HT G3 := Same.trans sJ t3
              have haJ := w3 _ _ ha
              refine i_inSq (.inl (.inl (.inl f3))) rfl rfl ?_
              walk_at "sx"
              refine i_lenT (.inl (.inl haJ)) ?_
              walk_at "sx"
              refine ⟨by walk_at "len", fun q4 hq4 => ?_⟩
              have t4 := Same.new (o := .lst [V.int 3, V.int 2]) hq4
              have f4 : upd G3 q4 (.lst [V.int 3, V.int 2]) q4 = _ := upd_same
              generalize upd G3 q4 (.lst [V.int 3, V.int 2]) = G4 at t4 f4 ⊢
              have w4 : Same HT G4 := Same.trans w3 t4
              have haJ := w4 _ _ ha
              walk_at "sx"
              refine i_ixT (.inl (.inl haJ)) rfl ?_
              walk_at "sx"
              refine i_ixL (.inl (.inl f4)) (v := .int 2) (by rfl) ?_
              walk_at "sx"
              refine i_ixT (.inl (.inl haJ)) rfl ?_
              walk_at "sx"
              refine ⟨d1, g1.mono w4, (heo.at (by simp)).s, fun Hn sn => ?_⟩
              have haJ := sn _ _ haJ
              walk_at "sx"
              refine i_i2 (fun e1 => ?_) (fun e1 => ?_)
              · walk_at "sx"
                have e1 : isNameD d1 = false := by simpa using e1
                exact bad (by rw [hf_sil2 rfl]; exact e1) _ (Same.trans w4 sn)
              · walk_at "sx"
                have e1 : isNameD d1 = true := by simpa using e1
                refine i_lenT (.inl (.inl haJ)) ?_
                walk_at "sx"
                exact good 1 [] [] _ _ (proc_sil e1) (Same.trans w4 sn) (by rw [List.append_nil]; exact sn _ _ (t4 _ _ (t3 _ _ (hi)))) .nil (fun _ h => (List.not_mem_nil h).elim) (by decide)
            by_cases n3 : w = "not"
            · subst n3
              refine i_ixT (.inl (.inl haJ)) rfl ?_
              walk_at "sx"
              refine ⟨by walk_at "len", fun q5 hq5 => ?_⟩
              have t5 := Same.new (o := .lst [V.str "is", V.str "silent"]) hq5
              have f5 : upd HJ q5 (.lst [V.str "is", V.str "silent"]) q5 = _ := upd_same
              generalize upd HJ q5 (.lst [V.str "is", V.str "silent"]) = G5 at t5 f5 ⊢
              have w5 : Same HT G5 := Same.trans sJ t5
              have haJ := w5 _ _ ha
              refine i_inSq (.inl (.inl (.inl f5))) rfl rfl ?_
              walk_at "sx"
              refine i_ixT (.inl (.inl haJ)) rfl ?_
              walk_at "sx"
              refine ⟨by walk_at "len", fun q6 hq6 => ?_⟩
              have t6 := Same.new (o := .lst [V.str "not", V.str "and", V.str "or"]) hq6
              have f6 : upd G5 q6 (.lst [V.str "not", V.str "and", V.str "or"]) q6 = _ := upd_same
              generalize upd G5 q6 (.lst [V.str "not", V.str "and", V.str "or"]) = G6 at t6 f6 ⊢
              have w6 : Same HT G6 := Same.trans w5 t6
              have haJ := w6 _ _ ha
              refine i_notInSq (.inl (.inl (.inl f6))) rfl rfl ?_
              walk_at "sx"
              refine i_lenT (.inl (.inl haJ)) ?_
              walk_at "sx"
              refine ⟨by walk_at "len", fun q7 hq7 => ?_⟩
              have t7 := Same.new (o := .lst [V.int 3, V.int 2]) hq7
              have f7 : upd G6 q7 (.lst [V.int 3, V.int 2]) q7 = _ := upd_same
              generalize upd G6 q7 (.lst [V.int 3, V.int 2]) = G7 at t7 f7 ⊢
              have w7 : Same HT G7 := Same.trans w6 t7
              have haJ := w7 _ _ ha
              walk_at "sx"
              refine i_ixT (.inl (.inl haJ)) rfl ?_
              walk_at "sx"
              refine i_ixL (.inl (.inl f7)) (v := .int 2) (by rfl) ?_
              walk_at "sx"
              have hiP := t7 _ _ (t6 _ _ (t5 _ _ (hi)))
              refine ⟨ty_list (.inl (.inl hiP)), ?_⟩
              walk_at "sx"
              refine i_sl1 (.inl (.inl haJ)) fun qs hqs => ?_
              have ts := Same.new (o := .tup [x1]) hqs
              have fs : upd G7 qs (.tup [x1]) qs = _ := upd_same
              generalize upd G7 qs (.tup [x1]) = Gs at ts fs ⊢
              walk_at "sx"
              refine i_listT (.inl (.inl fs)) fun qt hqt => ?_
              have tt := Same.new (o := .lst [x1]) hqt
              have ft : upd Gs qt (.lst [x1]) qt = _ := upd_same
              generalize upd Gs qt (.lst [x1]) = Gt at tt ft ⊢
              walk_at "sx"
              have hiT := tt _ _ (ts _ _ hiP)
              have hwl := hdi.length
              refine i_extend hiT ft (by rw [sizeLine_eq]; simp; omega) ?_
              walk_at "sx"
              exact good 0 [d1] [x1] _ _ proc_not (Same.put (Same.trans (Same.trans w7 ts) tt) hpi) upd_same (.cons g1 .nil) (fun y hy => heo.at (List.mem_cons_of_mem _ hy)) (by simp)
            by_cases n4 : w = "and"
            · subst n4
              refine i_ixT (.inl (.inl haJ)) rfl ?_
              walk_at "sx"
              refine ⟨by walk_at "len", fun q8 hq8 => ?_⟩
              have t8 := Same.new (o := .lst [V.str "is", V.str "silent"]) hq8
              have f8 : upd HJ q8 (.lst [V.str "is", V.str "silent"]) q8 = _ := upd_same
              generalize upd HJ q8 (.lst [V.str "is", V.str "silent"]) = G8 at t8 f8 ⊢
              have w8 : Same HT G8 := Same.trans sJ t8
              have haJ := w8 _ _ ha
              refine i_inSq (.inl (.inl (.inl f8))) rfl rfl ?_
              walk_at "sx"
              refine i_ixT (.inl (.inl haJ)) rfl ?_
              walk_at "sx"
              refine ⟨by walk_at "len", fun q9 hq9 => ?_⟩
              have t9 := Same.new (o := .lst [V.str "not", V.str "and", V.str "or"]) hq9
              have f9 : upd G8 q9 (.lst [V.str "not", V.str "and", V.str "or"]) q9 = _ := upd_same
              generalize upd G8 q9 (.lst [V.str "not", V.str "and", V.str "or"]) = G9 at t9 f9 ⊢
              have w9 : Same HT G9 := Same.trans w8 t9
              have haJ := w9 _ _ ha
              refine i_notInSq (.inl (.inl (.inl f9))) rfl rfl ?_
              walk_at "sx"
              refine i_lenT (.inl (.inl haJ)) ?_
              walk_at "sx"
              refine ⟨by walk_at "len", fun q10 hq10 => ?_⟩
              have t10 := Same.new (o := .lst [V.int 3, V.int 2]) hq10
              have f10 : upd G9 q10 (.lst [V.int 3, V.int 2]) q10 = _ := upd_same
              generalize upd G9 q10 (.lst [V.int 3, V.int 2]) = G10 at t10 f10 ⊢
              have w10 : Same HT G10 := Same.trans w9 t10
              have haJ := w10 _ _ ha
              walk_at "sx"
              refine i_ixT (.inl (.inl haJ)) rfl ?_
              walk_at "sx"
              refine i_ixL (.inl (.inl f10)) (v := .int 3) (by rfl) ?_
              walk_at "sx"
              exact bad (hf_else2 (by decide +kernel) (by decide +kernel)) _ w10
            by_cases n5 : w = "or"
            · subst n5
              refine i_ixT (.inl (.inl haJ)) rfl ?_
              walk_at "sx"
              refine ⟨by walk_at "len", fun q11 hq11 => ?_⟩
              have t11 := Same.new (o := .lst [V.str "is", V.str "silent"]) hq11
              have f11 : upd HJ q11 (.lst [V.str "is", V.str "silent"]) q11 = _ := upd_same
              generalize upd HJ q11 (.lst [V.str "is", V.str "silent"]) = G11 at t11 f11 ⊢
              have w11 : Same HT G11 := Same.trans sJ t11
              have haJ := w11 _ _ ha
              refine i_inSq (.inl (.inl (.inl f11))) rfl rfl ?_
              walk_at "sx"
              refine i_ixT (.inl (.inl haJ)) rfl ?_
              walk_at "sx"
              refine ⟨by walk_at "len", fun q12 hq12 => ?_⟩
              have t12 := Same.new (o := .lst [V.str "not", V.str "and", V.str "or"]) hq12
              have f12 : upd G11 q12 (.lst [V.str "not", V.str "and", V.str "or"]) q12 = _ := upd_same
              generalize upd G11 q12 (.lst [V.str "not", V.str "and", V.str "or"]) = G12 at t12 f12 ⊢
              have w12 : Same HT G12 := Same.trans w11 t12
              have haJ := w12 _ _ ha
              refine i_notInSq (.inl (.inl (.inl f12))) rfl rfl ?_
              walk_at "sx"
              refine i_lenT (.inl (.inl haJ)) ?_
              walk_at "sx"
              refine ⟨by walk_at "len", fun q13 hq13 => ?_⟩
              have t13 := Same.new (o := .lst [V.int 3, V.int 2]) hq13
              have f13 : upd G12 q13 (.lst [V.int 3, V.int 2]) q13 = _ := upd_same
              generalize upd G12 q13 (.lst [V.int 3, V.int 2]) = G13 at t13 f13 ⊢
              have w13 : Same HT G13 := Same.trans w12 t13
              have haJ := w13 _ _ ha
              walk_at "sx"
              refine i_ixT (.inl (.inl haJ)) rfl ?_
              walk_at "sx"
              refine i_ixL (.inl (.inl f13)) (v := .int 3) (by rfl) ?_
              walk_at "sx"
              exact bad (hf_else2 (by decide +kernel) (by decide +kernel)) _ w13
            refine i_ixT (.inl (.inl haJ)) rfl ?_
            walk_at "sx"
            refine ⟨by walk_at "len", fun q14 hq14 => ?_⟩
            have t14 := Same.new (o := .lst [V.str "is", V.str "silent"]) hq14
            have f14 : upd HJ q14 (.lst [V.str "is", V.str "silent"]) q14 = _ := upd_same
            generalize upd HJ q14 (.lst [V.str "is", V.str "silent"]) = G14 at t14 f14 ⊢
            have w14 : Same HT G14 := Same.trans sJ t14
            have haJ := w14 _ _ ha
            refine i_inSq (.inl (.inl (.inl f14))) rfl rfl ?_
            refine ⟨_, rfl, ?_⟩
            refine i_iF (no2 w n1 n2) ?_
            walk_at "sx"
            refine i_ixT (.inl (.inl haJ)) rfl ?_
            walk_at "sx"
            refine ⟨by walk_at "len", fun q15 hq15 => ?_⟩
            have t15 := Same.new (o := .lst [V.str "not", V.str "and", V.str "or"]) hq15
            have f15 : upd G14 q15 (.lst [V.str "not", V.str "and", V.str "or"]) q15 = _ := upd_same
            generalize upd G14 q15 (.lst [V.str "not", V.str "and", V.str "or"]) = G15 at t15 f15 ⊢
            have w15 : Same HT G15 := Same.trans w14 t15
            have haJ := w15 _ _ ha
            refine i_notInSq (.inl (.inl (.inl f15))) rfl rfl ?_
            refine ⟨_, rfl, ?_⟩
            refine i_iT (no3 w n3 n4 n5) ?_
            walk_at "sx"
            exact bad (hf_else2 n2 n3) _ w15
          | _ =>
            walk_at "sx"
            exact bad (hf_first rfl) _ sJ
        | .cons (d := d0) g0 (.cons (d := d1) (v := x1) g1 (.cons (d := d2) (v := x2) g2 .nil)), ha, haJ, heo, bad, good =>
          repeat (walk_at "sx"; first | refine i_ixT (.inl (.inl haJ)) rfl ?_ | refine i_lenT (.inl (.inl haJ)) ?_)
          walk_at "sx"
          have g0J := g0.mono sJ
          cases g0 with
          | str w =>
            walk_at "sx"
            by_cases n1 : w = "is"
            · subst n1
              refine i_ixT (.inl (.inl haJ)) rfl ?_
              walk_at "sx"
              refine ⟨by walk_at "len", fun q16 hq16 => ?_⟩
              have t16 := Same.new (o := .lst [V.str "is", V.str "silent"]) hq16
              have f16 : upd HJ q16 (.lst [V.str "is", V.str "silent"]) q16 = _ := upd_same
              generalize upd HJ q16 (.lst [V.str "is", V.str "silent"]) = G16 at t16 f16 ⊢
              have w16 : Same HT G16 := Same.trans sJ t16
              have haJ := w16 _ _ ha
              refine i_inSq (.inl (.inl (.inl f16))) rfl rfl ?_
              walk_at "sx"
              refine i_lenT (.inl (.inl haJ)) ?_
              walk_at "sx"
              refine ⟨by walk_at "len", fun q17 hq17 => ?_⟩
              have t17 := Same.new (o := .lst [V.int 3, V.int 2]) hq17
              have f17 : upd G16 q17 (.lst [V.int 3, V.int 2]) q17 = _ := upd_same
              generalize upd G16 q17 (.lst [V.int 3, V.int 2]) = G17 at t17 f17 ⊢
              have w17 : Same HT G17 := Same.trans w16 t17
              have haJ := w17 _ _ ha
              walk_at "sx"
              refine i_ixT (.inl (.inl haJ)) rfl ?_
              walk_at "sx"
              refine i_ixL (.inl (.inl f17)) (v := .int 3) (by rfl) ?_
              walk_at "sx"
              refine i_ixT (.inl (.inl haJ)) rfl ?_
              walk_at "sx"
              refine ⟨d1, g1.mono w17, (heo.at (by simp)).s, fun Hn sn => ?_⟩
              have haJ := sn _ _ haJ
              walk_at "sx"
              refine i_i2 (fun e1 => ?_) (fun e1 => ?_)
              · walk_at "sx"
                have e1 : isNameD d1 = false := by simpa using e1
                exact bad (by rw [hf_is3 rfl, e1, Bool.false_and]) _ (Same.trans w17 sn)
              · walk_at "sx"
                have e1 : isNameD d1 = true := by simpa using e1
                refine i_lenT (.inl (.inl haJ)) ?_
                walk_at "sx"
                refine i_ixT (.inl (.inl haJ)) rfl ?_
                walk_at "sx"
                refine ⟨d2, g2.mono (Same.trans w17 sn), (heo.at (by simp)).s, fun Hm sm => ?_⟩
                walk_at "sx"
                refine i_i2 (fun e2 => ?_) (fun e2 => ?_)
                · walk_at "sx"
                  have e2 : isValueD d2 = false := by simpa using e2
                  exact bad (by rw [hf_is3 rfl, e2, Bool.and_false]) _ (Same.trans (Same.trans w17 sn) sm)
                · walk_at "sx"
                  have e2 : isValueD d2 = true := by simpa using e2
                  exact good 1 [] [] _ _ (proc_is e1 e2) (Same.trans (Same.trans w17 sn) sm) (by rw [List.append_nil]; exact sm _ _ (sn _ _ (t17 _ _ (t16 _ _ (hi))))) .nil (fun _ h => (List.not_mem_nil h).elim) (by decide)
            by_cases n2 : w = "silent"
            · subst n2
              refine i_ixT (.inl (.inl haJ)) rfl ?_
              walk_at "sx"
              refine ⟨by walk_at "len", fun q18 hq18 => ?_⟩
              have t18 := Same.new (o := .lst [V.str "is", V.str "silent"]) hq18
              have f18 : upd HJ q18 (.lst [V.str "is", V.str "silent"]) q18 = _ := upd_same
              generalize upd HJ q18 (.lst [V.str "is", V.str "silent"]) = G18 at t18 f18 ⊢
              have w18 : Same HT G18 := Same.trans sJ t18
              have haJ := w18 _ _ ha
              refine i_inSq (.inl (.inl (.inl f18))) rfl rfl ?_
              walk_at "sx"
              refine i_lenT (.inl (.inl haJ)) ?_
              walk_at "sx"
              refine ⟨by walk_at "len", fun q19 hq19 => ?_⟩
              have t19 := Same.new (o := .lst [V.int 3, V.int 2]) hq19
              have f19 : upd G18 q19 (.lst [V.int 3, V.int 2]) q19 = _ := upd_same
              generalize upd G18 q19 (.lst [V.int 3, V.int 2]) = G19 at t19 f19 ⊢
              have w19 : Same HT G19 := Same.trans w18 t19
              have haJ := w19 _ _ ha
              walk_at "sx"
              refine i_ixT (.inl (.inl haJ)) rfl ?_
              walk_at "sx"
              refine i_ixL (.inl (.inl f19)) (v := .int 2) (by rfl) ?_
              walk_at "sx"
              exact bad (hf_else3 (by decide +kernel) (by rintro (h | h) <;> exact absurd h (by decide +kernel))) _ w19
            by_cases n3 : w = "not"
            · subst n3
              refine i_ixT (.inl (.inl haJ)) rfl ?_
              walk_at "sx"
              refine ⟨by walk_at "len", fun q20 hq20 => ?_⟩
              have t20 := Same.new (o := .lst [V.str "is", V.str "silent"]) hq20
              have f20 : upd HJ q20 (.lst [V.str "is", V.str "silent"]) q20 = _ := upd_same
              generalize upd HJ q20 (.lst [V.str "is", V.str "silent"]) = G20 at t20 f20 ⊢
              have w20 : Same HT G20 := Same.trans sJ t20
              have haJ := w20 _ _ ha
              refine i_inSq (.inl (.inl (.inl f20))) rfl rfl ?_
              walk_at "sx"
              refine i_ixT (.inl (.inl haJ)) rfl ?_
              walk_at "sx"
              refine ⟨by walk_at "len", fun q21 hq21 => ?_⟩
              have t21 := Same.new (o := .lst [V.str "not", V.str "and", V.str "or"]) hq21
              have f21 : upd G20 q21 (.lst [V.str "not", V.str "and", V.str "or"]) q21 = _ := upd_same
              generalize upd G20 q21 (.lst [V.str "not", V.str "and", V.str "or"]) = G21 at t21 f21 ⊢
              have w21 : Same HT G21 := Same.trans w20 t21
              have haJ := w21 _ _ ha
              refine i_notInSq (.inl (.inl (.inl f21))) rfl rfl ?_
              walk_at "sx"
              refine i_lenT (.inl (.inl haJ)) ?_
              walk_at "sx"
              refine ⟨by walk_at "len", fun q22 hq22 => ?_⟩
              have t22 := Same.new (o := .lst [V.int 3, V.int 2]) hq22
              have f22 : upd G21 q22 (.lst [V.int 3, V.int 2]) q22 = _ := upd_same
              generalize upd G21 q22 (.lst [V.int 3, V.int 2]) = G22 at t22 f22 ⊢
              have w22 : Same HT G22 := Same.trans w21 t22
              have haJ := w22 _ _ ha
              walk_at "sx"
              refine i_ixT (.inl (.inl haJ)) rfl ?_
              walk_at "sx"
              refine i_ixL (.inl (.inl f22)) (v := .int 2) (by rfl) ?_
              walk_at "sx"
              exact bad (hf_else3 (by decide +kernel) (by rintro (h | h) <;> exact absurd h (by decide +kernel))) _ w22
            by_cases n4 : w = "and"
            · subst n4
              refine i_ixT (.inl (.inl haJ)) rfl ?_
              walk_at "sx"
              refine ⟨by walk_at "len", fun q23 hq23 => ?_⟩
              have t23 := Same.new (o := .lst [V.str "is", V.str "silent"]) hq23
              have f23 : upd HJ q23 (.lst [V.str "is", V.str "silent"]) q23 = _ := upd_same
              generalize upd HJ q23 (.lst [V.str "is", V.str "silent"]) = G23 at t23 f23 ⊢
              have w23 : Same HT G23 := Same.trans sJ t23
              have haJ := w23 _ _ ha
              refine i_inSq (.inl (.inl (.inl f23))) rfl rfl ?_
              walk_at "sx"
              refine i_ixT (.inl (.inl haJ)) rfl ?_
              walk_at "sx"
              refine ⟨by walk_at "len", fun q24 hq24 => ?_⟩
              have t24 := Same.new (o := .lst [V.str "not", V.str "and", V.str "or"]) hq24
              have f24 : upd G23 q24 (.lst [V.str "not", V.str "and", V.str "or"]) q24 = _ := upd_same
              generalize upd G23 q24 (.lst [V.str "not", V.str "and", V.str "or"]) = G24 at t24 f24 ⊢
              have w24 : Same HT G24 := Same.trans w23 t24
              have haJ := w24 _ _ ha
              refine i_notInSq (.inl (.inl (.inl f24))) rfl rfl ?_
              walk_at "sx"
              refine i_lenT (.inl (.inl haJ)) ?_
              walk_at "sx"
              refine ⟨by walk_at "len", fun q25 hq25 => ?_⟩
              have t25 := Same.new (o := .lst [V.int 3, V.int 2]) hq25
              have f25 : upd G24 q25 (.lst [V.int 3, V.int 2]) q25 = _ := upd_same
              generalize upd G24 q25 (.lst [V.int 3, V.int 2]) = G25 at t25 f25 ⊢
              have w25 : Same HT G25 := Same.trans w24 t25
              have haJ := w25 _ _ ha
              walk_at "sx"
              refine i_ixT (.inl (.inl haJ)) rfl ?_
              walk_at "sx"
              refine i_ixL (.inl (.inl f25)) (v := .int 3) (by rfl) ?_
              walk_at "sx"
              have hiP := t25 _ _ (t24 _ _ (t23 _ _ (hi)))
              refine ⟨ty_list (.inl (.inl hiP)), ?_⟩
              walk_at "sx"
              refine i_sl1 (.inl (.inl haJ)) fun qs hqs => ?_
              have ts := Same.new (o := .tup [x1, x2]) hqs
              have fs : upd G25 qs (.tup [x1, x2]) qs = _ := upd_same
              generalize upd G25 qs (.tup [x1, x2]) = Gs at ts fs ⊢
              walk_at "sx"
              refine i_listT (.inl (.inl fs)) fun qt hqt => ?_
              have tt := Same.new (o := .lst [x1, x2]) hqt
              have ft : upd Gs qt (.lst [x1, x2]) qt = _ := upd_same
              generalize upd Gs qt (.lst [x1, x2]) = Gt at tt ft ⊢
              walk_at "sx"
              have hiT := tt _ _ (ts _ _ hiP)
              have hwl := hdi.length
              refine i_extend hiT ft (by rw [sizeLine_eq]; simp; omega) ?_
              walk_at "sx"
              exact good 0 [d1, d2] [x1, x2] _ _ (proc_two (.inl rfl)) (Same.put (Same.trans (Same.trans w25 ts) tt) hpi) upd_same (.cons g1 (.cons g2 .nil)) (fun y hy => heo.at (List.mem_cons_of_mem _ hy)) (by simp)
            by_cases n5 : w = "or"
            · subst n5
              refine i_ixT (.inl (.inl haJ)) rfl ?_
              walk_at "sx"
              refine ⟨by walk_at "len", fun q26 hq26 => ?_⟩
              have t26 := Same.new (o := .lst [V.str "is", V.str "silent"]) hq26
              have f26 : upd HJ q26 (.lst [V.str "is", V.str "silent"]) q26 = _ := upd_same
              generalize upd HJ q26 (.lst [V.str "is", V.str "silent"]) = G26 at t26 f26 ⊢
              have w26 : Same HT G26 := Same.trans sJ t26
              have haJ := w26 _ _ ha
              refine i_inSq (.inl (.inl (.inl f26))) rfl rfl ?_
              walk_at "sx"
              refine i_ixT (.inl (.inl haJ)) rfl ?_
              walk_at "sx"
              refine ⟨by walk_at "len", fun q27 hq27 => ?_⟩
              have t27 := Same.new (o := .lst [V.str "not", V.str "and", V.str "or"]) hq27
              have f27 : upd G26 q27 (.lst [V.str "not", V.str "and", V.str "or"]) q27 = _ := upd_same
              generalize upd G26 q27 (.lst [V.str "not", V.str "and", V.str "or"]) = G27 at t27 f27 ⊢
              have w27 : Same HT G27 := Same.trans w26 t27
              have haJ := w27 _ _ ha
              refine i_notInSq (.inl (.inl (.inl f27))) rfl rfl ?_
              walk_at "sx"
              refine i_lenT (.inl (.inl haJ)) ?_
              walk_at "sx"
              refine ⟨by walk_at "len", fun q28 hq28 => ?_⟩
              have t28 := Same.new (o := .lst [V.int 3, V.int 2]) hq28
              have f28 : upd G27 q28 (.lst [V.int 3, V.int 2]) q28 = _ := upd_same
              generalize upd G27 q28 (.lst [V.int 3, V.int 2]) = G28 at t28 f28 ⊢
              have w28 : Same HT G28 := Same.trans w27 t28
              have haJ := w28 _ _ ha
              walk_at "sx"
              refine i_ixT (.inl (.inl haJ)) rfl ?_
              walk_at "sx"
              refine i_ixL (.inl (.inl f28)) (v := .int 3) (by rfl) ?_
              walk_at "sx"
              have hiP := t28 _ _ (t27 _ _ (t26 _ _ (hi)))
              refine ⟨ty_list (.inl (.inl hiP)), ?_⟩
              walk_at "sx"
              refine i_sl1 (.inl (.inl haJ)) fun qs hqs => ?_
              have ts := Same.new (o := .tup [x1, x2]) hqs
              have fs : upd G28 qs (.tup [x1, x2]) qs = _ := upd_same
              generalize upd G28 qs (.tup [x1, x2]) = Gs at ts fs ⊢
              walk_at "sx"
              refine i_listT (.inl (.inl fs)) fun qt hqt => ?_
              have tt := Same.new (o := .lst [x1, x2]) hqt
              have ft : upd Gs qt (.lst [x1, x2]) qt = _ := upd_same
              generalize upd Gs qt (.lst [x1, x2]) = Gt at tt ft ⊢
              walk_at "sx"
              have hiT := tt _ _ (ts _ _ hiP)
              have hwl := hdi.length
              refine i_extend hiT ft (by rw [sizeLine_eq]; simp; omega) ?_
              walk_at "sx"
              exact good 0 [d1, d2] [x1, x2] _ _ (proc_two (.inr rfl)) (Same.put (Same.trans (Same.trans w28 ts) tt) hpi) upd_same (.cons g1 (.cons g2 .nil)) (fun y hy => heo.at (List.mem_cons_of_mem _ hy)) (by simp)
            refine i_ixT (.inl (.inl haJ)) rfl ?_
            walk_at "sx"
            refine ⟨by walk_at "len", fun q29 hq29 => ?_⟩
            have t29 := Same.new (o := .lst [V.str "is", V.str "silent"]) hq29
            have f29 : upd HJ q29 (.lst [V.str "is", V.str "silent"]) q29 = _ := upd_same
            generalize upd HJ q29 (.lst [V.str "is", V.str "silent"]) = G29 at t29 f29 ⊢
            have w29 : Same HT G29 := Same.trans sJ t29
            have haJ := w29 _ _ ha
            refine i_inSq (.inl (.inl (.inl f29))) rfl rfl ?_
            refine ⟨_, rfl, ?_⟩
            refine i_iF (no2 w n1 n2) ?_
            walk_at "sx"
            refine i_ixT (.inl (.inl haJ)) rfl ?_
            walk_at "sx"
            refine ⟨by walk_at "len", fun q30 hq30 => ?_⟩
            have t30 := Same.new (o := .lst [V.str "not", V.str "and", V.str "or"]) hq30
            have f30 : upd G29 q30 (.lst [V.str "not", V.str "and", V.str "or"]) q30 = _ := upd_same
            generalize upd G29 q30 (.lst [V.str "not", V.str "and", V.str "or"]) = G30 at t30 f30 ⊢
            have w30 : Same HT G30 := Same.trans w29 t30
            have haJ := w30 _ _ ha
            refine i_notInSq (.inl (.inl (.inl f30))) rfl rfl ?_
            refine ⟨_, rfl, ?_⟩
            refine i_iT (no3 w n3 n4 n5) ?_
            walk_at "sx"
            exact bad (hf_else3 n1 (by rintro (h | h); exact n4 h; exact n5 h)) _ w30
          | _ =>
            walk_at "sx"
            exact bad (hf_first rfl) _ sJ
        | .cons (d := d0) g0 (.cons (d := d1) (v := x1) g1 (.cons (d := d2) (v := x2) g2 (.cons (d := d3) (v := x3) g3 gr))), ha, haJ, heo, bad, good =>
          repeat (walk_at "sx"; first | refine i_ixT (.inl (.inl haJ)) rfl ?_ | refine i_lenT (.inl (.inl haJ)) ?_)
          walk_at "sx"
          refine i_ixT (.inl (.inl haJ)) at_0 ?_
          walk_at "sx"
          have g0J := g0.mono sJ
          have hix : ∀ b : Bool, ∃ m : Int, atI [V.int 3, V.int 2] (if b = true then 1 else 0) = some (.int m) ∧ m ≤ 3 := by
            intro b
            cases b
            · exact ⟨3, rfl, by decide⟩
            · exact ⟨2, rfl, by decide⟩
          have hne : ∀ (m : Int) (l : List V), m ≤ 3 → (!decide (V.int ((l.length + 1 + 1 + 1 + 1 : Nat) : Int) = V.int m)) = true := by
            intro m l hm
            simp
            omega
          cases g0 with
          | str w =>
            walk_at "sx"
            refine i_ixT (.inl (.inl haJ)) at_0 ?_
            walk_at "sx"
            refine ⟨by walk_at "len", fun q1 hq1 => ?_⟩
            have t1 := Same.new (o := .lst [V.str "is", V.str "silent"]) hq1
            have f1 : upd HJ q1 (.lst [V.str "is", V.str "silent"]) q1 = _ := upd_same
            generalize upd HJ q1 (.lst [V.str "is", V.str "silent"]) = G1 at t1 f1 ⊢
            have w1 : Same HT G1 := Same.trans sJ t1
            have haJ := w1 _ _ ha
            refine i_inSq (.inl (.inl (.inl f1))) rfl rfl ?_
            refine ⟨_, rfl, ?_⟩
            refine i_i2 (fun e1 => ?_) (fun e1 => ?_)
            · walk_at "sx"
              refine i_lenT (.inl (.inl haJ)) ?_
              walk_at "sx"
              refine ⟨by walk_at "len", fun q2 hq2 => ?_⟩
              have t2 := Same.new (o := .lst [V.int 3, V.int 2]) hq2
              have f2 : upd G1 q2 (.lst [V.int 3, V.int 2]) q2 = _ := upd_same
              generalize upd G1 q2 (.lst [V.int 3, V.int 2]) = G2 at t2 f2 ⊢
              have w2 : Same HT G2 := Same.trans w1 t2
              have haJ := w2 _ _ ha
              walk_at "sx"
              refine i_ixT (.inl (.inl haJ)) at_0 ?_
              walk_at "sx"
              obtain ⟨m, hm, hm3⟩ := hix (decide (V.str w = V.str "silent"))
              refine i_ixL (.inl (.inl f2)) hm ?_
              refine i_neS rfl ?_
              refine ⟨_, rfl, ?_⟩
              refine i_iT (hne m _ hm3) ?_
              walk_at "sx"
              exact bad hf_long _ w2
            · walk_at "sx"
              refine i_ixT (.inl (.inl haJ)) at_0 ?_
              walk_at "sx"
              refine ⟨by walk_at "len", fun q2 hq2 => ?_⟩
              have t2 := Same.new (o := .lst [V.str "not", V.str "and", V.str "or"]) hq2
              have f2 : upd G1 q2 (.lst [V.str "not", V.str "and", V.str "or"]) q2 = _ := upd_same
              generalize upd G1 q2 (.lst [V.str "not", V.str "and", V.str "or"]) = G2 at t2 f2 ⊢
              have w2 : Same HT G2 := Same.trans w1 t2
              have haJ := w2 _ _ ha
              refine i_notInSq (.inl (.inl (.inl f2))) rfl rfl ?_
              refine ⟨_, rfl, ?_⟩
              refine i_i2 (fun e2 => ?_) (fun e2 => ?_)
              · walk_at "sx"
                exact bad hf_long _ w2
              · walk_at "sx"
                refine i_lenT (.inl (.inl haJ)) ?_
                walk_at "sx"
                refine ⟨by walk_at "len", fun q3 hq3 => ?_⟩
                have t3 := Same.new (o := .lst [V.int 3, V.int 2]) hq3
                have f3 : upd G2 q3 (.lst [V.int 3, V.int 2]) q3 = _ := upd_same
                generalize upd G2 q3 (.lst [V.int 3, V.int 2]) = G3 at t3 f3 ⊢
                have w3 : Same HT G3 := Same.trans w2 t3
                have haJ := w3 _ _ ha
                walk_at "sx"
                refine i_ixT (.inl (.inl haJ)) at_0 ?_
                walk_at "sx"
                obtain ⟨m, hm, hm3⟩ := hix (decide (V.str w = V.str "not"))
                refine i_ixL (.inl (.inl f3)) hm ?_
                refine i_neS rfl ?_
                refine ⟨_, rfl, ?_⟩
                refine i_iT (hne m _ hm3) ?_
                walk_at "sx"
                exact bad hf_long _ w3
          | _ =>
            walk_at "sx"
            exact bad (hf_first rfl) _ sJ
      | _ =>
        walk_at "sx"
        exact bad (hf_other rfl) _ sJ
    · rintro σ HJ ⟨ws, es, k, x5, rfl, sJ, hi, hdi, hoi, hli, hal, hsm⟩
      rw [hdl, List.take_length] at hal hsm
      rw [hdl] at hli
      have hel := hdi.length
      have e6 : 6 ≤ t → es = [] := fun h => by
        rw [h6 h] at hli
        have hli : es.length ≤ 0 := hli
        exact List.eq_nil_of_length_eq_zero (by omega)
      have nxt : (6 ≤ t + 1 → es = []) → ∀ (H' : Hp) (x3 x4 x5 : Option V), Same HJ H' → ∃ (pr : Addr) (vs : List V) (ds : List PyData) (c : Nat) (y3 y4 y5 : Option V), [some v_value, some (.ref pi), some (.int ((k : Nat) : Int)), x3, x4, x5] = [some v_value, some (.ref pr), some (.int ((c : Nat) : Int)), y3, y4, y5] ∧ Same H H' ∧ H' pr = some (.lst vs) ∧ DrAll H' vs ds ∧ (∀ e ∈ ds, OkF e) ∧ ds.length ≤ 2 ^ min (t + 1) 6 ∧ (6 ≤ t + 1 → ds = []) ∧
          hasForm 6 d = ds.all (hasForm (6 - (t + 1))) ∧ (hasForm 6 d = true → c + lvN (6 - (t + 1)) ds = lvs 6 d) := by
        intro hnil H' x3 x4 x5 s
        have sH : Same HT H' := Same.trans sJ s
        refine ⟨pi, ws, es, k, x3, x4, x5, rfl, Same.trans sT sH, s _ _ hi, hdi.mono sH, hoi, ?_, hnil, ?_, ?_⟩
        · rcases Nat.lt_or_ge t 6 with h | h
          · rw [Nat.min_eq_left (by omega)] at hlen
            rw [Nat.min_eq_left (by omega), Nat.pow_succ]
            omega
          · rw [e6 h]; exact Nat.zero_le _
        · rcases Nat.lt_or_ge t 6 with h | h
          · rw [hfm, show 6 - t = n + 1 from by omega, show 6 - (t + 1) = n from by omega]; exact hal
          · rw [hfm, h6 h, e6 h] <;> rfl
        · intro hh
          have h1 := hsum hh
          rcases Nat.lt_or_ge t 6 with h | h
          · rw [show 6 - t = n + 1 from by omega] at h1 hfm
            rw [show 6 - (t + 1) = n from by omega]
            have := hsm (hfm.symm.trans hh)
            omega
          · have h2 := hsm (by rw [h6 h] <;> rfl)
            rw [h6 h] at h1 h2
            rw [e6 h] at h2 ⊢
            simp only [lvN, List.map_nil, List.sum_nil] at h1 h2 ⊢
            omega
      walk_at "sx"
      refine ⟨by walk_at "len", fun pe hpe => ?_⟩
      have se := Same.new (o := .lst []) hpe
      refine ⟨pi, pe, _, rfl, rfl, .inl (.inl (se _ _ hi)), .inl (.inl upd_same), ?_⟩
      refine ⟨_, rfl, ?_⟩
      refine i_i2 (fun e1 => ?_) (fun e1 => ?_)
      · have hne : es ≠ [] := fun h => by
          rw [h] at hel
          have : ws = [] := List.eq_nil_of_length_eq_zero hel
          rw [this] at e1
          cases e1
        walk_at "sx"
        refine i_i2 (fun e2 => ?_) (fun e2 => ?_)
        · have e2' := of_decide_eq_true e2
          walk_at "sx"
          have ht5 : t = 5 := by
            rcases Nat.lt_or_ge t 6 with h | h
            · omega
            · exact absurd (e6 h) hne
          have hf0 : hasForm 6 d = false := by
            rw [hfm, show 6 - t = n + 1 from by omega, hal, show n = 0 from by omega]
            cases es with
            | nil => exact absurd rfl hne
            | cons y r =>
              rw [List.all_cons, hf_zero, Bool.false_and]
          rw [← form_no hf0]
          exact q _ (Same.trans (Same.trans sT sJ) se)
        · have e2' := of_decide_eq_false e2
          walk_at "sx"
          exact nxt (fun h => by omega) _ _ _ _ se
      · have hnil : es = [] := by
          cases ws with
          | nil => exact List.eq_nil_of_length_eq_zero hel.symm
          | cons y r => cases e1
        walk_at "sx"
        exact nxt (fun _ => hnil) _ _ _ _ se
  · rintro σ H' ⟨pr, vs, ds, c, x3, x4, x5, rfl, sT, hr, hda, hok, hlen, h6, hfm, hsum⟩
    have h7 : (7 : Int).toNat = 7 := rfl
    rw [h7] at h6 hfm hsum
    rw [h6 (by decide)] at hfm hsum
    have hh : hasForm 6 d = true := hfm
    have hc := hsum hh
    walk_at "sx"
    have e : isFormD d = decide (((c : Nat) : Int) ≤ 6) := by
      rw [form_of hh (c := c) (by have hc : c + 0 = lvs 6 d := hc; omega), Bool.eq_iff_iff, decide_eq_true_iff, decide_eq_true_iff]
      omega
    rw [← e]
    exact q _ sT


end H68

set_option maxHeartbeats 1000000
namespace H68
open PySem PySem.Spec PyProof.Rows L2 KB
local macro_rules | `(tactic| walk_at "kb1") => `(tactic| with_reducible first
  | refine i_var rfl ?_ | refine i_c ?_ | refine i_cons ?_ | refine i_nil ?_ | refine i_op ?_ | refine i_seq ?_ | refine i_if ?_ | refine i_ret ?_ | refine i_asg ?_ | refine i_name ?_ | refine i_next ?_ | refine i_drop ?_
  | refine i_un ?_ | refine i_cb ?_ | refine i_cal ?_ | refine i_calM ?_ | refine i_test ?_ | refine i_tb ?_ | refine i_k ?_ | refine i_not ?_ | refine i_and ?_ | refine i_or ?_ | refine i_andV ?_ | refine i_orV ?_ | refine i_notV ?_ | refine i_ife ?_
  | refine i_isN ?_ | refine i_notN ?_ | refine i_chain ?_ | refine i_tup ?_ | refine i_lst ?_ | refine i_sl ?_ | refine i_noPart ?_ | refine i_part ?_ | refine i_ik ?_ | refine i_sk ?_ | refine i_bm0 ?_ | refine i_bm ?_ | refine i_m1 ?_ | refine i_m0 ?_ | refine i_fld ?_ | refine i_tru ?_
  | refine i_gC ?_ | refine i_gN ?_ | refine i_for0L ?_ | refine i_for0E ?_ | refine i_for0R ?_ | refine i_lc0L ?_ | refine i_lc0S ?_ | refine i_lc0Z ?_ | refine i_tix ?_ | refine i_lorei ?_ | refine i_js0 ?_ | refine i_xf ?_ | refine i_calR ?_ | refine i_calRS ?_ | refine i_calS ?_ | refine i_for0R3 ?_ | refine i_mak ?_ | refine i_dget ?_ | refine i_din ?_ | refine i_dnotin ?_ | refine i_dput ?_ | refine i_dnewT ?_ | refine i_sub ?_ | refine i_rng1 ?_ | refine i_rng2 ?_ | refine i_rev ?_ | refine i_replC ?_ | refine i_lenset ?_ | refine i_mS ?_ | refine i_js ?_ | refine i_fmt ?_ | refine i_par ?_ | refine i_v2 ?_ | refine i_par3 ?_ | refine i_v3 ?_ | refine i_mkO ?_ | refine i_ost ?_ | refine i_sFld ?_ | refine i_yes ?_ | refine i_dget1 ?_ | refine i_dnewK ?_ | refine i_dpop1 ?_ | refine i_ndnew ?_ | refine i_nget2 ?_ | refine i_nsetd ?_ | refine i_nix ?_ | refine i_nput ?_ | refine i_listItems ?_ | refine i_for0Nv ?_ | refine i_lc0Nk ?_ | refine i_dstar ?_ | refine i_lc20L ?_ | refine i_sp1 ?_ | refine i_sp2 ?_ | refine i_sp3 ?_ | refine i_sp4 ?_)
local macro_rules | `(tactic| walk_at "dr") => `(tactic| first
  | assumption | exact Dr.non | exact Dr.bl _ | exact Dr.int _ | exact Dr.str _ | exact Dr.tup (by assumption) (by assumption) | exact Dr.lst (by assumption) (by assumption) | exact Dr.dic (by assumption) | exact Im.dr (by assumption))
local macro_rules | `(tactic| walk_at "if") => `(tactic| first
  | ((with_reducible refine i_iT ?_ ?_); · rfl) | ((with_reducible refine i_iF ?_ ?_); · rfl))
local macro_rules | `(tactic| walk_at "isi") => `(tactic| ((with_reducible show rIsiU _ _ _ _); first
  | (with_reducible refine j_isTup (by walk_at "dr") ?_) | (with_reducible refine j_isLst (by walk_at "dr") ?_) | (with_reducible refine j_isStr (by walk_at "dr") ?_)
  | (with_reducible refine j_isBl (by walk_at "dr") ?_) | (with_reducible refine j_isInt (by walk_at "dr") ?_)))
local macro_rules | `(tactic| walk_at "op") => `(tactic| with_reducible first
  | refine i_rI0 ?_ | refine i_addI ?_ | refine i_rU ?_ | refine i_ltI ?_ | refine i_inC ?_ | refine i_notInC ?_ | refine i_intI ?_ | refine i_intB ?_ | refine i_abs ?_ | refine i_max2 ?_ | refine i_min2 ?_ | refine i_isBl ?_
  | (refine i_eqS rfl ?_) | (refine i_neS rfl ?_))
local macro_rules | `(tactic| walk_at "wp") => `(tactic| ((with_reducible refine i_wp ?_ ?_); · rfl))
local macro_rules | `(tactic| walk_at "sx") => `(tactic| repeat first | walk_at "kb1" | walk_at "if" | walk_at "isi" | walk_at "op" | walk_at "wp")
local macro_rules | `(tactic| walk_at "cd") => `(tactic| refine ⟨_, (by walk_at "dr"), ?_⟩)
local macro_rules | `(tactic| walk_at "len") => `(tactic| (simp only [List.length_cons, List.length_nil]; decide))
local macro_rules | `(tactic| walk_at "ic") => `(tactic| first
  | ((with_reducible refine i_iT ?_ ?_); · first | with_reducible rfl | (simp only [Bool.not_true, Bool.not_false, isTupD, isLstD, isStrD, isBlD, isIntD, isSeqD]; done))
  | ((with_reducible refine i_iF ?_ ?_); · first | with_reducible rfl | (simp only [Bool.not_true, Bool.not_false, isTupD, isLstD, isStrD, isBlD, isIntD, isSeqD]; done)))
local macro_rules | `(tactic| walk_at "sy") => `(tactic| repeat first | walk_at "kb1" | walk_at "ic" | walk_at "isi" | walk_at "op" | walk_at "wp")
theorem sc_law_is_name : FnScope ["value", "own", "sign"] ["value"] (defScope s_law_is_name) := ⟨rfl, rfl, rfl, by decide +kernel, rfl, by decide +kernel, by decide +kernel⟩
theorem ok_law_is_name {P : Program} {w : World} {K : PySem.W.Frag} {mg : Str → Option Value} {base : Heap} (T : Tx K mg) :
    Cn P w K mg base 1 (He.fAd K ("_law_is_name", none)) ["value"] (sp_law_is_name K) := by
  refine cnN (d := d_law_is_name) T.st_law_is_name sc_law_is_name sp1_len (fun _ _ _ _ _ _ us hl => match us, hl with | [_], _ => rfl) (fun cdv A outer s H vs Q E hr h => ?_)
  obtain ⟨v_value, rfl, h⟩ := h
  refine ⟨_, (pss_cons (ps_set (i := 1) sc_law_is_name.nd rfl (.inl rfl) (pe_lst (pa_cons pe_str (pa_cons pe_str (pa_cons pe_str (pa_cons pe_str (pa_cons pe_str (pa_cons pe_str (pa_cons pe_str (pa_cons pe_str (pa_cons pe_str (pa_cons pe_str (pa_cons pe_str (pa_cons pe_str (pa_cons pe_str (pa_cons pe_str (pa_cons pe_str (pa_cons pe_str pa_nil))))))))))))))))))
  (pss_cons (ps_if (PW.pt (pw_or (pt_not (pt_val (pe_callB (c_isi (K := K) rfl) (by rfl) T.f_isinstance (by decide +kernel) (pa_cons (pv 0) (pa_cons (pe_bltn (v := .ty "str") (by rfl) T.f_str (by decide +kernel) rfl) pa_nil))))) (pw_or (pt_not (pt_chain op_le op_le pe_int (pe_callB (c_len (K := K) rfl) (by rfl) T.f_len (by decide +kernel) (pa_cons (pv 0) pa_nil)) pe_int)) (pw_or1 (pt_cmpR (o_in (K := K) rfl (rU65 hr)) (pv 0) (pv 1) (by rfl)))))) (pss_one (ps_ret pe_bl)) pss_nil)
  (pss_one (ps_ret (pe_cmpR (o_eqN (K := K) rfl hr.units0) (pe_lc (own := [("sign", 2)]) (g := (gName 2)) rfl sc_law_is_name.nd (pi_str (pv 0)) (blkOk_by (own := [("sign", 2)]) (N := ["value", "own", "sign"]) (sc := defScope s_law_is_name) (by decide +kernel)) (fun _ _ _ _ _ => (pg_name (i := 2) sc_law_is_name.nd rfl (by first | exact Or.inl rfl | exact Or.inr rfl))) (fun _ _ _ _ _ => (pts_one (pt_cmpR (o_notIn (K := K) rfl (rU65 hr)) (pv 2) pe_str (by rfl)))) (fun _ _ _ _ _ => (pv 2))) (pe_lst pa_nil) (by rfl)))))), ?_⟩
  rw [show start ["value", "own", "sign"] [v_value] = [some v_value, none, none] from rfl]
  obtain ⟨d, hd, ho, q⟩ := h
  walk_at "sx"
  refine ⟨by walk_at "len", fun p0 hp0 => ?_⟩
  generalize hH1 : upd H p0 _ = H1
  have s0 : Same H H1 := hH1 ▸ Same.new hp0
  have f0 : H1 p0 = some (.lst ownV) := by rw [← hH1]; exact upd_same
  have hd0 := hd.mono s0
  cases hd
  all_goals cases hd0
  all_goals walk_at "sx"
  all_goals try exact q _ s0
  rename_i z
  have hz : z.length ≤ sizeLine := Sm.z ho
  refine i_lenS hz ?_
  walk_at "sx"
  have key : ∀ b, isNameS z = b → ∀ H', Same H H' → Q (.bl b) H' := fun b e H' s => e ▸ q H' s
  refine i_i2 (fun e1 => ?_) (fun e1 => ?_)
  · walk_at "sx"
    refine i_i2 (fun e2 => ?_) (fun e2 => ?_)
    · refine key _ ?_ _ s0
      have : ¬ z.length ≤ 8 := by intro h; simp at e2; omega
      simp [isNameS, this]
    · walk_at "sx"
      refine i_inSq (.inl (.inl (.inl f0))) rfl rfl ?_
      walk_at "sx"
      simp at e1 e2
      have e1' : 1 ≤ z.length := by omega
      have e2' : z.length ≤ 8 := by omega
      refine i_i2 (fun e3 => ?_) (fun e3 => ?_)
      · walk_at "sx"
        have e3' : inV (.str z) ownV = true := e3
        exact key _ (by simp [isNameS, e3']) _ s0
      · walk_at "sx"
        have e3' : inV (.str z) ownV = false := e3
        refine i_lcS (fun d => !inD vLow d) (fun d => d) hz (fun D hD i x d H2 ed ix s N no yes => ?_) (fun D H2 ys hD s hy im => ?_)
        · obtain ⟨c, hc, rfl⟩ := chD_get ed
          cases ix
          walk_at "sx"
          refine i_i2 (fun e4 => ?_) (fun e4 => ?_)
          · walk_at "sx"
            exact yes e4 _ _ (fun _ _ e => e) (.str _)
          · exact no e4 _ (fun _ _ e => e)
        · walk_at "sx"
          rw [not_in] at im
          refine ⟨by walk_at "len", fun p hp => ?_⟩
          have s2 := Same.new (o := .lst []) hp
          refine ⟨D, p, ys, rfl, rfl, .inl (.inl (s2 _ _ hy)), .inl (.inl upd_same), ?_⟩
          have el : ys.length = (z.cps.toList.filter fun c => !decide (c ∈ vLow.cps.toList)).length := by rw [im.length, List.length_map]
          refine key _ ?_ _ ((s0.trans s).trans s2)
          cases hh : (z.cps.toList.all fun c => decide (c ∈ vLow.cps.toList)) with
          | true =>
            rw [filter_none hh] at el
            have : ys = [] := List.eq_nil_of_length_eq_zero el
            rw [this]
            unfold isNameS; rw [hh, e3']; simp [e1', e2']
          | false =>
            have : ys ≠ [] := fun e => by
              rw [e] at el
              rw [all_of_filter el.symm] at hh
              cases hh
            cases ys with
            | nil => exact absurd rfl this
            | cons a r => unfold isNameS; rw [hh]; simp
  · walk_at "sx"
    refine key _ ?_ _ s0
    have : ¬ 1 ≤ z.length := by intro h; simp at e1; omega
    simp [isNameS, this]


end H68

set_option maxHeartbeats 1000000
namespace H68
open PySem PySem.Spec PyProof.Rows L2 KB
local macro_rules | `(tactic| walk_at "kb1") => `(tactic| with_reducible first
  | refine i_var rfl ?_ | refine i_c ?_ | refine i_cons ?_ | refine i_nil ?_ | refine i_op ?_ | refine i_seq ?_ | refine i_if ?_ | refine i_ret ?_ | refine i_asg ?_ | refine i_name ?_ | refine i_next ?_ | refine i_drop ?_
  | refine i_un ?_ | refine i_cb ?_ | refine i_cal ?_ | refine i_calM ?_ | refine i_test ?_ | refine i_tb ?_ | refine i_k ?_ | refine i_not ?_ | refine i_and ?_ | refine i_or ?_ | refine i_andV ?_ | refine i_orV ?_ | refine i_notV ?_ | refine i_ife ?_
  | refine i_isN ?_ | refine i_notN ?_ | refine i_chain ?_ | refine i_tup ?_ | refine i_lst ?_ | refine i_sl ?_ | refine i_noPart ?_ | refine i_part ?_ | refine i_ik ?_ | refine i_sk ?_ | refine i_bm0 ?_ | refine i_bm ?_ | refine i_m1 ?_ | refine i_m0 ?_ | refine i_fld ?_ | refine i_tru ?_
  | refine i_gC ?_ | refine i_gN ?_ | refine i_for0L ?_ | refine i_for0E ?_ | refine i_for0R ?_ | refine i_lc0L ?_ | refine i_lc0S ?_ | refine i_lc0Z ?_ | refine i_tix ?_ | refine i_lorei ?_ | refine i_js0 ?_ | refine i_xf ?_ | refine i_calR ?_ | refine i_calRS ?_ | refine i_calS ?_ | refine i_for0R3 ?_ | refine i_mak ?_ | refine i_dget ?_ | refine i_din ?_ | refine i_dnotin ?_ | refine i_dput ?_ | refine i_dnewT ?_ | refine i_sub ?_ | refine i_rng1 ?_ | refine i_rng2 ?_ | refine i_rev ?_ | refine i_replC ?_ | refine i_lenset ?_ | refine i_mS ?_ | refine i_js ?_ | refine i_fmt ?_ | refine i_par ?_ | refine i_v2 ?_ | refine i_par3 ?_ | refine i_v3 ?_ | refine i_mkO ?_ | refine i_ost ?_ | refine i_sFld ?_ | refine i_yes ?_ | refine i_dget1 ?_ | refine i_dnewK ?_ | refine i_dpop1 ?_ | refine i_ndnew ?_ | refine i_nget2 ?_ | refine i_nsetd ?_ | refine i_nix ?_ | refine i_nput ?_ | refine i_listItems ?_ | refine i_for0Nv ?_ | refine i_lc0Nk ?_ | refine i_dstar ?_ | refine i_lc20L ?_ | refine i_sp1 ?_ | refine i_sp2 ?_ | refine i_sp3 ?_ | refine i_sp4 ?_)
local macro_rules | `(tactic| walk_at "dr") => `(tactic| first
  | assumption | exact Dr.non | exact Dr.bl _ | exact Dr.int _ | exact Dr.str _ | exact Dr.tup (by assumption) (by assumption) | exact Dr.lst (by assumption) (by assumption) | exact Dr.dic (by assumption) | exact Im.dr (by assumption))
local macro_rules | `(tactic| walk_at "if") => `(tactic| first
  | ((with_reducible refine i_iT ?_ ?_); · rfl) | ((with_reducible refine i_iF ?_ ?_); · rfl))
local macro_rules | `(tactic| walk_at "isi") => `(tactic| ((with_reducible show rIsiU _ _ _ _); first
  | (with_reducible refine j_isTup (by walk_at "dr") ?_) | (with_reducible refine j_isLst (by walk_at "dr") ?_) | (with_reducible refine j_isStr (by walk_at "dr") ?_)
  | (with_reducible refine j_isBl (by walk_at "dr") ?_) | (with_reducible refine j_isInt (by walk_at "dr") ?_)))
local macro_rules | `(tactic| walk_at "op") => `(tactic| with_reducible first
  | refine i_rI0 ?_ | refine i_addI ?_ | refine i_rU ?_ | refine i_ltI ?_ | refine i_inC ?_ | refine i_notInC ?_ | refine i_intI ?_ | refine i_intB ?_ | refine i_abs ?_ | refine i_max2 ?_ | refine i_min2 ?_ | refine i_isBl ?_
  | (refine i_eqS rfl ?_) | (refine i_neS rfl ?_))
local macro_rules | `(tactic| walk_at "wp") => `(tactic| ((with_reducible refine i_wp ?_ ?_); · rfl))
local macro_rules | `(tactic| walk_at "sx") => `(tactic| repeat first | walk_at "kb1" | walk_at "if" | walk_at "isi" | walk_at "op" | walk_at "wp")
local macro_rules | `(tactic| walk_at "cd") => `(tactic| refine ⟨_, (by walk_at "dr"), ?_⟩)
local macro_rules | `(tactic| walk_at "len") => `(tactic| (simp only [List.length_cons, List.length_nil]; decide))
local macro_rules | `(tactic| walk_at "ic") => `(tactic| first
  | ((with_reducible refine i_iT ?_ ?_); · first | with_reducible rfl | (simp only [Bool.not_true, Bool.not_false, isTupD, isLstD, isStrD, isBlD, isIntD, isSeqD]; done))
  | ((with_reducible refine i_iF ?_ ?_); · first | with_reducible rfl | (simp only [Bool.not_true, Bool.not_false, isTupD, isLstD, isStrD, isBlD, isIntD, isSeqD]; done)))
local macro_rules | `(tactic| walk_at "sy") => `(tactic| repeat first | walk_at "kb1" | walk_at "ic" | walk_at "isi" | walk_at "op" | walk_at "wp")
theorem sc_law_is_value : FnScope ["value", "sign"] ["value"] (defScope s_law_is_value) := ⟨rfl, rfl, rfl, by decide +kernel, rfl, by decide +kernel, by decide +kernel⟩
theorem ok_law_is_value {P : Program} {w : World} {K : PySem.W.Frag} {mg : Str → Option Value} {base : Heap} (T : Tx K mg) :
    Cn P w K mg base 1 (He.fAd K ("_law_is_value", none)) ["value"] (sp_law_is_value K) := by
  refine cnN (d := d_law_is_value) T.st_law_is_value sc_law_is_value sp1_len (fun _ _ _ _ _ _ us hl => match us, hl with | [_], _ => rfl) (fun cdv A outer s H vs Q E hr h => ?_)
  obtain ⟨v_value, rfl, h⟩ := h
  refine ⟨_, (pss_cons (ps_if (PW.pt (pw_or (pt_not (pt_val (pe_callB (c_isi (K := K) rfl) (by rfl) T.f_isinstance (by decide +kernel) (pa_cons (pv 0) (pa_cons (pe_bltn (v := .ty "str") (by rfl) T.f_str (by decide +kernel) rfl) pa_nil))))) (pw_or1 (pt_not (pt_chain op_le op_le pe_int (pe_callB (c_len (K := K) rfl) (by rfl) T.f_len (by decide +kernel) (pa_cons (pv 0) pa_nil)) pe_int))))) (pss_one (ps_ret pe_bl)) pss_nil)
  (pss_one (ps_ret (pe_cmpR (o_eqN (K := K) rfl hr.units0) (pe_lc (own := [("sign", 1)]) (g := (gName 1)) rfl sc_law_is_value.nd (pi_str (pv 0)) (blkOk_by (own := [("sign", 1)]) (N := ["value", "sign"]) (sc := defScope s_law_is_value) (by decide +kernel)) (fun _ _ _ _ _ => (pg_name (i := 1) sc_law_is_value.nd rfl (by first | exact Or.inl rfl | exact Or.inr rfl))) (fun _ _ _ _ _ => (pts_one (pt_cmpR (o_notIn (K := K) rfl (rU65 hr)) (pv 1) pe_str (by rfl)))) (fun _ _ _ _ _ => (pv 1))) (pe_lst pa_nil) (by rfl))))), ?_⟩
  rw [show start ["value", "sign"] [v_value] = [some v_value, none] from rfl]
  obtain ⟨d, hd, ho, q⟩ := h
  cases hd
  all_goals walk_at "sx"
  all_goals try exact q _ (fun _ _ e => e)
  rename_i z
  have hz : z.length ≤ sizeLine := Sm.z ho
  refine i_lenS hz ?_
  walk_at "sx"
  have key : ∀ b, isValueS z = b → ∀ H', Same H H' → Q (.bl b) H' := fun b e H' s => e ▸ q H' s
  refine i_i2 (fun e1 => ?_) (fun e1 => ?_)
  · walk_at "sx"
    refine i_i2 (fun e2 => ?_) (fun e2 => ?_)
    · refine key _ ?_ _ (fun _ _ e => e)
      have : ¬ z.length ≤ 12 := by intro h; simp at e2; omega
      simp [isValueS, this]
    · walk_at "sx"
      simp at e1 e2
      have e1' : 1 ≤ z.length := by omega
      have e2' : z.length ≤ 12 := by omega
      refine i_lcS (fun d => !inD vSigns d) (fun d => d) hz (fun D hD i x d H1 ed ix s N no yes => ?_) (fun D H1 ys hD s hy im => ?_)
      · obtain ⟨c, hc, rfl⟩ := chD_get ed
        cases ix
        walk_at "sx"
        refine i_i2 (fun e4 => ?_) (fun e4 => ?_)
        · walk_at "sx"
          exact yes e4 _ _ (fun _ _ e => e) (.str _)
        · exact no e4 _ (fun _ _ e => e)
      · walk_at "sx"
        rw [not_in] at im
        refine ⟨by walk_at "len", fun p hp => ?_⟩
        have s2 := Same.new (o := .lst []) hp
        refine ⟨D, p, ys, rfl, rfl, .inl (.inl (s2 _ _ hy)), .inl (.inl upd_same), ?_⟩
        have el : ys.length = (z.cps.toList.filter fun c => !decide (c ∈ vSigns.cps.toList)).length := by rw [im.length, List.length_map]
        refine key _ ?_ _ (s.trans s2)
        cases hh : (z.cps.toList.all fun c => decide (c ∈ vSigns.cps.toList)) with
        | true =>
          rw [filter_none hh] at el
          have : ys = [] := List.eq_nil_of_length_eq_zero el
          rw [this]
          unfold isValueS; rw [hh]; simp [e1', e2']
        | false =>
          have : ys ≠ [] := fun e => by
            rw [e] at el
            rw [all_of_filter el.symm] at hh
            cases hh
          cases ys with
          | nil => exact absurd rfl this
          | cons a r => unfold isValueS; rw [hh]; simp
  · walk_at "sx"
    refine key _ ?_ _ (fun _ _ e => e)
    have : ¬ 1 ≤ z.length := by intro h; simp at e1; omega
    simp [isValueS, this]


end H68

set_option maxHeartbeats 1000000
namespace H68
open PySem PySem.Spec PyProof.Rows L2 KB
local macro_rules | `(tactic| walk_at "kb1") => `(tactic| with_reducible first
  | refine i_var rfl ?_ | refine i_c ?_ | refine i_cons ?_ | refine i_nil ?_ | refine i_op ?_ | refine i_seq ?_ | refine i_if ?_ | refine i_ret ?_ | refine i_asg ?_ | refine i_name ?_ | refine i_next ?_ | refine i_drop ?_
  | refine i_un ?_ | refine i_cb ?_ | refine i_cal ?_ | refine i_calM ?_ | refine i_test ?_ | refine i_tb ?_ | refine i_k ?_ | refine i_not ?_ | refine i_and ?_ | refine i_or ?_ | refine i_andV ?_ | refine i_orV ?_ | refine i_notV ?_ | refine i_ife ?_
  | refine i_isN ?_ | refine i_notN ?_ | refine i_chain ?_ | refine i_tup ?_ | refine i_lst ?_ | refine i_sl ?_ | refine i_noPart ?_ | refine i_part ?_ | refine i_ik ?_ | refine i_sk ?_ | refine i_bm0 ?_ | refine i_bm ?_ | refine i_m1 ?_ | refine i_m0 ?_ | refine i_fld ?_ | refine i_tru ?_
  | refine i_gC ?_ | refine i_gN ?_ | refine i_for0L ?_ | refine i_for0E ?_ | refine i_for0R ?_ | refine i_lc0L ?_ | refine i_lc0S ?_ | refine i_lc0Z ?_ | refine i_tix ?_ | refine i_lorei ?_ | refine i_js0 ?_ | refine i_xf ?_ | refine i_calR ?_ | refine i_calRS ?_ | refine i_calS ?_ | refine i_for0R3 ?_ | refine i_mak ?_ | refine i_dget ?_ | refine i_din ?_ | refine i_dnotin ?_ | refine i_dput ?_ | refine i_dnewT ?_ | refine i_sub ?_ | refine i_rng1 ?_ | refine i_rng2 ?_ | refine i_rev ?_ | refine i_replC ?_ | refine i_lenset ?_ | refine i_mS ?_ | refine i_js ?_ | refine i_fmt ?_ | refine i_par ?_ | refine i_v2 ?_ | refine i_par3 ?_ | refine i_v3 ?_ | refine i_mkO ?_ | refine i_ost ?_ | refine i_sFld ?_ | refine i_yes ?_ | refine i_dget1 ?_ | refine i_dnewK ?_ | refine i_dpop1 ?_ | refine i_ndnew ?_ | refine i_nget2 ?_ | refine i_nsetd ?_ | refine i_nix ?_ | refine i_nput ?_ | refine i_listItems ?_ | refine i_for0Nv ?_ | refine i_lc0Nk ?_ | refine i_dstar ?_ | refine i_lc20L ?_ | refine i_sp1 ?_ | refine i_sp2 ?_ | refine i_sp3 ?_ | refine i_sp4 ?_)
local macro_rules | `(tactic| walk_at "dr") => `(tactic| first
  | assumption | exact Dr.non | exact Dr.bl _ | exact Dr.int _ | exact Dr.str _ | exact Dr.tup (by assumption) (by assumption) | exact Dr.lst (by assumption) (by assumption) | exact Dr.dic (by assumption) | exact Im.dr (by assumption))
local macro_rules | `(tactic| walk_at "if") => `(tactic| first
  | ((with_reducible refine i_iT ?_ ?_); · rfl) | ((with_reducible refine i_iF ?_ ?_); · rfl))
local macro_rules | `(tactic| walk_at "isi") => `(tactic| ((with_reducible show rIsiU _ _ _ _); first
  | (with_reducible refine j_isTup (by walk_at "dr") ?_) | (with_reducible refine j_isLst (by walk_at "dr") ?_) | (with_reducible refine j_isStr (by walk_at "dr") ?_)
  | (with_reducible refine j_isBl (by walk_at "dr") ?_) | (with_reducible refine j_isInt (by walk_at "dr") ?_)))
local macro_rules | `(tactic| walk_at "op") => `(tactic| with_reducible first
  | refine i_rI0 ?_ | refine i_addI ?_ | refine i_rU ?_ | refine i_ltI ?_ | refine i_inC ?_ | refine i_notInC ?_ | refine i_intI ?_ | refine i_intB ?_ | refine i_abs ?_ | refine i_max2 ?_ | refine i_min2 ?_ | refine i_isBl ?_
  | (refine i_eqS rfl ?_) | (refine i_neS rfl ?_))
local macro_rules | `(tactic| walk_at "wp") => `(tactic| ((with_reducible refine i_wp ?_ ?_); · rfl))
local macro_rules | `(tactic| walk_at "sx") => `(tactic| repeat first | walk_at "kb1" | walk_at "if" | walk_at "isi" | walk_at "op" | walk_at "wp")
local macro_rules | `(tactic| walk_at "cd") => `(tactic| refine ⟨_, (by walk_at "dr"), ?_⟩)
local macro_rules | `(tactic| walk_at "len") => `(tactic| (simp only [List.length_cons, List.length_nil]; decide))
local macro_rules | `(tactic| walk_at "ic") => `(tactic| first
  | ((with_reducible refine i_iT ?_ ?_); · first | with_reducible rfl | (simp only [Bool.not_true, Bool.not_false, isTupD, isLstD, isStrD, isBlD, isIntD, isSeqD]; done))
  | ((with_reducible refine i_iF ?_ ?_); · first | with_reducible rfl | (simp only [Bool.not_true, Bool.not_false, isTupD, isLstD, isStrD, isBlD, isIntD, isSeqD]; done)))
local macro_rules | `(tactic| walk_at "sy") => `(tactic| repeat first | walk_at "kb1" | walk_at "ic" | walk_at "isi" | walk_at "op" | walk_at "wp")
theorem sc_law_near : FnScope ["box", "formula", "deep", "wide", "turn", "found"] ["box", "formula"] (defScope s_law_near) := ⟨rfl, rfl, rfl, by decide +kernel, rfl, by decide +kernel, by decide +kernel⟩
theorem ok_law_near {P : Program} {w : World} {K : PySem.W.Frag} {mg : Str → Option Value} {base : Heap} (T : Tx K mg)
    (C_law_take : Cn P w K mg base 1 (He.fAd K ("_law_take", none)) ["box", "size"] (sp_law_take K)) :
    Cn P w K mg base 2 (He.fAd K ("_law_near", none)) ["box", "formula"] (sp_law_near K) := by
  refine cnN (d := d_law_near) T.st_law_near sc_law_near sp2_len (fun _ _ _ _ _ _ us hl => match us, hl with | [_, _], _ => rfl) (fun cdv A outer s H vs Q E hr h => ?_)
  obtain ⟨v_box, v_formula, rfl, h⟩ := h
  refine ⟨_, (pss_cons (ps_par rfl sc_law_near.nd (i := 2) (j := 3) rfl rfl (by decide) rfl rfl (pa_cons (pv 1) (pa_cons (pv 1) pa_nil)) (by rfl))
  (pss_cons (ps_for PassesOwn.never rfl (pi_range1 (by rfl) T.f_range (pa_cons (pe_cn C_law_take hr (by decide) (by rfl) T.g_law_take passN (pa_cons (pv 0) (pa_cons pe_int pa_nil))) pa_nil)) (pg_name (i := 4) sc_law_near.nd rfl (.inl rfl))
  (pss_one (ps_set (i := 2) sc_law_near.nd rfl (.inl rfl) (pe_tup (pa_cons pe_str (pa_cons (pv 2) pa_nil))))))
  (pss_cons (ps_for PassesOwn.never rfl (pi_range1 (by rfl) T.f_range (pa_cons (pe_cn C_law_take hr (by decide) (by rfl) T.g_law_take passN (pa_cons (pv 0) (pa_cons pe_int pa_nil))) pa_nil)) (pg_name (i := 4) sc_law_near.nd rfl (.inl rfl))
  (pss_one (ps_set (i := 3) sc_law_near.nd rfl (.inl rfl) (pe_tup (pa_cons pe_str (pa_cons (pv 3) (pa_cons (pe_tup (pa_cons pe_str (pa_cons pe_str pa_nil))) pa_nil)))))))
  (pss_cons (ps_set (i := 5) sc_law_near.nd rfl (.inl rfl) (pe_lst (pa_cons (pv 1) (pa_cons (pv 2) (pa_cons (pv 3) (pa_cons (pe_tup (pa_cons pe_str (pa_cons (pv 3) (pa_cons (pv 3) pa_nil)))) (pa_cons (pe_callTy (c_list (K := K) rfl) (by rfl) T.f_list (by decide +kernel) (pa_cons (pv 1) pa_nil)) (pa_cons pe_non (pa_cons pe_int (pa_cons pe_str (pa_cons (pe_tup pa_nil) (pa_cons pe_dnewK (pa_cons (pe_tup (pa_cons pe_str pa_nil)) (pa_cons (pe_tup (pa_cons pe_str (pa_cons (pv 1) (pa_cons (pv 1) pa_nil)))) (pa_cons (pe_tup (pa_cons pe_str (pa_cons (pv 1) pa_nil))) (pa_cons (pe_tup (pa_cons pe_str (pa_cons (pv 1) (pa_cons pe_non pa_nil)))) pa_nil))))))))))))))))
  (pss_cons (ps_set (i := 5) sc_law_near.nd rfl (.inl rfl) (pe_op op_addU (pv 5) (pe_lst (pa_cons (pe_tup (pa_cons pe_str (pa_cons (pv 1) (pa_cons (pv 1) pa_nil)))) (pa_cons (pe_tup (pa_cons pe_str (pa_cons pe_str pa_nil))) (pa_cons (pe_tup (pa_cons pe_str (pa_cons pe_str (pa_cons pe_str pa_nil)))) (pa_cons (pe_tup (pa_cons pe_str (pa_cons pe_str (pa_cons pe_str pa_nil)))) (pa_cons (pe_tup (pa_cons pe_str (pa_cons pe_str (pa_cons pe_str pa_nil)))) (pa_cons (pe_tup (pa_cons pe_str (pa_cons pe_str pa_nil))) (pa_cons (pe_tup (pa_cons pe_str (pa_cons pe_str (pa_cons pe_str pa_nil)))) (pa_cons (pe_tup (pa_cons pe_str pa_nil)) (pa_cons (pe_tup (pa_cons pe_str (pa_cons pe_int (pa_cons pe_str pa_nil)))) pa_nil))))))))))))
  (pss_cons (ps_set (i := 5) sc_law_near.nd rfl (.inl rfl) (pe_op op_addU (pv 5) (pe_lst (pa_cons (pe_tup (pa_cons pe_str (pa_cons pe_str (pa_cons pe_non pa_nil)))) (pa_cons (pe_tup (pa_cons pe_str (pa_cons pe_str (pa_cons pe_str pa_nil)))) (pa_cons (pe_tup (pa_cons pe_str (pa_cons pe_str (pa_cons pe_str pa_nil)))) (pa_cons (pe_tup (pa_cons pe_str (pa_cons pe_str (pa_cons pe_str pa_nil)))) (pa_cons (pe_tup (pa_cons pe_str (pa_cons (pe_lst (pa_cons (pv 1) pa_nil)) pa_nil))) (pa_cons (pe_tup (pa_cons pe_non (pa_cons (pv 1) pa_nil))) (pa_cons (pe_tup (pa_cons pe_str (pa_cons (pv 1) (pa_cons (pv 1) pa_nil)))) pa_nil))))))))))
  (pss_one (ps_ret (pv 5))))))))), ?_⟩
  rw [show start ["box", "formula", "deep", "wide", "turn", "found"] [v_box, v_formula] = [some v_box, some v_formula, none, none, none, none] from rfl]
  obtain ⟨x, F, f, rfl, hB, hf, hD, q⟩ := h
  have hlev := hD.lev
  walk_at "sx"
  refine ⟨x, _, rfl, hB, rfl, by decide, by decide, fun r1 H1 r10 r11 sb1 hB1 => ?_⟩
  walk_at "sx"
  refine i_forR (fun i σ H' => ∃ (vd : V) (y : Option V), σ = [some (.ref x), some v_formula, some vd, some v_formula, y, none] ∧ SameBut x H H' ∧ Box H' x ∧ Im H' vd (deepF f i).d ∧ i ≤ 6) (by omega) ?_ ?_ ?_
  · exact ⟨v_formula, _, rfl, sb1, hB1, hf.mono (hB.tq sb1), by omega⟩
  · rintro i σ H' hi ⟨vd, y, rfl, s, hb, im, hi6⟩
    walk_at "sx"
    refine ⟨by walk_at "len", fun p hp => ?_⟩
    have sn := Same.new (o := .tup [.str "not", vd]) hp
    walk_at "sx"
    exact ⟨_, _, rfl, SameBut.trans s (Same.but sn), hb.same sn, .tup upd_same (.cons (.str _) (.one (im.mono (Same.tq sn)))), by omega⟩
  · rintro σ H2 ⟨vd, y, rfl, sb2, hB2, imd, hi6⟩
    walk_at "sx"
    refine ⟨x, _, rfl, hB2, rfl, by decide, by decide, fun r2 H3 r20 r21 sb3 hB3 => ?_⟩
    walk_at "sx"
    refine i_forR (fun i σ H' => ∃ (vw : V) (y : Option V), σ = [some (.ref x), some v_formula, some vd, some vw, y, none] ∧ SameBut x H H' ∧ SameBut x H2 H' ∧ Box H' x ∧ Im H' vw (wideA f i).d) (by omega) ?_ ?_ ?_
    · exact ⟨v_formula, _, rfl, SameBut.trans sb2 sb3, sb3, hB3, hf.mono (hB.tq (SameBut.trans sb2 sb3))⟩
    · rintro i σ H' hi ⟨vw, y, rfl, s, s2, hb, im⟩
      walk_at "sx"
      refine ⟨by walk_at "len", fun p hp => ?_⟩
      have sn := Same.new (o := .tup [.str "silent", .str "a"]) hp
      walk_at "sx"
      refine ⟨by walk_at "len", fun p2 hp2 => ?_⟩
      have sn2 := Same.new (o := .tup [.str "and", vw, .ref p]) hp2
      walk_at "sx"
      exact ⟨_, _, rfl, SameBut.trans s (Same.but (sn.trans sn2)), SameBut.trans s2 (Same.but (sn.trans sn2)), hb.same (sn.trans sn2), .tup upd_same (.cons (.str _) (.cons (im.mono (Same.tq (sn.trans sn2))) (.one (.tup (sn2 _ _ upd_same) (.cons (.str _) (.one (.str _)))))))⟩
    · rintro σ G0 ⟨vw, y, rfl, sbG, sb2G, hBG, imw⟩
      generalize eD : (deepF f r1.toNat) = fd at imd
      generalize eW : (wideA f r2.toNat) = fw at imw
      have hf := hf.mono (hB.tq sbG)
      have imd := imd.mono (hB2.tq sb2G)
      have okf : okD 6 f.d := Fm.okD_at hD.ok 5 hD.lev
      have okd : okD 12 fd.d := by
        obtain ⟨h1, h2⟩ := deep_ok hD.ok r1.toNat
        rw [eD] at h1 h2
        exact Fm.okD_at h1 11 (by omega)
      have okw : okD 9 fw.d := by
        obtain ⟨h1, h2⟩ := wide_ok hD.ok r2.toNat
        rw [eW] at h1 h2
        exact Fm.okD_at h1 8 (by omega)
      have okw2 : okD 10 (Fm.two true fw fw).d := by
        obtain ⟨h1, h2⟩ := wide_ok hD.ok r2.toNat
        rw [eW] at h1 h2
        exact Fm.okD_at (f := .two true fw fw) (Bool.and_eq_true_iff.mpr ⟨h1, h1⟩) 9 (by show max fw.lev fw.lev + 1 ≤ 9; omega)
      obtain ⟨dsF, edF, hdl⟩ := fm_tup f
      obtain ⟨aF, vF, rfl, haF0, alF⟩ := im_tup (by rw [← edF]; exact hf)
      have okds : ∀ d ∈ dsF, okD 5 d := by
        rw [edF] at okf
        exact okf.2
      walk_at "sx"
      refine ⟨by walk_at "len", fun p1 hp1 => ?_⟩
      have t1 := Same.new (o := .tup [.str "or", vw, vw]) hp1
      have f1 : upd G0 p1 (.tup [.str "or", vw, vw]) p1 = _ := upd_same
      generalize upd G0 p1 (.tup [.str "or", vw, vw]) = G1 at t1 f1 ⊢
      have haF1 := t1 _ _ haF0
      walk_at "sx"
      refine i_listT (.inl (.inl (haF1))) fun p2 hp2 => ?_
      have t2 := Same.new (o := .lst vF) hp2
      have f2 : upd G1 p2 (.lst vF) p2 = _ := upd_same
      generalize upd G1 p2 (.lst vF) = G2 at t2 f2 ⊢
      have haF2 := t2 _ _ haF1
      walk_at "sx"
      refine ⟨by walk_at "len", fun p3 hp3 => ?_⟩
      have t3 := Same.new (o := .tup []) hp3
      have f3 : upd G2 p3 (.tup []) p3 = _ := upd_same
      generalize upd G2 p3 (.tup []) = G3 at t3 f3 ⊢
      have haF3 := t3 _ _ haF2
      walk_at "sx"
      intro p4 hp4
      have t4 := Same.new (o := .dK []) hp4
      have f4 : upd G3 p4 (.dK []) p4 = _ := upd_same
      generalize upd G3 p4 (.dK []) = G4 at t4 f4 ⊢
      have haF4 := t4 _ _ haF3
      walk_at "sx"
      refine ⟨by walk_at "len", fun p5 hp5 => ?_⟩
      have t5 := Same.new (o := .tup [.str "not"]) hp5
      have f5 : upd G4 p5 (.tup [.str "not"]) p5 = _ := upd_same
      generalize upd G4 p5 (.tup [.str "not"]) = G5 at t5 f5 ⊢
      have haF5 := t5 _ _ haF4
      walk_at "sx"
      refine ⟨by walk_at "len", fun p6 hp6 => ?_⟩
      have t6 := Same.new (o := .tup [.str "not", .ref aF, .ref aF]) hp6
      have f6 : upd G5 p6 (.tup [.str "not", .ref aF, .ref aF]) p6 = _ := upd_same
      generalize upd G5 p6 (.tup [.str "not", .ref aF, .ref aF]) = G6 at t6 f6 ⊢
      have haF6 := t6 _ _ haF5
      walk_at "sx"
      refine ⟨by walk_at "len", fun p7 hp7 => ?_⟩
      have t7 := Same.new (o := .tup [.str "and", .ref aF]) hp7
      have f7 : upd G6 p7 (.tup [.str "and", .ref aF]) p7 = _ := upd_same
      generalize upd G6 p7 (.tup [.str "and", .ref aF]) = G7 at t7 f7 ⊢
      have haF7 := t7 _ _ haF6
      walk_at "sx"
      refine ⟨by walk_at "len", fun p8 hp8 => ?_⟩
      have t8 := Same.new (o := .tup [.str "and", .ref aF, .non]) hp8
      have f8 : upd G7 p8 (.tup [.str "and", .ref aF, .non]) p8 = _ := upd_same
      generalize upd G7 p8 (.tup [.str "and", .ref aF, .non]) = G8 at t8 f8 ⊢
      have haF8 := t8 _ _ haF7
      walk_at "sx"
      refine ⟨by walk_at "len", fun p9 hp9 => ?_⟩
      have t9 := Same.new (o := .lst [.ref aF, vd, vw, .ref p1, .ref p2, .non, .int 5, .str "silent a", .ref p3, .ref p4, .ref p5, .ref p6, .ref p7, .ref p8]) hp9
      have f9 : upd G8 p9 (.lst [.ref aF, vd, vw, .ref p1, .ref p2, .non, .int 5, .str "silent a", .ref p3, .ref p4, .ref p5, .ref p6, .ref p7, .ref p8]) p9 = _ := upd_same
      generalize upd G8 p9 (.lst [.ref aF, vd, vw, .ref p1, .ref p2, .non, .int 5, .str "silent a", .ref p3, .ref p4, .ref p5, .ref p6, .ref p7, .ref p8]) = G9 at t9 f9 ⊢
      have haF9 := t9 _ _ haF8
      walk_at "sx"
      refine ⟨by walk_at "len", fun p10 hp10 => ?_⟩
      have t10 := Same.new (o := .tup [.str "xor", .ref aF, .ref aF]) hp10
      have f10 : upd G9 p10 (.tup [.str "xor", .ref aF, .ref aF]) p10 = _ := upd_same
      generalize upd G9 p10 (.tup [.str "xor", .ref aF, .ref aF]) = G10 at t10 f10 ⊢
      have haF10 := t10 _ _ haF9
      walk_at "sx"
      refine ⟨by walk_at "len", fun p11 hp11 => ?_⟩
      have t11 := Same.new (o := .tup [.str "is", .str "a"]) hp11
      have f11 : upd G10 p11 (.tup [.str "is", .str "a"]) p11 = _ := upd_same
      generalize upd G10 p11 (.tup [.str "is", .str "a"]) = G11 at t11 f11 ⊢
      have haF11 := t11 _ _ haF10
      walk_at "sx"
      refine ⟨by walk_at "len", fun p12 hp12 => ?_⟩
      have t12 := Same.new (o := .tup [.str "is", .str "a", .str "R"]) hp12
      have f12 : upd G11 p12 (.tup [.str "is", .str "a", .str "R"]) p12 = _ := upd_same
      generalize upd G11 p12 (.tup [.str "is", .str "a", .str "R"]) = G12 at t12 f12 ⊢
      have haF12 := t12 _ _ haF11
      walk_at "sx"
      refine ⟨by walk_at "len", fun p13 hp13 => ?_⟩
      have t13 := Same.new (o := .tup [.str "is", .str "all", .str "r"]) hp13
      have f13 : upd G12 p13 (.tup [.str "is", .str "all", .str "r"]) p13 = _ := upd_same
      generalize upd G12 p13 (.tup [.str "is", .str "all", .str "r"]) = G13 at t13 f13 ⊢
      have haF13 := t13 _ _ haF12
      walk_at "sx"
      refine ⟨by walk_at "len", fun p14 hp14 => ?_⟩
      have t14 := Same.new (o := .tup [.str "is", .str "a", .str ""]) hp14
      have f14 : upd G13 p14 (.tup [.str "is", .str "a", .str ""]) p14 = _ := upd_same
      generalize upd G13 p14 (.tup [.str "is", .str "a", .str ""]) = G14 at t14 f14 ⊢
      have haF14 := t14 _ _ haF13
      walk_at "sx"
      refine ⟨by walk_at "len", fun p15 hp15 => ?_⟩
      have t15 := Same.new (o := .tup [.str "silent", .str "A"]) hp15
      have f15 : upd G14 p15 (.tup [.str "silent", .str "A"]) p15 = _ := upd_same
      generalize upd G14 p15 (.tup [.str "silent", .str "A"]) = G15 at t15 f15 ⊢
      have haF15 := t15 _ _ haF14
      walk_at "sx"
      refine ⟨by walk_at "len", fun p16 hp16 => ?_⟩
      have t16 := Same.new (o := .tup [.str "silent", .str "a", .str "r"]) hp16
      have f16 : upd G15 p16 (.tup [.str "silent", .str "a", .str "r"]) p16 = _ := upd_same
      generalize upd G15 p16 (.tup [.str "silent", .str "a", .str "r"]) = G16 at t16 f16 ⊢
      have haF16 := t16 _ _ haF15
      walk_at "sx"
      refine ⟨by walk_at "len", fun p17 hp17 => ?_⟩
      have t17 := Same.new (o := .tup [.str "silent"]) hp17
      have f17 : upd G16 p17 (.tup [.str "silent"]) p17 = _ := upd_same
      generalize upd G16 p17 (.tup [.str "silent"]) = G17 at t17 f17 ⊢
      have haF17 := t17 _ _ haF16
      walk_at "sx"
      refine ⟨by walk_at "len", fun p18 hp18 => ?_⟩
      have t18 := Same.new (o := .tup [.str "is", .int 5, .str "r"]) hp18
      have f18 : upd G17 p18 (.tup [.str "is", .int 5, .str "r"]) p18 = _ := upd_same
      generalize upd G17 p18 (.tup [.str "is", .int 5, .str "r"]) = G18 at t18 f18 ⊢
      have haF18 := t18 _ _ haF17
      walk_at "sx"
      refine ⟨by walk_at "len", fun p19 hp19 => ?_⟩
      have t19 := Same.new (o := .lst [.ref p10, .ref p11, .ref p12, .ref p13, .ref p14, .ref p15, .ref p16, .ref p17, .ref p18]) hp19
      have f19 : upd G18 p19 (.lst [.ref p10, .ref p11, .ref p12, .ref p13, .ref p14, .ref p15, .ref p16, .ref p17, .ref p18]) p19 = _ := upd_same
      generalize upd G18 p19 (.lst [.ref p10, .ref p11, .ref p12, .ref p13, .ref p14, .ref p15, .ref p16, .ref p17, .ref p18]) = G19 at t19 f19 ⊢
      have haF19 := t19 _ _ haF18
      walk_at "sx"
      refine i_addL (t19 _ _ (t18 _ _ (t17 _ _ (t16 _ _ (t15 _ _ (t14 _ _ (t13 _ _ (t12 _ _ (t11 _ _ (t10 _ _ (f9))))))))))) (f19) (by rw [sizeLine_eq]; simp) fun p20 hp20 => ?_
      have t20 := Same.new (o := .lst ([.ref aF, vd, vw, .ref p1, .ref p2, .non, .int 5, .str "silent a", .ref p3, .ref p4, .ref p5, .ref p6, .ref p7, .ref p8] ++ [.ref p10, .ref p11, .ref p12, .ref p13, .ref p14, .ref p15, .ref p16, .ref p17, .ref p18])) hp20
      have f20 : upd G19 p20 (.lst ([.ref aF, vd, vw, .ref p1, .ref p2, .non, .int 5, .str "silent a", .ref p3, .ref p4, .ref p5, .ref p6, .ref p7, .ref p8] ++ [.ref p10, .ref p11, .ref p12, .ref p13, .ref p14, .ref p15, .ref p16, .ref p17, .ref p18])) p20 = _ := upd_same
      generalize upd G19 p20 (.lst ([.ref aF, vd, vw, .ref p1, .ref p2, .non, .int 5, .str "silent a", .ref p3, .ref p4, .ref p5, .ref p6, .ref p7, .ref p8] ++ [.ref p10, .ref p11, .ref p12, .ref p13, .ref p14, .ref p15, .ref p16, .ref p17, .ref p18])) = G20 at t20 f20 ⊢
      have haF20 := t20 _ _ haF19
      walk_at "sx"
      refine ⟨by walk_at "len", fun p21 hp21 => ?_⟩
      have t21 := Same.new (o := .tup [.str "is", .str "a", .non]) hp21
      have f21 : upd G20 p21 (.tup [.str "is", .str "a", .non]) p21 = _ := upd_same
      generalize upd G20 p21 (.tup [.str "is", .str "a", .non]) = G21 at t21 f21 ⊢
      have haF21 := t21 _ _ haF20
      walk_at "sx"
      refine ⟨by walk_at "len", fun p22 hp22 => ?_⟩
      have t22 := Same.new (o := .tup [.str "is", .str "abcdefgh", .str "abcdefghijkl"]) hp22
      have f22 : upd G21 p22 (.tup [.str "is", .str "abcdefgh", .str "abcdefghijkl"]) p22 = _ := upd_same
      generalize upd G21 p22 (.tup [.str "is", .str "abcdefgh", .str "abcdefghijkl"]) = G22 at t22 f22 ⊢
      have haF22 := t22 _ _ haF21
      walk_at "sx"
      refine ⟨by walk_at "len", fun p23 hp23 => ?_⟩
      have t23 := Same.new (o := .tup [.str "is", .str "abcdefghi", .str "r"]) hp23
      have f23 : upd G22 p23 (.tup [.str "is", .str "abcdefghi", .str "r"]) p23 = _ := upd_same
      generalize upd G22 p23 (.tup [.str "is", .str "abcdefghi", .str "r"]) = G23 at t23 f23 ⊢
      have haF23 := t23 _ _ haF22
      walk_at "sx"
      refine ⟨by walk_at "len", fun p24 hp24 => ?_⟩
      have t24 := Same.new (o := .tup [.str "is", .str "a", .str "abcdefghijklm"]) hp24
      have f24 : upd G23 p24 (.tup [.str "is", .str "a", .str "abcdefghijklm"]) p24 = _ := upd_same
      generalize upd G23 p24 (.tup [.str "is", .str "a", .str "abcdefghijklm"]) = G24 at t24 f24 ⊢
      have haF24 := t24 _ _ haF23
      walk_at "sx"
      refine ⟨by walk_at "len", fun p25 hp25 => ?_⟩
      have t25 := Same.new (o := .lst [.ref aF]) hp25
      have f25 : upd G24 p25 (.lst [.ref aF]) p25 = _ := upd_same
      generalize upd G24 p25 (.lst [.ref aF]) = G25 at t25 f25 ⊢
      have haF25 := t25 _ _ haF24
      walk_at "sx"
      refine ⟨by walk_at "len", fun p26 hp26 => ?_⟩
      have t26 := Same.new (o := .tup [.str "not", .ref p25]) hp26
      have f26 : upd G25 p26 (.tup [.str "not", .ref p25]) p26 = _ := upd_same
      generalize upd G25 p26 (.tup [.str "not", .ref p25]) = G26 at t26 f26 ⊢
      have haF26 := t26 _ _ haF25
      walk_at "sx"
      refine ⟨by walk_at "len", fun p27 hp27 => ?_⟩
      have t27 := Same.new (o := .tup [.non, .ref aF]) hp27
      have f27 : upd G26 p27 (.tup [.non, .ref aF]) p27 = _ := upd_same
      generalize upd G26 p27 (.tup [.non, .ref aF]) = G27 at t27 f27 ⊢
      have haF27 := t27 _ _ haF26
      walk_at "sx"
      refine ⟨by walk_at "len", fun p28 hp28 => ?_⟩
      have t28 := Same.new (o := .tup [.str "or", .ref aF, .ref aF]) hp28
      have f28 : upd G27 p28 (.tup [.str "or", .ref aF, .ref aF]) p28 = _ := upd_same
      generalize upd G27 p28 (.tup [.str "or", .ref aF, .ref aF]) = G28 at t28 f28 ⊢
      have haF28 := t28 _ _ haF27
      walk_at "sx"
      refine ⟨by walk_at "len", fun p29 hp29 => ?_⟩
      have t29 := Same.new (o := .lst [.ref p21, .ref p22, .ref p23, .ref p24, .ref p26, .ref p27, .ref p28]) hp29
      have f29 : upd G28 p29 (.lst [.ref p21, .ref p22, .ref p23, .ref p24, .ref p26, .ref p27, .ref p28]) p29 = _ := upd_same
      generalize upd G28 p29 (.lst [.ref p21, .ref p22, .ref p23, .ref p24, .ref p26, .ref p27, .ref p28]) = G29 at t29 f29 ⊢
      have haF29 := t29 _ _ haF28
      walk_at "sx"
      refine i_addL (t29 _ _ (t28 _ _ (t27 _ _ (t26 _ _ (t25 _ _ (t24 _ _ (t23 _ _ (t22 _ _ (t21 _ _ (f20)))))))))) (f29) (by rw [sizeLine_eq]; simp) fun p30 hp30 => ?_
      have t30 := Same.new (o := .lst (([.ref aF, vd, vw, .ref p1, .ref p2, .non, .int 5, .str "silent a", .ref p3, .ref p4, .ref p5, .ref p6, .ref p7, .ref p8] ++ [.ref p10, .ref p11, .ref p12, .ref p13, .ref p14, .ref p15, .ref p16, .ref p17, .ref p18]) ++ [.ref p21, .ref p22, .ref p23, .ref p24, .ref p26, .ref p27, .ref p28])) hp30
      have f30 : upd G29 p30 (.lst (([.ref aF, vd, vw, .ref p1, .ref p2, .non, .int 5, .str "silent a", .ref p3, .ref p4, .ref p5, .ref p6, .ref p7, .ref p8] ++ [.ref p10, .ref p11, .ref p12, .ref p13, .ref p14, .ref p15, .ref p16, .ref p17, .ref p18]) ++ [.ref p21, .ref p22, .ref p23, .ref p24, .ref p26, .ref p27, .ref p28])) p30 = _ := upd_same
      generalize upd G29 p30 (.lst (([.ref aF, vd, vw, .ref p1, .ref p2, .non, .int 5, .str "silent a", .ref p3, .ref p4, .ref p5, .ref p6, .ref p7, .ref p8] ++ [.ref p10, .ref p11, .ref p12, .ref p13, .ref p14, .ref p15, .ref p16, .ref p17, .ref p18]) ++ [.ref p21, .ref p22, .ref p23, .ref p24, .ref p26, .ref p27, .ref p28])) = G30 at t30 f30 ⊢
      have haF30 := t30 _ _ haF29
      walk_at "sx"
      have u30 : Same G30 G30 := fun _ _ e => e
      have u29 : Same G29 G30 := t30.trans u30
      have u28 : Same G28 G30 := t29.trans u29
      have u27 : Same G27 G30 := t28.trans u28
      have u26 : Same G26 G30 := t27.trans u27
      have u25 : Same G25 G30 := t26.trans u26
      have u24 : Same G24 G30 := t25.trans u25
      have u23 : Same G23 G30 := t24.trans u24
      have u22 : Same G22 G30 := t23.trans u23
      have u21 : Same G21 G30 := t22.trans u22
      have u20 : Same G20 G30 := t21.trans u21
      have u19 : Same G19 G30 := t20.trans u20
      have u18 : Same G18 G30 := t19.trans u19
      have u17 : Same G17 G30 := t18.trans u18
      have u16 : Same G16 G30 := t17.trans u17
      have u15 : Same G15 G30 := t16.trans u16
      have u14 : Same G14 G30 := t15.trans u15
      have u13 : Same G13 G30 := t14.trans u14
      have u12 : Same G12 G30 := t13.trans u13
      have u11 : Same G11 G30 := t12.trans u12
      have u10 : Same G10 G30 := t11.trans u11
      have u9 : Same G9 G30 := t10.trans u10
      have u8 : Same G8 G30 := t9.trans u9
      have u7 : Same G7 G30 := t8.trans u8
      have u6 : Same G6 G30 := t7.trans u7
      have u5 : Same G5 G30 := t6.trans u6
      have u4 : Same G4 G30 := t5.trans u5
      have u3 : Same G3 G30 := t4.trans u4
      have u2 : Same G2 G30 := t3.trans u3
      have u1 : Same G1 G30 := t2.trans u2
      have u0 : Same G0 G30 := t1.trans u1
      refine q _ _ _ (SameBut.trans sbG (Same.but u0)) (hBG.same u0) f30 (fun v hv => ?_) (by simp)
      simp only [List.mem_append, List.mem_cons, List.not_mem_nil, or_false] at hv
      rcases hv with ((rfl | rfl | rfl | rfl | rfl | rfl | rfl | rfl | rfl | rfl | rfl | rfl | rfl | rfl) | (rfl | rfl | rfl | rfl | rfl | rfl | rfl | rfl | rfl)) | (rfl | rfl | rfl | rfl | rfl | rfl | rfl)
      · exact near_im (hf.mono (Same.tq u0)) (okD_le (by decide) okf)
      · exact near_im (imd.mono (Same.tq u0)) okd
      · exact near_im (imw.mono (Same.tq u0)) (okD_le (by decide) okw)
      · exact near_im (.tup (u1 _ _ f1) (.cons (.str _) (.cons (imw.mono (Same.tq u0)) (.one (imw.mono (Same.tq u0)))))) (okD_le (by decide) okw2)
      · exact ⟨.list dsF, .lst (u2 _ _ f2) (alF.mono (Same.tq u0)).dr, .inl ⟨by omega, fun d hd => okD_le (by decide) (okds d hd)⟩, fun _ => .lst (u2 _ _ f2) (alF.mono (Same.tq u0)), fun ds e => by cases e; omega⟩
      · exact near_im .non trivial
      · exact near_im (.int _) trivial
      · exact near_im (.str _) (sm_s (by decide +kernel))
      · exact near_im (.tup (u3 _ _ f3) .nil) (okD_tup (by simp) fun d hd => (List.not_mem_nil hd).elim)
      · exact ⟨.dict [], .dic (u4 _ _ f4), .inr rfl, fun e => (by cases e), fun ds e => by cases e⟩
      · exact near_im (.tup (u5 _ _ f5) (.cons (.str _) .nil)) (okD_tup (by simp) fun d hd => by simp only [List.mem_cons, List.not_mem_nil, or_false] at hd; subst hd; exact sm_s (by decide +kernel))
      · exact near_im (.tup (u6 _ _ f6) (.cons (.str _) (.cons (hf.mono (Same.tq u0)) (.cons (hf.mono (Same.tq u0)) .nil)))) (okD_tup (by simp) fun d hd => by simp only [List.mem_cons, List.not_mem_nil, or_false] at hd; simp only [or_self] at hd; rcases hd with rfl | rfl; exact sm_s (by decide +kernel); exact okD_le (by decide) okf)
      · exact near_im (.tup (u7 _ _ f7) (.cons (.str _) (.cons (hf.mono (Same.tq u0)) .nil))) (okD_tup (by simp) fun d hd => by simp only [List.mem_cons, List.not_mem_nil, or_false] at hd; rcases hd with rfl | rfl; exact sm_s (by decide +kernel); exact okD_le (by decide) okf)
      · exact near_im (.tup (u8 _ _ f8) (.cons (.str _) (.cons (hf.mono (Same.tq u0)) (.cons .non .nil)))) (okD_tup (by simp) fun d hd => by simp only [List.mem_cons, List.not_mem_nil, or_false] at hd; rcases hd with rfl | rfl | rfl; exact sm_s (by decide +kernel); exact okD_le (by decide) okf; trivial)
      · exact near_im (.tup (u10 _ _ f10) (.cons (.str _) (.cons (hf.mono (Same.tq u0)) (.cons (hf.mono (Same.tq u0)) .nil)))) (okD_tup (by simp) fun d hd => by simp only [List.mem_cons, List.not_mem_nil, or_false] at hd; simp only [or_self] at hd; rcases hd with rfl | rfl; exact sm_s (by decide +kernel); exact okD_le (by decide) okf)
      · exact near_im (.tup (u11 _ _ f11) (.cons (.str _) (.cons (.str _) .nil))) (okD_tup (by simp) fun d hd => by simp only [List.mem_cons, List.not_mem_nil, or_false] at hd; rcases hd with rfl | rfl; exact sm_s (by decide +kernel); exact sm_s (by decide +kernel))
      · exact near_im (.tup (u12 _ _ f12) (.cons (.str _) (.cons (.str _) (.cons (.str _) .nil)))) (okD_tup (by simp) fun d hd => by simp only [List.mem_cons, List.not_mem_nil, or_false] at hd; rcases hd with rfl | rfl | rfl; exact sm_s (by decide +kernel); exact sm_s (by decide +kernel); exact sm_s (by decide +kernel))
      · exact near_im (.tup (u13 _ _ f13) (.cons (.str _) (.cons (.str _) (.cons (.str _) .nil)))) (okD_tup (by simp) fun d hd => by simp only [List.mem_cons, List.not_mem_nil, or_false] at hd; rcases hd with rfl | rfl | rfl; exact sm_s (by decide +kernel); exact sm_s (by decide +kernel); exact sm_s (by decide +kernel))
      · exact near_im (.tup (u14 _ _ f14) (.cons (.str _) (.cons (.str _) (.cons (.str _) .nil)))) (okD_tup (by simp) fun d hd => by simp only [List.mem_cons, List.not_mem_nil, or_false] at hd; rcases hd with rfl | rfl | rfl; exact sm_s (by decide +kernel); exact sm_s (by decide +kernel); exact sm_s (by decide +kernel))
      · exact near_im (.tup (u15 _ _ f15) (.cons (.str _) (.cons (.str _) .nil))) (okD_tup (by simp) fun d hd => by simp only [List.mem_cons, List.not_mem_nil, or_false] at hd; rcases hd with rfl | rfl; exact sm_s (by decide +kernel); exact sm_s (by decide +kernel))
      · exact near_im (.tup (u16 _ _ f16) (.cons (.str _) (.cons (.str _) (.cons (.str _) .nil)))) (okD_tup (by simp) fun d hd => by simp only [List.mem_cons, List.not_mem_nil, or_false] at hd; rcases hd with rfl | rfl | rfl; exact sm_s (by decide +kernel); exact sm_s (by decide +kernel); exact sm_s (by decide +kernel))
      · exact near_im (.tup (u17 _ _ f17) (.cons (.str _) .nil)) (okD_tup (by simp) fun d hd => by simp only [List.mem_cons, List.not_mem_nil, or_false] at hd; subst hd; exact sm_s (by decide +kernel))
      · exact near_im (.tup (u18 _ _ f18) (.cons (.str _) (.cons (.int _) (.cons (.str _) .nil)))) (okD_tup (by simp) fun d hd => by simp only [List.mem_cons, List.not_mem_nil, or_false] at hd; rcases hd with rfl | rfl | rfl; exact sm_s (by decide +kernel); trivial; exact sm_s (by decide +kernel))
      · exact near_im (.tup (u21 _ _ f21) (.cons (.str _) (.cons (.str _) (.cons .non .nil)))) (okD_tup (by simp) fun d hd => by simp only [List.mem_cons, List.not_mem_nil, or_false] at hd; rcases hd with rfl | rfl | rfl; exact sm_s (by decide +kernel); exact sm_s (by decide +kernel); trivial)
      · exact near_im (.tup (u22 _ _ f22) (.cons (.str _) (.cons (.str _) (.cons (.str _) .nil)))) (okD_tup (by simp) fun d hd => by simp only [List.mem_cons, List.not_mem_nil, or_false] at hd; rcases hd with rfl | rfl | rfl; exact sm_s (by decide +kernel); exact sm_s (by decide +kernel); exact sm_s (by decide +kernel))
      · exact near_im (.tup (u23 _ _ f23) (.cons (.str _) (.cons (.str _) (.cons (.str _) .nil)))) (okD_tup (by simp) fun d hd => by simp only [List.mem_cons, List.not_mem_nil, or_false] at hd; rcases hd with rfl | rfl | rfl; exact sm_s (by decide +kernel); exact sm_s (by decide +kernel); exact sm_s (by decide +kernel))
      · exact near_im (.tup (u24 _ _ f24) (.cons (.str _) (.cons (.str _) (.cons (.str _) .nil)))) (okD_tup (by simp) fun d hd => by simp only [List.mem_cons, List.not_mem_nil, or_false] at hd; rcases hd with rfl | rfl | rfl; exact sm_s (by decide +kernel); exact sm_s (by decide +kernel); exact sm_s (by decide +kernel))
      · exact ⟨.tuple [.str "not", .list [f.d]], .tup (u26 _ _ f26) (.cons (.str _) (.cons (.lst (u25 _ _ f25) (.cons (hf.mono (Same.tq u0)).dr .nil)) .nil)), .inl (okD_tup (by simp) fun d hd => by simp only [List.mem_cons, List.not_mem_nil, or_false] at hd; rcases hd with rfl | rfl; exact sm_s (by decide +kernel); exact ⟨by simp, fun e he => by rw [List.mem_singleton.mp he]; exact okD_le (by decide) okf⟩), fun e => (by cases e), fun ds e => by cases e⟩
      · exact near_im (.tup (u27 _ _ f27) (.cons .non (.cons (hf.mono (Same.tq u0)) .nil))) (okD_tup (by simp) fun d hd => by simp only [List.mem_cons, List.not_mem_nil, or_false] at hd; rcases hd with rfl | rfl; trivial; exact okD_le (by decide) okf)
      · exact near_im (.tup (u28 _ _ f28) (.cons (.str _) (.cons (hf.mono (Same.tq u0)) (.cons (hf.mono (Same.tq u0)) .nil)))) (okD_tup (by simp) fun d hd => by simp only [List.mem_cons, List.not_mem_nil, or_false] at hd; simp only [or_self] at hd; rcases hd with rfl | rfl; exact sm_s (by decide +kernel); exact okD_le (by decide) okf)


end H68

set_option maxHeartbeats 1000000
namespace H68
open PySem PySem.Spec PyProof.Rows L2 KB
local macro_rules | `(tactic| walk_at "kb1") => `(tactic| with_reducible first
  | refine i_var rfl ?_ | refine i_c ?_ | refine i_cons ?_ | refine i_nil ?_ | refine i_op ?_ | refine i_seq ?_ | refine i_if ?_ | refine i_ret ?_ | refine i_asg ?_ | refine i_name ?_ | refine i_next ?_ | refine i_drop ?_
  | refine i_un ?_ | refine i_cb ?_ | refine i_cal ?_ | refine i_calM ?_ | refine i_test ?_ | refine i_tb ?_ | refine i_k ?_ | refine i_not ?_ | refine i_and ?_ | refine i_or ?_ | refine i_andV ?_ | refine i_orV ?_ | refine i_notV ?_ | refine i_ife ?_
  | refine i_isN ?_ | refine i_notN ?_ | refine i_chain ?_ | refine i_tup ?_ | refine i_lst ?_ | refine i_sl ?_ | refine i_noPart ?_ | refine i_part ?_ | refine i_ik ?_ | refine i_sk ?_ | refine i_bm0 ?_ | refine i_bm ?_ | refine i_m1 ?_ | refine i_m0 ?_ | refine i_fld ?_ | refine i_tru ?_
  | refine i_gC ?_ | refine i_gN ?_ | refine i_for0L ?_ | refine i_for0E ?_ | refine i_for0R ?_ | refine i_lc0L ?_ | refine i_lc0S ?_ | refine i_lc0Z ?_ | refine i_tix ?_ | refine i_lorei ?_ | refine i_js0 ?_ | refine i_xf ?_ | refine i_calR ?_ | refine i_calRS ?_ | refine i_calS ?_ | refine i_for0R3 ?_ | refine i_mak ?_ | refine i_dget ?_ | refine i_din ?_ | refine i_dnotin ?_ | refine i_dput ?_ | refine i_dnewT ?_ | refine i_sub ?_ | refine i_rng1 ?_ | refine i_rng2 ?_ | refine i_rev ?_ | refine i_replC ?_ | refine i_lenset ?_ | refine i_mS ?_ | refine i_js ?_ | refine i_fmt ?_ | refine i_par ?_ | refine i_v2 ?_ | refine i_par3 ?_ | refine i_v3 ?_ | refine i_mkO ?_ | refine i_ost ?_ | refine i_sFld ?_ | refine i_yes ?_ | refine i_dget1 ?_ | refine i_dnewK ?_ | refine i_dpop1 ?_ | refine i_ndnew ?_ | refine i_nget2 ?_ | refine i_nsetd ?_ | refine i_nix ?_ | refine i_nput ?_ | refine i_listItems ?_ | refine i_for0Nv ?_ | refine i_lc0Nk ?_ | refine i_dstar ?_ | refine i_lc20L ?_ | refine i_sp1 ?_ | refine i_sp2 ?_ | refine i_sp3 ?_ | refine i_sp4 ?_)
local macro_rules | `(tactic| walk_at "dr") => `(tactic| first
  | assumption | exact Dr.non | exact Dr.bl _ | exact Dr.int _ | exact Dr.str _ | exact Dr.tup (by assumption) (by assumption) | exact Dr.lst (by assumption) (by assumption) | exact Dr.dic (by assumption) | exact Im.dr (by assumption))
local macro_rules | `(tactic| walk_at "if") => `(tactic| first
  | ((with_reducible refine i_iT ?_ ?_); · rfl) | ((with_reducible refine i_iF ?_ ?_); · rfl))
local macro_rules | `(tactic| walk_at "isi") => `(tactic| ((with_reducible show rIsiU _ _ _ _); first
  | (with_reducible refine j_isTup (by walk_at "dr") ?_) | (with_reducible refine j_isLst (by walk_at "dr") ?_) | (with_reducible refine j_isStr (by walk_at "dr") ?_)
  | (with_reducible refine j_isBl (by walk_at "dr") ?_) | (with_reducible refine j_isInt (by walk_at "dr") ?_)))
local macro_rules | `(tactic| walk_at "op") => `(tactic| with_reducible first
  | refine i_rI0 ?_ | refine i_addI ?_ | refine i_rU ?_ | refine i_ltI ?_ | refine i_inC ?_ | refine i_notInC ?_ | refine i_intI ?_ | refine i_intB ?_ | refine i_abs ?_ | refine i_max2 ?_ | refine i_min2 ?_ | refine i_isBl ?_
  | (refine i_eqS rfl ?_) | (refine i_neS rfl ?_))
local macro_rules | `(tactic| walk_at "wp") => `(tactic| ((with_reducible refine i_wp ?_ ?_); · rfl))
local macro_rules | `(tactic| walk_at "sx") => `(tactic| repeat first | walk_at "kb1" | walk_at "if" | walk_at "isi" | walk_at "op" | walk_at "wp")
local macro_rules | `(tactic| walk_at "cd") => `(tactic| refine ⟨_, (by walk_at "dr"), ?_⟩)
local macro_rules | `(tactic| walk_at "len") => `(tactic| (simp only [List.length_cons, List.length_nil]; decide))
local macro_rules | `(tactic| walk_at "ic") => `(tactic| first
  | ((with_reducible refine i_iT ?_ ?_); · first | with_reducible rfl | (simp only [Bool.not_true, Bool.not_false, isTupD, isLstD, isStrD, isBlD, isIntD, isSeqD]; done))
  | ((with_reducible refine i_iF ?_ ?_); · first | with_reducible rfl | (simp only [Bool.not_true, Bool.not_false, isTupD, isLstD, isStrD, isBlD, isIntD, isSeqD]; done)))
local macro_rules | `(tactic| walk_at "sy") => `(tactic| repeat first | walk_at "kb1" | walk_at "ic" | walk_at "isi" | walk_at "op" | walk_at "wp")
theorem sc_law_asked : FnScope ["word", "formula", "readings", "by_name", "e"] ["word", "formula", "readings", "by_name"] (defScope s_law_asked) := ⟨rfl, rfl, rfl, by decide +kernel, rfl, by decide +kernel, by decide +kernel⟩
theorem ok_law_asked {P : Program} {w : World} {K : PySem.W.Frag} {mg : Str → Option Value} {base : Heap} (T : Tx K mg)
    (C_keys_of : CnR P w K mg base 13 (He.fAd K ("keys_of", none)) ["formula"] (sp_keys_of K))
    (C_matters : CnR P w K mg base 14 (He.fAd K ("matters", none)) ["formula"] (sp_matters K))
    (C_holds : CnR P w K mg base 13 (He.fAd K ("holds", none)) ["formula", "readings"] (sp_holds K)) :
    Cn P w K mg base 15 (He.fAd K ("_law_asked", none)) ["word", "formula", "readings", "by_name"] (sp_law_asked K) := by
  refine cnN (d := d_law_asked) T.st_law_asked sc_law_asked sp4_len (fun _ _ _ _ _ _ us hl => match us, hl with | [_, _, _, _], _ => rfl) (fun cdv A outer s H vs Q E hr h => ?_)
  obtain ⟨v_word, v_formula, v_readings, v_by_name, rfl, h⟩ := h
  refine ⟨_, (pss_one (ps_try_named (i := 4) (n := "e") rfl rfl sc_law_asked.nd rfl rfl takesN0 (fun W pn xe tk po => (pss_cons (ps_if (pt_cmpR (o_eq (K := K) rfl hr.units) (pv 0) pe_str (by rfl)) (pss_one (ps_ret (pe_lst (pa_cons pe_str (pa_cons (pe_ifExp (pt_val (pv 3)) (pe_cnRS C_keys_of hr (by decide) (by rfl) T.g_keys_of (fun σ => L2N.passAt tk σ) (pk_cons (pv 1) pk_nil)) (pe_cnS C_keys_of.cn hr (by decide) (by rfl) T.g_keys_of (fun σ => L2N.passAt tk σ) (pa_cons (pv 1) pa_nil))) pa_nil))))) pss_nil)
  (pss_cons (ps_if (pt_cmpR (o_eq (K := K) rfl hr.units) (pv 0) pe_str (by rfl)) (pss_one (ps_ret (pe_lst (pa_cons pe_str (pa_cons (pe_ifExp (pt_val (pv 3)) (pe_cnRS C_matters hr (by decide) (by rfl) T.g_matters (fun σ => L2N.passAt tk σ) (pk_cons (pv 1) pk_nil)) (pe_cnS C_matters.cn hr (by decide) (by rfl) T.g_matters (fun σ => L2N.passAt tk σ) (pa_cons (pv 1) pa_nil))) pa_nil))))) pss_nil)
  (pss_one (ps_ret (pe_lst (pa_cons pe_str (pa_cons (pe_ifExp (pt_val (pv 3)) (pe_cnRS C_holds hr (by decide) (by rfl) T.g_holds (fun σ => L2N.passAt tk σ) (pk_cons (pv 2) (pk_cons (pv 1) pk_nil))) (pe_cnS C_holds.cn hr (by decide) (by rfl) T.g_holds (fun σ => L2N.passAt tk σ) (pa_cons (pv 1) (pa_cons (pv 2) pa_nil)))) pa_nil))))))))
    (NmOk.cons ⟨by rfl, by decide, .inl T.g_NoFormula⟩ (fun a oe cls d pn hz hd => (pss_one (ps_ret (pe_lst (pa_cons pe_str (pa_cons (pe_xf T.xf_NoFormula T.nf_NoFormula_found hz.zc hd (pv 4)) pa_nil)))))) NmOk.nil))), ?_⟩
  rw [show start ["word", "formula", "readings", "by_name", "e"] [v_word, v_formula, v_readings, v_by_name] = [some v_word, some v_formula, some v_readings, some v_by_name, none] from rfl]
  obtain ⟨d, word, c, rfl, rfl, hd, oks, hw, qn, qy⟩ := h
  have kT : ∀ (D : Ends), D.rt = Q → isFormD d = false → XOwn "NoFormula" "found" K (fun cls dd H' => wNamed K 4 (fun _ _ _ _ => False) D
      [(Value.ref (He.ga K (Str.ofString "NoFormula")), fun a cls d => tRet (tLst (tCons (tC (V.str (Str.ofString "formula"))) (tCons (tXf a cls d (He.ga K (Str.ofString "NoFormula")) (Str.ofString "found") (tVar 4)) tNil))))] cls dd [some (.str word), some v_formula, some v_readings, some (.bl c), none] H') H v_formula := by
    intro D hD hR H2 dd fs s hdd hx hl
    refine ⟨true, T.em_NoFormula_NoFormula, (fun _ a ha => ?_), (fun h => by cases h)⟩
    walk_at "sx"
    refine ⟨rfl, rfl, dd, fs, _, rfl, hx, hl, ?_⟩
    walk_at "sx"
    refine ⟨by walk_at "len", fun r hr0 => ?_⟩
    show D.rt _ _
    rw [hD]
    exact qn hR _ r (s.trans (Same.new hr0)) ⟨fresh_of s hr0, upd_same⟩
  simp only [List.mem_cons, List.not_mem_nil, or_false] at hw
  rcases hw with rfl | rfl | rfl
  · have core : ∀ (Ex : XK), (isFormD d = false → XOwn "NoFormula" "found" K Ex H v_formula) → sp_keys_of K [v_formula] H (fun x H2 => ([V.str "told", x] : List V).length ≤ sizeLine ∧ ∀ p, H2 p = none → Q (.ref p) (upd H2 p (.lst [V.str "told", x]))) Ex :=
      fun Ex h1 => ⟨_, rfl, d, hd, oks, fun f ef hk H1 p ks s hp hks asc h6 => ⟨by walk_at "len", fun p2 hp2 => (qy f ef hk).1 rfl _ p2 p ks (s.trans (Same.new hp2)) ⟨fresh_of s hp2, upd_same⟩ hp (fun e => by rw [← e, hks] at hp2; cases hp2) (Same.new hp2 _ _ hks) asc h6⟩, h1⟩
    walk_at "sx"
    cases c with
    | true =>
      refine i_iT rfl ?_
      walk_at "sx"
      exact core _ (kT { nx := fun _ H' => Q .non H', rt := Q } rfl)
    | false =>
      refine i_iF rfl ?_
      refine i_calS (i_cons (i_var rfl (i_nil ?_)))
      exact core _ (kT { nx := fun _ H' => Q .non H', rt := Q } rfl)
  · have core : ∀ (Ex : XK), (isFormD d = false → XOwn "NoFormula" "found" K Ex H v_formula) → sp_matters K [v_formula] H (fun x H2 => ([V.str "told", x] : List V).length ≤ sizeLine ∧ ∀ p, H2 p = none → Q (.ref p) (upd H2 p (.lst [V.str "told", x]))) Ex :=
      fun Ex h1 => ⟨_, rfl, d, hd, oks, fun f ef hk H1 p ks s hp asc h6 hks => ⟨by walk_at "len", fun p2 hp2 => (qy f ef hk).2.1 rfl _ p2 p ks (s.trans (Same.new hp2)) ⟨fresh_of s hp2, upd_same⟩ hp (fun e => by rw [← e, hks] at hp2; cases hp2) asc h6 (Same.new hp2 _ _ hks)⟩, h1⟩
    walk_at "sx"
    cases c with
    | true =>
      refine i_iT rfl ?_
      walk_at "sx"
      exact core _ (kT { nx := fun _ H' => Q .non H', rt := Q } rfl)
    | false =>
      refine i_iF rfl ?_
      refine i_calS (i_cons (i_var rfl (i_nil ?_)))
      exact core _ (kT { nx := fun _ H' => Q .non H', rt := Q } rfl)
  · have core : ∀ (Ex : XK), (isFormD d = false → XOwn "NoFormula" "found" K Ex H v_formula) → sp_holds K [v_formula, v_readings] H (fun x H2 => ([V.str "told", x] : List V).length ≤ sizeLine ∧ ∀ p, H2 p = none → Q (.ref p) (upd H2 p (.lst [V.str "told", x]))) Ex :=
      fun Ex h1 => ⟨_, _, rfl, d, hd, oks, fun f ef hk => by
          obtain ⟨ρ, a, ea, hr2, qq⟩ := (qy f ef hk).2.2 rfl
          exact ⟨ρ, a, ea, hr2, fun H1 s => ⟨by walk_at "len", fun p2 hp2 => qq _ p2 (s.trans (Same.new hp2)) ⟨fresh_of s hp2, upd_same⟩⟩⟩, h1⟩
    walk_at "sx"
    cases c with
    | true =>
      refine i_iT rfl ?_
      walk_at "sx"
      exact core _ (kT { nx := fun _ H' => Q .non H', rt := Q } rfl)
    | false =>
      refine i_iF rfl ?_
      refine i_calS (i_cons (i_var rfl (i_cons (i_var rfl (i_nil ?_)))))
      exact core _ (kT { nx := fun _ H' => Q .non H', rt := Q } rfl)


end H68

set_option maxHeartbeats 1000000
namespace H68
open PySem PySem.Spec PyProof.Rows L2 KB
local macro_rules | `(tactic| walk_at "kb1") => `(tactic| with_reducible first
  | refine i_var rfl ?_ | refine i_c ?_ | refine i_cons ?_ | refine i_nil ?_ | refine i_op ?_ | refine i_seq ?_ | refine i_if ?_ | refine i_ret ?_ | refine i_asg ?_ | refine i_name ?_ | refine i_next ?_ | refine i_drop ?_
  | refine i_un ?_ | refine i_cb ?_ | refine i_cal ?_ | refine i_calM ?_ | refine i_test ?_ | refine i_tb ?_ | refine i_k ?_ | refine i_not ?_ | refine i_and ?_ | refine i_or ?_ | refine i_andV ?_ | refine i_orV ?_ | refine i_notV ?_ | refine i_ife ?_
  | refine i_isN ?_ | refine i_notN ?_ | refine i_chain ?_ | refine i_tup ?_ | refine i_lst ?_ | refine i_sl ?_ | refine i_noPart ?_ | refine i_part ?_ | refine i_ik ?_ | refine i_sk ?_ | refine i_bm0 ?_ | refine i_bm ?_ | refine i_m1 ?_ | refine i_m0 ?_ | refine i_fld ?_ | refine i_tru ?_
  | refine i_gC ?_ | refine i_gN ?_ | refine i_for0L ?_ | refine i_for0E ?_ | refine i_for0R ?_ | refine i_lc0L ?_ | refine i_lc0S ?_ | refine i_lc0Z ?_ | refine i_tix ?_ | refine i_lorei ?_ | refine i_js0 ?_ | refine i_xf ?_ | refine i_calR ?_ | refine i_calRS ?_ | refine i_calS ?_ | refine i_for0R3 ?_ | refine i_mak ?_ | refine i_dget ?_ | refine i_din ?_ | refine i_dnotin ?_ | refine i_dput ?_ | refine i_dnewT ?_ | refine i_sub ?_ | refine i_rng1 ?_ | refine i_rng2 ?_ | refine i_rev ?_ | refine i_replC ?_ | refine i_lenset ?_ | refine i_mS ?_ | refine i_js ?_ | refine i_fmt ?_ | refine i_par ?_ | refine i_v2 ?_ | refine i_par3 ?_ | refine i_v3 ?_ | refine i_mkO ?_ | refine i_ost ?_ | refine i_sFld ?_ | refine i_yes ?_ | refine i_dget1 ?_ | refine i_dnewK ?_ | refine i_dpop1 ?_ | refine i_ndnew ?_ | refine i_nget2 ?_ | refine i_nsetd ?_ | refine i_nix ?_ | refine i_nput ?_ | refine i_listItems ?_ | refine i_for0Nv ?_ | refine i_lc0Nk ?_ | refine i_dstar ?_ | refine i_lc20L ?_ | refine i_sp1 ?_ | refine i_sp2 ?_ | refine i_sp3 ?_ | refine i_sp4 ?_)
local macro_rules | `(tactic| walk_at "dr") => `(tactic| first
  | assumption | exact Dr.non | exact Dr.bl _ | exact Dr.int _ | exact Dr.str _ | exact Dr.tup (by assumption) (by assumption) | exact Dr.lst (by assumption) (by assumption) | exact Dr.dic (by assumption) | exact Im.dr (by assumption))
local macro_rules | `(tactic| walk_at "if") => `(tactic| first
  | ((with_reducible refine i_iT ?_ ?_); · rfl) | ((with_reducible refine i_iF ?_ ?_); · rfl))
local macro_rules | `(tactic| walk_at "isi") => `(tactic| ((with_reducible show rIsiU _ _ _ _); first
  | (with_reducible refine j_isTup (by walk_at "dr") ?_) | (with_reducible refine j_isLst (by walk_at "dr") ?_) | (with_reducible refine j_isStr (by walk_at "dr") ?_)
  | (with_reducible refine j_isBl (by walk_at "dr") ?_) | (with_reducible refine j_isInt (by walk_at "dr") ?_)))
local macro_rules | `(tactic| walk_at "op") => `(tactic| with_reducible first
  | refine i_rI0 ?_ | refine i_addI ?_ | refine i_rU ?_ | refine i_ltI ?_ | refine i_inC ?_ | refine i_notInC ?_ | refine i_intI ?_ | refine i_intB ?_ | refine i_abs ?_ | refine i_max2 ?_ | refine i_min2 ?_ | refine i_isBl ?_
  | (refine i_eqS rfl ?_) | (refine i_neS rfl ?_))
local macro_rules | `(tactic| walk_at "wp") => `(tactic| ((with_reducible refine i_wp ?_ ?_); · rfl))
local macro_rules | `(tactic| walk_at "sx") => `(tactic| repeat first | walk_at "kb1" | walk_at "if" | walk_at "isi" | walk_at "op" | walk_at "wp")
local macro_rules | `(tactic| walk_at "cd") => `(tactic| refine ⟨_, (by walk_at "dr"), ?_⟩)
local macro_rules | `(tactic| walk_at "len") => `(tactic| (simp only [List.length_cons, List.length_nil]; decide))
local macro_rules | `(tactic| walk_at "ic") => `(tactic| first
  | ((with_reducible refine i_iT ?_ ?_); · first | with_reducible rfl | (simp only [Bool.not_true, Bool.not_false, isTupD, isLstD, isStrD, isBlD, isIntD, isSeqD]; done))
  | ((with_reducible refine i_iF ?_ ?_); · first | with_reducible rfl | (simp only [Bool.not_true, Bool.not_false, isTupD, isLstD, isStrD, isBlD, isIntD, isSeqD]; done)))
local macro_rules | `(tactic| walk_at "sy") => `(tactic| repeat first | walk_at "kb1" | walk_at "ic" | walk_at "isi" | walk_at "op" | walk_at "wp")
theorem sc_law_formula_right : FnScope ["box", "formula", "by_name", "keys", "dues", "word", "due", "found", "row", "kept", "leaf"] ["box", "formula", "by_name"] (defScope s_law_formula_right) := ⟨rfl, rfl, rfl, by decide +kernel, rfl, by decide +kernel, by decide +kernel⟩
theorem ok_law_formula_right {P : Program} {w : World} {K : PySem.W.Frag} {mg : Str → Option Value} {base : Heap} (T : Tx K mg)
    (C_law_mixed : Cn P w K mg base 2 (He.fAd K ("_law_mixed", none)) ["box", "items"] (sp_law_mixed K))
    (C_law_all_readings : Cn P w K mg base 1 (He.fAd K ("_law_all_readings", none)) ["keys"] (sp_law_all_readings K))
    (C_law_same : Cn P w K mg base 13 (He.fAd K ("_law_same", none)) ["told", "due"] (sp_law_same K))
    (C_law_holds : Cn P w K mg base 9 (He.fAd K ("_law_holds", none)) ["formula", "readings"] (sp_law_holds K))
    (C_law_asked : Cn P w K mg base 15 (He.fAd K ("_law_asked", none)) ["word", "formula", "readings", "by_name"] (sp_law_asked K))
    (C_law_take : Cn P w K mg base 1 (He.fAd K ("_law_take", none)) ["box", "size"] (sp_law_take K))
    (C_law_matters : Cn P w K mg base 10 (He.fAd K ("_law_matters", none)) ["formula"] (sp_law_matters K))
    (C_law_leaves : Cn P w K mg base 1 (He.fAd K ("_law_leaves", none)) ["formula"] (sp_law_leaves K)) :
    Cn P w K mg base 16 (He.fAd K ("_law_formula_right", none)) ["box", "formula", "by_name"] (sp_law_formula_right K) := by
  refine cnN (d := d_law_formula_right) T.st_law_formula_right sc_law_formula_right sp3_len (fun _ _ _ _ _ _ us hl => match us, hl with | [_, _, _], _ => rfl) (fun cdv A outer s H vs Q E hr h => ?_)
  obtain ⟨v_box, v_formula, v_by_name, rfl, h⟩ := h
  refine ⟨_, (pss_cons (ps_set (i := 3) sc_law_formula_right.nd rfl (.inl rfl) (pe_callB (c_sortT rfl) (by rfl) T.f_sorted (by decide +kernel) (pa_cons (pe_callTy (c_setT (w := w) rfl rfl) (by rfl) T.f_set (by decide +kernel) (pa_cons (pe_lc (own := [("leaf", 10)]) (g := (gName 10)) rfl sc_law_formula_right.nd (w_list (K := K) rfl (pe_cn C_law_leaves hr (by decide) (by rfl) T.g_law_leaves passN (pa_cons (pv 1) pa_nil))) (blkOk_by (own := [("leaf", 10)]) (N := ["box", "formula", "by_name", "keys", "dues", "word", "due", "found", "row", "kept", "leaf"]) (sc := defScope s_law_formula_right) (by decide +kernel)) (fun _ _ _ _ _ => (pg_name (i := 10) sc_law_formula_right.nd rfl (by first | exact Or.inl rfl | exact Or.inr rfl))) (fun _ _ _ _ _ => pts_nil) (fun _ _ _ _ _ => (pe_ix (x_seq (K := K) rfl) (pv 10) pe_int (fun _ _ => rfl)))) pa_nil)) pa_nil)))
  (pss_cons (ps_set (i := 4) sc_law_formula_right.nd rfl (.inl rfl) (pe_lst (pa_cons (pe_lst (pa_cons pe_str (pa_cons (pv 3) pa_nil))) (pa_cons (pe_lst (pa_cons pe_str (pa_cons (pe_cn C_law_matters hr (by decide) (by rfl) T.g_law_matters passN (pa_cons (pv 1) pa_nil)) pa_nil))) pa_nil))))
  (pss_cons (ps_for PassesOwn.never rfl (w_list (K := K) rfl (pv 4)) (g_unl (K := K) (n := 2) rfl rfl (pgs_cons (pg_name (i := 5) sc_law_formula_right.nd rfl (.inl rfl)) (pgs_cons (pg_name (i := 6) sc_law_formula_right.nd rfl (.inl rfl)) pgs_nil)))
  (pss_cons (ps_set (i := 7) sc_law_formula_right.nd rfl (.inl rfl) (pe_cn C_law_asked hr (by decide) (by rfl) T.g_law_asked passN (pa_cons (pv 5) (pa_cons (pv 1) (pa_cons pe_non (pa_cons (pv 2) pa_nil))))))
  (pss_cons (ps_if (pt_not (pt_val (pe_cn C_law_same hr (by decide) (by rfl) T.g_law_same passN (pa_cons (pv 7) (pa_cons (pe_lst (pa_cons pe_str (pa_cons (pv 6) pa_nil))) pa_nil))))) (pss_one (ps_ret pe_bl)) pss_nil)
  (pss_cons (ps_expr (e_append (K := K) rfl (pe_ix (x_seq (K := K) rfl) (pv 7) pe_int (fun _ _ => rfl)) pe_str))
  (pss_one (ps_if (pt_not (pt_val (pe_cn C_law_same hr (by decide) (by rfl) T.g_law_same passN (pa_cons (pe_cn C_law_asked hr (by decide) (by rfl) T.g_law_asked passN (pa_cons (pv 5) (pa_cons (pv 1) (pa_cons pe_non (pa_cons (pe_not (pv 2)) pa_nil))))) (pa_cons (pe_lst (pa_cons pe_str (pa_cons (pv 6) pa_nil))) pa_nil))))) (pss_one (ps_ret pe_bl)) pss_nil))))))
  (pss_cons (ps_for PassesOwn.never rfl (w_list (K := K) rfl (pe_slice (s_seq (K := K) rfl) (pe_cn C_law_mixed hr (by decide) (by rfl) T.g_law_mixed passN (pa_cons (pv 0) (pa_cons (pe_cn C_law_all_readings hr (by decide) (by rfl) T.g_law_all_readings passN (pa_cons (pv 3) pa_nil)) pa_nil))) po_none (po_some pe_int))) (pg_name (i := 8) sc_law_formula_right.nd rfl (.inl rfl))
  (pss_cons (ps_if (pt_cmpR (o_eq (K := K) rfl hr.units) (pe_cn C_law_take hr (by decide) (by rfl) T.g_law_take passN (pa_cons (pv 0) (pa_cons pe_int pa_nil))) pe_int (by rfl)) (pss_cons (ps_dput (rU1 hr) (pv 8) pe_str (pe_tup (pa_cons pe_str (pa_cons pe_int pa_nil))) rfl)
  (pss_one (ps_expr (pe_dpop1 (pv 8) (pe_ix (x_seq (K := K) rfl) (pv 3) pe_int (fun _ _ => rfl)) ⟨by rfl, by rfl, by rfl, by rfl⟩)))) pss_nil)
  (pss_cons (ps_set (i := 9) sc_law_formula_right.nd rfl (.inl rfl) (pe_callTy (call_dictD) (by rfl) T.f_dict (by decide +kernel) (pa_cons (pv 8) pa_nil)))
  (pss_cons (ps_if (PW.pt (pw_or (pt_not (pt_val (pe_cn C_law_same hr (by decide) (by rfl) T.g_law_same passN (pa_cons (pe_cn C_law_asked hr (by decide) (by rfl) T.g_law_asked passN (pa_cons pe_str (pa_cons (pv 1) (pa_cons (pv 8) (pa_cons (pv 2) pa_nil))))) (pa_cons (pe_lst (pa_cons pe_str (pa_cons (pe_cn C_law_holds hr (by decide) (by rfl) T.g_law_holds passN (pa_cons (pv 1) (pa_cons (pv 9) pa_nil))) pa_nil))) pa_nil))))) (pw_or1 (pt_cmpR (o_neDS hr.units0) (pv 8) (pv 9) (by rfl))))) (pss_one (ps_ret pe_bl)) pss_nil)
  (pss_one (ps_set (i := 2) sc_law_formula_right.nd rfl (.inl rfl) (pe_not (pv 2))))))))
  (pss_one (ps_ret pe_bl)))))), ?_⟩
  rw [show start ["box", "formula", "by_name", "keys", "dues", "word", "due", "found", "row", "kept", "leaf"] [v_box, v_formula, v_by_name] = [some v_box, some v_formula, some v_by_name, none, none, none, none, none, none, none, none] from rfl]
  obtain ⟨x, F, f, c, rfl, hB, hf, hD, hF3, hoth, rfl, q⟩ := h
  have hk := hD.fm (Nat.le_refl 6)
  have hnt : f.lev ≤ 5 := hD.lev
  have okf : OkF f.d := .inl ⟨_, Fm.okD_at hk.ok 6 hk.lev⟩
  walk_at "sx"
  refine ⟨f, hf, by have := hD.lev; omega, by have := hk.size; omega, fun H2 p vs ls s2 hp h1 im hls => ?_⟩
  walk_at "sx"
  have hll : ls.length ≤ 6 := by rw [hls.length_eq]; exact hk.six
  refine i_lcL (fun _ => true) (fun d => .str (keyD d)) (.inl (.inl h1)) im (by rw [List.length_map, sizeLine_eq]; omega) (fun D hDx i xx d H3 ed ix s3 N no yes => ?_) (fun D H3 ys hD3 s3 hy im3 => ?_)
  · rw [List.getElem?_map] at ed
    obtain ⟨g, hg, rfl⟩ := Option.map_eq_some_iff.mp ed
    have hlf := (Fm.leaf_leaves (hls.mem_iff.mp (List.mem_of_getElem? hg))).1
    cases g with
    | is k v =>
      cases ix with
      | tup hx ax =>
      match ax, hx with
      | .cons (.str _) (.cons (.str _) (.cons (.str _) .nil)), hx =>
        walk_at "sx"
        refine i_ixT (.inl (.inl hx)) rfl ?_
        exact yes rfl _ _ (fun _ _ e => e) (.str _)
    | sil k =>
      cases ix with
      | tup hx ax =>
      match ax, hx with
      | .cons (.str _) (.cons (.str _) .nil), hx =>
        walk_at "sx"
        refine i_ixT (.inl (.inl hx)) rfl ?_
        exact yes rfl _ _ (fun _ _ e => e) (.str _)
    | no g => cases hlf
    | two o a b => cases hlf
  · walk_at "sx"
    have ek : ((ls.map Fm.d).filter (fun _ => true)).map (fun d => PyData.str (keyD d)) = (ls.map fun l => keyD l.d).map PyData.str := by
      rw [filter_t, List.map_map, List.map_map] <;> rfl
    rw [ek] at im3
    cases imS_eq im3
    refine ⟨D, _, rfl, hy, by rw [List.length_map]; omega, fun ps l hps nd hm hl2 => ?_⟩
    have s4 := Same.new (o := TxtO w ps l) hps
    have f4 : upd H3 ps (TxtO w ps l) ps = _ := upd_same
    generalize upd H3 ps (TxtO w ps l) = H4 at s4 f4 ⊢
    walk_at "sx"
    rw [List.length_map] at hl2
    refine i_sortT f4 (by omega) fun ks pk perm so hpk => ?_
    have asc : Asc (· ∈ f.keys) ks := Asc.perm so nd (fun k => by
      rw [hm k]
      unfold Fm.keys
      rw [List.mem_map, List.mem_map]
      constructor
      · rintro ⟨g, hg, rfl⟩
        have hg := hls.mem_iff.mp hg
        exact ⟨g, hg, (keyD_leaf hg).symm⟩
      · rintro ⟨g, hg, rfl⟩
        exact ⟨g, hls.mem_iff.mpr hg, keyD_leaf hg⟩) perm
    have l3 : ks.length ≤ 3 := Nat.le_trans (nodup_len asc.nd fun k hk => hD.keys k ((asc.mem k).mp hk)) hF3
    have hpk0 : H pk = none := fresh_of ((s2.trans s3).trans s4) hpk
    have s5 := ((s2.trans s3).trans s4).trans (Same.new (o := .lst (ks.map V.str)) hpk)
    have f5 : upd H4 pk (.lst (ks.map V.str)) pk = _ := upd_same
    generalize upd H4 pk (.lst (ks.map V.str)) = H5 at s5 f5 ⊢
    have hsm : ∀ k ∈ ks, Sm k := fun k hk2 => by
      have := hk.ok
      obtain ⟨g, hg, rfl⟩ := List.mem_map.mp ((asc.mem k).mp hk2)
      obtain ⟨h1, h2⟩ := Fm.leaf_leaves hg
      have h3 := h2 hk.ok
      have hn : isNameS g.key = true := by
        cases g with
        | is k v => exact (Bool.and_eq_true_iff.mp (show (isNameS k && isValueS v) = true from h3)).1
        | sil k => exact h3
        | no g => cases h1
        | two o a b => cases h1
      simp only [isNameS, Bool.and_eq_true, decide_eq_true_iff] at hn
      exact Nat.le_trans hn.1.1.2 (by decide)
    walk_at "sx"
    refine ⟨by walk_at "len", fun p6 hp6 => ?_⟩
    have s6 := s5.trans (Same.new (o := .lst [.str "keys", .ref pk]) hp6)
    have f6k := Same.new (o := .lst [.str "keys", .ref pk]) hp6 _ _ f5
    have f6 : upd H5 p6 (.lst [.str "keys", .ref pk]) p6 = _ := upd_same
    generalize upd H5 p6 (.lst [.str "keys", .ref pk]) = H6 at s6 f6k f6 ⊢
    walk_at "sx"
    refine ⟨F, f, hf.mono (Same.tq s6), hD, hF3, fun H7 pm ks2 s7 hpm asc2 f7 => ?_⟩
    cases asc2.eq asc
    walk_at "sx"
    refine ⟨by walk_at "len", fun p8 hp8 => ?_⟩
    have s8 := s7.trans (Same.new (o := .lst [.str "matters", .ref pm]) hp8)
    have f8 : upd H7 p8 (.lst [.str "matters", .ref pm]) p8 = _ := upd_same
    have f8m := Same.new (o := .lst [.str "matters", .ref pm]) hp8 _ _ f7
    generalize upd H7 p8 (.lst [.str "matters", .ref pm]) = H8 at s8 f8 f8m ⊢
    walk_at "sx"
    refine ⟨by walk_at "len", fun p9 hp9 => ?_⟩
    have t9 := Same.new (o := .lst [.ref p6, .ref p8]) hp9
    have s9 := s8.trans t9
    have f9 : upd H8 p9 (.lst [.ref p6, .ref p8]) p9 = _ := upd_same
    have f9m := t9 _ _ f8m
    have f98 := t9 _ _ f8
    have f96 := s9 _ _ f6
    have f9k := s9 _ _ f6k
    have sH9 := s6.trans s9
    generalize upd H8 p9 (.lst [.ref p6, .ref p8]) = H9 at s9 f9 f9m f98 f96 f9k sH9 ⊢
    walk_at "sx"
    refine i_forL (fun i σ H' => ∃ (x5 x6 x7 : Option V), σ = [some (.ref x), some (v_formula), some (.bl c), some (.ref pk), some (.ref p9), x5, x6, x7, none, none, none] ∧ Same H9 H') (.inl (.inl f9)) ?_ ?_ ?_ ?_
    · exact ⟨_, _, _, rfl, fun _ _ e => e⟩
    · rintro i σ H' _ ⟨x5, x6, x7, rfl, s⟩
      exact .inl (.inl (s _ _ f9))
    · rintro i y σ HL hy ⟨x5, x6, x7, rfl, sL⟩
      have two : ∃ (py pd : Addr) (word : Str) (l : List Str), y = .ref py ∧ HL py = some (.lst [.str word, .ref pd]) ∧ HL pd = some (.lst (l.map V.str)) ∧ ((word = "keys" ∧ l = ks) ∨ (word = "matters" ∧ l = ks.filter (mtB f))) := by
        have hil : i < 2 := by simpa using (List.getElem?_eq_some_iff.mp hy).1
        rcases (by omega : i = 0 ∨ i = 1) with rfl | rfl <;> cases hy
        · exact ⟨p6, pk, "keys", ks, rfl, sL _ _ f96, sL _ _ f9k, .inl ⟨rfl, rfl⟩⟩
        · exact ⟨p8, pm, "matters", _, rfl, sL _ _ f98, sL _ _ f9m, .inr ⟨rfl, rfl⟩⟩
      obtain ⟨py, pd, word, l, rfl, hpy, hpd, hwl⟩ := two
      have hl6 : l.length ≤ 6 ∧ ∀ k ∈ l, Sm k := by
        rcases hwl with ⟨_, rfl⟩ | ⟨_, rfl⟩
        · exact ⟨by omega, hsm⟩
        · exact ⟨Nat.le_trans (List.length_filter_le _ _) (by omega), fun k hk => hsm k (List.mem_filter.mp hk).1⟩
      have okt : okD 12 (.list [.str "told", .list (l.map PyData.str)]) := by
        refine ⟨by simp, fun d hd => ?_⟩
        simp only [List.mem_cons, List.not_mem_nil, or_false] at hd
        rcases hd with rfl | rfl
        · exact sm_s (by decide +kernel)
        · refine ⟨by rw [List.length_map]; omega, fun d hd => ?_⟩
          obtain ⟨k, hk2, rfl⟩ := List.mem_map.mp hd
          exact sm_s (hl6.2 k hk2)
      have told : ∀ (HA : Hp) (qq p : Addr), HA p = some (.lst (l.map V.str)) → HA qq = some (.lst [.str "told", .ref p]) → Dr HA (.ref qq) (.list [.str "told", .list (l.map PyData.str)]) := fun HA qq p h1 h2 => .lst h2 (.cons (.str _) (.cons (.lst h1 (imS l).dr) .nil))
      refine i_gU (.inl (.inl hpy)) rfl ?_
      walk_at "sx"
      rcases hwl with ⟨ew, el⟩ | ⟨ew, el⟩
      · refine ⟨f.d, word, c, rfl, rfl, (hf.mono (Same.tq ((sH9.trans sL).trans (Same.refl HL)))).dr, okf, by rw [ew]; simp, fun e => (by rw [isForm_of hk] at e; cases e), fun g eg hg => ?_⟩
        cases d_inj eg
        refine ⟨fun _ HA1 qa1 pa1 k2 sA1 ht1 hp1 hne1 hl1 asc1 _ => ?_, fun e => absurd (e.symm.trans ew) (by decide +kernel), fun e => absurd (e.symm.trans ew) (by decide +kernel)⟩
        rw [asc1.eq asc, ← el] at hl1
        obtain ⟨hq1, hqv1⟩ := ht1
        walk_at "sx"
        refine ⟨by walk_at "len", fun pb hpb => ?_⟩
        have sb := Same.new (o := .lst [.str "told", .ref pd]) hpb
        have fb : upd HA1 pb (.lst [.str "told", .ref pd]) pb = _ := upd_same
        have hpdb := sb _ _ (sA1 _ _ hpd)
        have hqb := sb _ _ hqv1
        have hlb := sb _ _ hl1
        generalize upd HA1 pb (.lst [.str "told", .ref pd]) = HB at sb fb hpdb hqb hlb ⊢
        walk_at "sx"
        refine ⟨_, told HB qa1 pa1 hlb hqb, told HB pb pd hpdb fb, .inl okt, fun HC sC => ?_⟩
        walk_at "sx"
        refine i_ixL (.inl (.inl (sC _ _ hqb))) rfl ?_
        walk_at "sx"
        refine ⟨ty_list (.inl (.inl (sC _ _ hlb))), ?_⟩
        walk_at "sx"
        refine i_append (sC _ _ hlb) (by rw [List.length_map, sizeLine_eq]; have := hl6.1; omega) ?_
        have sD : Same HL (upd HC pa1 (.lst (l.map V.str ++ [.str "more"]))) := Same.put ((sA1.trans sb).trans sC) hp1
        have hpdD := sD _ _ hpd
        generalize upd HC pa1 (.lst (l.map V.str ++ [.str "more"])) = HD at sD hpdD ⊢
        walk_at "sx"
        refine ⟨f.d, word, !c, rfl, rfl, (hf.mono (Same.tq ((sH9.trans sL).trans sD))).dr, okf, by rw [ew]; simp, fun e => (by rw [isForm_of hk] at e; cases e), fun g eg hg => ?_⟩
        cases d_inj eg
        refine ⟨fun _ HA2 qa2 pa2 k2 sA2 ht2 hp2 hne2 hl2 asc2 _ => ?_, fun e => absurd (e.symm.trans ew) (by decide +kernel), fun e => absurd (e.symm.trans ew) (by decide +kernel)⟩
        rw [asc2.eq asc, ← el] at hl2
        obtain ⟨hq2, hqv2⟩ := ht2
        walk_at "sx"
        refine ⟨by walk_at "len", fun pc hpc => ?_⟩
        have sc := Same.new (o := .lst [.str "told", .ref pd]) hpc
        have fc : upd HA2 pc (.lst [.str "told", .ref pd]) pc = _ := upd_same
        have hpdc := sc _ _ (sA2 _ _ hpdD)
        have hqc := sc _ _ hqv2
        have hlc := sc _ _ hl2
        generalize upd HA2 pc (.lst [.str "told", .ref pd]) = HE at sc fc hpdc hqc hlc ⊢
        walk_at "sx"
        refine ⟨_, told HE qa2 pa2 hlc hqc, told HE pc pd hpdc fc, .inl okt, fun HF sF => ?_⟩
        walk_at "sx"
        exact ⟨_, _, _, rfl, sL.trans (sD.trans ((sA2.trans sc).trans sF))⟩
      · refine ⟨f.d, word, c, rfl, rfl, (hf.mono (Same.tq ((sH9.trans sL).trans (Same.refl HL)))).dr, okf, by rw [ew]; simp, fun e => (by rw [isForm_of hk] at e; cases e), fun g eg hg => ?_⟩
        cases d_inj eg
        refine ⟨fun e => absurd (e.symm.trans ew) (by decide +kernel), fun _ HA1 qa1 pa1 k2 sA1 ht1 hp1 hne1 asc1 _ hl1 => ?_, fun e => absurd (e.symm.trans ew) (by decide +kernel)⟩
        rw [asc1.eq asc, ← el] at hl1
        obtain ⟨hq1, hqv1⟩ := ht1
        walk_at "sx"
        refine ⟨by walk_at "len", fun pb hpb => ?_⟩
        have sb := Same.new (o := .lst [.str "told", .ref pd]) hpb
        have fb : upd HA1 pb (.lst [.str "told", .ref pd]) pb = _ := upd_same
        have hpdb := sb _ _ (sA1 _ _ hpd)
        have hqb := sb _ _ hqv1
        have hlb := sb _ _ hl1
        generalize upd HA1 pb (.lst [.str "told", .ref pd]) = HB at sb fb hpdb hqb hlb ⊢
        walk_at "sx"
        refine ⟨_, told HB qa1 pa1 hlb hqb, told HB pb pd hpdb fb, .inl okt, fun HC sC => ?_⟩
        walk_at "sx"
        refine i_ixL (.inl (.inl (sC _ _ hqb))) rfl ?_
        walk_at "sx"
        refine ⟨ty_list (.inl (.inl (sC _ _ hlb))), ?_⟩
        walk_at "sx"
        refine i_append (sC _ _ hlb) (by rw [List.length_map, sizeLine_eq]; have := hl6.1; omega) ?_
        have sD : Same HL (upd HC pa1 (.lst (l.map V.str ++ [.str "more"]))) := Same.put ((sA1.trans sb).trans sC) hp1
        have hpdD := sD _ _ hpd
        generalize upd HC pa1 (.lst (l.map V.str ++ [.str "more"])) = HD at sD hpdD ⊢
        walk_at "sx"
        refine ⟨f.d, word, !c, rfl, rfl, (hf.mono (Same.tq ((sH9.trans sL).trans sD))).dr, okf, by rw [ew]; simp, fun e => (by rw [isForm_of hk] at e; cases e), fun g eg hg => ?_⟩
        cases d_inj eg
        refine ⟨fun e => absurd (e.symm.trans ew) (by decide +kernel), fun _ HA2 qa2 pa2 k2 sA2 ht2 hp2 hne2 asc2 _ hl2 => ?_, fun e => absurd (e.symm.trans ew) (by decide +kernel)⟩
        rw [asc2.eq asc, ← el] at hl2
        obtain ⟨hq2, hqv2⟩ := ht2
        walk_at "sx"
        refine ⟨by walk_at "len", fun pc hpc => ?_⟩
        have sc := Same.new (o := .lst [.str "told", .ref pd]) hpc
        have fc : upd HA2 pc (.lst [.str "told", .ref pd]) pc = _ := upd_same
        have hpdc := sc _ _ (sA2 _ _ hpdD)
        have hqc := sc _ _ hqv2
        have hlc := sc _ _ hl2
        generalize upd HA2 pc (.lst [.str "told", .ref pd]) = HE at sc fc hpdc hqc hlc ⊢
        walk_at "sx"
        refine ⟨_, told HE qa2 pa2 hlc hqc, told HE pc pd hpdc fc, .inl okt, fun HF sF => ?_⟩
        walk_at "sx"
        exact ⟨_, _, _, rfl, sL.trans (sD.trans ((sA2.trans sc).trans sF))⟩
    · rintro σ HL ⟨x5, x6, x7, rfl, sL⟩
      walk_at "sx"
      have sHL := sH9.trans sL
      refine ⟨pk, ks, rfl, sL _ _ f9k, l3, asc.nd, fun H10 pr as s10 hpr hra hR hnd => ?_⟩
      walk_at "sx"
      have sH10 := sHL.trans s10
      have hasl : as.length ≤ 125 := by
        rw [hR.len]
        have h1 := prod_len (fun _ => five) 5 ks [[]] fun _ _ => Nat.le_refl _
        have h2 : 5 ^ ks.length ≤ 5 ^ 3 := Nat.pow_le_pow_right (by decide) l3
        exact Nat.le_trans h1 (by simpa using h2)
      refine ⟨x, pr, _, rfl, hB.same sH10, rfl, hra, box_ne hB (fresh_of sHL hpr), by rw [List.length_map]; omega, fun H11 pz zs sb11 hB11 hpz hz hzp => ?_⟩
      have sb : SameBut x H H11 := SameBut.trans (Same.but sH10) sb11
      walk_at "sx"
      refine i_slL (.inl (.inl hz)) fun pw hpw => ?_
      have hsub : (cutV zs none (some 12)).Sublist zs := by unfold cutV; exact (List.take_sublist _ _).trans (List.drop_sublist _ _)
      have hzn : zs.Nodup := hzp.nodup_iff.mpr (List.Pairwise.map _ (fun a b hab e => hab (V.ref.inj e)) hnd)
      have hzw : (cutV zs none (some 12)).Nodup := hzn.sublist hsub
      have hza : ∀ v ∈ cutV zs none (some 12), ∃ a r, v = .ref a ∧ H a = none ∧ r ∈ rowsOf (fun _ => five) ks ∧ RowAt H11 a r := by
        intro v hv
        have hv := hzp.mem_iff.mp (hsub.subset hv)
        obtain ⟨a, ha, rfl⟩ := List.mem_map.mp hv
        obtain ⟨m, hm⟩ := List.mem_iff_getElem?.mp ha
        obtain ⟨r, hr2, h0, hrow⟩ := hR.get hm
        obtain ⟨kvs, h1, h2⟩ := hrow
        have hax : a ≠ x := box_ne hB (fresh_of sHL h0)
        exact ⟨a, r, rfl, fresh_of sHL h0, List.mem_of_getElem? hr2, kvs, sb11 _ _ hax h1, h2.mono ((hB.same sH10).tq sb11)⟩
      have sw := Same.new (o := .lst (cutV zs none (some 12))) hpw
      have fw : upd H11 pw (.lst (cutV zs none (some 12))) pw = _ := upd_same
      have hpkx : pk ≠ x := box_ne hB hpk0
      have okb : ∀ b : Bool, okD 12 (.list [.str "told", .bool b]) := fun b => ⟨by simp, fun d hd => by
        simp only [List.mem_cons, List.not_mem_nil, or_false] at hd
        rcases hd with rfl | rfl
        · exact sm_s (by decide +kernel)
        · trivial⟩
      have hpk11 := sb11 _ _ hpkx (s10 _ _ (sL _ _ f9k))
      generalize cutV zs none (some 12) = zw at hsub hzw hza sw fw ⊢
      have hpwx : pw ≠ x := box_ne hB11 hpw
      have rowB : ∀ {G G' : Hp} {a : Addr} {r : KB.Row}, SameBut x G G' → Box G x → a ≠ x → RowAt G a r → RowAt G' a r := fun s b ax ⟨kvs, h1, h2⟩ => ⟨kvs, s _ _ ax h1, h2.mono (Box.tq b s)⟩
      refine i_forL (fun i σ H' => ∃ (b : Bool) (x8 x9 : Option V), σ = [some (.ref x), some (v_formula), some (.bl b), some (.ref pk), some (.ref p9), x5, x6, x7, x8, x9, none] ∧ SameBut x H H' ∧ Box H' x ∧ H' pk = some (.lst (ks.map V.str)) ∧ H' pw = some (.lst zw) ∧
        ∀ m a, i ≤ m → zw[m]? = some (.ref a) → ∃ r, H a = none ∧ r ∈ rowsOf (fun _ => five) ks ∧ RowAt H' a r) (.inl (.inl fw)) ?_ ?_ ?_ ?_
      · refine ⟨c, _, _, rfl, SameBut.trans sb (Same.but sw), hB11.same sw, sw _ _ hpk11, fw, fun m a _ hm => ?_⟩
        obtain ⟨a', r, e, h0, hr2, hrow⟩ := hza _ (List.mem_of_getElem? hm)
        cases e
        exact ⟨r, h0, hr2, hrow.mono sw⟩
      · rintro i σ H' _ ⟨b, x8, x9, rfl, _, _, _, hw, _⟩
        exact .inl (.inl hw)
      · rintro i y σ HM hy ⟨b, x8, x9, rfl, sbM, hBM, hkM, hwM, hrM⟩
        obtain ⟨a, _, rfl, _, _, _⟩ := hza y (List.mem_of_getElem? hy)
        walk_at "sx"
        refine ⟨x, 3, rfl, hBM, rfl, by decide, by decide, fun r1 HN r10 r11 sbN hBN => ?_⟩
        have sbHN := SameBut.trans sbM sbN
        have hkN := sbN _ _ hpkx hkM
        have hwN := sbN _ _ hpwx hwM
        have hrN : ∀ m a, i ≤ m → zw[m]? = some (.ref a) → ∃ r, H a = none ∧ r ∈ rowsOf (fun _ => five) ks ∧ RowAt HN a r := fun m a hm e => by
          obtain ⟨r, h0, h1, h2⟩ := hrM m a hm e
          exact ⟨r, h0, h1, rowB sbN hBM (box_ne hB h0) h2⟩
        have hia : ∀ m, i + 1 ≤ m → zw[m]? ≠ some (.ref a) := fun m hm e => by
          have h1 := (List.getElem?_inj (List.getElem?_eq_some_iff.mp hy).1 hzw).mp (hy.trans e.symm)
          omega
        obtain ⟨r, ha0, hr2, kvs, hkv, hrow⟩ := hrN i a (Nat.le_refl _) hy
        have hrk := mem_rows.mp hr2
        have hax : a ≠ x := box_ne hB ha0
        walk_at "sx"
        cases e : decide (V.int r1 = V.int 0)
        · have sX := sbHN
          have bX := hBN
          have kX := hkN
          have wX := hwN
          have hvX := hkv
          have gX := hrow.good (by rw [hrk.1]; exact asc.nd)
          have rX : ∀ m a, i + 1 ≤ m → zw[m]? = some (.ref a) → ∃ r, H a = none ∧ r ∈ rowsOf (fun _ => five) ks ∧ RowAt HN a r := fun m a hm e => hrN m a (by omega) e
          obtain ⟨ρ, hρ⟩ : ∃ ρ : Rho, ∀ k ∈ f.keys, RdV HN ((valV kvs (.inr k)).getD .non) (ρ k) := ⟨look r, fun k _ => .of (hrow.val k).1⟩
          generalize kvs = kvX at hvX gX hρ
          generalize HN = HX at sX bX kX wX hvX rX hρ ⊢
          walk_at "sx"
          refine ⟨a, kvX, rfl, .inl hvX, fun pd hpd => ?_⟩
          have sd := Same.new (o := .dK kvX) hpd
          have fd : upd HX pd (.dK kvX) pd = _ := upd_same
          have hvY := sd _ _ hvX
          have sY := SameBut.trans sX (Same.but sd)
          have bY := bX.same sd
          generalize upd HX pd (.dK kvX) = HY at sd fd hvY sY bY ⊢
          walk_at "sx"
          refine ⟨f.d, "holds", b, rfl, rfl, (hf.mono (hB.tq sY)).dr, okf, by simp, fun e => (by rw [isForm_of hk] at e; cases e), fun g eg hg => ?_⟩
          cases d_inj eg
          refine ⟨fun e => absurd e (by decide +kernel), fun e => absurd e (by decide +kernel), fun _ => ⟨ρ, a, rfl, ⟨kvX, .inl hvY, fun k hk2 => (hρ k hk2).mono (Same.tq sd)⟩, fun HZ qz sZ ht => ?_⟩⟩
          have sYZ := SameBut.trans sY (Same.but sZ)
          walk_at "sx"
          refine ⟨f, ρ, pd, hf.mono (hB.tq sYZ), by omega, rfl, ⟨kvX, .inl (sZ _ _ fd), fun k hk2 => (hρ k hk2).mono (Same.tq (sd.trans sZ))⟩, fun HU sU => ?_⟩
          walk_at "sx"
          refine ⟨by walk_at "len", fun pu hpu => ?_⟩
          have su := Same.new (o := .lst [.str "told", .bl (f.ev ρ)]) hpu
          have fu : upd HU pu (.lst [.str "told", .bl (f.ev ρ)]) pu = _ := upd_same
          have sXV := sd.trans (sZ.trans (sU.trans su))
          have sYV := sZ.trans (sU.trans su)
          have hqv := (sU.trans su) _ _ ht.2
          generalize upd HU pu (.lst [.str "told", .bl (f.ev ρ)]) = HV at su fu sXV sYV hqv ⊢
          walk_at "sx"
          refine ⟨.list [.str "told", .bool (f.ev ρ)], .lst hqv (.cons (.str _) (.cons (.bl _) .nil)), .lst fu (.cons (.str _) (.cons (.bl _) .nil)), .inl (okb _), fun HW sW => ?_⟩
          walk_at "sx"
          refine ⟨a, pd, kvX, kvX, rfl, rfl, sW _ _ (sYV _ _ hvY), sW _ _ (sYV _ _ fd), rfl, gX.ne, ?_⟩
          walk_at "sx"
          have sXW := sXV.trans sW
          refine ⟨_, _, _, rfl, SameBut.trans sX (Same.but sXW), bX.same sXW, sXW _ _ kX, sXW _ _ wX, fun m a' hm e => ?_⟩
          obtain ⟨r, h0, h1, h2⟩ := rX m a' hm e
          exact ⟨r, h0, h1, h2.mono sXW⟩
        · walk_at "sx"
          refine ⟨by walk_at "len", fun pt hpt => ?_⟩
          have st := Same.new (o := .tup [.str "r", .int 3]) hpt
          have ft : upd HN pt (.tup [.str "r", .int 3]) pt = _ := upd_same
          have sP := SameBut.trans sbHN (Same.but st)
          have bP := hBN.same st
          have kP := st _ _ hkN
          have wP := st _ _ hwN
          have vP := st _ _ hkv
          have rowP := hrow.mono (Same.tq st)
          have rP : ∀ m a, i + 1 ≤ m → zw[m]? = some (.ref a) → ∃ r, H a = none ∧ r ∈ rowsOf (fun _ => five) ks ∧ RowAt (upd HN pt (.tup [.str "r", .int 3])) a r := fun m a hm e => by
            obtain ⟨r, h0, h1, h2⟩ := hrN m a (by omega) e
            exact ⟨r, h0, h1, h2.mono st⟩
          generalize upd HN pt (.tup [.str "r", .int 3]) = HP at st ft sP bP kP wP vP rowP rP ⊢
          walk_at "sx"
          have hnoth : valV kvs (.inr "other") = none := by
            cases e2 : valV kvs (.inr "other") with
            | none => rfl
            | some v =>
              have h1 := (hrow.val "other").2.mp (by rw [e2] <;> rfl)
              rw [hrk.1] at h1
              exact absurd (hD.keys _ ((asc.mem _).mp h1)) hoth
          obtain ⟨k0, kr, eks⟩ : ∃ k0 kr, ks = k0 :: kr := by
            cases eks : ks with
            | cons k0 kr => exact ⟨k0, kr, rfl⟩
            | nil =>
              obtain ⟨l0, hl0⟩ := List.exists_mem_of_ne_nil _ (List.ne_nil_of_length_pos f.leaves_pos)
              have := (asc.mem l0.key).mpr (List.mem_map.mpr ⟨l0, hl0, rfl⟩)
              rw [eks] at this
              cases this
          have hlen : kvs.length < sizeLine := by
            have h1 : r.length = ks.length := by rw [← hrk.1, List.length_map]
            rw [hrow.len, sizeLine_eq]
            omega
          refine ⟨a, _, rfl, DPut.k (k := .inr "other") vP hlen, ?_⟩
          have f1 : upd HP a (.dK (putK kvs (.inr "other") (.ref pt))) a = _ := upd_same
          have npk : pk ≠ a := fun e => by rw [e, vP] at kP; cases kP
          have npw : pw ≠ a := fun e => by rw [e, vP] at wP; cases wP
          have k1 : upd HP a (.dK (putK kvs (.inr "other") (.ref pt))) pk = _ := (upd_ne npk).trans kP
          walk_at "sx"
          refine ⟨a, rfl, .inl ⟨_, .inl f1⟩, ?_⟩
          walk_at "sx"
          refine i_ixL (.inl (.inl k1)) (by rw [eks]; exact at_0) ?_
          have hk0 : k0 ∈ r.map (·.1) := by rw [hrk.1, eks]; exact List.mem_cons_self
          obtain ⟨v0, hv0⟩ := Option.isSome_iff_exists.mp ((hrow.val k0).2.mpr hk0)
          have ne0 : ¬ k0 = "other" := fun e => hoth (hD.keys _ ((asc.mem _).mp (by rw [← hrk.1, ← e]; exact hk0)))
          refine ⟨_, .inr k0, v0, f1, rfl, by rw [valV_put, if_neg (fun e => ne0 (Sum.inr.inj e))]; exact hv0, ?_⟩
          have hvX : upd (upd HP a (.dK (putK kvs (.inr "other") (.ref pt)))) a (.dK (dropK (putK kvs (.inr "other") (.ref pt)) (.inr k0))) a = _ := upd_same
          have oth : ∀ p, p ≠ a → upd (upd HP a (.dK (putK kvs (.inr "other") (.ref pt)))) a (.dK (dropK (putK kvs (.inr "other") (.ref pt)) (.inr k0))) p = HP p := fun p np => (upd_ne np).trans (upd_ne np)
          generalize upd (upd HP a (.dK (putK kvs (.inr "other") (.ref pt)))) a (.dK (dropK (putK kvs (.inr "other") (.ref pt)) (.inr k0))) = HX at hvX oth ⊢
          have tq : Tq HP HX := fun b xs hb => by rw [oth b fun e => by rw [e, vP] at hb; cases hb]; exact hb
          have sX : SameBut x H HX := fun p o np hp => by rw [oth p fun e => by rw [e, ha0] at hp; cases hp]; exact sP p o np hp
          have bX : Box HX x := by
            obtain ⟨i1, j1, m1, h1, r1'⟩ := bP
            exact ⟨i1, j1, m1, by rw [oth x (Ne.symm hax)]; exact h1, r1'⟩
          have kX := (oth pk npk).trans kP
          have wX := (oth pw npw).trans wP
          have rX : ∀ m a, i + 1 ≤ m → zw[m]? = some (.ref a) → ∃ r, H a = none ∧ r ∈ rowsOf (fun _ => five) ks ∧ RowAt HX a r := fun m a' hm e => by
            obtain ⟨r, h0, h1, kv2, h2, h3⟩ := rP m a' hm e
            exact ⟨r, h0, h1, kv2, by rw [oth a' fun e2 => hia m hm (by rw [← e2]; exact e)]; exact h2, h3.mono tq⟩
          have gX := ((hrow.good (by rw [hrk.1]; exact asc.nd)).put (a := pt) hnoth).drop (k := .inr k0)
          obtain ⟨ρ, hρ⟩ : ∃ ρ : Rho, ∀ k ∈ f.keys, RdV HX ((valV (dropK (putK kvs (.inr "other") (.ref pt)) (.inr k0)) (.inr k)).getD .non) (ρ k) := by
            refine ⟨fun k => if k = k0 then none else look r k, fun k hk2 => ?_⟩
            rw [val_drop, valV_put]
            show RdV HX _ (if k = k0 then none else look r k)
            by_cases e0 : k = k0
            · rw [if_pos (congrArg Sum.inr e0), if_pos e0] <;> rfl
            · have e3 : ¬ k = "other" := fun e => hoth (by rw [← e]; exact hD.keys _ hk2)
              rw [if_neg (fun e => e0 (Sum.inr.inj e)), if_neg (fun e => e3 (Sum.inr.inj e)), if_neg e0]
              exact (RdV.of (rowP.val k).1).mono tq
          generalize dropK (putK kvs (.inr "other") (.ref pt)) (.inr k0) = kvX at hvX gX hρ
          walk_at "sx"
          refine ⟨a, kvX, rfl, .inl hvX, fun pd hpd => ?_⟩
          have sd := Same.new (o := .dK kvX) hpd
          have fd : upd HX pd (.dK kvX) pd = _ := upd_same
          have hvY := sd _ _ hvX
          have sY := SameBut.trans sX (Same.but sd)
          have bY := bX.same sd
          generalize upd HX pd (.dK kvX) = HY at sd fd hvY sY bY ⊢
          walk_at "sx"
          refine ⟨f.d, "holds", b, rfl, rfl, (hf.mono (hB.tq sY)).dr, okf, by simp, fun e => (by rw [isForm_of hk] at e; cases e), fun g eg hg => ?_⟩
          cases d_inj eg
          refine ⟨fun e => absurd e (by decide +kernel), fun e => absurd e (by decide +kernel), fun _ => ⟨ρ, a, rfl, ⟨kvX, .inl hvY, fun k hk2 => (hρ k hk2).mono (Same.tq sd)⟩, fun HZ qz sZ ht => ?_⟩⟩
          have sYZ := SameBut.trans sY (Same.but sZ)
          walk_at "sx"
          refine ⟨f, ρ, pd, hf.mono (hB.tq sYZ), by omega, rfl, ⟨kvX, .inl (sZ _ _ fd), fun k hk2 => (hρ k hk2).mono (Same.tq (sd.trans sZ))⟩, fun HU sU => ?_⟩
          walk_at "sx"
          refine ⟨by walk_at "len", fun pu hpu => ?_⟩
          have su := Same.new (o := .lst [.str "told", .bl (f.ev ρ)]) hpu
          have fu : upd HU pu (.lst [.str "told", .bl (f.ev ρ)]) pu = _ := upd_same
          have sXV := sd.trans (sZ.trans (sU.trans su))
          have sYV := sZ.trans (sU.trans su)
          have hqv := (sU.trans su) _ _ ht.2
          generalize upd HU pu (.lst [.str "told", .bl (f.ev ρ)]) = HV at su fu sXV sYV hqv ⊢
          walk_at "sx"
          refine ⟨.list [.str "told", .bool (f.ev ρ)], .lst hqv (.cons (.str _) (.cons (.bl _) .nil)), .lst fu (.cons (.str _) (.cons (.bl _) .nil)), .inl (okb _), fun HW sW => ?_⟩
          walk_at "sx"
          refine ⟨a, pd, kvX, kvX, rfl, rfl, sW _ _ (sYV _ _ hvY), sW _ _ (sYV _ _ fd), rfl, gX.ne, ?_⟩
          walk_at "sx"
          have sXW := sXV.trans sW
          refine ⟨_, _, _, rfl, SameBut.trans sX (Same.but sXW), bX.same sXW, sXW _ _ kX, sXW _ _ wX, fun m a' hm e => ?_⟩
          obtain ⟨r, h0, h1, h2⟩ := rX m a' hm e
          exact ⟨r, h0, h1, h2.mono sXW⟩
      · rintro σ HM ⟨b, x8, x9, rfl, sbM, hBM, hkM, hwM, hrM⟩
        walk_at "sx"
        exact q _ sbM hBM


end H68

set_option maxHeartbeats 1000000
namespace H68
open PySem PySem.Spec PyProof.Rows L2 KB
local macro_rules | `(tactic| walk_at "kb1") => `(tactic| with_reducible first
  | refine i_var rfl ?_ | refine i_c ?_ | refine i_cons ?_ | refine i_nil ?_ | refine i_op ?_ | refine i_seq ?_ | refine i_if ?_ | refine i_ret ?_ | refine i_asg ?_ | refine i_name ?_ | refine i_next ?_ | refine i_drop ?_
  | refine i_un ?_ | refine i_cb ?_ | refine i_cal ?_ | refine i_calM ?_ | refine i_test ?_ | refine i_tb ?_ | refine i_k ?_ | refine i_not ?_ | refine i_and ?_ | refine i_or ?_ | refine i_andV ?_ | refine i_orV ?_ | refine i_notV ?_ | refine i_ife ?_
  | refine i_isN ?_ | refine i_notN ?_ | refine i_chain ?_ | refine i_tup ?_ | refine i_lst ?_ | refine i_sl ?_ | refine i_noPart ?_ | refine i_part ?_ | refine i_ik ?_ | refine i_sk ?_ | refine i_bm0 ?_ | refine i_bm ?_ | refine i_m1 ?_ | refine i_m0 ?_ | refine i_fld ?_ | refine i_tru ?_
  | refine i_gC ?_ | refine i_gN ?_ | refine i_for0L ?_ | refine i_for0E ?_ | refine i_for0R ?_ | refine i_lc0L ?_ | refine i_lc0S ?_ | refine i_lc0Z ?_ | refine i_tix ?_ | refine i_lorei ?_ | refine i_js0 ?_ | refine i_xf ?_ | refine i_calR ?_ | refine i_calRS ?_ | refine i_calS ?_ | refine i_for0R3 ?_ | refine i_mak ?_ | refine i_dget ?_ | refine i_din ?_ | refine i_dnotin ?_ | refine i_dput ?_ | refine i_dnewT ?_ | refine i_sub ?_ | refine i_rng1 ?_ | refine i_rng2 ?_ | refine i_rev ?_ | refine i_replC ?_ | refine i_lenset ?_ | refine i_mS ?_ | refine i_js ?_ | refine i_fmt ?_ | refine i_par ?_ | refine i_v2 ?_ | refine i_par3 ?_ | refine i_v3 ?_ | refine i_mkO ?_ | refine i_ost ?_ | refine i_sFld ?_ | refine i_yes ?_ | refine i_dget1 ?_ | refine i_dnewK ?_ | refine i_dpop1 ?_ | refine i_ndnew ?_ | refine i_nget2 ?_ | refine i_nsetd ?_ | refine i_nix ?_ | refine i_nput ?_ | refine i_listItems ?_ | refine i_for0Nv ?_ | refine i_lc0Nk ?_ | refine i_dstar ?_ | refine i_lc20L ?_ | refine i_sp1 ?_ | refine i_sp2 ?_ | refine i_sp3 ?_ | refine i_sp4 ?_)
local macro_rules | `(tactic| walk_at "dr") => `(tactic| first
  | assumption | exact Dr.non | exact Dr.bl _ | exact Dr.int _ | exact Dr.str _ | exact Dr.tup (by assumption) (by assumption) | exact Dr.lst (by assumption) (by assumption) | exact Dr.dic (by assumption) | exact Im.dr (by assumption))
local macro_rules | `(tactic| walk_at "if") => `(tactic| first
  | ((with_reducible refine i_iT ?_ ?_); · rfl) | ((with_reducible refine i_iF ?_ ?_); · rfl))
local macro_rules | `(tactic| walk_at "isi") => `(tactic| ((with_reducible show rIsiU _ _ _ _); first
  | (with_reducible refine j_isTup (by walk_at "dr") ?_) | (with_reducible refine j_isLst (by walk_at "dr") ?_) | (with_reducible refine j_isStr (by walk_at "dr") ?_)
  | (with_reducible refine j_isBl (by walk_at "dr") ?_) | (with_reducible refine j_isInt (by walk_at "dr") ?_)))
local macro_rules | `(tactic| walk_at "op") => `(tactic| with_reducible first
  | refine i_rI0 ?_ | refine i_addI ?_ | refine i_rU ?_ | refine i_ltI ?_ | refine i_inC ?_ | refine i_notInC ?_ | refine i_intI ?_ | refine i_intB ?_ | refine i_abs ?_ | refine i_max2 ?_ | refine i_min2 ?_ | refine i_isBl ?_
  | (refine i_eqS rfl ?_) | (refine i_neS rfl ?_))
local macro_rules | `(tactic| walk_at "wp") => `(tactic| ((with_reducible refine i_wp ?_ ?_); · rfl))
local macro_rules | `(tactic| walk_at "sx") => `(tactic| repeat first | walk_at "kb1" | walk_at "if" | walk_at "isi" | walk_at "op" | walk_at "wp")
local macro_rules | `(tactic| walk_at "cd") => `(tactic| refine ⟨_, (by walk_at "dr"), ?_⟩)
local macro_rules | `(tactic| walk_at "len") => `(tactic| (simp only [List.length_cons, List.length_nil]; decide))
local macro_rules | `(tactic| walk_at "ic") => `(tactic| first
  | ((with_reducible refine i_iT ?_ ?_); · first | with_reducible rfl | (simp only [Bool.not_true, Bool.not_false, isTupD, isLstD, isStrD, isBlD, isIntD, isSeqD]; done))
  | ((with_reducible refine i_iF ?_ ?_); · first | with_reducible rfl | (simp only [Bool.not_true, Bool.not_false, isTupD, isLstD, isStrD, isBlD, isIntD, isSeqD]; done)))
local macro_rules | `(tactic| walk_at "sy") => `(tactic| repeat first | walk_at "kb1" | walk_at "ic" | walk_at "isi" | walk_at "op" | walk_at "wp")
theorem sc_law : FnScope ["script", "k", "box", "by_name", "turn", "formula", "value", "right", "word", "found"] ["script"] (defScope s_law) := ⟨rfl, rfl, rfl, by decide +kernel, rfl, by decide +kernel, by decide +kernel⟩
theorem ok_law {P : Program} {w : World} {K : PySem.W.Frag} {mg : Str → Option Value} {base : Heap} (T : Tx K mg) {fd : FuncData} (FD : FunD K d_law.name d_law.qual d_law.params d_law.body d_law.scope [] [] (He.fAd K d_law.at_) fd)
    (C_law_near : Cn P w K mg base 2 (He.fAd K ("_law_near", none)) ["box", "formula"] (sp_law_near K))
    (C_law_very : Cn P w K mg base 14 (He.fAd K ("_law_very", none)) ["told", "value"] (sp_law_very K))
    (C_law_asked : Cn P w K mg base 15 (He.fAd K ("_law_asked", none)) ["word", "formula", "readings", "by_name"] (sp_law_asked K))
    (C_law_same : Cn P w K mg base 13 (He.fAd K ("_law_same", none)) ["told", "due"] (sp_law_same K))
    (C_is_formula : CnR P w K mg base 11 (He.fAd K ("is_formula", none)) ["thing"] (sp_is_formula K))
    (C_law_is_formula : Cn P w K mg base 2 (He.fAd K ("_law_is_formula", none)) ["value"] (sp_law_is_formula K))
    (C_law_formula_right : Cn P w K mg base 16 (He.fAd K ("_law_formula_right", none)) ["box", "formula", "by_name"] (sp_law_formula_right K))
    (C_law_leaves : Cn P w K mg base 1 (He.fAd K ("_law_leaves", none)) ["formula"] (sp_law_leaves K))
    (C_law_formula : Cn P w K mg base 3 (He.fAd K ("_law_formula", none)) ["box", "keys", "most"] (sp_law_formula K))
    (C_law_take : Cn P w K mg base 1 (He.fAd K ("_law_take", none)) ["box", "size"] (sp_law_take K))
    (C_law_box : Cn P w K mg base 1 (He.fAd K ("_law_box", none)) ["cell"] (sp_law_box K))
    (C_law_cell : Cn P w K mg base 1 (He.fAd K ("_law_cell", none)) ["script", "k"] (sp_law_cell K)) :
    FnOk P w K mg base (L2N.CX P w) 17 (He.fAd K ("law", none)) fd ["script"] (sp_law K) := by
  refine fnN (d := d_law) FD sc_law sp1_len (fun cdv A outer s H vs Q E hr h => ?_)
  obtain ⟨v_script, rfl, h⟩ := h
  refine ⟨_, (pss_cons (ps_for PassesOwn.never rfl (pi_range1 (by rfl) T.f_range (pa_cons (pe_callB (call_maxU rfl) (by rfl) T.f_max (by decide +kernel) (pa_cons pe_int (pa_cons (pe_callB (call_minU rfl) (by rfl) T.f_min (by decide +kernel) (pa_cons pe_int (pa_cons (pe_callB (c_len (K := K) rfl) (by rfl) T.f_len (by decide +kernel) (pa_cons (pv 0) pa_nil)) pa_nil))) pa_nil))) pa_nil)) (pg_name (i := 1) sc_law.nd rfl (.inl rfl))
  (pss_cons (ps_set (i := 2) sc_law.nd rfl (.inl rfl) (pe_cn C_law_box hr (by decide) (by rfl) T.g_law_box passN (pa_cons (pe_cn C_law_cell hr (by decide) (by rfl) T.g_law_cell passN (pa_cons (pv 0) (pa_cons (pv 1) pa_nil))) pa_nil)))
  (pss_cons (ps_set (i := 3) sc_law.nd rfl (.inl rfl) (pe_cmpR (o_eq (K := K) rfl hr.units) (pe_cn C_law_take hr (by decide) (by rfl) T.g_law_take passN (pa_cons (pv 2) (pa_cons pe_int pa_nil))) pe_int (by rfl)))
  (pss_one (ps_for PassesOwn.never rfl (pi_range1 (by rfl) T.f_range (pa_cons pe_int pa_nil)) (pg_name (i := 4) sc_law.nd rfl (.inl rfl))
  (pss_cons (ps_set (i := 5) sc_law.nd rfl (.inl rfl) (pe_cn C_law_formula hr (by decide) (by rfl) T.g_law_formula passN (pa_cons (pv 2) (pa_cons (pe_slice (s_seq (K := K) rfl) (pe_lst (pa_cons pe_str (pa_cons pe_str (pa_cons pe_str pa_nil)))) po_none (po_some (pe_op op_addU pe_int (pe_cn C_law_take hr (by decide) (by rfl) T.g_law_take passN (pa_cons (pv 2) (pa_cons pe_int pa_nil)))))) (pa_cons pe_int pa_nil)))))
  (pss_cons (ps_if (PW.pt (pw_and (pt_cmpR op_le (pe_callB (c_len (K := K) rfl) (by rfl) T.f_len (by decide +kernel) (pa_cons (pe_cn C_law_leaves hr (by decide) (by rfl) T.g_law_leaves passN (pa_cons (pv 5) pa_nil)) pa_nil)) pe_int (by rfl)) (pw_and1 (pt_not (pt_val (pe_cn C_law_formula_right hr (by decide) (by rfl) T.g_law_formula_right passN (pa_cons (pv 2) (pa_cons (pv 5) (pa_cons (pv 3) pa_nil))))))))) (pss_one (ps_ret pe_bl)) pss_nil)
  (pss_cons (ps_for PassesOwn.never rfl (w_list (K := K) rfl (pe_cn C_law_near hr (by decide) (by rfl) T.g_law_near passN (pa_cons (pv 2) (pa_cons (pv 5) pa_nil)))) (pg_name (i := 6) sc_law.nd rfl (.inl rfl))
  (pss_cons (ps_set (i := 7) sc_law.nd rfl (.inl rfl) (pe_cn C_law_is_formula hr (by decide) (by rfl) T.g_law_is_formula passN (pa_cons (pv 6) pa_nil)))
  (pss_cons (ps_if (pt_not (pt_val (pe_cn C_law_same hr (by decide) (by rfl) T.g_law_same passN (pa_cons (pe_ifExp (pt_val (pv 3)) (pe_cnR C_is_formula hr (by decide) (by rfl) T.g_is_formula passN (pk_cons (pv 6) pk_nil)) (pe_cn C_is_formula.cn hr (by decide) (by rfl) T.g_is_formula passN (pa_cons (pv 6) pa_nil))) (pa_cons (pv 7) pa_nil))))) (pss_one (ps_ret pe_bl)) pss_nil)
  (pss_one (ps_if (pt_not (pt_val (pv 7))) (pss_one (ps_for PassesOwn.never rfl (w_list (K := K) rfl (pe_lst (pa_cons pe_str (pa_cons pe_str (pa_cons pe_str pa_nil))))) (pg_name (i := 8) sc_law.nd rfl (.inl rfl))
  (pss_cons (ps_set (i := 9) sc_law.nd rfl (.inl rfl) (pe_cn C_law_asked hr (by decide) (by rfl) T.g_law_asked passN (pa_cons (pv 8) (pa_cons (pv 6) (pa_cons pe_dnewK (pa_cons (pe_not (pv 3)) pa_nil))))))
  (pss_one (ps_if (PW.pt (pw_or (pt_cmpR (o_ne (K := K) rfl hr.units) (pe_ix (x_seq (K := K) rfl) (pv 9) pe_int (fun _ _ => rfl)) pe_str (by rfl)) (pw_or1 (pt_not (pt_val (pe_cn C_law_very hr (by decide) (by rfl) T.g_law_very passN (pa_cons (pe_ix (x_seq (K := K) rfl) (pv 9) pe_int (fun _ _ => rfl)) (pa_cons (pv 6) pa_nil)))))))) (pss_one (ps_ret pe_bl)) pss_nil))))) pss_nil)))))
  (pss_one (ps_set (i := 3) sc_law.nd rfl (.inl rfl) (pe_not (pv 3))))))))))))
  (pss_one (ps_ret pe_bl))), ?_⟩
  rw [show start ["script", "k", "box", "by_name", "turn", "formula", "value", "right", "word", "found"] [v_script] = [some v_script, none, none, none, none, none, none, none, none, none] from rfl]
  obtain ⟨sa, ns, rfl, hS, q⟩ := h
  walk_at "sx"
  refine i_lenL hS ?_
  walk_at "sx"
  refine i_forR (fun i σ H' => ∃ (u1 u2 u3 u4 u5 u6 u7 u8 u9 : Option V), σ = [some (.ref sa), u1, u2, u3, u4, u5, u6, u7, u8, u9] ∧ Same H H') (by constructor <;> (repeat' split) <;> omega) ?_ ?_ ?_
  · exact ⟨_, _, _, _, _, _, _, _, _, rfl, fun _ _ e => e⟩
  · rintro i σ H1 hi ⟨u1, u2, u3, u4, u5, u6, u7, u8, u9, rfl, s1⟩
    walk_at "sx"
    refine ⟨sa, ns, 0 + (i : Nat), rfl, s1.seq hS, rfl, by omega, fun c => ?_⟩
    walk_at "sx"
    intro H2 x s2 hx hB2
    walk_at "sx"
    have hx0 : H x = none := fresh_of s1 hx
    refine ⟨x, 2, rfl, hB2, rfl, by decide, by decide, fun r4 H4 r40 r41 sb4 hB4 => ?_⟩
    walk_at "sx"
    have o4 := SameBut.old sb4 (s1.trans s2) hx0
    generalize decide (V.int r4 = V.int 1) = bn
    walk_at "sx"
    refine i_forR (fun j σ H' => ∃ (b : Bool) (u4 u5 u6 u7 u8 u9 : Option V), σ = [some (.ref sa), some (.int (0 + ((i : Nat) : Int))), some (.ref x), some (.bl b), u4, u5, u6, u7, u8, u9] ∧ Same H H' ∧ Box H' x) (by decide) ?_ ?_ ?_
    · exact ⟨_, _, _, _, _, _, _, rfl, o4, hB4⟩
    · rintro j σ H5 hj ⟨b, u4, u5, u6, u7, u8, u9, rfl, o5, hB5⟩
      walk_at "sx"
      refine ⟨by walk_at "len", fun pk hpk => ?_⟩
      have sk := Same.new (o := .lst [.str "a", .str "bb", .str "zq"]) hpk
      have fk : upd H5 pk (.lst [.str "a", .str "bb", .str "zq"]) pk = _ := upd_same
      have hB6 := hB5.same sk
      have nkx := box_ne hB5 hpk
      have o6 := o5.trans sk
      generalize upd H5 pk (.lst [.str "a", .str "bb", .str "zq"]) = H6 at sk fk hB6 o6 ⊢
      walk_at "sx"
      refine ⟨x, 3, rfl, hB6, rfl, by decide, by decide, fun r7 H7 r70 r71 sb7 hB7 => ?_⟩
      have o7 := SameBut.old sb7 o6 hx0
      have fk7 := sb7 _ _ nkx fk
      walk_at "sx"
      obtain ⟨F, hF, hF3, hoth, hcut⟩ : ∃ F : Fr, okFs F ∧ F.keys.length ≤ 3 ∧ ¬ ("other" : Str) ∈ F.keys ∧ cutV [.str "a", .str "bb", .str "zq"] none (some (1 + r7)) = F.keys.map V.str := by
        rcases (by omega : r7 = 0 ∨ r7 = 1 ∨ r7 = 2) with rfl | rfl | rfl
        · exact ⟨⟨["a"], 1, 1⟩, ⟨⟨by decide +kernel, by decide +kernel, by decide +kernel, by decide +kernel, by decide +kernel⟩, by decide +kernel, by decide +kernel, by decide +kernel⟩, by decide, by decide +kernel, rfl⟩
        · exact ⟨⟨["a", "bb"], 1, 1⟩, ⟨⟨by decide +kernel, by decide +kernel, by decide +kernel, by decide +kernel, by decide +kernel⟩, by decide +kernel, by decide +kernel, by decide +kernel⟩, by decide, by decide +kernel, rfl⟩
        · exact ⟨⟨["a", "bb", "zq"], 1, 1⟩, ⟨⟨by decide +kernel, by decide +kernel, by decide +kernel, by decide +kernel, by decide +kernel⟩, by decide +kernel, by decide +kernel, by decide +kernel⟩, by decide, by decide +kernel, rfl⟩
      refine i_slL (.inl (.inl fk7)) fun pl hpl => ?_
      rw [hcut]
      have sl := Same.new (o := .lst (F.keys.map V.str)) hpl
      have fl : upd H7 pl (.lst (F.keys.map V.str)) pl = _ := upd_same
      have hB8 := hB7.same sl
      have o8 := o7.trans sl
      generalize upd H7 pl (.lst (F.keys.map V.str)) = H8 at sl fl hB8 o8 ⊢
      walk_at "sx"
      refine ⟨x, pl, F, 6, rfl, hB8, rfl, fl, hF, rfl, by decide, by decide, fun H9 vf f sb9 hB9 hf9 hD => ?_⟩
      have o9 := SameBut.old sb9 o8 hx0
      walk_at "sx"
      have hk := hD.fm (Nat.le_refl 6)
      refine ⟨f, hf9, by have := hD.lev; omega, by have := hk.size; omega, fun H10 pv vs ls s10 hpv fv imv hls => ?_⟩
      have hll : ls.length ≤ 6 := by rw [hls.length_eq]; exact hk.six
      have hvl : vs.length = ls.length := by have := imv.length; rw [List.length_map] at this; exact this
      walk_at "sx"
      refine i_lenL (.inl (.inl fv)) ?_
      walk_at "sx"
      rw [if_pos (decide_eq_true (show ((vs.length : Nat) : Int) ≤ 6 by omega))]
      walk_at "sx"
      have hB10 := hB9.same s10
      have o10 := o9.trans s10
      have hf10 := hf9.mono (Same.tq s10)
      refine ⟨x, F, f, b, rfl, hB10, hf10, hD, hF3, hoth, rfl, fun H11 sb11 hB11 => ?_⟩
      have o11 := SameBut.old sb11 o10 hx0
      have hf11 := hf10.mono (hB10.tq sb11)
      walk_at "sx"
      refine ⟨x, F, f, rfl, hB11, hf11, hD, fun H12 pn ns' sb12 hB12 hpn hnear hnl => ?_⟩
      have o12 := SameBut.old sb12 o11 hx0
      walk_at "sx"
      refine i_forL (fun m σ H' => ∃ (u6 u7 u8 u9 : Option V), σ = [some (.ref sa), some (.int (0 + ((i : Nat) : Int))), some (.ref x), some (.bl b), some (.int (0 + ((j : Nat) : Int))), some vf, u6, u7, u8, u9] ∧ Same H12 H') (.inl (.inl hpn)) ?_ ?_ ?_ ?_
      · exact ⟨_, _, _, _, rfl, fun _ _ e => e⟩
      · rintro m σ H' _ ⟨_, _, _, _, rfl, s⟩
        exact .inl (.inl (s _ _ hpn))
      · rintro m v σ HL hv ⟨u6', u7', u8', u9', rfl, sL⟩
        have hnv := (hnear v (List.mem_of_getElem? hv)).mono sL
        obtain ⟨d, hd, hok, hsd, hll2⟩ := hnv
        walk_at "sx"
        refine ⟨d, hd, okF12 hok, fun H13 s13 => ?_⟩
        walk_at "sx"
        rcases (by cases b <;> simp : b = true ∨ b = false) with hb | hb
        · rw [if_pos hb]
          walk_at "sx"
          refine ⟨_, rfl, d, hd.mono s13, okF12 hok, fun H14 s14 => ?_⟩
          walk_at "sx"
          refine ⟨.bool (isFormD d), .bl _, .bl _, .inl trivial, fun H15 s15 => ?_⟩
          have sX := sL.trans (s13.trans (s14.trans s15))
          have hdX := hd.mono (s13.trans (s14.trans s15))
          have hsdX : isLstD d = true → Sd H15 v d := fun e => (hsd e).mono (s13.trans (s14.trans s15))
          walk_at "sx"
          cases hform : isFormD d
          · walk_at "sx"
            refine ⟨by walk_at "len", fun pw hpw => ?_⟩
            have sw := Same.new (o := .lst [.str "keys", .str "matters", .str "holds"]) hpw
            have fw : upd H15 pw (.lst [.str "keys", .str "matters", .str "holds"]) pw = _ := upd_same
            have sW := sX.trans sw
            have hdW := hdX.mono sw
            have hsdW : isLstD d = true → Sd _ v d := fun e => (hsdX e).mono sw
            generalize upd H15 pw (.lst [.str "keys", .str "matters", .str "holds"]) = HW at sw fw sW hdW hsdW ⊢
            walk_at "sx"
            refine i_forL (fun m σ H' => ∃ (u8 u9 : Option V), σ = [some (.ref sa), some (.int (0 + ((i : Nat) : Int))), some (.ref x), some (.bl b), some (.int (0 + ((j : Nat) : Int))), some vf, some v, some (.bl false), u8, u9] ∧ Same HW H') (.inl (.inl fw)) ?_ ?_ ?_ ?_
            · exact ⟨_, _, rfl, fun _ _ e => e⟩
            · rintro m σ H' _ ⟨_, _, rfl, s⟩
              exact .inl (.inl (s _ _ fw))
            · rintro m2 y σ HY hy ⟨u8, u9, rfl, sY⟩
              obtain ⟨word, rfl, hword⟩ : ∃ word : Str, y = .str word ∧ word ∈ (["keys", "matters", "holds"] : List Str) := by
                have := List.mem_of_getElem? hy
                simp only [List.mem_cons, List.not_mem_nil, or_false] at this
                rcases this with rfl | rfl | rfl
                · exact ⟨_, rfl, by simp⟩
                · exact ⟨_, rfl, by simp⟩
                · exact ⟨_, rfl, by simp⟩
              walk_at "sx"
              intro pd hpd
              have sd := Same.new (o := .dK []) hpd
              walk_at "sx"
              refine ⟨d, word, !b, rfl, rfl, (hdW.mono sY).mono sd, okF12 hok, hword, fun _ HZ qz sZ ht => ?_, fun f2 e hk2 => (by rw [e, isForm_of hk2] at hform; cases hform)⟩
              walk_at "sx"
              refine i_ixL (.inl (.inl ht.2)) rfl ?_
              walk_at "sx"
              refine i_ixL (.inl (.inl ht.2)) rfl ?_
              walk_at "sx"
              refine ⟨d, rfl, ((hdW.mono sY).mono sd).mono sZ, hok, fun e => ((hsdW e).mono sY).mono (sd.trans sZ), hll2, fun HU sU => ?_⟩
              walk_at "sx"
              exact ⟨_, _, rfl, sY.trans (sd.trans (sZ.trans sU))⟩
            · rintro σ HY ⟨u8, u9, rfl, sY⟩
              walk_at "sx"
              exact ⟨_, _, _, _, rfl, sW.trans sY⟩
          · walk_at "sx"
            exact ⟨_, _, _, _, rfl, sX⟩
        · rw [if_neg (by rw [hb]; decide)]
          walk_at "sx"
          refine ⟨d, hd.mono s13, okF12 hok, fun H14 s14 => ?_⟩
          walk_at "sx"
          refine ⟨.bool (isFormD d), .bl _, .bl _, .inl trivial, fun H15 s15 => ?_⟩
          have sX := sL.trans (s13.trans (s14.trans s15))
          have hdX := hd.mono (s13.trans (s14.trans s15))
          have hsdX : isLstD d = true → Sd H15 v d := fun e => (hsd e).mono (s13.trans (s14.trans s15))
          walk_at "sx"
          cases hform : isFormD d
          · walk_at "sx"
            refine ⟨by walk_at "len", fun pw hpw => ?_⟩
            have sw := Same.new (o := .lst [.str "keys", .str "matters", .str "holds"]) hpw
            have fw : upd H15 pw (.lst [.str "keys", .str "matters", .str "holds"]) pw = _ := upd_same
            have sW := sX.trans sw
            have hdW := hdX.mono sw
            have hsdW : isLstD d = true → Sd _ v d := fun e => (hsdX e).mono sw
            generalize upd H15 pw (.lst [.str "keys", .str "matters", .str "holds"]) = HW at sw fw sW hdW hsdW ⊢
            walk_at "sx"
            refine i_forL (fun m σ H' => ∃ (u8 u9 : Option V), σ = [some (.ref sa), some (.int (0 + ((i : Nat) : Int))), some (.ref x), some (.bl b), some (.int (0 + ((j : Nat) : Int))), some vf, some v, some (.bl false), u8, u9] ∧ Same HW H') (.inl (.inl fw)) ?_ ?_ ?_ ?_
            · exact ⟨_, _, rfl, fun _ _ e => e⟩
            · rintro m σ H' _ ⟨_, _, rfl, s⟩
              exact .inl (.inl (s _ _ fw))
            · rintro m2 y σ HY hy ⟨u8, u9, rfl, sY⟩
              obtain ⟨word, rfl, hword⟩ : ∃ word : Str, y = .str word ∧ word ∈ (["keys", "matters", "holds"] : List Str) := by
                have := List.mem_of_getElem? hy
                simp only [List.mem_cons, List.not_mem_nil, or_false] at this
                rcases this with rfl | rfl | rfl
                · exact ⟨_, rfl, by simp⟩
                · exact ⟨_, rfl, by simp⟩
                · exact ⟨_, rfl, by simp⟩
              walk_at "sx"
              intro pd hpd
              have sd := Same.new (o := .dK []) hpd
              walk_at "sx"
              refine ⟨d, word, !b, rfl, rfl, (hdW.mono sY).mono sd, okF12 hok, hword, fun _ HZ qz sZ ht => ?_, fun f2 e hk2 => (by rw [e, isForm_of hk2] at hform; cases hform)⟩
              walk_at "sx"
              refine i_ixL (.inl (.inl ht.2)) rfl ?_
              walk_at "sx"
              refine i_ixL (.inl (.inl ht.2)) rfl ?_
              walk_at "sx"
              refine ⟨d, rfl, ((hdW.mono sY).mono sd).mono sZ, hok, fun e => ((hsdW e).mono sY).mono (sd.trans sZ), hll2, fun HU sU => ?_⟩
              walk_at "sx"
              exact ⟨_, _, rfl, sY.trans (sd.trans (sZ.trans sU))⟩
            · rintro σ HY ⟨u8, u9, rfl, sY⟩
              walk_at "sx"
              exact ⟨_, _, _, _, rfl, sW.trans sY⟩
          · walk_at "sx"
            exact ⟨_, _, _, _, rfl, sX⟩
      · rintro σ HL ⟨u6', u7', u8', u9', rfl, sL⟩
        walk_at "sx"
        exact ⟨_, _, _, _, _, _, _, rfl, o12.trans sL, hB12.same sL⟩
    · rintro σ H5 ⟨b, u4, u5, u6, u7, u8, u9, rfl, o5, hB5⟩
      walk_at "sx"
      exact ⟨_, _, _, _, _, _, _, _, _, rfl, o5⟩
  · rintro σ H1 ⟨u1, u2, u3, u4, u5, u6, u7, u8, u9, rfl, s1⟩
    walk_at "sx"
    exact q _


end H68

set_option maxHeartbeats 0
namespace H68
open PySem PySem.Spec PyProof.Rows L2 KB
theorem facts {P : Program} {w : World} {K : PySem.W.Frag} {mg : Str → Option Value} {base : Heap} (T : Tx K mg) {fd : FuncData} (FD : FunD K d_law.name d_law.qual d_law.params d_law.body d_law.scope [] [] (He.fAd K d_law.at_) fd) :
    FnOk P w K mg base L2.CX0 17 (He.fAd K ("law", none)) fd ["script"] (sp_law K) := by
  have C_law_take := ok_law_take (P := P) (w := w) (base := base) T
  have C_law_near := ok_law_near (P := P) (w := w) (base := base) T (C_law_take := C_law_take)
  have C_law_same := ok_law_same (P := P) (w := w) (base := base) T
  have C_law_very := ok_law_very (P := P) (w := w) (base := base) T (C_law_same := C_law_same)
  have C_leaves := ok_leaves (P := P) (w := w) (base := base) T
  have C_is_name := ok_is_name (P := P) (w := w) (base := base) T
  have C_is_value := ok_is_value (P := P) (w := w) (base := base) T
  have C_has_form := ok_has_form (P := P) (w := w) (base := base) T (C_is_name := C_is_name) (C_is_value := C_is_value)
  have C_is_formula := ok_is_formula (P := P) (w := w) (base := base) T (C_leaves := C_leaves) (C_has_form := C_has_form)
  have C_NoFormula_init := ok_NoFormula_init (P := P) (w := w) (base := base) T
  have C_need_formula := ok_need_formula (P := P) (w := w) (base := base) T (C_is_formula := C_is_formula.cn) (C_NoFormula_init := C_NoFormula_init)
  have C_keys_of := ok_keys_of (P := P) (w := w) (base := base) T (C_leaves := C_leaves) (C_need_formula := C_need_formula)
  have C_is_true := ok_is_true (P := P) (w := w) (base := base) T
  have C_value_beside := ok_value_beside (P := P) (w := w) (base := base) T
  have C_values_named := ok_values_named (P := P) (w := w) (base := base) T (C_leaves := C_leaves)
  have C_samples := ok_samples (P := P) (w := w) (base := base) T (C_value_beside := C_value_beside) (C_values_named := C_values_named)
  have C_rows_of := ok_rows_of (P := P) (w := w) (base := base) T (C_leaves := C_leaves) (C_samples := C_samples)
  have C_telling_pair := ok_telling_pair (P := P) (w := w) (base := base) T (C_is_true := C_is_true) (C_rows_of := C_rows_of)
  have C_matters := ok_matters (P := P) (w := w) (base := base) T (C_keys_of := C_keys_of.cn) (C_telling_pair := C_telling_pair) (C_need_formula := C_need_formula)
  have C_holds := ok_holds (P := P) (w := w) (base := base) T (C_is_true := C_is_true) (C_need_formula := C_need_formula)
  have C_law_asked := ok_law_asked (P := P) (w := w) (base := base) T (C_keys_of := C_keys_of) (C_matters := C_matters) (C_holds := C_holds)
  have C_law_is_value := ok_law_is_value (P := P) (w := w) (base := base) T
  have C_law_is_name := ok_law_is_name (P := P) (w := w) (base := base) T
  have C_law_is_formula := ok_law_is_formula (P := P) (w := w) (base := base) T (C_law_is_value := C_law_is_value) (C_law_is_name := C_law_is_name)
  have C_law_mixed := ok_law_mixed (P := P) (w := w) (base := base) T (C_law_take := C_law_take)
  have C_law_all_readings := ok_law_all_readings (P := P) (w := w) (base := base) T
  have C_law_holds := ok_law_holds (P := P) (w := w) (base := base) T
  have C_law_leaves := ok_law_leaves (P := P) (w := w) (base := base) T
  have C_law_matters := ok_law_matters (P := P) (w := w) (base := base) T (C_law_all_readings := C_law_all_readings) (C_law_holds := C_law_holds) (C_law_leaves := C_law_leaves)
  have C_law_formula_right := ok_law_formula_right (P := P) (w := w) (base := base) T (C_law_mixed := C_law_mixed) (C_law_all_readings := C_law_all_readings) (C_law_same := C_law_same) (C_law_holds := C_law_holds) (C_law_asked := C_law_asked) (C_law_take := C_law_take) (C_law_matters := C_law_matters) (C_law_leaves := C_law_leaves)
  have C_law_levels := ok_law_levels (P := P) (w := w) (base := base) T
  have C_law_leaf := ok_law_leaf (P := P) (w := w) (base := base) T (C_law_take := C_law_take)
  have C_law_formula := ok_law_formula (P := P) (w := w) (base := base) T (C_law_take := C_law_take) (C_law_levels := C_law_levels) (C_law_leaf := C_law_leaf)
  have C_law_box := ok_law_box (P := P) (w := w) (base := base) T
  have C_law_cell := ok_law_cell (P := P) (w := w) (base := base) T
  exact fn0 (ok_law (P := P) (w := w) (base := base) T FD (C_law_near := C_law_near) (C_law_very := C_law_very) (C_law_asked := C_law_asked) (C_law_same := C_law_same) (C_is_formula := C_is_formula) (C_law_is_formula := C_law_is_formula) (C_law_formula_right := C_law_formula_right) (C_law_leaves := C_law_leaves) (C_law_formula := C_law_formula) (C_law_take := C_law_take) (C_law_box := C_law_box) (C_law_cell := C_law_cell)) fun _ _ _ _ h => h
end H68
open PySem PySem.W PySem.Calls PyProof.Rows
theorem PySem.Challenge.cw_toldlore_k68_formulas_and_keys_that_matt_holds : PySem.Challenge.rw_toldlore_k68_formulas_and_keys_that_matt.Holds := by
  w_on; o_law
  refine HandSHeadRun.head_any (r := OpenLaw.row PySem.Challenge.rw_toldlore_k68_formulas_and_keys_that_matt) (q := view (OpenLaw.row PySem.Challenge.rw_toldlore_k68_formulas_and_keys_that_matt).prog [51]) (H := H68.hk) (ob := H68.ob) (M := 4000) (loose := H68.loose) (d := HandSHeadRun.topDef (OpenLaw.row PySem.Challenge.rw_toldlore_k68_formulas_and_keys_that_matt).prog 51) (kwd := []) H68.ob_eq
    (by kernel_rfl) (fun s => by kernel_rfl) H68.run (by kernel_rfl) (by kernel_rfl) (by kernel_rfl) (by rfl) (by first | assumption | decide +kernel) (by decide +kernel) ⟨rfl, rfl, rfl, rfl, rfl, by decide +kernel⟩ ?hw ?hc
  case hw => w_witness2
  case hc =>
    refine L2.walk_ofE (l := PySem.Challenge.rw_toldlore_k68_formulas_and_keys_that_matt) (n := 63) (k := 17) (x := "script") (CX := L2.CX0) rfl (by decide) (by kernel_rfl) ⟨rfl, by decide, by decide⟩ ?F (fun _ _ _ _ z => z)
    intro w mg fa h Y G hmg0
    obtain ⟨K, KX, c⟩ := Y
    have hmg : mg ("law" : PySem.Str) = some (.ref fa) := by
      have e : (HandSHeadRun.topDef (OpenLaw.row PySem.Challenge.rw_toldlore_k68_formulas_and_keys_that_matt).prog 51).name = ("law" : PySem.Str) := by kernel_rfl
      rw [← e]
      exact hmg0
    have T := H68.tx_of KX G c
    have ef := hmg.symm.trans T.g_law
    cases ef
    obtain ⟨fd, FD⟩ := T.st_law
    have b := L2.FunD.bindsA (ps := ["script"]) FD fun _ _ _ _ _ _ us hl => match us, hl with | [_], _ => rfl
    exact ⟨K, fd, H68.sp_law K, KX, fun s v => b s [v] rfl, fun H a ns hl _ hS => ⟨_, rfl, a, ns, rfl, hS, fun _ => rfl⟩, fun base _ _ => H68.facts T FD⟩
