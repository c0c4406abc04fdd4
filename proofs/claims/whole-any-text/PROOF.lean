import PyProof.Rows.All
import Wide.All
import OpenK.AllK
import Wide.FinOn
import KE.KStateDown
import HandS.ForMost
import HandS.Base
import HandS.Call
import HandS.Ends
import HandS.More
import HandS.Words
import HandS.WordsExc
import HandS.Defaults
import HandS.Head0
import HandS.Head1
import HandS.Head2
import HandS.HeadEnd
import HandS.HeadHook1
import HandS.HeadHook2
import HandS.HeadHook3
import HandS.HeadHook4
import HandS.HeadWalk
import HandS.ExcInit
import HandS.ExcField
import HandS.ClsMeth
import HandS.ForExc
import HandS.Flow
import HandS.Style
import HandS.Small
import HandS.Conv
import HandS.DictComp
import HandS.TupAny
import HandS.IsInst
import HandS.CallLocal
import HandS.ExcIs
import HandS.Set
import HandS.SetFor
import HandS.Strs
import HandS.Walk
import HandS.Lambda
import HandS.Nested
import KE.GoesMore
import KE.GoesEnum
import HandS.SetTxt0
import PyProof.Rows.SortShellK
import PyProof.Rows.SortStr
import HandS.Dict
import KE.KDictPairs
import KE.KExcIs
import KE.KNest
import HandS.EndTab
import KE.IntTextLaws
import HandS.Codes
import PyProof.EqLayable
import PyProof.Rows.TmSorted
import PyProof.StrLawsChain
import PyProof.FitsReplace
import PyProof.Rows.StrItems
import PySem.Challenge.RW_carriedparts_k38_whole_any_text
set_option Elab.async false
set_option linter.all false
set_option maxRecDepth 100000
set_option maxHeartbeats 4000000
/-! The statements of the top, by number. -/
namespace Cp
open PySem L2
def top (i : Nat) : Stmt := PySem.Challenge.pw_carriedparts_k38_whole_any_text.main.body.getD i (.Pass ⟨0, 0, 0, 0⟩)
abbrev sBadLayout_init : Stmt := inClass (top 3) 0
abbrev sBadFile_init : Stmt := inClass (top 4) 0
abbrev sBadRow_init : Stmt := inClass (top 5) 0
abbrev sBadLog_init : Stmt := inClass (top 6) 0
abbrev sBadText_init : Stmt := inClass (top 7) 0
abbrev sBadDeed_init : Stmt := inClass (top 8) 0
abbrev sis_integer : Stmt := top 16
abbrev sis_name : Stmt := top 17
abbrev sis_mark : Stmt := top 18
abbrev sare_bases : Stmt := top 19
abbrev sis_kind : Stmt := top 20
abbrev sneed_layout : Stmt := top 21
abbrev sChart_init : Stmt := inClass (top 22) 0
abbrev sis_content : Stmt := top 25
abbrev sis_part : Stmt := top 26
abbrev sheld_in : Stmt := top 27
abbrev sneed_file : Stmt := top 28
abbrev snumber_in : Stmt := top 33
abbrev stold_kind : Stmt := top 34
abbrev stold_part : Stmt := top 35
abbrev stold_rows : Stmt := top 36
abbrev sread_layout : Stmt := top 37
abbrev sread_file : Stmt := top 38
abbrev s_law_begun : Stmt := top 40
abbrev s_law_next : Stmt := top 41
abbrev s_law_titles : Stmt := top 42
abbrev s_law_sign : Stmt := top 43
abbrev s_law_frame : Stmt := top 44
abbrev s_law_under : Stmt := top 45
abbrev s_law_word : Stmt := top 46
abbrev s_law_marks : Stmt := top 47
abbrev s_law_marked : Stmt := top 48
abbrev s_law_layout : Stmt := top 49
abbrev s_law_roots : Stmt := top 50
abbrev s_law_held : Stmt := top 51
abbrev s_law_number : Stmt := top 52
abbrev s_law_is_title : Stmt := top 53
abbrev s_law_kind_row : Stmt := top 54
abbrev s_law_part_row : Stmt := top 55
abbrev s_law_layout_place : Stmt := top 56
abbrev s_law_file_place : Stmt := top 57
abbrev s_law_due : Stmt := top 58
abbrev s_law_said : Stmt := top 59
abbrev s_law_texts : Stmt := top 60
abbrev s_law_any : Stmt := top 61
abbrev s_law_bent : Stmt := top 62
abbrev s_law_right : Stmt := top 63
abbrev slaw : Stmt := top 64
end Cp
set_option maxHeartbeats 0
namespace Cp
open PySem PySem.Spec PyProof.Rows L2
def dG (x : Str) (s : Stmt) : He.DefD := ⟨(x, none), x, x, defArgs s, defBody s, defScope s, [], []⟩
def dM (c m : Str) (q : Str) (s : Stmt) : He.DefD := ⟨(c, some m), m, q, defArgs s, defBody s, defScope s, [], []⟩
def fn1 : List He.DefD := [dM "BadLayout" "__init__" "BadLayout.__init__" sBadLayout_init, dM "BadFile" "__init__" "BadFile.__init__" sBadFile_init, dM "BadText" "__init__" "BadText.__init__" sBadText_init,
  dG "is_integer" sis_integer, dG "is_name" sis_name, dG "is_mark" sis_mark, dG "are_bases" sare_bases, dG "is_kind" sis_kind, dG "need_layout" sneed_layout, dM "Chart" "__init__" "Chart.__init__" sChart_init,
  dG "is_content" sis_content, dG "is_part" sis_part, dG "held_in" sheld_in, dG "need_file" sneed_file, dG "number_in" snumber_in, dG "told_kind" stold_kind, dG "told_part" stold_part, dG "told_rows" stold_rows,
  dG "read_layout" sread_layout, dG "read_file" sread_file]
def fn2 : List He.DefD := [dG "_law_begun" s_law_begun, dG "_law_next" s_law_next, dG "_law_titles" s_law_titles, dG "_law_sign" s_law_sign, dG "_law_frame" s_law_frame, dG "_law_under" s_law_under, dG "_law_word" s_law_word,
  dG "_law_marks" s_law_marks, dG "_law_marked" s_law_marked, dG "_law_layout" s_law_layout, dG "_law_roots" s_law_roots, dG "_law_held" s_law_held, dG "_law_number" s_law_number, dG "_law_is_title" s_law_is_title,
  dG "_law_kind_row" s_law_kind_row, dG "_law_part_row" s_law_part_row, dG "_law_layout_place" s_law_layout_place, dG "_law_file_place" s_law_file_place, dG "_law_due" s_law_due, dG "_law_said" s_law_said,
  dG "_law_texts" s_law_texts, dG "_law_any" s_law_any, dG "_law_bent" s_law_bent, dG "_law_right" s_law_right, dG "law" slaw]
def fns : List He.DefD := fn1 ++ fn2
def gl1_0 : List Str := ["is_integer", "is_name", "is_mark", "are_bases", "is_kind", "need_layout", "Chart", "is_content", "is_part", "held_in", "need_file", "number_in", "told_kind", "told_part", "told_rows"]
def gl1_1 : List Str := ["read_layout", "read_file", "PartsError", "BadLayout", "BadFile", "BadRow", "BadLog", "BadText", "BadDeed", "BadQuestion"]
def gl1 : List Str := gl1_0 ++ gl1_1
def gl2_0 : List Str := ["_law_begun", "_law_next", "_law_titles", "_law_sign", "_law_frame", "_law_under", "_law_word", "_law_marks", "_law_marked", "_law_layout", "_law_roots", "_law_held", "_law_number", "_law_is_title", "_law_kind_row"]
def gl2_1 : List Str := ["_law_part_row", "_law_layout_place", "_law_file_place", "_law_due", "_law_said", "_law_texts", "_law_any", "_law_bent", "_law_right", "law"]
def gl2 : List Str := gl2_0 ++ gl2_1
def frs_ : List Str := ["len", "isinstance", "all", "list", "sorted", "set", "enumerate", "dict", "tuple", "int", "str", "range", "min", "max", "repr", "bool", "ValueError"]
def ints_ : List (Str × Int) := [("MOST_KINDS", 24), ("MOST_BASES", 6), ("MOST_EDITION", 99), ("LONGEST_NAME", 8), ("MOST_CONTENT", 999999), ("MOST_FIGURES", 6)]
def strs_ : List (Str × Str) := [("LETTERS", "abcdefghijklmnopqrstuvwxyz"), ("FIGURES", "0123456789"), ("EMPTY_MARK", "-")]
def fas : List He.Fa := (gl1 ++ gl2).map .glo ++ frs_.map .free ++ ints_.map (fun p => .int p.1 p.2) ++ strs_.map (fun p => .str p.1 p.2) ++
  [.cls "Chart", .mkr "Chart", .noat "Chart" "plan", .noat "Chart" "kinds", .noat "Chart" "under", .noat "Chart" "roots", .noat "Chart" "final"]
def tfs : List He.Defn := [("read_file", none), ("_law_right", none)]
/-- an own class of errors over ValueError, with its own __init__ -/
def oexB (K : PySem.W.Frag) (C : Addr) : Bool := match K.lookup C with
  | some ⟨.type "type", _, .cls cd, sl⟩ => (match cd.mro, sl.toList with
    | .ref C' :: bm, [_, _, _, _, some (.builtin n), _] => C' == C && (n == "ValueError.__new__" && (!cd.hasDel && (cd.hasDict && PySem.HandSPX.refsVE bm)))
    | _, _ => false)
  | _ => false
/-- what isinstance asks of an own class of errors -/
def isCB (K : PySem.W.Frag) (C : Addr) : Bool := (PySem.W.clsIn K C).isSome && (He.eqO (PySem.W.findIn K (.ref C) "__getattribute__") (some (some (.builtin "BaseException.__getattribute__"))) && (He.eqO (PySem.W.findIn K (.ref C) "__getattr__") (some none) &&
  (decide (PySem.W.subIn K (.ref C) (.type "BaseException") = some true) && (He.eqO (PySem.W.findIn K (.ref C) "__class__") (some (some (.builtin "object.__class__"))) && (He.eqO (PySem.W.specialIn K (.builtin "object.__class__") "__get__") (some (some (.builtin "getset_descriptor.__get__"))) &&
    (decide (PySem.W.takesIn K (.builtin "object.__class__") = some true) && decide (PySem.W.mroIn K C (.type "object") = some true)))))))
def badC : List Str := ["BadLayout", "BadFile", "BadText"]
def othC : List Str := ["BadLayout", "BadFile", "BadRow", "BadLog", "BadText", "BadDeed", "BadQuestion", "PartsError"]
def isOne (K : PySem.W.Frag) (x y : Str) : Bool := match PySem.W.kitOne K (.ref (He.ga K x)) (.ref (He.ga K y)) with
  | some b => b == (decide (x = y) || decide (y = "PartsError"))
  | none => false
def excOne (K : PySem.W.Frag) (x : Str) : Bool :=
  oexB K (He.ga K x) && (He.eqO (PySem.W.findIn K (.ref (He.ga K x)) "__setattr__") (some (some (.builtin "object.__setattr__"))) && (decide (PySem.W.subIn K (.ref (He.ga K x)) (.type "BaseException") = some true) &&
    (decide (PySem.W.typeIn K (.ref (He.ga K x)) = some (.type "type")) && (PySem.W.keepIn K (.ref (He.ga K x)) && (He.eqO (PySem.W.findIn K (.ref (He.ga K x)) "place") (some none) && (xfB K (He.ga K x) &&
      (He.eqO (PySem.W.findIn K (.ref (He.ga K x)) "__init__") (some (some (.ref (He.ma K (He.ga K x) "__init__")))) && (decide (PySem.W.typeIn K (.ref (He.ma K (He.ga K x) "__init__")) = some (.type "function")) &&
        (decide (PySem.W.exmOne K (.ref (He.ga K x)) (.ref (He.ga K "PartsError")) = some true) && (othC.all fun y => isOne K x y))))))))))
def partsB (K : PySem.W.Frag) : Bool := PySem.W.readsIn K (He.ga K "PartsError") (.type "type") && (He.eqO (PySem.W.specialIn K (.ref (He.ga K "PartsError")) "__getattribute__") (some (some (.builtin "type.__getattribute__"))) &&
  (match PySem.W.findCls K (.ref (He.ga K "PartsError")) (.type "type") "__init__" with
    | some (.val (.builtin n)) => n == "ValueError.__init__"
    | _ => false))
def exB (K : PySem.W.Frag) : Bool := badC.all (excOne K) && (partsB K && (badC.all (fun x => isCB K (He.ga K x)) && !((He.cT K ("read_file", none)).2 == (He.cT K ("_law_right", none)).2)))
abbrev R : PySem.W.OpenRow := PySem.W.OpenLaw.row PySem.Challenge.rw_carriedparts_k38_whole_any_text
/-- the places that the facts are read from: what the module's names reach, and the statics -/
def reach (g : Addr → Option Obj) : List Addr := He.asD g 4 ++ [PySem.cStatics]
def sayB (g : Addr → Option Obj) : He.AlX := (He.obsT fas fns [] (He.frT g (reach g)), exB (He.frT g (reach g)) && He.tabsB g tfs (He.frT g (reach g)))
theorem sayB_says {w : World} {h : Heap} (e : sayB h.get? = He.valX fns [] w) : He.SaysX fas fns [] tfs exB w h (He.frT h.get? (reach h.get?)) := by
  generalize hF : He.frT h.get? (reach h.get?) = F
  have e1 : He.obsT fas fns [] F = He.valT fns [] w := by
    rw [← hF]
    exact congrArg Prod.fst e
  have e2 : (exB F && He.tabsB h.get? tfs F) = true := by
    rw [← hF]
    exact congrArg Prod.snd e
  have hm := (Bool.and_eq_true_iff.mp e2).1
  have ht := (Bool.and_eq_true_iff.mp e2).2
  have one : ∀ p ∈ tfs, PySem.W.codeHdIn F (He.cT F p).1 (He.cT F p).2 = true ∧ ∃ o, h.get? (He.cT F p).2 = some o ∧ He.emptyTab o = true := by
    intro p hp
    have z := Bool.and_eq_true_iff.mp (List.all_eq_true.mp ht p hp)
    refine ⟨z.1, ?_⟩
    cases q : h.get? (He.cT F p).2 with
    | none => exact absurd z.2 (by rw [q]; exact Bool.false_ne_true)
    | some o => exact ⟨o, rfl, by have y := z.2; rw [q] at y; exact y⟩
  refine ⟨e1, hm, fun p hp => (one p hp).1, fun p hp => ?_, fun p hp => ?_⟩
  · obtain ⟨o, q, z⟩ := (one p hp).2
    rw [← hF] at q ⊢
    exact He.frT_none q z
  · obtain ⟨o, q, z⟩ := (one p hp).2
    rw [q, He.emptyTab_eq z]
def hk : PySem.W.Hook where
  α := He.AlX
  obs := fun s => sayB s.heap.get?
  val := fun w => He.valX fns [] w
  says := fun w h => ∃ K : PySem.W.Frag, K.In h ∧ He.SaysX fas fns [] tfs exB w h K
  of := fun _ _ e => ⟨_, He.frT_in, sayB_says e⟩
  keeps := fun _ _ _ ⟨K, hK, c⟩ k => ⟨K, PySem.W.Frag.In.keeps hK k, ⟨c.t, c.more, c.hd, c.out, fun p hp => k _ _ (c.empty p hp)⟩⟩
def ob (s : PySem.W.SharedT) : He.AlX := sayB (HandSHeadRun.getT s)
theorem ob_eq (s : PySem.W.SharedT) : ob s = hk.obs s.abs := by
  have e : HandSHeadRun.getT s = s.abs.heap.get? := funext fun a => HandSHeadRun.getT_eq s a
  show sayB (HandSHeadRun.getT s) = sayB s.abs.heap.get?
  rw [e]
def loose1_0 : List Str := ["_wall", "PartsError", "BadLayout", "BadFile", "BadRow", "BadLog", "BadText", "BadDeed", "BadQuestion", "MOST_KINDS", "MOST_BASES", "MOST_EDITION", "LONGEST_NAME", "LETTERS", "is_integer"]
def loose1_1 : List Str := ["is_name", "is_mark", "are_bases", "is_kind", "need_layout", "Chart", "MOST_CONTENT", "is_content", "is_part", "held_in", "need_file", "FIGURES", "MOST_FIGURES", "EMPTY_MARK", "number_in"]
def loose1_2 : List Str := ["told_kind", "told_part", "told_rows", "read_layout", "read_file"]
def loose1 : List Str := loose1_0 ++ loose1_1 ++ loose1_2
def loose2_0 : List Str := ["_law_begun", "_law_next", "_law_titles", "_law_sign", "_law_frame", "_law_under", "_law_word", "_law_marks", "_law_marked", "_law_layout", "_law_roots", "_law_held", "_law_number", "_law_is_title", "_law_kind_row"]
def loose2_1 : List Str := ["_law_part_row", "_law_layout_place", "_law_file_place", "_law_due", "_law_said", "_law_texts", "_law_any", "_law_bent", "_law_right"]
def loose2 : List Str := loose2_0 ++ loose2_1
end Cp
set_option maxHeartbeats 0
namespace Cp
open PySem PySem.Spec PyProof.Rows L2
theorem run (w : World) : HandSHeadRun.RunEq R (PySem.W.view R.prog [64]) hk ob 6000 (loose1 ++ loose2) w := by
  intro os
  kernel_rfl
end Cp
set_option maxHeartbeats 4000000
/-! A def of the text by its name; small rules; the reading's steps. -/
namespace Cp
open PySem L2
abbrev St := L2.St

/-- the def (or class) x stands where its name says, and keeps the promise sp -/
def Fn (P : Program) (w : World) (K : PySem.W.Frag) (mg : Str → Option Value) (base : Heap) (CX : CXT) (k : Nat) (x : Str) (ps : List Str) (sp : Sp) : Prop :=
  ∃ fd : FuncData, FnOk P w K mg base CX k (He.ga K x) fd ps sp ∧ Binds K fd ps [] ∧ PySem.W.keepIn K (.ref (He.ga K x)) = true ∧ mg x = some (.ref (He.ga K x))
section
variable {X : Cx} {CX : CXT} {k j : Nat} {x : Str} {ps : List Str} {sp : Sp} {E : XK} {p pos : Pos} {e : Expr} {es : List Expr} {t : TA}
/-- f(e, ..) by its promise -/
theorem pe_fn (F : Fn X.prog X.w X.K X.mg X.base CX k x ps sp) (hr : Room j X.A) (hk : k ≤ j) (hg : Gl X x) (hx : Passes CX X E) (ha : PA X (e :: es) t) (hdb : (x == ("__debug__" : Str)) = false := by decide)
    (he : starEach (e :: es) X.env = (false, eval e X.env) :: starEach es X.env := by rfl) (hpl : (backTo pos (starEach es X.env)).any (·.1) = false := by rfl) : PE X (.Call (.Name x p) (e :: es) [] pos) (tCall sp [] E t) := by
  obtain ⟨fd, G, b, kp, gm⟩ := F
  exact pe_call G (hr.mono hk) hg gm kp b .nil hx ha hdb he hpl
end

/-! ### the reading, one constructor at a time -/
section
variable {σ : St} {H : Hp} {Q : VK} {D : Ends}
theorem rd_var {i : Nat} {v : V} (h : σ[i]? = some (some v)) (q : Q v H) : tVar i σ H Q := ⟨v, h, q⟩
theorem rd_c {v : V} (q : Q v H) : tC v σ H Q := q
theorem rd_op {r : R2} {ta tb : TE} (q : ta σ H fun x H1 => tb σ H1 fun y H2 => r x y H2 Q) : tOp r ta tb σ H Q := q
theorem rd_un {r : V → Hp → VK → Prop} {ta : TE} (q : ta σ H fun x H1 => r x H1 Q) : tUn r ta σ H Q := q
theorem rd_i0 {g : Int → Int → V} {i j : Int} (q : Q (g i j) H) : rI0 g (.int i) (.int j) H Q := ⟨i, j, rfl, rfl, q⟩
theorem rd_i {C : Int → Int → Prop} {g : Int → Int → V} {i j : Int} (c : C i j) (q : Q (g i j) H) : rI C g (.int i) (.int j) H Q := ⟨i, j, rfl, rfl, c, q⟩
theorem rd_u {g : Int → V} {i : Int} (q : Q (g i) H) : rU g (.int i) H Q := ⟨i, rfl, q⟩
theorem rd_eq {x y : V} (h : scal x y = true) (q : Q (.bl (decide (x = y))) H) : rEq x y H Q := ⟨h, q⟩
theorem rd_ne {x y : V} (h : scal x y = true) (q : Q (.bl (!decide (x = y))) H) : rNe x y H Q := ⟨h, q⟩
theorem rd_seq {t u : TS} (q : t { D with nx := u D } σ H) : tSeq t u D σ H := q
theorem rd_asg {te : TE} {g : TG} (q : te σ H fun x H1 => g x σ H1 D.nx) : tAsg te g D σ H := q
theorem rd_gname {i : Nat} {v : V} {Q : St → Hp → Prop} (q : Q (σ.set i (some v)) H) : gName i v σ H Q := q
theorem rd_ret {te : TE} (q : te σ H D.rt) : tRet te D σ H := q
theorem rd_drop {te : TE} (q : te σ H fun _ H1 => D.nx σ H1) : tDrop te D σ H := q
theorem rd_next (q : D.nx σ H) : tNext D σ H := q
theorem rd_break (q : D.bk σ H) : tBreak D σ H := q
theorem rd_if {c : TT} {t u : TS} (q : c σ H fun b H1 => if b = true then t D σ H1 else u D σ H1) : tIfS c t u D σ H := q
theorem rd_test {t : TE} {Q : Bool → Hp → Prop} (q : t σ H fun x H' => ∃ k, x = .bl k ∧ Q k H') : tTest t σ H Q := q
theorem rd_tb {t : TE} {Q : Bool → Hp → Prop} (q : t σ H fun x H' => ∃ k, x = .bl k ∧ Q k H') : tB t σ H Q := q
theorem rd_bl {k : Bool} {Q : Bool → Hp → Prop} (q : Q k H) : ∃ c, V.bl k = .bl c ∧ Q c H := ⟨k, rfl, q⟩
theorem rd_nil {Q : List V → Hp → Prop} (q : Q [] H) : tNil σ H Q := q
theorem rd_cons {ta : TE} {tr : TA} {Q : List V → Hp → Prop} (q : ta σ H fun x H1 => tr σ H1 fun xs H2 => Q (x :: xs) H2) : tCons ta tr σ H Q := q
theorem rd_call {sp : Sp} {E : XK} {t : TA} (q : t σ H fun vs H1 => sp (vs ++ []) H1 Q E) : tCall sp [] E t σ H Q := q
theorem rd_cb {r : List V → Hp → VK → Prop} {t : TA} (q : t σ H fun vs H1 => r vs H1 Q) : tCB r t σ H Q := q
theorem rd_tup {t : TA} (q : t σ H fun xs H1 => xs.length ≤ sizeLine ∧ ∀ p, H1 p = none → Q (.ref p) (upd H1 p (.tup xs))) : tTup t σ H Q := q
theorem rd_lst {t : TA} (q : t σ H fun xs H1 => xs.length ≤ sizeLine ∧ ∀ p, H1 p = none → Q (.ref p) (upd H1 p (.lst xs))) : tLst t σ H Q := q
theorem rd_not {t : TT} {Q : Bool → Hp → Prop} (q : t σ H fun c H1 => Q (!c) H1) : tNot t σ H Q := q
theorem rd_and {t u : TT} {Q : Bool → Hp → Prop} (q : t σ H fun c H1 => if c = true then u σ H1 Q else Q false H1) : tAnd t u σ H Q := q
theorem rd_or {t u : TT} {Q : Bool → Hp → Prop} (q : t σ H fun c H1 => if c = true then Q true H1 else u σ H1 Q) : tOr t u σ H Q := q
theorem rd_ifx {t : TT} {ta tb : TE} (q : t σ H fun c H1 => if c = true then ta σ H1 Q else tb σ H1 Q) : tIf t ta tb σ H Q := q
theorem rd_for {wi : TI} {g : TG} {tb : TS} (q : wi σ H fun J H1 => ∃ W : Nat → Nat → St → Hp → Prop, (∃ m, W 0 m σ H1) ∧ ∀ i m σ H, W i m σ H →
    (J.stop i H ∧ D.nx σ H) ∨ (J.go i H ∧ ∃ N : St → Hp → Prop, (∀ σ' H', N σ' H' → ∃ m', m' < m ∧ W (i + 1) m' σ' H') ∧ ∀ x H', J.yld i H x H' → g x σ H' fun σ2 H2 => tb { D with nx := N, ct := N, bk := D.nx } σ2 H2)) : tFor wi g tb D σ H := q
theorem rd_gnil {Q : St → Hp → Prop} (q : Q σ H) : gNil [] σ H Q := ⟨rfl, q⟩
theorem rd_gcons {t : TG} {u : TGs} {v : V} {r : List V} {Q : St → Hp → Prop} (q : t v σ H fun σ' H' => u r σ' H' Q) : gCons t u (v :: r) σ H Q := ⟨v, r, rfl, q⟩
theorem rd_gsub {to ti : TE} {t : TSet} {v : V} {Q : St → Hp → Prop} (q : to σ H fun o H1 => ti σ H1 fun i H2 => t o i v H2 fun H3 => Q σ H3) : gSub to ti t v σ H Q := q
end
end Cp
set_option maxHeartbeats 4000000
/-! Short names for the rules' readings, and how each is answered. -/
namespace Cp
open PySem L2
/-! ### operators -/
def rAdd : R2 := rI0 fun i j => .int (i + j)
def rMul : R2 := rI CMul fun i j => .int (i * j)
def rFdiv : R2 := rI CDiv fun i j => .int (i / j)
def rMod : R2 := rI (fun _ j => 0 < j) fun i j => .int (i % j)
def rPow : R2 := rI CPow fun i j => .int (i ^ j.toNat)
def rAddS : R2 := fun x y H Q => ∃ i j, x = .str i ∧ y = .str j ∧ i.length + j.length ≤ sizeLine ∧ Q (.str (i ++ j)) H
def rLt : R2 := rI0 fun i j => .bl (decide (i < j))
def rLe : R2 := rI0 fun i j => .bl (decide (i ≤ j))
def rGt : R2 := rI0 fun i j => .bl (decide (j < i))
def rGe : R2 := rI0 fun i j => .bl (decide (j ≤ i))
def rInS : R2 := fun x y H Q => ∃ (c : Nat) (z : Str), x = .str ⟨#[c]⟩ ∧ y = .str z ∧ Q (.bl (decide (c ∈ z.cps.toList))) H
def rNinS : R2 := fun x y H Q => ∃ (c : Nat) (z : Str), x = .str ⟨#[c]⟩ ∧ y = .str z ∧ Q (.bl (!decide (c ∈ z.cps.toList))) H
def rIsN : R2 := fun x y H Q => y = .non ∧ Q (.bl (decide (x = .non))) H
def rNotN : R2 := fun x y H Q => y = .non ∧ Q (.bl (!decide (x = .non))) H
section
variable {X : Cx}
theorem o_add : OpR X (binaryOp .Add) rAdd := op_add
theorem o_mul : OpR X (binaryOp .Mult) rMul := op_mul
theorem o_fdiv : OpR X (binaryOp .FloorDiv) rFdiv := op_fdiv
theorem o_mod : OpR X (binaryOp .Mod) rMod := op_mod
theorem o_pow : OpR X (binaryOp .Pow) rPow := op_pow
theorem o_addS : OpR X (binaryOp .Add) rAddS := op_add_str
theorem o_lt : OpR X (compareOp .Lt) rLt := op_lt
theorem o_le : OpR X (compareOp .LtE) rLe := op_le
theorem o_gt : OpR X (compareOp .Gt) rGt := op_gt
theorem o_ge : OpR X (compareOp .GtE) rGe := op_ge
theorem o_inS : OpR X (compareOp .In) rInS := op_in_sign
theorem o_ninS : OpR X (compareOp .NotIn) rNinS := op_notIn_sign
theorem o_isN : OpR X (compareOp .Is) rIsN := op_isN
theorem o_notN : OpR X (compareOp .IsNot) rNotN := op_notN
end
/-! ### calls -/
def rLen (K : PySem.W.Frag) : List V → Hp → VK → Prop := fun xs H Q => ∃ x n, xs = [x] ∧ LenV K x H n ∧ Q (.int n) H
def rMax : List V → Hp → VK → Prop := fun xs H Q => ∃ i j, xs = [.int i, .int j] ∧ Q (.int (if j > i then j else i)) H
def rMin : List V → Hp → VK → Prop := fun xs H Q => ∃ i j, xs = [.int i, .int j] ∧ Q (.int (if j < i then j else i)) H
def rIntI : List V → Hp → VK → Prop := fun xs H Q => (∃ i, xs = [.int i] ∧ Q (.int i) H) ∨ ∃ k, xs = [.bl k] ∧ Q (.int (if k then 1 else 0)) H
def rIntS : List V → Hp → VK → Prop := fun xs H Q => ∃ a n, xs = [.str a] ∧ PySem.intText? a = some n ∧ a.length ≤ 640 ∧ Q (.int n) H
def rStrI : List V → Hp → VK → Prop := fun xs H Q => ∃ i, xs = [.int i] ∧ i.natAbs.log2 < 1920 ∧ Q (.str (toString i)) H
def rListT (K : PySem.W.Frag) : List V → Hp → VK → Prop := fun xs H Q => ∃ p ys, xs = [.ref p] ∧ (SqL K H p ys ∨ SqT K H p ys) ∧ ∀ l, H l = none → Q (.ref l) (upd H l (.lst ys))
def rListD' : List V → Hp → VK → Prop := fun xs H Q => ∃ (a : Addr) (kvs : List (Key × V)), xs = [.ref a] ∧ Rd H a (.dK kvs) ∧ ∀ p, H p = none → Q (.ref p) (upd H p (.lst (kvs.map fun kv => kV kv.1)))
def rTupL (K : PySem.W.Frag) : List V → Hp → VK → Prop := fun xs H Q => ∃ p ys, xs = [.ref p] ∧ ((SqL K H p ys ∧ ∀ l, H l = none → Q (.ref l) (upd H l (.tup ys))) ∨ (SqT K H p ys ∧ Q (.ref p) H))
section
variable {X : Cx}
theorem c_len : CallR X (.builtin "len") (rLen X.K) := call_len
theorem c_max (hc : X.calm = true) : CallR X (.builtin "max") rMax := call_max2 hc
theorem c_min (hc : X.calm = true) : CallR X (.builtin "min") rMin := call_min2 hc
theorem c_intI : CallR X (.type "int") rIntI := call_int1
theorem c_intS : CallR X (.type "int") rIntS := call_int_str
theorem c_strI : CallR X (.type "str") rStrI := call_str_int
theorem c_listT : CallR X (.type "list") (rListT X.K) := call_list_of
theorem c_listD (hc : X.calm = true) : CallR X (.type "list") rListD' := call_listD hc
theorem c_tupL : CallR X (.type "tuple") (rTupL X.K) := call_tuple_of
end
/-! ### a module's constants -/
section
variable {X : Cx} {x : Str} {pos : Pos}
theorem pe_gint {i : Int} (hm : ∃ t, X.mg x = some (.int i t)) (hg : Gl X x) (hd : (x == ("__debug__" : Str)) = false := by decide) : PE X (.Name x pos) (tC (.int i)) := by
  obtain ⟨t, h⟩ := hm
  exact pe_glob hg h ⟨t, rfl⟩ hd
theorem pe_gstr {z : Str} (hm : ∃ t, X.mg x = some (.str z t)) (hg : Gl X x) (hd : (x == ("__debug__" : Str)) = false := by decide) : PE X (.Name x pos) (tC (.str z)) := by
  obtain ⟨t, h⟩ := hm
  exact pe_glob hg h ⟨t, rfl⟩ hd
end
/-! ### how they are answered -/
section
variable {σ : St} {H : Hp} {Q : VK} {K : PySem.W.Frag}
theorem rd_add {i j : Int} (q : Q (.int (i + j)) H) : rAdd (.int i) (.int j) H Q := ⟨i, j, rfl, rfl, q⟩
theorem rd_mul {i j : Int} (c : CMul i j) (q : Q (.int (i * j)) H) : rMul (.int i) (.int j) H Q := ⟨i, j, rfl, rfl, c, q⟩
theorem rd_fdiv {i j : Int} (c : CDiv i j) (q : Q (.int (i / j)) H) : rFdiv (.int i) (.int j) H Q := ⟨i, j, rfl, rfl, c, q⟩
theorem rd_mod {i j : Int} (c : 0 < j) (q : Q (.int (i % j)) H) : rMod (.int i) (.int j) H Q := ⟨i, j, rfl, rfl, c, q⟩
theorem rd_addS {i j : Str} (c : i.length + j.length ≤ sizeLine) (q : Q (.str (i ++ j)) H) : rAddS (.str i) (.str j) H Q := ⟨i, j, rfl, rfl, c, q⟩
theorem rd_lt {i j : Int} (q : Q (.bl (decide (i < j))) H) : rLt (.int i) (.int j) H Q := ⟨i, j, rfl, rfl, q⟩
theorem rd_le {i j : Int} (q : Q (.bl (decide (i ≤ j))) H) : rLe (.int i) (.int j) H Q := ⟨i, j, rfl, rfl, q⟩
theorem rd_gt {i j : Int} (q : Q (.bl (decide (j < i))) H) : rGt (.int i) (.int j) H Q := ⟨i, j, rfl, rfl, q⟩
theorem rd_ge {i j : Int} (q : Q (.bl (decide (j ≤ i))) H) : rGe (.int i) (.int j) H Q := ⟨i, j, rfl, rfl, q⟩
theorem rd_inS {c : Nat} {z : Str} (q : Q (.bl (decide (c ∈ z.cps.toList))) H) : rInS (.str ⟨#[c]⟩) (.str z) H Q := ⟨c, z, rfl, rfl, q⟩
theorem rd_ninS {c : Nat} {z : Str} (q : Q (.bl (!decide (c ∈ z.cps.toList))) H) : rNinS (.str ⟨#[c]⟩) (.str z) H Q := ⟨c, z, rfl, rfl, q⟩
theorem rd_isN {x : V} (q : Q (.bl (decide (x = .non))) H) : rIsN x .non H Q := ⟨rfl, q⟩
theorem rd_notN {x : V} (q : Q (.bl (!decide (x = .non))) H) : rNotN x .non H Q := ⟨rfl, q⟩
theorem rd_lenS {y : Str} (h : y.length ≤ sizeLine) (q : Q (.int y.length) H) : rLen K [.str y] H Q := ⟨_, y.length, rfl, ⟨h, rfl⟩, q⟩
theorem rd_lenL {p : Addr} {xs : List V} (h : SqL K H p xs) (q : Q (.int xs.length) H) : rLen K [.ref p] H Q := ⟨_, xs.length, rfl, .inl ⟨_, h, rfl⟩, q⟩
theorem rd_lenT {p : Addr} {xs : List V} (h : SqT K H p xs) (q : Q (.int xs.length) H) : rLen K [.ref p] H Q := ⟨_, xs.length, rfl, .inr ⟨_, h, rfl⟩, q⟩
theorem rd_max {i j : Int} (q : Q (.int (if j > i then j else i)) H) : rMax [.int i, .int j] H Q := ⟨i, j, rfl, q⟩
theorem rd_min {i j : Int} (q : Q (.int (if j < i then j else i)) H) : rMin [.int i, .int j] H Q := ⟨i, j, rfl, q⟩
theorem rd_intI {i : Int} (q : Q (.int i) H) : rIntI [.int i] H Q := .inl ⟨i, rfl, q⟩
theorem rd_strI {i : Int} (c : i.natAbs.log2 < 1920) (q : Q (.str (toString i)) H) : rStrI [.int i] H Q := ⟨i, rfl, c, q⟩
theorem rd_listL {p : Addr} {ys : List V} (h : SqL K H p ys) (q : ∀ l, H l = none → Q (.ref l) (upd H l (.lst ys))) : rListT K [.ref p] H Q := ⟨p, ys, rfl, .inl h, q⟩
theorem rd_listT {p : Addr} {ys : List V} (h : SqT K H p ys) (q : ∀ l, H l = none → Q (.ref l) (upd H l (.lst ys))) : rListT K [.ref p] H Q := ⟨p, ys, rfl, .inr h, q⟩
theorem rd_tupL {p : Addr} {ys : List V} (h : SqL K H p ys) (q : ∀ l, H l = none → Q (.ref l) (upd H l (.tup ys))) : rTupL K [.ref p] H Q := ⟨p, ys, rfl, .inl ⟨h, q⟩⟩
theorem rd_cat {l b : Addr} {xs zs : List V} (h1 : H l = some (.lst xs)) (h2 : H b = some (.lst zs)) (c : xs.length + zs.length ≤ sizeLine) (q : ∀ p, H p = none → Q (.ref p) (upd H p (.lst (xs ++ zs)))) : rCat (.ref l) (.ref b) H Q := ⟨l, b, xs, zs, rfl, rfl, h1, h2, c, q⟩
theorem rd_ixL {p : Addr} {xs : List V} {i : Int} {v : V} (h : SqL K H p xs) (e : atI xs i = some v) (q : Q v H) : rIxL K (.ref p) (.int i) H Q := ⟨p, xs, i, v, rfl, rfl, h, e, q⟩
theorem rd_ixT {p : Addr} {xs : List V} {i : Int} {v : V} (h : SqT K H p xs) (e : atI xs i = some v) (q : Q v H) : rIxT K (.ref p) (.int i) H Q := ⟨p, xs, i, v, rfl, rfl, h, e, q⟩
theorem rd_ixS {z : Str} {i : Int} {c : Nat} (h : z.length ≤ sizeLine) (e : atI z.cps.toList i = some c) (q : Q (.str ⟨#[c]⟩) H) : rIxS (.str z) (.int i) H Q := ⟨z, i, c, rfl, rfl, h, e, q⟩
theorem rd_chain {r r' : R2} {ta tb tc : TE} (q : ta σ H fun x H1 => tb σ H1 fun y H2 => r x y H2 fun z H3 => ∃ k, z = .bl k ∧ (if k = true then tc σ H3 fun w' H4 => r' y w' H4 Q else Q (.bl false) H3)) : tChain r r' ta tb tc σ H Q := q
theorem rd_andV {ta tb : TE} (q : ta σ H fun x H1 => ∃ c, x = .bl c ∧ if c = true then tb σ H1 Q else Q (.bl false) H1) : tAndV ta tb σ H Q := q
theorem rd_notV {ta : TE} (q : ta σ H fun x H1 => ∃ c, x = .bl c ∧ Q (.bl (!c)) H1) : tNotV ta σ H Q := q
theorem rd_din {ty td : TE} (q : ty σ H fun y H1 => td σ H1 fun x H2 => ∃ a o, x = .ref a ∧ DGet H2 a y o ∧ Q (.bl o.isSome) H2) : tDIn ty td σ H Q := q
theorem rd_dnotin {ty td : TE} (q : ty σ H fun y H1 => td σ H1 fun x H2 => ∃ a o, x = .ref a ∧ DGet H2 a y o ∧ Q (.bl (!o.isSome)) H2) : tDNotIn ty td σ H Q := q
theorem rd_dget {td ty : TE} (q : td σ H fun x H1 => ty σ H1 fun y H2 => ∃ a v, x = .ref a ∧ DGet H2 a y (some v) ∧ Q v H2) : tDGet td ty σ H Q := q
theorem rd_dnew (q : ∀ p, H p = none → Q (.ref p) (upd H p (.dK []))) : tDNewK σ H Q := q
theorem rd_fld {ta : TE} {f : Str} (q : ta σ H fun x H1 => ∃ a C dx fs v, x = .ref a ∧ H1 a = some (.ins C dx fs) ∧ Cls K C ∧ NoAttr K C f ∧ fs.lookup f = some v ∧ Q v H1) : tFld K ta f σ H Q := q
theorem rd_sl {r : V → Option Int → Option Int → Hp → VK → Prop} {te : TE} {tl th : TO} (q : te σ H fun x H1 => tl σ H1 fun l H2 => th σ H2 fun u H3 => r x l u H3 Q) : tSl r te tl th σ H Q := q
theorem rd_m1 {r : V → List V → Hp → VK → Prop} {to te : TE} (q : to σ H fun x H1 => (∃ a, x = .str a) ∧ te σ H1 fun y H2 => r x [y] H2 Q) : tM1 r to te σ H Q := q
theorem rd_bm {T : String} {r : V → List V → Hp → VK → Prop} {to : TE} {t : TA} (q : to σ H fun x H1 => tyV K T x H1 ∧ t σ H1 fun xs H2 => r x xs H2 Q) : tBM K T r to t σ H Q := q
theorem rd_app {l : Addr} {xs : List V} {y : V} (h : H l = some (.lst xs)) (c : xs.length < sizeLine) (q : Q .non (upd H l (.lst (xs ++ [y])))) : rAppend (.ref l) [y] H Q := ⟨l, xs, y, rfl, rfl, h, c, q⟩
end
theorem ty_lst {K : PySem.W.Frag} {H : Hp} {p : Addr} {xs : List V} (h : SqL K H p xs) : tyV K "list" (.ref p) H := .inl ⟨rfl, _, h⟩
end Cp
set_option maxHeartbeats 4000000
/-! Own rules: list(text), enumerate of a tuple, list.count of bools, a walk of a list or tuple, named methods. -/
namespace Cp
open PySem L2

/-! ### list(text) -/
def sings (z : Str) : List Str := z.cps.toList.map fun c => ⟨#[c]⟩
def rListS : List V → Hp → VK → Prop := fun xs H Q => ∃ z, xs = [.str z] ∧ z.length ≤ sizeLine ∧ ∀ l, H l = none → Q (.ref l) (upd H l (.lst ((sings z).map V.str)))
theorem vals_signs {z : Str} {acc : Array Value} (h : ItemsOf (SignAt z) acc z.cps.size) : Vals ((sings z).map V.str) acc.toList := by
  have key : ∀ (cs : List Nat) (us : List Value), us.length = cs.length → (∀ (j : Nat) (v : Value), us[j]? = some v → ∃ c u, cs[j]? = some c ∧ v = Value.str ⟨#[c]⟩ u) → Vals ((cs.map fun c => (⟨#[c]⟩ : Str)).map V.str) us := by
    intro cs
    induction cs with
    | nil =>
      intro us hl _
      have e : us = [] := List.eq_nil_of_length_eq_zero hl
      rw [e]
      exact .nil
    | cons c r ih =>
      intro us hl hv
      cases us with
      | nil => exact absurd hl (by simp)
      | cons u us =>
        refine .cons ?_ (ih us (by simpa using hl) fun j v hj => by have q := hv (j + 1) v (by simpa using hj); simpa using q)
        obtain ⟨c', t, e1, e2⟩ := hv 0 u (by simp)
        have e3 : c' = c := by simpa using e1.symm
        exact ⟨t, by rw [e2, e3]⟩
  refine key z.cps.toList acc.toList (by rw [Array.length_toList, h.1, Array.length_toList]) fun j v hj => ?_
  obtain ⟨c, u, e1, e2⟩ := h.2 j v (by rw [← Array.getElem?_toList]; exact hj)
  exact ⟨c, u, by rw [Array.getElem?_toList]; exact e1, e2⟩
theorem c_listS {X : Cx} (hc : X.calm = true) : CallR X (.type "list") rListS := by
  intro pins s σ H xs us Q I r h
  obtain ⟨z, rfl, hz, q⟩ := h
  obtain ⟨u, rfl, ru⟩ := r.one
  obtain ⟨t, rfl⟩ := ru
  have hz' : z.cps.size ≤ sizeLine := hz
  refine call_list_str (I.ok.hd hc) z t (fun h' tk acc c k ho hi => ?_) hz'
  have rv := vals_signs hi
  have hn := I.hok.fresh (Nat.le_refl s.heap.objs.size)
  have hl : ((sings z).map V.str).length ≤ sizeLine := by simpa [sings] using hz'
  exact ⟨.ref _, _, I.laid (a := s.heap.objs.size) (o := .lst ((sings z).map V.str)) (t' := tk) k (Nat.le_refl _) ⟨hl, acc.toList, c, rv, ho⟩, rfl, q _ hn⟩

/-! ### list.count(True) -/
def isB (k : Bool) (v : Value) : Bool := match v with
  | .bool n => n == k
  | _ => false
theorem vals_bools : ∀ {bs : List Bool} {us : List Value}, Vals (bs.map V.bl) us → us = bs.map Value.bool
  | [], _, .nil => rfl
  | b :: bs, _, .cons r t => by
    have e : _ = Value.bool b := r
    rw [e, vals_bools t]
    rfl
def rCntB (K : PySem.W.Frag) : V → List V → Hp → VK → Prop := fun x xs H Q => ∃ (p : Addr) (bs : List Bool) (k : Bool), x = .ref p ∧ xs = [.bl k] ∧ SqL K H p (bs.map V.bl) ∧ Q (.int (bs.count k : Nat)) H
theorem gives_bool (n k : Bool) : MeetsSeq.EqGives (.bool n) (.bool k) (isB k (.bool n)) := fun _ _ _ _ _ _ h => SeqAt.EqAt.bool_bool n k _ _ _ _ h
theorem mt_countB {X : Cx} : MtR X "list.count" (rCntB X.K) := by
  intro pins s σ H x xs v us Q I rx rxs h
  obtain ⟨p, bs, k, rfl, rfl, hs, q⟩ := h
  cases rx
  obtain ⟨u, rfl, ru⟩ := rxs.one
  cases ru
  obtain ⟨its, rv, ⟨⟨cls, dd, data, sl⟩, n, ho, hc, hdn, hd⟩, hlen⟩ := I.list hs
  simp only at hc hd
  subst hc hd
  have hi := vals_bools rv
  subst hi
  refine call_meets PySem.F.slot_list_count ⟨_, ho, rfl⟩ PySem.F.entry_list_count (PySem.F.args_list_count_2 _ _)
    (SeqAt.list_countAt p _ n dd sl (.bool k) (isB k)) ⟨ho, fun y hy => ?_, ?_⟩
  · have hy' : y ∈ bs.map Value.bool := by simpa using hy
    obtain ⟨b, _, rfl⟩ := List.mem_map.mp hy'
    exact (gives_bool b k).at _ _
  · have ec : ∀ l : List Bool, (l.map Value.bool).countP (isB k) = l.count k := by
      intro l
      induction l with
      | nil => rfl
      | cons b r ih => rw [List.map_cons, List.countP_cons, List.count_cons, ih]; rfl
    refine ⟨.int (bs.count k : Nat), H, I.tok _, ⟨s.toks, ?_⟩, q⟩
    show Value.int (((bs.map Value.bool).toArray.toList.countP (isB k) : Nat) : Int) s.toks = _
    rw [List.toList_toArray, ec]

/-! ### methods by a name of their own -/
def rSplit : V → List V → Hp → VK → Prop := fun x xs H Q => ∃ a b, x = .str a ∧ xs = [.str b] ∧ (b.length == 0) = false ∧ a.length + 2 ≤ sizeLine ∧ rNewStrs (Txt.split a b) H Q
def rJoin (K : PySem.W.Frag) : V → List V → Hp → VK → Prop := fun x xs H Q => ∃ a p, ∃ ys : List Str, x = .str a ∧ xs = [.ref p] ∧ (SqL K H p (ys.map V.str) ∨ SqT K H p (ys.map V.str)) ∧
      (ys.map (·.length)).sum + ys.length * a.length ≤ 16777216 ∧ Q (.str (Txt.join a ys)) H
def rInsert : V → List V → Hp → VK → Prop := fun x vs H Q => ∃ (l : Addr) (xs : List V) (i : Int) (y : V), x = .ref l ∧ vs = [.int i, y] ∧ H l = some (.lst xs) ∧ xs.length < sizeLine ∧ 0 ≤ i ∧ i < 2 ^ 63 ∧ Q .non (upd H l (.lst (xs.take i.toNat ++ [y] ++ xs.drop i.toNat)))
section
variable {X : Cx} {o e : Expr} {to te : TE}
theorem pe_splitR {apos pos : Pos} (ho : PE X o to) (he : PE X e te) (hs : starEach [e] X.env = [(false, eval e X.env)] := by rfl) (hbase : attributeBase o "split" X.env (eval o X.env) = eval o X.env := by rfl) (hline : (apos.endLine == pos.line) = true := by rfl) :
    PE X (.Call (.Attribute o "split" apos) [e] [] pos) (tM1 rSplit to te) := pe_split ho he hs hbase hline
theorem pe_joinR {apos pos : Pos} (ho : PE X o to) (he : PE X e te) (hs : starEach [e] X.env = [(false, eval e X.env)] := by rfl) (hbase : attributeBase o "join" X.env (eval o X.env) = eval o X.env := by rfl) (hline : (apos.endLine == pos.line) = true := by rfl) :
    PE X (.Call (.Attribute o "join" apos) [e] [] pos) (tM1 (rJoin X.K) to te) := pe_join ho he hs hbase hline
theorem mt_insertR : MtR X "list.insert" rInsert := mt_insert
end

/-! ### for x in xs, xs a list or a tuple -/
def iSeq (K : PySem.W.Frag) (tl : TE) : TI := fun σ H R => tl σ H fun x H1 => ∃ a, x = .ref a ∧ (((∃ xs, SqL K H1 a xs) ∧ R (Itl K a) H1) ∨ ((∃ xs, SqT K H1 a xs) ∧ R (Itt K a) H1))
theorem pi_seq {X : Cx} {tg l : Expr} {tl : TE} (hl : PE X l tl) : PI X tg l (iSeq X.K tl) := by
  refine ⟨fun pins s σ H R I h => ?_⟩
  refine thn (hl.run pins s σ H _ I h) fun v s1 hx => ?_
  obtain ⟨x, H1, I1, r1, a, rfl, hq⟩ := hx
  cases r1
  have new : ∀ {o : Obj} {b : Addr}, b ∈ [s1.heap.objs.size] → FpOk X pins H1 b := fun {o b} hb => by
    have e : b = s1.heap.objs.size := by simpa using hb
    rw [e]
    exact I1.fpOk (Nat.le_refl _) (I1.hok.fresh (Nat.le_refl _))
  have kp : ∀ {o : Obj}, Inv X pins σ H1 { s1 with heap := s1.heap.push o } := fun {o} => I1.kept (t' := s1.toks) fun b u e => Heap.get?_push_of_some _ e
  rcases hq with ⟨⟨xs, hq⟩, q⟩ | ⟨⟨xs, hq⟩, q⟩
  · obtain ⟨its, rv, p, hz⟩ := I1.list hq
    refine wpAny_pyIter_list p.isList ?_
    exact ⟨_, [s1.heap.objs.size], _, _, H1, rfl, kp, turn_list a _, ⟨_, Heap.get?_push_size _ rfl, rfl, rfl⟩, fun b hb => new (o := default) hb, q⟩
  · obtain ⟨its, rv, p, hz⟩ := I1.tuple hq
    refine wpAny_pyIter_tuple (show s1.heap.IsTuple a its.toArray from p) ?_
    exact ⟨_, [s1.heap.objs.size], _, _, H1, rfl, kp, turn_tuple a _, ⟨_, Heap.get?_push_size _ rfl, rfl, rfl⟩, fun b hb => new (o := default) hb, q⟩

/-! ### c in z, z a text or a list of texts -/
def rInSL (K : PySem.W.Frag) : R2 := fun x y H Q => rInS x y H Q ∨ rIn K false x y H Q
theorem o_inSL {X : Cx} : OpR X (compareOp .In) (rInSL X.K) := o_inS.or op_in_seq

/-! ### for i, x in enumerate(t), t a tuple -/
def IteT (K : PySem.W.Frag) (a : Addr) : It :=
  ⟨fun i H => ∃ (xs : List V) (x : V), SqT K H a xs ∧ xs[i]? = some x, fun i H v H' => ∃ T x, v = .ref T ∧ H T = none ∧ H' = upd H T (.tup [.int (i : Nat), x]) ∧ ∀ xs, SqT K H a xs → xs[i]? = some x, fun i H => ∃ xs : List V, SqT K H a xs ∧ xs.length = i⟩
theorem is_tup {h : Heap} {a : Addr} {its : Array Value} (p : h.IsTuple a its) (p' : h.IsTuple a its) : True := trivial
theorem turn_enumT {P : Program} {w : World} {K : PySem.W.Frag} {elts : List Expr} {kk : Nat} {tpos : Pos} (a e it : Addr) (hai : a ≠ it) :
    Turn P w K (.Tuple elts kk tpos) (IteT K a) [e, it] e (fun i h => (∃ old, IsEnum h e it ((i : Nat) : Int) old) ∧ h.IsTupleIter it a i ∧ e ≠ it) where
  mem := by simp
  obj := fun i h st b hb => by
    obtain ⟨⟨old, he⟩, ⟨o, ho, hc, hd⟩, _⟩ := st
    rcases List.mem_cons.mp hb with z | z
    · rw [z]
      exact ⟨_, he, fun v q => nomatch q⟩
    · rw [List.mem_singleton.mp z]
      exact ⟨o, ho, fun v q => by rw [hd] at q; cases q⟩
  keep := fun i h h' st k => by
    obtain ⟨⟨old, he⟩, hi, hne⟩ := st
    exact ⟨⟨old, k e (by simp) _ he⟩, hi.at fun o q => k it (by simp) o q, hne⟩
  item := by
    intro X hP hw hK hc i pins s σ H E I hf st hg
    subst hP hw hK
    obtain ⟨⟨old, he⟩, hit, hne⟩ := st
    obtain ⟨xs, x, hq, hx⟩ := hg
    obtain ⟨its, rv, p, hz⟩ := I.tuple hq
    obtain ⟨u, hu, ru⟩ := rv.get hx
    have hel : e < s.heap.objs.size := Heap.lt_size he
    have hil : it < s.heap.objs.size := by
      obtain ⟨_, q, _⟩ := hit
      exact Heap.lt_size q
    have p' : s.heap.IsTuple a its.toArray := p
    have hea : e ≠ a := fun z => by
      obtain ⟨o, ho, hc', _⟩ := p'
      rw [← z, he] at ho
      cases ho
      have z2 : Value.type "enumerate" = Value.type "tuple" := hc'
      exact absurd z2 (by decide)
    have D := Draws.tuple (prog := X.prog) (w := X.w) (A := X.A.in1) (show X.A.in1.handled = none from I.ok.hd hc) it a hai its.toArray
    have hlt : i < its.toArray.size := by
      rw [List.size_toArray]
      exact (List.getElem?_eq_some_iff.mp hu).1
    refine wpAny_pyNext_enum_itemD D he ⟨hit, p'⟩ hlt hne (by simp [hne, hea]) fun x' h' tk hPx ho hst hT hsz hk => ?_
    have ex : x' = u := by
      have q1 : its.toArray[i]? = some x' := hPx
      have q2 : its[i]? = some x' := by simpa using q1
      rw [hu] at q2
      exact (Option.some.inj q2).symm
    subst ex
    refine ⟨_, rfl, wpAny_letOwnedTupleGo_enum (s := { s with heap := h', toks := tk + 1 }) ho fun h'' he' sb => ?_⟩
    have hT2 : h''.get? s.heap.objs.size = some { cls := .type "tuple", data := .seq #[.int i tk, x'] } := (sb.2 _ (Nat.ne_of_gt hel)).trans hT
    have new : ObjOk X.prog X.w (upd H s.heap.objs.size (.tup [.int (i : Nat), x])) h'' s.heap.objs.size (.tup [.int (i : Nat), x]) :=
      ⟨by show 2 ≤ sizeLine; decide, [.int i tk, x'], .cons ⟨_, rfl⟩ (.cons ru .nil), ⟨_, hT2, rfl, _, rfl⟩⟩
    have I1 : Inv X pins σ (upd H s.heap.objs.size (.tup [.int (i : Nat), x])) { s with heap := h'', toks := tk + 1 } :=
      I.turnedNew (ch := [e, it]) (fun b ob hb q => (sb.2 b (fun z => hb (by simp [z]))).trans (hk b ob (fun z => hb (by simp [z])) (fun z => hb (by simp [z])) q)) hf (Nat.le_refl _) new
    refine ⟨.ref s.heap.objs.size, _, I1, rfl, ⟨_, x, rfl, I.hok.fresh (Nat.le_refl _), rfl, fun ys hy => by rw [I.tuple_inj hy hq]; exact hx⟩, ⟨⟨x', ?_⟩, hst.1.at fun o q => (sb.2 it (Ne.symm hne)).trans q, hne⟩, fun b hb => ?_⟩
    · have e1 : ((i + 1 : Nat) : Int) = (i : Int) + 1 := by omega
      rw [e1]
      exact he'
    · have hb' : b < s.heap.objs.size := by
        rcases List.mem_cons.mp hb with z | z
        · rw [z]; exact hel
        · rw [List.mem_singleton.mp z]; exact hil
      rw [upd_ne (Nat.ne_of_lt hb')]
      exact (hf b hb).1
  done := by
    intro X hP hw hK hc i pins s σ H E I hf st hg
    subst hP hw hK
    obtain ⟨⟨old, he⟩, hit, hne⟩ := st
    obtain ⟨xs, hq, hx⟩ := hg
    obtain ⟨its, rv, p, hz⟩ := I.tuple hq
    obtain ⟨f0, f1, f2, f3, f4, f5⟩ := hf it (by simp)
    have D := Draws.tuple (prog := X.prog) (w := X.w) (A := X.A.in1) (show X.A.in1.handled = none from I.ok.hd hc) it a hai its.toArray
    have ei : i = its.toArray.size := by rw [List.size_toArray, ← rv.length, hx]
    subst ei
    exact wpAny_pyNext_enum_endD D he ⟨hit, p⟩ fun h' eb => ⟨rfl, I.turned (t' := s.toks) (fun b o hb q => eb b o hb q) f0 f1 f3 f4 f5⟩
  self := fun A i s Q E st h => by
    obtain ⟨⟨_, he⟩, _⟩ := st
    exact wpAny_pyIter_enum he h
theorem meets_enumerate_tup (l : Addr) (items : Array Value) (n : Nat) (dct : Option Addr) (sl : Array (Option Value)) :
    Meets (Builtin.«enumerate.__new__» ⟨[.type "enumerate", .ref l], []⟩) (fun _ R s => s.heap.get? l = some { cls := .type "tuple", dict := dct, data := .seq items n, slots := sl } ∧
      R (.ok (.ret (.ref (s.heap.push { cls := .type "tuple_iterator", data := .fields #[.ref l, .int 0 0] }).objs.size)))
        { s with heap := (s.heap.push { cls := .type "tuple_iterator", data := .fields #[.ref l, .int 0 0] }).push { cls := .type "enumerate", data := .fields #[.none, .bool false, .ref s.heap.objs.size, rawInt 0, .none, .none] } }) :=
  .of_wp fun prog w A R s h => by
    obtain ⟨hp, g, d, tk, os⟩ := s
    obtain ⟨hl, h⟩ := h
    have hsub := sub_enumerate
    have hL : Heap.IsTuple (Shared.heap ⟨hp, g, d, tk, os⟩) l items := ⟨_, hl, rfl, n, rfl⟩
    wp_walk using AutoSeq1.wpAny_loadPart' hl
    refine wpAny_stack_any fun st => wpAny_pure ?_
    split
    · rename_i c _ _ _ _ _
      cases (c == Value.type "enumerate")
      · wp_walk using AutoSeq1.wpAny_loadPart' hl, wpAny_pyIter_tuple hL
        exact ⟨_, rfl, h⟩
      · wp_walk using AutoSeq1.wpAny_loadPart' hl, wpAny_pyIter_tuple hL
        exact ⟨_, rfl, h⟩
    · wp_walk using AutoSeq1.wpAny_loadPart' hl, wpAny_pyIter_tuple hL
      exact ⟨_, rfl, h⟩
def iEnumT (K : PySem.W.Frag) (ta : TA) : TI := fun σ H R => ta σ H fun vs H1 => ∃ a xs, vs = [.ref a] ∧ SqT K H1 a xs ∧ R (IteT K a) H1
theorem pi_enumT {X : Cx} {e : Expr} {ta : TA} {p pos tpos : Pos} {elts : List Expr} {kk : Nat} (hg : Gl X "enumerate") (hm : X.mg "enumerate" = none) (ha : PA X [e] ta) (hs : starEach [e] X.env = [(false, eval e X.env)] := by rfl) :
    PI X (.Tuple elts kk tpos) (.Call (.Name "enumerate" p) [e] [] pos) (iEnumT X.K ta) := by
  refine ⟨fun pins s σ H R I h => ?_⟩
  refine PyProof.Rows.Call_ (ld_blt I hg hm PyProof.Rows.boot_enumerate (PyProof.Rows.callWith_type1 (thn (ha.run pos pins s σ H _ I h) fun us s1 hx => ?_) hs rfl))
  obtain ⟨vs, H1, I1, r1, a, xs, rfl, hq, q⟩ := hx
  obtain ⟨u, rfl, ru⟩ := r1.one
  cases ru
  obtain ⟨its, rv, p', hz⟩ := I1.tuple hq
  obtain ⟨⟨c, dct, dt, sl⟩, hl, hc, n, hd⟩ := p'
  simp only at hc hd
  subst hc hd
  have hal : a < s1.heap.objs.size := Heap.lt_size hl
  refine callType_new F.called_enumerate (by decide) (F.typeCall_enumerate_1 _) (F.newCall_enumerate_1 _) (fun obj => F.args_object_init_2 obj _) F.entry_enumerate_new (meets_enumerate_tup a its.toArray n dct sl) ⟨hl, ?_⟩
  have hz1 : (s1.heap.push { cls := .type "tuple_iterator", data := .fields #[.ref a, .int 0 0] }).objs.size = s1.heap.objs.size + 1 := Heap.size_push ..
  show _ ∧ _
  rw [hz1]
  have he : IsEnum ((s1.heap.push { cls := .type "tuple_iterator", data := .fields #[.ref a, .int 0 0] }).push
      { cls := .type "enumerate", data := .fields #[.none, .bool false, .ref s1.heap.objs.size, rawInt 0, .none, .none] }) (s1.heap.objs.size + 1) s1.heap.objs.size 0 .none := by
    have q0 := Heap.get?_push_size (s1.heap.push { cls := .type "tuple_iterator", data := .fields #[.ref a, .int 0 0] })
      (o := { cls := .type "enumerate", data := .fields #[.none, .bool false, .ref s1.heap.objs.size, rawInt 0, .none, .none] }) rfl
    rw [hz1] at q0
    exact q0
  refine ⟨⟨_, he, rfl⟩, wpAny_pyIter_enum he ?_⟩
  have I2 := I1.kept (t' := s1.toks) (h' := (s1.heap.push { cls := .type "tuple_iterator", data := .fields #[.ref a, .int 0 0] }).push
      { cls := .type "enumerate", data := .fields #[.none, .bool false, .ref s1.heap.objs.size, rawInt 0, .none, .none] }) fun b o x => Heap.get?_push_of_some _ (Heap.get?_push_of_some _ x)
  refine ⟨s1.heap.objs.size + 1, [s1.heap.objs.size + 1, s1.heap.objs.size], _, _, H1, rfl, I2, turn_enumT a (s1.heap.objs.size + 1) s1.heap.objs.size (Nat.ne_of_lt hal), ⟨⟨.none, he⟩, ⟨_, Heap.get?_push_of_some _ (Heap.get?_push_size _ rfl), rfl, rfl⟩, Nat.succ_ne_self _⟩, fun b hb => ?_, q⟩
  have hle : s1.heap.objs.size ≤ b := by
    rcases List.mem_cons.mp hb with z | z
    · rw [z]; exact Nat.le_add_right _ _
    · rw [List.mem_singleton.mp z]; exact Nat.le_refl _
  exact I1.fpOk hle (I1.hok.fresh hle)
/-- the loop over it -/
theorem for_enumT {K : PySem.W.Frag} {a : Addr} {xs : List V} {g : TG} {tb : TS} {D : Ends} {σ : L2.St} {H : Hp} (Pv : Nat → L2.St → Hp → Prop) (h0 : Pv 0 σ H) (hl : ∀ i σ H, i ≤ xs.length → Pv i σ H → SqT K H a xs)
    (hs : ∀ i x T σ H, xs[i]? = some x → Pv i σ H → H T = none → g (.ref T) σ (upd H T (.tup [.int (i : Nat), x])) fun σ2 H2 => tb { D with nx := Pv (i + 1), ct := Pv (i + 1), bk := D.nx } σ2 H2) (hd : ∀ σ H, Pv xs.length σ H → D.nx σ H) :
    ∃ W : Nat → Nat → L2.St → Hp → Prop, (∃ m, W 0 m σ H) ∧ ∀ i m σ H, W i m σ H →
      ((IteT K a).stop i H ∧ D.nx σ H) ∨ ((IteT K a).go i H ∧ ∃ N : L2.St → Hp → Prop, (∀ σ' H', N σ' H' → ∃ m', m' < m ∧ W (i + 1) m' σ' H') ∧ ∀ x H', (IteT K a).yld i H x H' → g x σ H' fun σ2 H2 => tb { D with nx := N, ct := N, bk := D.nx } σ2 H2) := by
  refine ⟨fun i m σ H => m = xs.length - i ∧ i ≤ xs.length ∧ Pv i σ H, ⟨_, rfl, Nat.zero_le _, h0⟩, fun i m σ H hw => ?_⟩
  obtain ⟨rfl, hi, p⟩ := hw
  have q := hl i σ H hi p
  rcases Nat.lt_or_ge i xs.length with hlt | hge
  · refine .inr ⟨⟨xs, xs[i], q, List.getElem?_eq_getElem hlt⟩, Pv (i + 1), fun σ' H' p' => ⟨xs.length - (i + 1), by omega, rfl, hlt, p'⟩, fun x H' y => ?_⟩
    obtain ⟨T, x', rfl, hT, rfl, hx⟩ := y
    exact hs i x' T σ H (hx xs q) p hT
  · have e : i = xs.length := by omega
    subst e
    exact .inl ⟨⟨xs, q, rfl⟩, hd σ H p⟩
/-- .. and over a list -/
theorem for_enumL {K : PySem.W.Frag} {a : Addr} {xs : List V} {g : TG} {tb : TS} {D : Ends} {σ : L2.St} {H : Hp} (Pv : Nat → L2.St → Hp → Prop) (h0 : Pv 0 σ H) (hl : ∀ i σ H, i ≤ xs.length → Pv i σ H → SqL K H a xs)
    (hs : ∀ i x T σ H, xs[i]? = some x → Pv i σ H → H T = none → g (.ref T) σ (upd H T (.tup [.int (i : Nat), x])) fun σ2 H2 => tb { D with nx := Pv (i + 1), ct := Pv (i + 1), bk := D.nx } σ2 H2) (hd : ∀ σ H, Pv xs.length σ H → D.nx σ H) :
    ∃ W : Nat → Nat → L2.St → Hp → Prop, (∃ m, W 0 m σ H) ∧ ∀ i m σ H, W i m σ H →
      ((Ite K a).stop i H ∧ D.nx σ H) ∨ ((Ite K a).go i H ∧ ∃ N : L2.St → Hp → Prop, (∀ σ' H', N σ' H' → ∃ m', m' < m ∧ W (i + 1) m' σ' H') ∧ ∀ x H', (Ite K a).yld i H x H' → g x σ H' fun σ2 H2 => tb { D with nx := N, ct := N, bk := D.nx } σ2 H2) := by
  refine ⟨fun i m σ H => m = xs.length - i ∧ i ≤ xs.length ∧ Pv i σ H, ⟨_, rfl, Nat.zero_le _, h0⟩, fun i m σ H hw => ?_⟩
  obtain ⟨rfl, hi, p⟩ := hw
  have q := hl i σ H hi p
  rcases Nat.lt_or_ge i xs.length with hlt | hge
  · refine .inr ⟨⟨xs, xs[i], q, List.getElem?_eq_getElem hlt⟩, Pv (i + 1), fun σ' H' p' => ⟨xs.length - (i + 1), by omega, rfl, hlt, p'⟩, fun x H' y => ?_⟩
    obtain ⟨T, x', rfl, hT, rfl, hx⟩ := y
    exact hs i x' T σ H (hx xs q) p hT
  · have e : i = xs.length := by omega
    subst e
    exact .inl ⟨⟨xs, q, Nat.le_refl _⟩, hd σ H p⟩
end Cp
set_option maxHeartbeats 4000000
/-! Own rules: sets of texts: set(text), set(tuple of texts), len of such, sorted of such. -/
namespace Cp
open PySem L2 PySem.Froz

/-- the set's payload D holds the texts l (in some order), and its table is one that a walk goes through -/
structure TSet (P : Program) (w : World) (D : SD) (l : List Str) : Prop where
  ok : TxOk P w D l
  nd : l.Nodup
  ris : Ris D.2.2.place.toList
  led : w.params.followText "set-order" = true ∨ D.2.2.led = true
def SetS (P : Program) (w : World) (a : Addr) (l : List Str) : HO := .ext fun h => ∃ D, h.get? a = some (sObj "set" D) ∧ TSet P w D l

theorem tail_ris {ep : Nat} {es : Array (Int × Value)} {t : SetTable} {b : Bool} (h : Ris t.place.toList) : Ris (tailTx ep es t b).2.2.place.toList := by
  unfold tailTx
  split
  · exact relayAll_ris _ _ _
  · exact h
theorem tail_led {ep : Nat} {es : Array (Int × Value)} {t : SetTable} {b : Bool} : (tailTx ep es t b).2.2.led = t.led := by
  unfold tailTx
  split
  · exact relayAll_led _ _ _
  · rfl
theorem add_ris {h : Int} {v : Value} {D : SD} (r : Ris D.2.2.place.toList) : Ris (addTx h v D).2.2.place.toList := by
  unfold addTx
  refine tail_ris ?_
  have q := layNew_ris D.2.2 D.1 h v r
  split
  · exact q
  · exact q
theorem add_led {h : Int} {v : Value} {D : SD} : (addTx h v D).2.2.led = D.2.2.led := by
  unfold addTx
  rw [tail_led]
  have q := layNew_led D.2.2 D.1 h v
  split
  · exact q
  · exact q
/-- a text more, or one that is in already -/
def ins (l : List Str) (k : Str) : List Str := if k ∈ l then l else k :: l
section
variable {P : Program} {w : World} {A : Around} {E : Value → Shared → Prop} {s : Shared}
theorem TSet.add {D : SD} {l : List Str} {k : Str} {u : Tok} (F : TSet P w D l) (hk : k ∉ l) : TSet P w (addTx (hashStr w k) (.str k u) D) (k :: l) :=
  ⟨add_ok u F.ok, List.nodup_cons.mpr ⟨hk, F.nd⟩, add_ris F.ris, F.led.imp id fun z => by rw [add_led]; exact z⟩
theorem add_there {a : Addr} {D : SD} {l : List Str} {k : Str} {u : Tok} {Q : Bool → Shared → Prop} (ho : s.heap.get? a = some (sObj "set" D)) (F : TxOk P w D l) (hk : k ∈ l) (hb : l.length < scanBound)
    (h : Q false s) : wpAny (model P w) A (setAddHashed a (.str k u) (hashStr w k)) Q E s := by
  obtain ⟨es, ep, t⟩ := D
  have hd : (sObj "set" (es, ep, t)).data = .set es ep t := rfl
  have hsz : es.size = l.length := F.sz
  unfold setAddHashed setAddHashedIn
  refine wpAny_holding (wpAny_bind (wpAny_setState_of ho hd F.fit ?_))
  dsimp only
  have hb0 : es.size < scanBound := by omega
  rw [byScan_of rfl hb0 F.el]
  simp only [↓reduceIte]
  unfold setAddByScan
  refine wpAny_bind (wpAny_bind (wpAny_rule (wpAny_bind (wpAny_setScan_of (knd := PySem.strKind P w) (k := k) (is_str k u) ho hd F.fit F.el ?_))))
  cases hfi : List.findIdx? (fun e => (PySem.strKind P w).is k e.2) es.toList with
  | some j =>
    dsimp only
    exact wpAny_pure (wpAny_pure h)
  | none =>
    obtain ⟨e, he, q⟩ := (F.mem k).mp hk
    have c := List.findIdx?_eq_none_iff.mp hfi e he
    rw [q] at c
    cases c
theorem add_any {a : Addr} {D : SD} {l : List Str} {k : Str} {u : Tok} {Q : Bool → Shared → Prop} (ho : s.heap.get? a = some (sObj "set" D)) (F : TSet P w D l) (hb : l.length + 1 < scanBound)
    (h : ∀ b h' D', Heap.SameBut a s.heap h' → h'.get? a = some (sObj "set" D') → TSet P w D' (ins l k) → Q b { s with heap := h' }) : wpAny (model P w) A (setAddHashed a (.str k u) (hashStr w k)) Q E s := by
  by_cases hk : k ∈ l
  · refine add_there ho F.ok hk (by omega) ?_
    have q := h false s.heap D (Heap.SameBut.refl a s.heap) ho (by unfold ins; rw [if_pos hk]; exact F)
    exact q
  · refine add_x ho F.ok hk hb ?_
    refine h true _ _ ?_ (get_upd _ ho rfl) (by unfold ins; rw [if_neg hk]; exact F.add hk)
    exact Heap.SameBut.update s.heap a _
end
def allIn (xs : List Str) : List Str := xs.foldl ins []
theorem ins_mem {l : List Str} {k j : Str} : j ∈ ins l k ↔ j ∈ l ∨ j = k := by
  unfold ins
  split
  · rename_i h
    exact ⟨.inl, fun z => z.elim id fun e => e ▸ h⟩
  · rw [List.mem_cons]
    exact Or.comm
theorem ins_len {l : List Str} {k : Str} : l.length ≤ (ins l k).length := by
  unfold ins
  split
  · exact Nat.le_refl _
  · exact Nat.le_succ _
theorem fold_len (xs : List Str) : ∀ l : List Str, l.length ≤ (xs.foldl ins l).length := by
  induction xs with
  | nil => exact fun l => Nat.le_refl _
  | cons x r ih => exact fun l => Nat.le_trans ins_len (ih _)
theorem fold_mem (xs : List Str) : ∀ (l : List Str) (j : Str), j ∈ xs.foldl ins l ↔ j ∈ l ∨ j ∈ xs := by
  induction xs with
  | nil => exact fun l j => by simp
  | cons x r ih =>
    intro l j
    rw [List.foldl_cons, ih, ins_mem, List.mem_cons]
    exact or_assoc
theorem allIn_mem {xs : List Str} {j : Str} : j ∈ allIn xs ↔ j ∈ xs := by
  unfold allIn
  rw [fold_mem]
  simp
section
variable {P : Program} {w : World} {A : Around} {E : Value → Shared → Prop} {s : Shared}
/-- the loop of set(..) over any walk of texts -/
theorem set_loop {I : Addr} {fp wr : List Addr} {G : Array GenState → Array GenState → Prop} {n : Nat} {Pv : Nat → Value → Prop} {St : Nat → Shared → Prop} {R : Result → Shared → Prop} (W : WalksS P w A.in1 I fp wr G n Pv St) (S : Addr) (hSf : S ∉ fp)
    (xs : List Str) (hn : n = xs.length) (hb : (allIn xs).length + 1 < scanBound) (hval : ∀ i v, Pv i v → ∃ k t, xs[i]? = some k ∧ v = Value.str k t) :
    ∀ (k i : Nat) (s : Shared) (D : SD) (l : List Str), n - i = k → i ≤ n → St i s → s.heap.get? S = some (sObj "set" D) → TSet P w D l → (xs.drop i).foldl ins l = allIn xs →
      (∀ s' D', Moved (S :: wr) G s s' → s'.heap.get? S = some (sObj "set" D') → TSet P w D' (allIn xs) → R (.ok (.ret .none)) s') →
      codeAny (model P w) A (.builtin "set.update.loop" ⟨[.ref S, .ref I], []⟩) R s := by
  have hSw : S ∉ wr := fun z => hSf (W.sub _ z)
  have hsub : ∀ b ∈ wr, b ∈ S :: wr := fun b hb => List.mem_cons_of_mem _ hb
  intro k
  induction k with
  | zero =>
    intro i s D l hk hi hst hS F hf hR
    have e : i = n := by omega
    subst e
    refine codeAny_builtin PyProof.Rows.F.entry_set_update_loop ?_
    rw [Around.under_plainId PyProof.Rows.F.plain_set_update_loop _]
    show wpAny _ A.in1 (pyNext (.ref I) >>= _) _ _ s
    refine wpAny_bind (W.done s _ _ hst fun s' hm => ?_)
    show wpAny _ A.in1 (ret Value.none) _ _ s'
    have el : l = allIn xs := by
      rw [← hf, hn, List.drop_length]
      rfl
    exact wpAny_pure (hR s' D (hm.mono hsub) (hm.heap S _ hSw hS) (el ▸ F))
  | succ k ih =>
    intro i s D l hk hi hst hS F hf hR
    have hlt : i < n := by omega
    refine codeAny_builtin PyProof.Rows.F.entry_set_update_loop ?_
    rw [Around.under_plainId PyProof.Rows.F.plain_set_update_loop _]
    show wpAny _ A.in1 (pyNext (.ref I) >>= _) _ _ s
    refine wpAny_bind (W.item i s _ _ hlt hst fun v s' hP hst' hm => ?_)
    obtain ⟨x, t, hx, rfl⟩ := hval i v hP
    have hS' : s'.heap.get? S = some (sObj "set" D) := hm.heap S _ hSw hS
    show wpAny _ A.in1 (holding [Value.str x t] (setAdd S (.str x t)) >>= _) _ _ s'
    refine wpAny_bind (wpAny_holding ?_)
    unfold setAdd
    refine wpAny_holding ?_
    refine wpAny_bind ((PySem.strKind P w).pyHash (k := x) (is_str x t) ?_)
    have hd : xs.drop i = x :: xs.drop (i + 1) := by
      obtain ⟨hlt', ex⟩ := List.getElem?_eq_some_iff.mp hx
      rw [List.drop_eq_getElem_cons hlt', ex]
    have hf' : (xs.drop (i + 1)).foldl ins (ins l x) = allIn xs := by
      rw [← hf, hd, List.foldl_cons]
    have hroom : l.length + 1 < scanBound := by
      have q := fold_len (xs.drop i) l
      rw [hf] at q
      omega
    refine add_any (s := { s' with toks := s'.toks + 1 }) hS' F hroom fun b h' D' hsb hS2 F2 => ?_
    refine wpAny_pure ⟨plainId_quiet PyProof.Rows.F.plain_set_update_loop _, ih (i + 1) _ D' (ins l x) (by omega) hlt (W.frame _ s' _ _ hst' (Nat.le_succ _) fun b hb o e => ?_) hS2 F2 hf' fun s'' D'' hm'' hS'' F'' => ?_⟩
    · exact (hsb.2 b (fun z : b = S => hSf (by rw [← z]; exact hb))).trans e
    · refine hR s'' D'' (Moved.trans W.gtrans ((hm.mono hsub).then_heap (Nat.le_succ _) fun b o hb e => ?_) hm'') hS'' F''
      exact (hsb.2 b (fun z : b = S => hb (by rw [z]; exact List.mem_cons_self))).trans e
abbrev freshSet (w : World) : Obj := { cls := .type "set", dict := none, data := .set #[] 0 (.fresh 0 0 (!w.params.followText "set-order")) }
theorem fresh_ok (P : Program) (w : World) : TSet P w (#[], 0, .fresh 0 0 (!w.params.followText "set-order")) [] := by
  refine ⟨TxOk.nil (by rfl), List.nodup_nil, List.Pairwise.nil, ?_⟩
  show _ ∨ (!w.params.followText "set-order") = true
  cases w.params.followText "set-order"
  · exact .inr rfl
  · exact .inl rfl
/-- set(v): all but the filling -/
theorem set_shell {v : Value} {xs : List Str} {Q : Value → Shared → Prop}
    (fill : ∀ (A : Around) (E : Value → Shared → Prop) (P' : Fin → Shared → Prop), A.handled = none → (∀ h' tk D, h'.get? s.heap.objs.size = some (sObj "set" D) → TSet P w D (allIn xs) → (∀ b o, s.heap.get? b = some o → h'.get? b = some o) → P' (.done (.ret .none)) { s with heap := h', toks := tk }) →
      wpAny (model P w) A (Builtin.«set.__init__» ⟨[.ref s.heap.objs.size, v], []⟩) P' E { s with heap := s.heap.push (freshSet w) })
    (hh : A.handled = none)
    (h : ∀ h' tk D, h'.get? s.heap.objs.size = some (sObj "set" D) → TSet P w D (allIn xs) → (∀ b o, s.heap.get? b = some o → h'.get? b = some o) → Q (.ref s.heap.objs.size) { s with heap := h', toks := tk }) :
    wpAny (model P w) A (call (.type "set") [v]) Q E s := by
  obtain ⟨c, tl, hmro⟩ := F.called_set.mro
  have hmade := F.called_set.made
  have hsub := F.called_set.sub
  refine wpAny_call (codeAny_of_tree ?_)
  show wpAny _ _ (callAny (.type "set") _) _ _ _
  refine wpAny_pure ⟨Code.quiet_builtin _ (by decide +kernel), codeAny_builtin F.entry_type_call ?_⟩
  rw [Around.under_plain (weight_type_call_type "set" [v] []) rfl]
  have h1 := F.called_set.notType
  have h2 := F.called_set.canCreate
  have hct := F.typeCall_set_1 v
  repeat (any_goals (first | assumption | wp_step))

  refine codeAny_mono (code_set_led1 v (E := E) (Q₁ := fun obj s₁ => obj = .ref s.heap.objs.size ∧ s₁ = { s with heap := s.heap.push (freshSet w) }) ⟨rfl, rfl⟩) fun r s₁ hr => ?_
  cases r with
  | error e => exact hr
  | ok fl =>
    cases fl with
    | ret obj =>
      obtain ⟨rfl, rfl⟩ := hr
      have hS : (s.heap.push (freshSet w)).get? s.heap.objs.size = some (freshSet w) := Heap.get?_push_size _ rfl
      have hT : Shared.TypeIs { s with heap := s.heap.push (freshSet w) } (.ref s.heap.objs.size) "set" := ⟨_, hS, rfl⟩
      have hli := F.called_set.init.lookup
      have hbi := F.called_set.init.bind (.ref s.heap.objs.size)
      repeat (any_goals (first | assumption | wp_step))

      refine codeAny_mono (codeAny_call_builtin (R := wants (fun r s₂ => r = .none ∧ ∃ h' tk D, s₂ = { s with heap := h', toks := tk } ∧ h'.get? s.heap.objs.size = some (sObj "set" D) ∧ TSet P w D (allIn xs) ∧
          (∀ b o, s.heap.get? b = some o → h'.get? b = some o)) E) F.called_set.init.plain F.entry_set_init (check_set_init_1 hT ?_)) fun r₂ s₂ hr₂ => ?_
      · refine fill _ _ _ (by simp [hh]) fun h' tk D a b c => ⟨rfl, h', tk, D, rfl, a, b, c⟩
      · cases r₂ with
        | error e => exact hr₂
        | ok fl₂ =>
          cases fl₂ with
          | ret v2 =>
            obtain ⟨rfl, h', tk, D, rfl, a, b, c⟩ := hr₂
            repeat (any_goals (first | assumption | wp_step))
            exact h h' tk D a b c
          | next => exact False.elim hr₂
          | brk => exact False.elim hr₂
          | cont => exact False.elim hr₂
    | next => exact False.elim hr
    | brk => exact False.elim hr
    | cont => exact False.elim hr
end
end Cp
set_option maxHeartbeats 4000000
/-! Own rules: set(text), set(tuple of texts), len of a set of texts, sorted of a set of texts. -/
namespace Cp
open PySem L2 PySem.Froz
open PyProof.Rows (StrsAre IntsAre sortedS seqObj sortedHeap sortedHeap_at sortedHeap_old kind_sorted plain_sorted entry_sorted args_sorted1 slot_list_sort entry_list_sort args_list_sort list_sort_treeK keyKind_strs sorted_out_str strKind_oneLt size_push')
section
variable {P : Program} {w : World} {A : Around} {E : Value → Shared → Prop} {s : Shared}
theorem fill_end {z : Nat} {xs : List Str} {fp : List Addr} {s0 : Heap} {P' : Fin → Shared → Prop}
    (hfp : ∀ b ∈ fp, ∀ o, s0.get? b = some o → z ≤ b ∨ True)
    {s s' : Shared} {D' : SD} (hold : ∀ b o, s.heap.get? b = some o → s'.heap.get? b = some o) (hg : s'.gens = s.gens) (hd : s'.drawn = s.drawn) (ho : s'.os = s.os) (hS' : s'.heap.get? z = some (sObj "set" D')) (F' : TSet P w D' (allIn xs))
    (q : ∀ h' tk D, h'.get? z = some (sObj "set" D) → TSet P w D (allIn xs) → (∀ b o, s.heap.get? b = some o → h'.get? b = some o) → P' (.done (.ret .none)) { s with heap := h', toks := tk }) : P' (.done (.ret .none)) s' := by
  obtain ⟨h', g2, d', tk', os'⟩ := s'
  simp only at hg hd ho
  subst hg; subst hd; subst ho
  exact q h' tk' D' hS' F' hold
/-- set(text) -/
theorem set_text {z : Str} {t : Tok} {Q : Value → Shared → Prop} (hh : A.handled = none) (hb : (allIn (sings z)).length + 1 < scanBound)
    (h : ∀ h' tk D, h'.get? s.heap.objs.size = some (sObj "set" D) → TSet P w D (allIn (sings z)) → (∀ b o, s.heap.get? b = some o → h'.get? b = some o) → Q (.ref s.heap.objs.size) { s with heap := h', toks := tk }) :
    wpAny (model P w) A (call (.type "set") [.str z t]) Q E s := by
  refine set_shell (xs := sings z) (fun A E P' hhA q => ?_) hh h
  have hsls := F.sub_str_set
  have hslf := F.sub_str_frozenset
  have hne : (Value.type "str" == Value.type "dict") = false := by decide
  unfold Builtin.«set.__init__» noKeywords Builtin.Frozenset.updateFrom
  generalize hPI : pyIter = PI
  wp_walk
  subst hPI
  refine wpAny_pyIter_str fun o St W hst => ?_
  refine wpAny_bind (wpAny_runValue ?_)
  have hz1 : (s.heap.push (freshSet w)).objs.size = s.heap.objs.size + 1 := Heap.size_push ..
  have hS : (s.heap.push (freshSet w)).get? s.heap.objs.size = some (freshSet w) := Heap.get?_push_size _ rfl
  have hn1 : s.heap.objs.size ∉ [(s.heap.push (freshSet w)).objs.size] := by
    rw [hz1]; simp
  have hlen : z.cps.size = (sings z).length := by simp [sings]
  refine set_loop ((W A.in1 (by simp [hhA])).toS) s.heap.objs.size hn1 (sings z) hlen hb (fun i v ⟨c, u, e1, e2⟩ => ?_) (z.cps.size - 0) 0 _ (#[], 0, .fresh 0 0 (!w.params.followText "set-order")) [] (by omega) (Nat.zero_le _) ?_ ?_ (fresh_ok P w) rfl fun s' D' hm hS' F' => ?_
  · refine ⟨_, u, ?_, e2⟩
    unfold sings
    rw [List.getElem?_map, Array.getElem?_toList, e1] <;> rfl
  · exact hst
  · exact Heap.get?_push_of_some _ hS
  · refine wpAny_pure ?_
    show wpAny _ _ (ret Value.none) _ _ _
    refine wpAny_pure ?_
    refine fill_end (s := s) (fp := []) (s0 := s.heap) (by simp) (fun b u e => ?_) hm.gens hm.drawn hm.os hS' F' q
    have hb0 : b < s.heap.objs.size := Heap.lt_size e
    refine hm.heap b u ?_ (Heap.get?_push_of_some _ (Heap.get?_push_of_some _ e))
    rw [hz1]
    simp only [List.mem_cons, List.not_mem_nil, or_false, not_or]
    exact ⟨Nat.ne_of_lt hb0, Nat.ne_of_lt (Nat.lt_succ_of_lt hb0)⟩
/-- set(tuple of texts) -/
theorem set_tuple {l : Addr} {items : Array Value} {xs : List Str} {Q : Value → Shared → Prop} (hh : A.handled = none) (hl : s.heap.IsTuple l items) (hit : StrsAre items.toList xs) (hb : (allIn xs).length + 1 < scanBound)
    (h : ∀ h' tk D, h'.get? s.heap.objs.size = some (sObj "set" D) → TSet P w D (allIn xs) → (∀ b o, s.heap.get? b = some o → h'.get? b = some o) → Q (.ref s.heap.objs.size) { s with heap := h', toks := tk }) :
    wpAny (model P w) A (call (.type "set") [.ref l]) Q E s := by
  refine set_shell (xs := xs) (fun A E P' hhA q => ?_) hh h
  obtain ⟨ol, hol, hcl, nl, hdl⟩ := hl
  obtain ⟨ocls, odict, odata, oslots⟩ := ol
  simp only at hcl hdl
  subst hcl; subst hdl
  have hS : (s.heap.push (freshSet w)).get? s.heap.objs.size = some (freshSet w) := Heap.get?_push_size _ rfl
  have hol' : (s.heap.push (freshSet w)).get? l = some { cls := .type "tuple", dict := odict, data := .seq items nl, slots := oslots } := Heap.get?_push_of_some _ hol
  have hsls := F.sub_tuple_set
  have hslf := F.sub_tuple_frozenset
  have hne : (Value.type "tuple" == Value.type "dict") = false := by decide
  have hl1 : (s.heap.push (freshSet w)).IsTuple l items := ⟨_, hol', rfl, nl, rfl⟩
  unfold Builtin.«set.__init__» noKeywords Builtin.Frozenset.updateFrom
  generalize hPI : pyIter = PI
  wp_walk
  subst hPI
  refine wpAny_pyIter_tuple hl1 ?_
  refine wpAny_bind (wpAny_runValue ?_)
  have hlS : l < s.heap.objs.size := Heap.lt_size hol
  have hz1 : (s.heap.push (freshSet w)).objs.size = s.heap.objs.size + 1 := Heap.size_push ..
  have hneI : l ≠ (s.heap.push (freshSet w)).objs.size := by
    rw [hz1]; exact Nat.ne_of_lt (Nat.lt_succ_of_lt hlS)
  have hSf : s.heap.objs.size ∉ [(s.heap.push (freshSet w)).objs.size, l] := by
    rw [hz1]; simp only [List.mem_cons, List.mem_singleton, List.not_mem_nil, or_false, not_or]
    exact ⟨Nat.ne_of_lt (Nat.lt_succ_self _), Nat.ne_of_gt hlS⟩
  have hisz : items.size = xs.length := by
    have e := hit.length
    rw [Array.length_toList] at e
    exact e
  have hh3 : A.in1.handled = none := by simp [hhA]
  refine set_loop ((Walks.tuple hh3 _ l hneI items).toS) s.heap.objs.size hSf xs hisz hb (fun i v hv => ?_) (items.size - 0) 0 _ (#[], 0, .fresh 0 0 (!w.params.followText "set-order")) [] (by omega) (Nat.zero_le _)
    ?_ ?_ (fresh_ok P w) rfl fun s' D' hm hS' F' => ?_
  · have hi : i < xs.length := by rw [← hisz]; exact (Array.getElem?_eq_some_iff.mp hv).1
    have gt : ∀ {us : List Value} {zs : List Str}, StrsAre us zs → ∀ (i : Nat) (v : Value), us[i]? = some v → ∃ k t, zs[i]? = some k ∧ v = Value.str k t := by
      intro us zs hq
      induction hq with
      | nil => intro i v e; simp at e
      | cons x t _ ih =>
        intro i v e
        cases i with
        | zero =>
          have e1 : Value.str x t = v := by simpa using e
          exact ⟨x, t, rfl, e1.symm⟩
        | succ i => exact ih i v (by simpa using e)
    exact gt hit i v (by rw [Array.getElem?_toList]; exact hv)
  · exact ⟨⟨_, Heap.get?_push_size _ rfl, rfl, rfl⟩, (hl1.push _)⟩
  · exact Heap.get?_push_of_some _ hS
  · refine wpAny_pure ?_
    show wpAny _ _ (ret Value.none) _ _ _
    refine wpAny_pure ?_
    refine fill_end (s := s) (fp := []) (s0 := s.heap) (by simp) (fun b u e => ?_) hm.gens hm.drawn hm.os hS' F' q
    have hb0 : b < s.heap.objs.size := Heap.lt_size e
    refine hm.heap b u ?_ (Heap.get?_push_of_some _ (Heap.get?_push_of_some _ e))
    rw [hz1]
    simp only [List.mem_cons, List.not_mem_nil, or_false, not_or]
    exact ⟨Nat.ne_of_lt hb0, Nat.ne_of_lt (Nat.lt_succ_of_lt hb0)⟩
theorem elem_str {e : Int × Value} (D : List (Int × Value)) (he : e ∈ D) (h : ElemsOf (PySem.strKind P w) D) : ∃ k t, e.2 = Value.str k t := by
  obtain ⟨⟨k, h1, _⟩, h2⟩ := h e he
  have q : Value.isStrOf k e.2 = true := h1
  cases hv : e.2 with
  | str k' t => exact ⟨k', t, rfl⟩
  | _ => rw [hv] at q; cases q
theorem perm_of_sub : ∀ (l m : List Str), l.Nodup → (∀ k ∈ l, k ∈ m) → m.length ≤ l.length → l.Perm m
  | [], m, _, _, h => by
    have e : m = [] := List.eq_nil_of_length_eq_zero (Nat.le_zero.mp h)
    rw [e]
  | x :: l, m, nd, sub, h => by
    obtain ⟨n1, n2⟩ := List.nodup_cons.mp nd
    have hx : x ∈ m := sub x List.mem_cons_self
    refine (List.Perm.cons x (perm_of_sub l (m.erase x) n2 (fun k hk => ?_) ?_)).trans (List.perm_cons_erase hx).symm
    · have hne : k ≠ x := fun e => n1 (e ▸ hk)
      exact (List.mem_erase_of_ne hne).mpr (sub k (List.mem_cons_of_mem _ hk))
    · rw [List.length_erase_of_mem hx]
      have : m.length ≤ l.length + 1 := h
      omega
/-- sorted(set of texts) -/
theorem sort_texts {a : Addr} {D : SD} {l : List Str} {Q : Value → Shared → Prop} (ho : s.heap.get? a = some (sObj "set" D)) (F : TSet P w D l) (hh : A.handled = none) (h64 : l.length < 64)
    (hQ : ∀ s' p (out : Array Value) (c : Nat) (ys : List Str), (∀ b o, s.heap.get? b = some o → s'.heap.get? b = some o) → s'.gens = s.gens → s'.os = s.os → s.heap.objs.size ≤ p →
      s'.heap.get? p = some (seqObj "list" out c) → StrsAre out.toList ys → ys.Perm l → sortedS ys = true → Q (.ref p) s') :
    wpAny (model P w) A (call (.builtin "sorted") [.ref a]) Q E s := by
  obtain ⟨es, ep, t⟩ := D
  have hsz : es.size = l.length := F.ok.sz
  refine Calls.call_function_entry kind_sorted plain_sorted entry_sorted (args_sorted1 _) ?_
  unfold Builtin.«sorted»
  refine wpAny_bind (m := checkCount "sorted" 1 1 _) (wpAny_pure ?_)
  refine wpAny_bind (collect_set (A := A.in1) hh ⟨_, ho, rfl, rfl⟩ F.ok.fit (by rw [hsz]; exact Nat.lt_of_lt_of_le h64 (by decide)) F.ris F.led fun s1 vs k1 hz g1 o1 pm => ?_)
  have hvl : vs.length = l.length := by rw [pm.length_eq, List.length_map, Array.length_toList]; exact hsz
  have hall : ∀ v ∈ vs, ∃ x t, v = Value.str x t := fun v hv => by
    obtain ⟨e, he, q⟩ := List.mem_map.mp (pm.mem_iff.mp hv)
    obtain ⟨k, t, e2⟩ := elem_str es.toList he F.ok.el
    exact ⟨k, t, by rw [← q]; exact e2⟩
  have hI := PyProof.Rows.strsAre_map vs hall
  refine wpAny_bind (wpAny_newList ?_ (by rw [hvl, sizeLine_eq]; omega))
  have hoL : (s1.heap.push (seqObj "list" vs.toArray 0)).get? s1.heap.objs.size = some (seqObj "list" vs.toArray 0) := Heap.get?_push_size _ rfl
  refine wpAny_bind (wpAny_holding (wpAny_call_entry slot_list_sort ⟨_, hoL, rfl⟩ entry_list_sort (list_sort_treeK strKind_oneLt hoL hI.keysOf (fun v₁ v₂ rest e => keyKind_strs (by rw [← e]; exact hI)) (by rw [hvl]; exact h64) fun st' a1 a2 => ⟨_, rfl, ?_⟩) (args_list_sort _)))
  obtain ⟨ys, b1, b2, b3⟩ := sorted_out_str hI a1 a2
  obtain ⟨c, hc⟩ := sortedHeap_at (vs := vs) (out := (PyProof.Rows.arrOf st').map (·.2)) hoL
  have pn : (vs.map PyProof.Rows.strOf).Perm l := by
    have p1 : (vs.map PyProof.Rows.strOf).Perm ((es.toList.map (·.2)).map PyProof.Rows.strOf) := pm.map _
    refine p1.trans ?_
    have hnd : l.Nodup := F.nd
    have hmem : ∀ k, k ∈ (es.toList.map (·.2)).map PyProof.Rows.strOf ↔ k ∈ l := fun k => by
      refine Iff.trans ?_ (F.ok.mem k).symm
      rw [List.map_map, List.mem_map]
      constructor
      · rintro ⟨e, he, rfl⟩
        obtain ⟨k, t, e2⟩ := elem_str es.toList he F.ok.el
        refine ⟨e, he, ?_⟩
        show Value.isStrOf _ e.2 = true
        rw [Function.comp_apply, e2]
        exact is_str (P := P) (w := w) k t
      · rintro ⟨e, he, q⟩
        refine ⟨e, he, ?_⟩
        obtain ⟨k', t, e2⟩ := elem_str es.toList he F.ok.el
        have q' : Value.isStrOf k e.2 = true := q
        rw [e2] at q'
        rw [Function.comp_apply, e2]
        have q3 : k' = k := by
          simpa [Value.isStrOf] using q'
        exact q3
    have hlen : ((es.toList.map (·.2)).map PyProof.Rows.strOf).length = l.length := by rw [List.length_map, List.length_map, Array.length_toList]; exact hsz
    exact (perm_of_sub l _ hnd (fun k hk => (hmem k).mpr hk) (by rw [hlen]; exact Nat.le_refl _)).symm
  refine wpAny_pure ⟨_, rfl, hQ _ s1.heap.objs.size _ c ys (fun b u e => ?_) g1 o1 hz hc b1 (b2.trans pn) b3⟩
  have q := k1 b u e
  have hlt := Heap.lt_size q
  show (sortedHeap (s1.heap.push (seqObj "list" vs.toArray 0)) s1.heap.objs.size vs _).get? b = some u
  rw [sortedHeap_old (Nat.ne_of_lt hlt) (by rw [size_push']; exact Nat.lt_succ_of_lt hlt)]
  exact Heap.get?_push_of_some _ q
end
section
variable {X : Cx}
def rSetS (P : Program) (w : World) : List V → Hp → VK → Prop := fun xs H Q => ∃ z, xs = [.str z] ∧ (allIn (sings z)).length + 1 < scanBound ∧ ∀ p, H p = none → Q (.ref p) (upd H p (SetS P w p (allIn (sings z))))
theorem setS_new {P : Program} {w : World} {P2 : Program} {H : Hp} {h : Heap} {a : Addr} {D : SD} {l : List Str} (ho : h.get? a = some (sObj "set" D)) (F : TSet P w D l) : ObjOk P2 w H h a (SetS P w a l) :=
  ⟨⟨D, ho, F⟩, ⟨_, ho⟩, fun h1 h2 p k => p.elim fun D q => ⟨D, k _ q.1, q.2⟩⟩
theorem c_setS (hc : X.calm = true) : CallR X (.type "set") (rSetS X.prog X.w) := by
  intro pins s σ H xs us Q I r h
  obtain ⟨z, rfl, hb, q⟩ := h
  obtain ⟨u, rfl, ru⟩ := r.one
  obtain ⟨t, rfl⟩ := ru
  refine set_text (I.ok.hd hc) hb fun h' tk D ho F k => ?_
  exact ⟨.ref _, _, I.laid (a := s.heap.objs.size) (t' := tk) k (Nat.le_refl _) (setS_new ho F), rfl, q _ (I.hok.fresh (Nat.le_refl _))⟩
def rSetT (P : Program) (w : World) (K : PySem.W.Frag) : List V → Hp → VK → Prop := fun vs H Q => ∃ p xs, vs = [.ref p] ∧ SqT K H p (xs.map V.str) ∧ (allIn xs).length + 1 < scanBound ∧ ∀ p, H p = none → Q (.ref p) (upd H p (SetS P w p (allIn xs)))
theorem c_setT (hc : X.calm = true) : CallR X (.type "set") (rSetT X.prog X.w X.K) := by
  intro pins s σ H vs us Q I r h
  obtain ⟨p, xs, rfl, ht, hb, q⟩ := h
  rw [Vals.ref1 r]
  obtain ⟨its, rv, pl, hz⟩ := I.tuple ht
  refine set_tuple (I.ok.hd hc) pl (by simpa using strsAre_of rv) hb fun h' tk D ho F k => ?_
  exact ⟨.ref _, _, I.laid (a := s.heap.objs.size) (t' := tk) k (Nat.le_refl _) (setS_new ho F), rfl, q _ (I.hok.fresh (Nat.le_refl _))⟩
theorem setS_get {pins : List (Addr × Obj)} {σ : L2.St} {H : Hp} {s : Shared} {a : Addr} {l : List Str} (I : Inv X pins σ H s) (ha : H a = some (SetS X.prog X.w a l)) : ∃ D, s.heap.get? a = some (sObj "set" D) ∧ TSet X.prog X.w D l := (I.hok a _ ha).1
def rLenSet (P : Program) (w : World) : List V → Hp → VK → Prop := fun vs H Q => ∃ p l, vs = [.ref p] ∧ H p = some (SetS P w p l) ∧ l.length < scanBound ∧ Q (.int l.length) H
theorem c_lenSet : CallR X (.builtin "len") (rLenSet X.prog X.w) := by
  intro pins s σ H vs us Q I r h
  obtain ⟨p, l, rfl, hp, hb, q⟩ := h
  rw [Vals.ref1 r]
  obtain ⟨D, ho, F⟩ := setS_get I hp
  refine call_len_set ho ⟨rfl, rfl, rfl⟩ rfl F.ok.fit (by rw [F.ok.sz]; have hb2 : l.length < 4096 := hb; omega) ⟨.int l.length, H, I.tok _, ⟨_, by rw [F.ok.sz]⟩, q⟩
def rSortS (P : Program) (w : World) : List V → Hp → VK → Prop := fun vs H Q => ∃ p l, vs = [.ref p] ∧ H p = some (SetS P w p l) ∧ l.length < 64 ∧ ∀ ys a, ys.Perm l → sortedS ys = true → H a = none → Q (.ref a) (upd H a (.lst (ys.map V.str)))
theorem c_sortS (hc : X.calm = true) : CallR X (.builtin "sorted") (rSortS X.prog X.w) := by
  intro pins s σ H vs us Q I r h
  obtain ⟨a, l, rfl, ha, h64, q⟩ := h
  rw [Vals.ref1 r]
  obtain ⟨D, ho, F⟩ := setS_get I ha
  refine sort_texts ho F (I.ok.hd hc) h64 fun s' p out c ys k g o hp hg hi hs hm => ?_
  have hlen : (ys.map V.str).length ≤ sizeLine := by rw [List.length_map, hs.length_eq, sizeLine_eq]; omega
  have hn : H p = none := I.hok.fresh hp
  have J : Inv X pins σ (upd H p (.lst (ys.map V.str))) { s with heap := s'.heap, gens := s'.gens, drawn := s'.drawn, toks := s'.toks } :=
    I.call (ch := []) (Un.laid k hp hn) (I.hok.laid k hp ⟨hlen, out.toList, c, vals_of_strs hi, hg⟩) (by rw [g]; exact I.bare) (fun _ z => nomatch z)
  have e : s' = { s with heap := s'.heap, gens := s'.gens, drawn := s'.drawn, toks := s'.toks } := by
    cases s'
    cases s
    cases o
    rfl
  rw [e]
  exact ⟨.ref p, _, J, rfl, q ys p hs hm hn⟩
end
end Cp
set_option maxHeartbeats 4000000
/-! Own rules: dict.update(dict), tuple(list) known by its object, dict(tuple of pairs). -/
namespace Cp
open PySem L2
open PyProof.Rows (IsTup)
section
variable {X : Cx}
def rUpd : V → List V → Hp → VK → Prop := fun x xs H Q => ∃ d o kvs more, x = .ref d ∧ xs = [.ref o] ∧ d ≠ o ∧ H d = some (.dK kvs) ∧ H o = some (.dK more) ∧ kvs.length + more.length ≤ sizeLine ∧ Q .non (upd H d (.dK (mergeK kvs more)))
theorem mt_update : MtR X "dict.update" rUpd := by
  intro pins s σ H x xs v us Q I rx rxs h
  obtain ⟨d, o, kvs, more, rfl, rfl, hne, hd, ho, hz, q⟩ := h
  cases rx
  obtain ⟨u, rfl, ru⟩ := rxs.one
  cases ru
  obtain ⟨z1, y1, vs, r1, d1⟩ := dk_of I.hok hd
  obtain ⟨z2, y2, rs, r2, d2⟩ := dk_of I.hok ho
  refine call_meetsIn PySem.F.slot_dict_update d1.typeIs PySem.F.entry_dict_update (PySem.F.args_dict_update_2 _ _) (meets_dict_update (mixKind X.prog X.w) d o hne y2) ⟨vs, rs, d1, d2, by rw [← r1.length, ← r2.length]; exact hz, fun h' d1' d2' hs => ?_⟩
  have hl : (mergeK kvs more).length ≤ sizeLine := Nat.le_trans (length_mergeK more kvs) hz
  have he : ∃ q, h'.get? d = some q := let ⟨q, _, _, hq, _⟩ := d1'; ⟨q, hq⟩
  exact ⟨.non, _, d_write (t' := s.toks) I (by rw [hd]; exact True.intro) hs he (dk_new hl y1 (KV.merge r2 r1) d1'), rfl, q⟩
/-- a tuple known by its object -/
def TupF (H : Hp) (a : Addr) (xs : List V) : Prop := ∃ o : Obj, o.dict = none ∧ H a = some (.frz o (.tup xs))
theorem TupF.sq {K : PySem.W.Frag} {H : Hp} {a : Addr} {xs : List V} (h : TupF H a xs) : SqT K H a xs := let ⟨o, _, e⟩ := h; .inl (.inr ⟨o, e⟩)
def rTupF (K : PySem.W.Frag) : List V → Hp → VK → Prop := fun vs H Q => ∃ p ys, vs = [.ref p] ∧ SqL K H p ys ∧ ∀ l o, o.dict = none → H l = none → Q (.ref l) (upd H l (.frz o (.tup ys)))
theorem c_tupF : CallR X (.type "tuple") (rTupF X.K) := by
  intro pins s σ H vs us Q I r h
  obtain ⟨p, ys, rfl, hs, q⟩ := h
  rw [Vals.ref1 r]
  obtain ⟨its, rv, pl, hz⟩ := I.list hs
  refine call_tuple_list pl.isList (fun h' hk => ?_) (by rw [List.size_toArray, ← rv.length]; exact hz)
  have I1 : Inv X pins σ H { s with heap := h' } := I.kept (t' := s.toks) hk
  have hg : (h'.push { cls := .type "tuple", data := .seq its.toArray }).get? h'.objs.size = some { cls := .type "tuple", data := .seq its.toArray } := Heap.get?_push_size _ rfl
  have I2 : Inv X pins σ (upd H h'.objs.size (.frz { cls := .type "tuple", data := .seq its.toArray } (.tup ys))) { s with heap := h'.push { cls := .type "tuple", data := .seq its.toArray } } :=
    I1.laid (t' := s.toks) (fun b o e => Heap.get?_push_of_some _ e) (Nat.le_refl _) (show ObjOk X.prog X.w _ _ _ (.frz _ (.tup ys)) from ⟨hg, hz, its, rv, IsTup.new _ _⟩)
  exact ⟨.ref h'.objs.size, _, I2, rfl, q _ _ rfl (I1.hok.fresh (Nat.le_refl _))⟩
/-- dict(t) of a tuple of pairs -/
def rDictT (K : PySem.W.Frag) : List V → Hp → VK → Prop := fun vs H Q => ∃ (a : Addr) (ps : List Addr) (kvs : List (Key × V)), vs = [.ref a] ∧ TupF H a (ps.map V.ref) ∧ Paired (fun p kv => SqT K H p [kV kv.1, kv.2]) ps kvs ∧ ∀ p, H p = none → Q (.ref p) (upd H p (.dK (mergeK [] kvs)))
theorem c_dictT (hcalm : X.calm = true) : CallR X (.type "dict") (rDictT X.K) := by
  intro pins s σ H xs us Q I r q
  obtain ⟨a, ps, kvs, rfl, ⟨ob, hob, hq⟩, hp, q⟩ := q
  rw [Vals.ref1 r]
  obtain ⟨ho, hz, its, rv, o2, ho2, hc, n, hdat⟩ := I.hok a _ hq
  rw [ho] at ho2
  cases ho2
  have ei := refs_at rv
  subst ei
  rw [List.length_map] at hz
  obtain ⟨prs, rel, hl, hpr⟩ := pairs_of I hp
  -- the pairs, by their values
  have hk : ∀ (j : Nat) (q : Key × Value), ∃ u : Value, prs[j]? = some q → (∃ b, ps[j]? = some b ∧ IsTup s.heap b #[u, q.2]) ∧ keyIs q.1 u = true := fun j q => by
    by_cases e : prs[j]? = some q
    · obtain ⟨b, u, e1, e2, e3⟩ := hpr j q e
      exact ⟨u, fun _ => ⟨⟨b, e1, e2⟩, e3⟩⟩
    · exact ⟨.none, fun z => absurd z e⟩
  obtain ⟨vps, hvl, hv⟩ : ∃ vps : List (Value × Value), vps.length = prs.length ∧ ∀ j k v, vps[j]? = some (k, v) → ∃ q : Key × Value, prs[j]? = some q ∧ q.2 = v ∧ keyIs q.1 k = true ∧ ∃ b, ps[j]? = some b ∧ IsTup s.heap b #[k, v] := by
    refine ⟨List.ofFn fun i : Fin prs.length => ((hk i prs[i]).choose, prs[i].2), by simp, fun j k v e => ?_⟩
    have hj : j < prs.length := by
      have := (List.getElem?_eq_some_iff.mp e).1
      simpa using this
    have e2 := (hk j prs[j]).choose_spec (List.getElem?_eq_getElem hj)
    rw [List.getElem?_ofFn, dif_pos hj] at e
    cases e
    exact ⟨prs[j], List.getElem?_eq_getElem hj, rfl, e2.2, e2.1⟩
  have P := PairArg.tuple (prog := X.prog) (w := X.w) a (ps.map Value.ref).toArray (fun j => ps.getD j 0) vps
  have pi : PairItems s.heap (ps.map Value.ref).toArray (fun j => ps.getD j 0) vps := by
    refine ⟨by simp [hvl, hl], fun j k v e => ?_⟩
    obtain ⟨q', _, _, _, b, e4, e5⟩ := hv j k v e
    have eb : ps.getD j 0 = b := by rw [List.getD_eq_getElem?_getD, e4]; rfl
    refine ⟨by simp [e4], ?_⟩
    show PairAt s.heap (ps.getD j 0) k v
    rw [eb]
    exact .inl e5
  refine call_dict_pairs (knd := mixKind X.prog X.w) (kvs := prs) P (I.ok.hd hcalm) ⟨⟨ob, n, ho, hc, hob, hdat⟩, pi⟩ ⟨by rw [hvl], fun j k v e => ?_⟩ (by rw [hvl, hl]; exact hz) fun h' tk hd' k => ?_
  · obtain ⟨q', e1, e2, e3, _⟩ := hv j k v e
    exact ⟨q'.1, by rw [e1, ← e2], e3⟩
  · have hm : (s.heap.objs.size == sysModules) = false := beq_eq_false_iff_ne.mpr (Nat.ne_of_gt I.big)
    have hlen : (mergeK [] kvs).length ≤ sizeLine := by
      refine Nat.le_trans (length_mergeK kvs []) ?_
      rw [List.length_nil, Nat.zero_add, rel.length, hl]
      exact hz
    have k' : ∀ b o, s.heap.get? b = some o → h'.get? b = some o := fun b o e => k b o (by simp) e
    exact ⟨.ref s.heap.objs.size, upd H s.heap.objs.size (.dK (mergeK [] kvs)), I.laid (t' := tk) k' (Nat.le_refl _) (show ObjOk X.prog X.w _ _ _ (.dK (mergeK [] kvs)) from ⟨hlen, hm, merged [] prs, KV.merge rel .nil, hd'⟩), rfl, q _ (I.hok.fresh (Nat.le_refl _))⟩
end
end Cp
set_option maxHeartbeats 4000000
/-! Own rules: own exceptions: made, raised, caught and kept, asked for their class, read. -/
namespace Cp
open PySem PySem.Spec PyProof.Rows L2
/-- what the written part says of the class PartsError -/
structure PartsF (K : PySem.W.Frag) (mg : Str → Option Value) : Prop where
  gm : mg "PartsError" = some (.ref (He.ga K "PartsError"))
  rd : PySem.W.readsIn K (He.ga K "PartsError") (.type "type") = true
  sp : PySem.W.specialIn K (.ref (He.ga K "PartsError")) "__getattribute__" = some (some (.builtin "type.__getattribute__"))
  fc : PySem.W.findCls K (.ref (He.ga K "PartsError")) (.type "type") "__init__" = some (.val (.builtin "ValueError.__init__"))
section
variable {X : Cx} {o e : Expr} {es : List Expr} {to te : TE} {ta : TA} {p1 p2 pos : Pos}
theorem pe_peinit {pl : Sem Bool} (hg : Gl X "PartsError") (PF : PartsF X.K X.mg) (ha : PA X (e :: es) ta)
    (hc : eval (.Call (.Attribute (.Name "PartsError" p1) "__init__" p2) (e :: es) [] pos) X.env = (do
      let ov ← eval (.Name "PartsError" p1) X.env
      standAt p2.atName
      let (f, first) ← holding [ov] (getMethod ov "__init__" pl)
      callWith pos f first (backTo pos (starEach (e :: es) X.env)) (backToKw pos (keywordEach [] X.env))) := by rfl)
    (he : starEach (e :: es) X.env = (false, eval e X.env) :: starEach es X.env := by rfl) (hpl : (backTo pos (starEach es X.env)).any (·.1) = false := by rfl) :
    PE X (.Call (.Attribute (.Name "PartsError" p1) "__init__" p2) (e :: es) [] pos) (tVeI X.K ta) := by
  refine ⟨fun pins s σ H Q I h => ?_⟩
  refine PySem.W.methodCall_KW (ld_glob I hg PF.gm ?_ (by decide)) hc
  refine PySem.W.method_cls I.kIn PF.sp (PySem.W.cls_value I.kIn PF.rd PF.fc (by rfl) ?_)
  show wpAny _ _ (callWith pos (Value.builtin "ValueError.__init__") [] (backTo pos (starEach (e :: es) X.env)) []) _ _ _
  refine PyProof.Rows.callWith_method1 (thn (ha.run pos pins _ σ H _ (I.tok _) h) fun us s1 ⟨vs, H1, I1, r1, a, C, ws, ev, hl, T, ea, q⟩ => ?_) he hpl
  subst ev
  cases r1 with
  | @cons _ u0 _ ur ra rw' =>
    obtain rfl : u0 = Value.ref a := ra
    have hlen : ur.length ≤ sizeLine := by
      rw [← Paired.length rw', sizeLine_eq]
      omega
    exact oinit_ok T I1 ea hlen fun s' J => ⟨.non, H1, J, rfl, q⟩
/-- an own class of errors: all that its making asks -/
structure BadC (K : PySem.W.Frag) (mg : Str → Option Value) (x : Str) : Prop where
  gm : mg x = some (.ref (He.ga K x))
  oc : OexC K (He.ga K x)
  ini : PySem.W.findIn K (.ref (He.ga K x)) "__init__" = some (some (.ref (He.ma K (He.ga K x) "__init__")))
  tI : PySem.W.typeIn K (.ref (He.ma K (He.ga K x) "__init__")) = some (.type "function")
  noat : PySem.W.findIn K (.ref (He.ga K x)) "place" = some none
  xf : XfC K (He.ga K x)
/-- what C.__init__ promises -/
def spBad (K : PySem.W.Frag) : Sp := fun vs H Q _ => ∃ (a C : Addr) (v : V), vs = [.ref a, v] ∧ OexC K C ∧ PySem.W.findIn K (.ref C) "place" = some none ∧ H a = some (exo a C none) ∧ ∀ dx, H dx = none → dx ≠ a → Q .non (upd (upd H dx (exd dx [("place", v)])) a (exo a C (some dx)))
/-- C's own __init__, by its promise -/
def BadFn (P : Program) (w : World) (K : PySem.W.Frag) (mg : Str → Option Value) (base : Heap) (k : Nat) (x : Str) : Prop :=
  ∃ fd : FuncData, FnOk P w K mg base C8.CX0 k (He.ma K (He.ga K x) "__init__") fd ["self", "place"] (spBad K) ∧ Binds K fd ["self", "place"] []
def raiseK (K : PySem.W.Frag) (x : Str) (E : XK) : List V → Hp → Prop := fun vs H1 => vs.length ≤ 1000 ∧ ∀ a, H1 a = none → spBad K (.ref a :: (vs ++ [])) (upd H1 a (exo a (He.ga K x) none))
  (fun v H2 => v = .non ∧ ∃ (d : Addr) (fs : List (Str × V)), H2 a = some (exo a (He.ga K x) (some d)) ∧ H2 d = some (exd d fs) ∧ H1 d = none ∧ E (.ref (He.ga K x)) (some d) (upd (del H2 a) d (.xd fs))) (fun _ _ _ => False)
def tRaiseB (K : PySem.W.Frag) (x : Str) (E : XK) (ta : TA) : TS := fun _ σ H => ta σ H (raiseK K x E)
theorem ps_raiseB {x : Str} {k j : Nat} {E : XK} {p : Pos} {rp : Pos} (B : BadC X.K X.mg x) (F : BadFn X.prog X.w X.K X.mg X.base k x) (hr : Room j X.A) (tk : Takes X (fun cls d _ H => E cls d H))
    (ha : PA X (e :: es) ta) (hk : k + 1 ≤ j := by decide) (hcalm : X.calm = true := by rfl) (hg : Gl X x := by rfl) (hdb : (x == ("__debug__" : Str)) = false := by decide) (he : starEach (e :: es) X.env = (false, eval e X.env) :: starEach es X.env := by rfl) (hpl : (backTo pos (starEach es X.env)).any (·.1) = false := by rfl) :
    PS X (.Raise (some (.Call (.Name x p) (e :: es) [] pos)) none rp) (tRaiseB X.K x E ta) := by
  obtain ⟨fd, G, b⟩ := F
  exact ps_raise (pos := rp) hcalm tk (pmk_oex (p := p) (pos := pos) (dvs := []) (ds := []) B.oc B.ini B.tI G (hr.mono hk) b .nil (fun _ _ _ _ _ _ _ z => z.elim) hg B.gm ha hdb he hpl)
end
theorem rd_raise {K : PySem.W.Frag} {mg : Str → Option Value} {x : Str} {E : XK} {v : V} {H : Hp} (B : BadC K mg x) (q : ∀ d, H d = none → E (.ref (He.ga K x)) (some d) (upd H d (.xd [("place", v)]))) : raiseK K x E [v] H := by
  refine ⟨by simp, fun a ha => ⟨a, He.ga K x, v, rfl, B.oc, B.noat, upd_same, fun dx hd hne => ⟨rfl, dx, [("place", v)], upd_same, by rw [upd_ne hne, upd_same], ?_, ?_⟩⟩⟩
  · rw [upd_ne hne] at hd
    exact hd
  · have hd' : H dx = none := by rw [upd_ne hne] at hd; exact hd
    have e : upd (del (upd (upd (upd H a (exo a (He.ga K x) none)) dx (exd dx [("place", v)])) a (exo a (He.ga K x) (some dx))) a) dx (.xd [("place", v)]) = upd H dx (.xd [("place", v)]) := by
      funext b
      by_cases h1 : b = dx
      · rw [h1, upd_same, upd_same]
      · rw [upd_ne h1, upd_ne h1]
        by_cases h2 : b = a
        · rw [h2, del_same, ha]
        · rw [del_ne h2, upd_ne h2, upd_ne h1, upd_ne h2]
    rw [e]
    exact q dx hd'

/-! ### caught, and kept behind the suite -/
/-- at a: an exception of the class cls, its dict at d -/
def ExcO (a : Addr) (cls : Value) (d : Option Addr) : HO := .ext fun h => ∃ (oe : Obj) (vs : Array Value), h.get? a = some oe ∧ Zc cls d oe ∧ oe.data = .fields vs
theorem excO_at {X : Cx} {pins : List (Addr × Obj)} {σ : L2.St} {H : Hp} {s : Shared} {a : Addr} {cls : Value} {d : Option Addr} (I : Inv X pins σ H s) (e : H a = some (ExcO a cls d)) : ∃ (oe : Obj) (vs : Array Value), s.heap.get? a = some oe ∧ Zc cls d oe ∧ oe.data = .fields vs := (I.hok a _ e).1
theorem track {X : Cx} {pins : List (Addr × Obj)} {σ : L2.St} {H : Hp} {s : Shared} {a : Addr} {oe : Obj} {cls : Value} {d : Option Addr} {vs : Array Value} (I : Inv X pins σ H s) (ho : s.heap.get? a = some oe) (hz : Zc cls d oe) (hd : oe.data = .fields vs) (hn : H a = none)
    (h0 : X.s_0.heap.get? a = none) (hL : a ≠ X.env.locals) (hp : ∀ p ∈ X.pn ++ pins, p.1 ≠ a) : Inv X pins σ (upd H a (ExcO a cls d)) s := by
  refine ⟨I.ok, I.os, I.bare, ⟨I.base.keep, I.base.slot, fun b o e n hx => ?_, I.base.there, fun b xs e => ?_, fun b o u e => ?_, fun b ps e => ?_⟩, I.loc, I.cell, ?_, fun x c e => ?_, fun p hm => ?_, fun b o e => ?_, I.len⟩
  · rw [upd_ne (fun z => by rw [z, h0] at e; cases e)]
    exact I.base.free b o e n hx
  · have q := I.base.tups b xs e
    rw [upd_ne (fun z => by rw [z, hn] at q; cases q)]
    exact q
  · have q := I.base.frzs b o u e
    rw [upd_ne (fun z => by rw [z, hn] at q; cases q)]
    exact q
  · obtain ⟨more, q⟩ := I.base.tbls b ps e
    exact ⟨more, by rw [upd_ne (fun z => by rw [z, hn] at q; cases q)]; exact q⟩
  · rw [upd_ne (Ne.symm hL)]
    exact I.free
  · obtain ⟨v, o, hc, hcd⟩ := I.cell x c e
    rw [upd_ne (fun z => by rw [z, ho] at hc; cases hc; rw [hd] at hcd; cases hcd)]
    exact I.freeC x c e
  · obtain ⟨h1, h2, h3⟩ := I.pin p hm
    exact ⟨h1, by rw [upd_ne (hp p hm)]; exact h2, h3⟩
  · by_cases hb : b = a
    · subst hb
      rw [upd_same] at e
      cases e
      exact ⟨⟨oe, vs, ho, hz, hd⟩, ⟨oe, ho⟩, fun h1 h2 ⟨oe', vs', a1, a2, a3⟩ k => ⟨oe', vs', k _ a1, a2, a3⟩⟩
    · rw [upd_ne hb] at e
      exact (I.hok b o e).stay (fun c v hc q => q) (fun c q => by rw [upd_ne (fun z => by rw [z, hn] at q; cases q)]; exact q) fun c xs q => by rw [upd_ne (fun z => by rw [z, hn] at q; cases q)]; exact q
def wKeep (K : PySem.W.Frag) (n : Nat) (c : Value) (i : Nat) (ts : Addr → Value → Option Addr → TS) (Wout : WX) (D : Ends) : WX := fun cls d σ H => σ.length = n →
  ∃ b, PySem.W.exmOne K cls c = some b ∧ (b = true → ∀ a, H a = none → ts a cls d { nx := fun σ' H' => H' a = none → D.nx (σ'.set i none) (upd H' a (ExcO a cls d)), rt := fun _ _ => False, bk := fun _ _ => False, ct := fun _ _ => False } (σ.set i (some (.ref a))) H) ∧
    (b = false → Wout cls d σ H)
section
variable {X : Cx} {x n : Str} {c : Value} {i : Nat} {body suite : List Stmt} {b₀ : Stmt} {np pos pos' : Pos} {tb : WX → TS} {ts : Addr → Value → Option Addr → TS} {Wout : WX}
theorem ps_try_keep (hs : X.stack = X.env :: X.outer) (hf : X.env.frame = some X.env.locals) (hex : X.ex = []) (hN : X.N.Nodup) (hi : X.N[i]? = some n) (hln : X.env.kindOf n = some .local) (hc : Names X x c) (tk : Takes X Wout)
    (hb : ∀ (W : WX) (pn : List (Addr × Obj)) (xe : Value → Shared → Prop), Takes (X.tr pn xe) W → PassesOwn (model X.prog X.w) X.A X.env xe → PSs (X.tr pn xe) body (tb W))
    (hsu : ∀ (a : Addr) (oe : Obj) (cls : Value) (d : Option Addr) (pn : List (Addr × Obj)), Zc cls d oe → (∃ vs, oe.data = .fields vs) → PSs (X.suite a ((a, oe) :: pn)) (b₀ :: suite) (ts a cls d)) :
    PS X (.Try body [.ExceptHandler (some (.Name x np)) (some n) (b₀ :: suite) pos'] [] [] pos) (fun D σ H => tb (wKeep X.K X.N.length c i ts Wout D) D σ H) := by
  refine ⟨fun pins s σ H D I h => ?_⟩
  have ok := I.ok
  have hfr : X.A.frames = some (X.env :: X.outer) := by rw [ok.frames, hs]
  have hloc : Loc X.env.scope n := .inl hln
  refine wpAny_Try_except ?_
  refine wpAny_mono ((hb (wKeep X.K X.N.length c i ts Wout D) (X.pn ++ pins) (fun e s₁ => wpAny (model X.prog X.w) X.A (noteFrame e X.env) (fun _ s₂ => wpAny (model X.prog X.w) X.A (setFlight e none) (fun _ s₃ =>
    wpAny (model X.prog X.w) X.A (handleBy e X.env [.ExceptHandler (some (.Name x np)) (some n) (b₀ :: suite) pos']) (SP X pins D) X.xe s₃) X.xe s₂) X.xe s₁) (fun u s' xx => ?_) PassesOwn.looking).run [] s σ H D (I.toTry _) h) (fun f s1 hsp => ?_) (fun e s1 he => he)
  · -- the catch
    obtain ⟨a, B, sI, pins', σ', H', cls, d, rfl, J', nb, up, sky, na, os, ag, hw⟩ := xx
    obtain ⟨b, hb1, hyes, hno⟩ := hw J'.len
    have J : Inv X pins σ' H' sI := J'.ofTry ok
    have sky' : Sky B (X.env :: X.outer) a (Zc cls d) X.env.locals s'.heap := by rw [← hs]; exact sky
    show wpAny (model X.prog X.w) X.A (noteFrame (.ref a) X.env) _ _ _
    refine Sky.land Zc.steady hfr hf sky' fun h3 fl3 up3 => ?_
    have J3 : Inv X pins σ' H' { s' with heap := h3 } := J.landed nb fl3.1 (up.trans up3) os ag
    obtain ⟨oe3, vs3, he3, hz3, hd3⟩ := fl3.there
    have notFr : ∀ {h : Heap} {o : Obj} {vs : Array Value}, h.FunFrames B (X.env :: X.outer) → h.get? a = some o → o.data = .fields vs → a ∉ frs (X.env :: X.outer) := fun {h o vs} ff e dd hm => by
      obtain ⟨_, o', e', hnf⟩ := ff.mem hm
      rw [e] at e'; cases e'
      exact hnf _ dd
    have nfr := notFr fl3.2.2.1 he3 hd3
    have nB : B.get? a = none := fl3.2.1
    have nI : sI.heap.get? a = none := by
      cases q : sI.heap.get? a with
      | none => rfl
      | some o =>
        have z := nb a o q (by rw [hs]; exact nfr)
        rw [nB] at z
        cases z
    have n0 : X.s_0.heap.get? a = none := by
      cases q : X.s_0.heap.get? a with
      | none => rfl
      | some o =>
        obtain ⟨o', z⟩ := J.base.there a o q (by rw [hex]; simp)
        rw [nI] at z
        cases z
    have nP : ∀ p ∈ X.pn ++ pins, p.1 ≠ a := fun p hp z => by
      have e := (J.pin p hp).1
      rw [z, nI] at e
      cases e
    have nL : a ≠ X.env.locals := fun z => nfr (List.mem_filterMap.mpr ⟨X.env, List.mem_cons_self, by rw [hf, z]⟩)
    have nF : a ∉ X.fs := fun hm => by
      obtain ⟨e, he, q⟩ := List.mem_filterMap.mp hm
      exact nfr (List.mem_filterMap.mpr ⟨e, List.mem_cons_of_mem _ he, q⟩)
    have S3 := J3.suite he3 hd3 na nL nF
    refine wpAny_handleBy_cons (codeAny_handlers_test ?_) (by intro q; cases q)
    have LT : PySem.W.Looks (model X.prog X.w) h3 (typeOf (.ref a)) cls := fun A Q E s k q => wpAny_typeOf_ref (k _ _ he3) (by rw [hz3.1]; exact q)
    have LM := PySem.W.exm_one (M := model X.prog X.w) (J3.kIn) LT hb1
    have test : ∀ {Q : Value → Shared → Prop} {E : Value → Shared → Prop}, Q c { s' with heap := h3 } → wpAny (model X.prog X.w) (X.A.mark (some (.ref a))) (eval (.Name x np) X.env) Q E { s' with heap := h3 } := fun {Q E} q => by
      obtain ⟨hg, hdbg, hm | ⟨hm, hv, hnn⟩⟩ := hc
      · exact ld_glob (X := X.suite a ((a, oe3) :: (X.pn ++ pins))) S3 hg hm q hdbg
      · exact ld_blt (X := X.suite a ((a, oe3) :: (X.pn ++ pins))) S3 hg hm hv q hnn hdbg
    refine test (LM.here ?_)
    cases b with
    | true =>
      refine codeAny_handlers_suite_as ?_
      refine HandSPX.lands_againZ fl3 fun h4 fl4 up4 => ?_
      have J4 : Inv X pins σ' H' { s' with heap := h4 } := J.landed nb fl4.1 ((up.trans up3).trans up4) os ag
      obtain ⟨oe4, vs4, he4, hz4, hd4⟩ := fl4.there
      have S4 := J4.suite he4 hd4 na nL nF
      refine store_ok (X := X.suite a ((a, oe4) :: (X.pn ++ pins))) (v := .ref a) S4 hN hi hloc rfl (fun s5 S5 => ?_) (.inr hln)
      refine wpAny_mono ((hsu a oe4 cls d (X.pn ++ pins) hz4 ⟨_, hd4⟩).run [] s5 _ H' _ S5 (hyes rfl a na)) (fun f s6 hsp => ?_) (fun _ _ z => False.elim z)
      cases f with
      | next =>
        obtain ⟨σ6, H6, S6, q6⟩ := hsp
        show wpAny _ _ _ _ _ _
        refine gone_ok (X := X.suite a ((a, oe4) :: (X.pn ++ pins))) S6 hN hi hln fun s7 S7 => ?_
        obtain ⟨ha7, hn7, _⟩ := S7.pin (a, oe4) (List.mem_append_left _ List.mem_cons_self)
        exact ⟨_, _, track (S7.unsuite ok) ha7 hz4 hd4 hn7 n0 nL nP, q6 hn7⟩
      | brk =>
        obtain ⟨σ6, H6, S6, q6⟩ := hsp
        exact False.elim q6
      | cont =>
        obtain ⟨σ6, H6, S6, q6⟩ := hsp
        exact False.elim q6
      | ret u =>
        obtain ⟨v6, σ6, H6, S6, r6, q6⟩ := hsp
        exact False.elim q6
    | false =>
      show wpAny _ X.A (handleBy (.ref a) X.env []) _ _ _
      refine wpAny_handleBy_nil ?_
      obtain ⟨k1, k2, k3, oe, vs, T, oT, ts', he, hz, hd, h1, hr⟩ := id fl3
      unfold PySem.passOn
      refine wpAny_bind (wpAny_field he hd h1 ?_)
      rw [if_neg (show ¬ ((Value.ref T == Value.none) = true) from by simp)]
      have fin : wpAny (model X.prog X.w) X.A (setFlight (.ref a) X.env.frame) (fun _ s4 => wpAny (model X.prog X.w) X.A (throw (.ref a) : Sem Flow) (SP X pins D) X.xe s4) X.xe { s' with heap := h3 } := by
        rw [hf]
        refine HandSPX.setFlight_upZ fl3 fun h4 hh4 up4 => wpAny_throw (tk _ _ ?_)
        exact ⟨a, B, sI, pins, σ', H', cls, d, rfl, J, nb, (up.trans up3).trans up4, .inr (.inr (by rw [hs]; exact hh4)), na, os, ag, hno rfl⟩
      first
        | exact wpAny_bind (wpAny_pure (wpAny_bind fin))
        | exact wpAny_bind fin
  · cases f with
    | next =>
      obtain ⟨σ', H', J', q⟩ := hsp
      exact wpAny_execs_nil ⟨σ', H', J'.ofTry ok, q⟩
    | brk =>
      obtain ⟨σ', H', J', q⟩ := hsp
      exact ⟨σ', H', J'.ofTry ok, q⟩
    | cont =>
      obtain ⟨σ', H', J', q⟩ := hsp
      exact ⟨σ', H', J'.ofTry ok, q⟩
    | ret u =>
      obtain ⟨v, σ', H', J', r, q⟩ := hsp
      exact ⟨v, σ', H', J'.ofTry ok, r, q⟩
end

/-! ### asked for its class, read -/
/-- what the class says, so that isinstance asks its instances rightly -/
structure IsC (K : PySem.W.Frag) (C : Addr) : Prop where
  hcl : (PySem.W.clsIn K C).isSome = true
  hga : PySem.W.findIn K (.ref C) "__getattribute__" = some (some (.builtin "BaseException.__getattribute__"))
  hgt : PySem.W.findIn K (.ref C) "__getattr__" = some none
  hs : PySem.W.subIn K (.ref C) (.type "BaseException") = some true
  ha : PySem.W.findIn K (.ref C) "__class__" = some (some (.builtin "object.__class__"))
  hn : PySem.W.specialIn K (.builtin "object.__class__") "__get__" = some (some (.builtin "getset_descriptor.__get__"))
  ht : PySem.W.takesIn K (.builtin "object.__class__") = some true
  hm : PySem.W.mroIn K C (.type "object") = some true
section
variable {X : Cx}
theorem inst_at {pins : List (Addr × Obj)} {σ : L2.St} {H : Hp} {s : Shared} {a C dd : Addr} {fs : List (Str × V)} (I : Inv X pins σ H s) (e : H a = some (ExcO a (.ref C) (some dd))) (ed : H dd = some (.xd fs)) :
    ∃ oe od, PySem.W.InstAt s.heap a oe C (some od) ∧ ∃ mA, s.heap.Ns1 dd mA ∧ s.heap.get? dd = some od ∧ ∀ f, RelO (fs.lookup f) (mA f) := by
  obtain ⟨oe, vs, h1, h2, h3⟩ := excO_at I e
  have hx : ObjOk X.prog X.w H s.heap dd (.xd fs) := I.hok dd _ ed
  obtain ⟨mA, hns, hr⟩ := hx
  obtain ⟨od, es, ep, hod, q⟩ := id hns
  refine ⟨oe, od, ⟨h1, h2.1, by unfold PySem.W.notCls; rw [h3] <;> rfl, by rw [h2.2]; exact hod⟩, mA, hns, hod, hr⟩
def rIsX (K : PySem.W.Frag) : List V → Hp → VK → Prop := fun xs H Q => ∃ (a C dd : Addr) (fs : List (Str × V)) (c : V) (cv : Value) (b : Bool), xs = [.ref a, c] ∧ H a = some (ExcO a (.ref C) (some dd)) ∧ H dd = some (.xd fs) ∧ IsC K C ∧ ClsV c cv ∧ PySem.W.kitOne K (.ref C) cv = some b ∧ Q (.bl b) H
theorem call_isX : CallR X (.builtin "isinstance") (rIsX X.K) := by
  intro pins s σ H xs us Q I r h
  obtain ⟨a, C, dd, fs, c, cv, b, rfl, e, ed, T, k, kb, q⟩ := h
  obtain ⟨u1, u2, rfl, r1, r2⟩ := vals2 r
  cases (show u1 = Value.ref a from r1)
  have e2 := k.eq r2
  subst e2
  obtain ⟨oe, od, J, _⟩ := inst_at I e ed
  exact PySem.W.kia_one (PySem.W.kitx_exc T.hcl T.hga T.hgt T.hs T.ha T.hn T.ht T.hm) I.kIn J kb (fun z => nomatch z) fun tk => ⟨.bl b, H, I.tok tk, rfl, q⟩
def rIsXT (K : PySem.W.Frag) : List V → Hp → VK → Prop := fun xs H Q => ∃ (a C dd : Addr) (fs : List (Str × V)) (tp : Addr) (cs : List V) (us : List Value) (b : Bool), xs = [.ref a, .ref tp] ∧ H a = some (ExcO a (.ref C) (some dd)) ∧ H dd = some (.xd fs) ∧ IsC K C ∧
  H tp = some (.tup cs) ∧ Paired ClsV cs us ∧ PySem.W.kitAny K (.ref C) us = some b ∧ Q (.bl b) H
theorem call_isXT : CallR X (.builtin "isinstance") (rIsXT X.K) := by
  intro pins s σ H xs us Q I r h
  obtain ⟨a, C, dd, fs, tp, cs, ws, b, rfl, e, ed, T, hT, k, kb, q⟩ := h
  obtain ⟨u1, u2, rfl, r1, r2⟩ := vals2 r
  cases (show u1 = Value.ref a from r1)
  cases (show u2 = Value.ref tp from r2)
  obtain ⟨oe, od, J, _⟩ := inst_at I e ed
  obtain ⟨_, its, rv, o, h1, h2, n, h3⟩ := (show ObjOk X.prog X.w H s.heap tp (.tup cs) from I.hok tp _ hT)
  have e3 := ClsV.all k rv
  subst e3
  obtain ⟨oc, od', dt, sl⟩ := o
  simp only at h2 h3
  subst h2 h3
  exact PySem.W.kia_tup (PySem.W.kitx_exc T.hcl T.hga T.hgt T.hs T.ha T.hn T.ht T.hm) I.kIn J h1 kb (fun z => nomatch z) fun tk => ⟨.bl b, H, I.tok tk, rfl, q⟩
def tXfK (K : PySem.W.Frag) (te : TE) (f : Str) : TE := fun σ H Q => te σ H fun x H1 => ∃ (a C dd : Addr) (fs : List (Str × V)) (v : V), x = .ref a ∧ H1 a = some (ExcO a (.ref C) (some dd)) ∧ H1 dd = some (.xd fs) ∧ XfC K C ∧ PySem.W.findIn K (.ref C) f = some none ∧ fs.lookup f = some v ∧ Q v H1
theorem pe_xfK {e : Expr} {te : TE} {pos : Pos} {n : Str} (he : PE X e te) (hb : attributeBase e n X.env (eval e X.env) = eval e X.env := by rfl) : PE X (.Attribute e n pos) (tXfK X.K te n) := by
  refine ⟨fun pins s σ H Q I h => ?_⟩
  refine attr_of hb (thn (he.run pins s σ H _ I h) fun u s1 hh => ?_)
  obtain ⟨x, H1, I1, rx, a, C, dd, fs, v, ex, e, ed, T, hno, l, q⟩ := hh
  subst ex
  obtain rfl : u = Value.ref a := rx
  obtain ⟨oe, od, J, mA, hns, hod, hr⟩ := inst_at I1 e ed
  obtain ⟨od2, ho2, hl⟩ := lookIn_ns hns
  rw [hod] at ho2
  cases ho2
  obtain ⟨u, hu, ru⟩ := RelO.some_of (v := v) (o := mA n) (by rw [← l]; exact hr n)
  exact HandSPX.exc_get I1.kIn J T.ga T.gg T.exC (PySem.W.findObj_own T.hdC hno rfl (by rw [hl, hu])) (handed_of ru) ⟨v, H1, I1.tok _, ru, q⟩
end
end Cp
set_option maxHeartbeats 4000000
/-! Own rules: a lambda with one parameter, handed to a def that calls it. -/
namespace Cp
open PySem PySem.Spec PyProof.Rows L2 LamX
/-- one parameter, the lambda's only name of its own; captured ones and globals -/
structure LamS1 (sc scope : Scope) (wn : Str) : Prop where
  kind : scope.kind = .function
  co : scope.isCoroutine = false
  gen : scope.isGenerator = false
  par : scope.names.lookup wn = some .local
  own : ∀ y ∈ scope.names, y.2 = .local → y.1 = wn
  noc : ∀ y ∈ scope.names, y.2 ≠ .cell
  free : ∀ y ∈ scope.names, y.2 = .free → sc.names.lookup y.1 = some .cell ∨ sc.names.lookup y.1 = some .free
def lamS1B (sc scope : Scope) (wn : Str) : Bool :=
  decide (scope.kind = .function) && !scope.isCoroutine && !scope.isGenerator && decide (scope.names.lookup wn = some .local) && scope.names.all fun y => (!decide (y.2 = .local) || decide (y.1 = wn)) && !decide (y.2 = .cell) && (!decide (y.2 = .free) || decide (sc.names.lookup y.1 = some .cell) || decide (sc.names.lookup y.1 = some .free))
theorem lamS1_by {sc scope : Scope} {wn : Str} (h : lamS1B sc scope wn = true) : LamS1 sc scope wn := by
  unfold lamS1B at h
  simp only [Bool.and_eq_true, Bool.or_eq_true, Bool.not_eq_true', decide_eq_true_eq, decide_eq_false_iff_not, List.all_eq_true] at h
  obtain ⟨⟨⟨⟨h1, h2⟩, h3⟩, h5⟩, h4⟩ := h
  refine ⟨h1, h2, h3, h5, fun y hy e => ?_, fun y hy => (h4 y hy).1.2, fun y hy e => ?_⟩
  · rcases (h4 y hy).1.1 with z | z
    · exact absurd e z
    · exact z
  · rcases (h4 y hy).2 with (z | z) | z
    · exact absurd e z
    · exact .inl z
    · exact .inr z
theorem LamS1.has {X : Cx} {scope : Scope} {wn : Str} (L : LamS1 X.env.scope scope wn) (ok : X.Ok) : ∀ y ∈ scope.names, y.2 = .free → ∃ c, X.env.cells.lookup y.1 = some c := fun y hy e => by
  rcases L.free y hy e with k | k
  · exact ok.has _ (.inl k)
  · exact ok.has _ (.inr k)
section
variable {X : Cx} {pins : List (Addr × Obj)} {σ : L2.St} {H HZ : Hp} {s s1 : Shared}
theorem lam_start1 {A : Around} {outer : List Env} {E : XK} {scope : Scope} {f c' : Addr} {h₁ : Heap} {tk j : Nat} {wn : Str} {v : V} {u : Value} (I : Inv X pins σ H s) (L : LamS1 X.env.scope scope wn) (hN : X.N.Nodup) (hj : X.N[j]? = some wn)
    (e0 : Env0 X.prog X.w X.K X.mg X.base A outer s1 HZ) (hd : A.handled = none)
    (un : Un (frs X.stack) [] H HZ s.heap s1.heap) (hns : h₁.Ns s1.heap.objs.size fun y => ([(wn, u)] : List (Str × Value)).reverse.lookup y) (ru : RelV v u) (kp : ∀ b o, s1.heap.get? b = some o → h₁.get? b = some o) :
    Inv (lamCx X A outer s1 HZ E scope f c') [] (σ.set j (some v)) HZ { s1 with heap := h₁, toks := tk } := by
  have hfree := L.has I.ok
  have cm : ∀ {y c}, (cloFrom X.env.cells scope.names []).lookup y = some c → X.env.cells.lookup y = some c := fun {y c} e => by
    rcases cloFrom_mem (PySem.mem_of_lookup e) with hm | ⟨h1, h2⟩
    · cases hm
    · obtain ⟨c1, hc⟩ := hfree _ h1 rfl
      have hc : X.env.cells.lookup y = some c1 := hc
      have e2 : c = c1 := by
        rw [h2, hc] <;> rfl
      rw [e2]
      exact hc
  have look : ∀ {y}, scope.names.lookup y = some .free → ∃ c, (cloFrom X.env.cells scope.names []).lookup y = some c := fun {y} hl => by
    have hy : (y, NameKind.free) ∈ scope.names := PySem.mem_of_lookup hl
    exact mem_lookup (cloFrom_has (cells := X.env.cells) (acc := []) hy)
  have cellK : ∀ {c : Addr} {v : Option Value}, H c = none → s.heap.IsCell c v → h₁.IsCell c v := fun {c v} n ⟨o, ho, hd⟩ => by
    obtain ⟨sl, q⟩ := un.any ho n (by simp)
    exact ⟨_, kp _ _ q, hd⟩
  have noA : ∀ b : Addr, b ∉ (lamCx X A outer s1 HZ E scope f c').ex := fun b z => absurd (show b ∈ ([] : List Addr) from z) (by simp)
  refine ⟨⟨e0.mod, L.kind, rfl, rfl, Nat.le_refl _, fun y z c e1 e2 => I.ok.inj y z c (cm e1) (cm e2), fun y hy => ?_, fun y c z _ => ?_, fun _ => hd, Around.frames_deeper e0.frames, .inr ⟨rfl, rfl⟩, fun b z => absurd z (noA b), e0.bs, e0.bsz, fun b _ _ => noA b,
      fun b z => absurd z (noA b), e0.funs, e0.frf⟩,
    rfl, e0.bare, Un.kept kp, ⟨_, hns, fun i y v' e1 e2 e3 => ?_⟩, fun y c e => ?_, e0.hok.fresh (Nat.le_refl _), fun y c e => ?_, fun q hq => absurd (show q ∈ ([] : List (Addr × Obj)) ++ [] from hq) (by simp), e0.hok.kept kp, by
      rw [List.length_set]
      exact I.len⟩
  · have hy : scope.names.lookup y = some .cell ∨ scope.names.lookup y = some .free := hy
    rcases hy with hy | hy
    · exact absurd rfl (L.noc _ (PySem.mem_of_lookup hy))
    · exact look hy
  · have z : false = true := z
    cases z
  · have e3 : Vis scope y := e3
    by_cases hi : i = j
    · subst hi
      have e1 : X.N[i]? = some y := e1
      rw [hj] at e1
      cases e1
      have hlt : i < σ.length := by rw [I.len]; exact (List.getElem?_eq_some_iff.mp hj).1
      rw [List.getElem?_set_self hlt] at e2
      cases e2
      refine ⟨u, ru, .inl ⟨L.par, ?_⟩⟩
      simp
    · rw [List.getElem?_set_ne (Ne.symm hi)] at e2
      have hne : y ≠ wn := fun z => hi (nodup_ix hN e1 (z ▸ hj))
      rcases e3 with k | k | k
      · exact absurd (L.own _ (PySem.mem_of_lookup k) rfl) hne
      · exact absurd rfl (L.noc _ (PySem.mem_of_lookup k))
      · obtain ⟨m, hn, hl⟩ := I.loc
        have hvis : Vis X.env.scope y := (L.free _ (PySem.mem_of_lookup k) rfl).elim (fun k => .inr (.inl k)) (fun k => .inr (.inr k))
        obtain ⟨w', r, q⟩ := hl i y v' e1 e2 hvis
        obtain ⟨c2, h2⟩ := look k
        refine ⟨w', r, .inr ⟨.inr k, c2, h2, ?_⟩⟩
        have c1 := cm h2
        rcases q with ⟨k', _⟩ | ⟨_, c3, e', z⟩
        · have k' : X.env.scope.names.lookup y = some .local := k'
          rcases L.free _ (PySem.mem_of_lookup k) rfl with k2 | k2 <;> rw [show X.env.scope.names.lookup y = _ from k2] at k' <;> cases k'
        · rw [c1] at e'
          cases e'
          exact cellK (I.freeC y _ c1) z
  · obtain ⟨w', z⟩ := I.cell y c (cm e)
    exact ⟨w', cellK (I.freeC y c (cm e)) z⟩
  · obtain ⟨v, o, ho, hd⟩ := I.cell y c (cm e)
    exact un.free c o ho (I.freeC y c (cm e)) (by simp)
/-- the i-th slot holds the callable f; SP: what its call wishes -/
def tToldL (i : Nat) (f : Addr) (SP : List V → Hp → VK → Prop) (t : TA) : TE := fun σ H Q => σ[i]? = some (some (.ref f)) ∧ t σ H fun vs H1 => SP vs H1 Q
/-- what a lambda with one parameter wishes: its body's reading in the maker's slots -/
def SPlam (tb : TE) (σ : L2.St) (j : Nat) (c' : Addr) (q : Str) : List V → Hp → VK → Prop := fun vs H1 Q => ∃ v, vs = [v] ∧ H1 c' = some (CodeO c' q) ∧ tb (σ.set j (some v)) H1 Q
theorem pe_act1 {CXg : CXT} {Eg : XK} {Ng : List Str} {qg : Str} {sg : Scope} {g f c' : Addr} {cdg pm ctv : Value} {params : Arguments} {body : Expr} {scope : Scope} {k i j : Nat} {a wn : Str} {tb : TE} {p1 p2 : Pos} {e : Expr} {t : TA}
    (I : Inv X pins σ H s) (L : LamS1 X.env.scope scope wn) (hNN : X.N.Nodup) (hj : X.N[j]? = some wn) (hf : s.heap.get? f = some (PySem.W.kla_obj "<lambda>" (X.env.qual ++ "<lambda>") params body scope (cloFrom X.env.cells scope.names []) pm c' ctv)) (hfn : H f = none) (hfr : f ∉ frs X.stack)
    (hbind : ∀ u, bindArgs (PySem.W.kla_fn "<lambda>" (X.env.qual ++ "<lambda>") params body scope (cloFrom X.env.cells scope.names []) pm (.ref c') ctv) ⟨[u], []⟩ = pure [(wn, u)])
    (hr : Room (k + 1) (X.A.deeper (envOfC qg sg s.heap.objs.size g cdg)))
    (hbody : ∀ (A : Around) (outer : List Env) (s : Shared) (H : Hp), Room k (A.deeper (lamEnv X scope s.heap.objs.size f c')) → PE (lamCx X A outer s H C8.E0 scope f c') body tb)
    (hN : Ng[i]? = some a) (hv : Vis sg a) (ha : PA (cxOf CXg X.prog X.w X.K X.mg X.base Ng qg sg g cdg X.A X.stack s H Eg) [e] t)
    (he : starEach [e] (envOfC qg sg s.heap.objs.size g cdg) = (false, eval e (envOfC qg sg s.heap.objs.size g cdg)) :: starEach [] (envOfC qg sg s.heap.objs.size g cdg))
    (hd : (a == ("__debug__" : Str)) = false := by decide) (hcd : (a == ("__classdict__" : Str)) = false := by decide) :
    PE (cxOf CXg X.prog X.w X.K X.mg X.base Ng qg sg g cdg X.A X.stack s H Eg) (.Call (.Name a p1) [e] [] p2) (tToldL i f (SPlam tb σ j c' (X.env.qual ++ "<lambda>")) t) := by
  refine ⟨fun pinsZ sZ σZ HZ Q IZ h => ?_⟩
  obtain ⟨hs, ht⟩ := h
  refine wpAny_Call_Name_kw (thn ((pe_var (pos := p1) (i := i) hN hv hd hcd).run pinsZ sZ σZ HZ (fun v H1 => v = .ref f ∧ H1 = HZ) IZ ⟨.ref f, hs, rfl, rfl⟩) fun u s1 ⟨v, H1, I1, r1, q1⟩ => ?_)
  obtain ⟨ev, eH⟩ := q1
  subst ev
  rw [eH] at I1
  obtain rfl : u = Value.ref f := r1
  have at_ : ∀ {pp : List (Addr × Obj)} {σ1 : L2.St} {H1 : Hp} {s1 : Shared}, Inv (cxOf CXg X.prog X.w X.K X.mg X.base Ng qg sg g cdg X.A X.stack s H Eg) pp σ1 H1 s1 → s1.heap.get? f = some (PySem.W.kla_obj "<lambda>" (X.env.qual ++ "<lambda>") params body scope (cloFrom X.env.cells scope.names []) pm c' ctv) :=
    fun I1 => I1.base.keep f _ hf hfn hfr (fun z => nomatch (show f ∈ ([] : List Addr) from z))
  refine PySem.W.callWith_F ⟨_, _, _, _, at_ I1⟩ (thn (ha.run p2 pinsZ s1 σZ HZ _ I1 ht) fun us s2 ⟨vs, H2, I2, rv, q⟩ => ⟨⟨_, _, _, _, at_ I2⟩, ?_⟩) he (by rfl)
  obtain ⟨v, rfl, hc, q⟩ := q
  obtain ⟨u, rfl, ru⟩ := rv.one
  have un : Un (frs X.stack) [] H H2 s.heap s2.heap := I2.base
  obtain ⟨⟨oc, vs, tq, hoc, hdc, hvc⟩, _, _⟩ := I2.hok c' _ hc
  have rc : codeAny (model X.prog X.w) (X.A.deeper (envOfC qg sg s.heap.objs.size g cdg)) (.call (.ref f) ⟨[u], []⟩) (CR (L2.CX X.prog X.w) (envOfC qg sg s.heap.objs.size g cdg :: X.stack) X.prog X.w H2 s2 Q C8.E0) s2 := by
    refine PySem.W.kla_callFunE hr.depth (at_ I2) rfl L.co L.gen rfl ⟨c', oc, vs, tq, rfl, hoc, hdc, hvc⟩ ?_
    rw [hbind]
    refine wpAny_pure (wpAny_newFunctionEnv (fun y hy => L.noc y hy) (fun y hy => by
        have e : y = (wn, u) := by simpa using hy
        rw [e]
        exact L.par) (fun h₁ hns hsb => ⟨I2.nolimit.fresh _ hsb, ?_⟩) L.kind)
    show codeAny _ _ (.expr body (lamEnv X scope s2.heap.objs.size f c')) _ _
    have kp : ∀ b o, s2.heap.get? b = some o → h₁.get? b = some o := fun b o e => hsb.extBut b o (Nat.ne_of_lt (Heap.lt_size e)) (Heap.get?_push_of_some _ e)
    have J : Inv (lamCx X (X.A.deeper (envOfC qg sg s.heap.objs.size g cdg)) (envOfC qg sg s.heap.objs.size g cdg :: X.stack) s2 H2 C8.E0 scope f c') [] (σ.set j (some v)) H2 { s2 with heap := h₁, toks := s2.toks + ([(wn, u)] : List (Str × Value)).length } :=
      lam_start1 I L hNN hj I2.env0 hr.hd un hns ru kp
    refine PySem.W.kla_codeExpr (wpAny_mono ((hbody _ _ s2 H2 (hr.deeper _)).run [] _ _ H2 Q J q) (fun v s' hq => ?_) fun e s' hq => hq)
    obtain ⟨w', H', J', rv, q⟩ := hq
    exact ⟨w', H', J'.os, J'.bare, J'.base, J'.hok, rv, q⟩
  refine wpAny_call (codeAny_mono rc fun r s' hq => ?_)
  cases r with
  | error e =>
    obtain ⟨_, _, _, _, _, _, _, _, _, _, _, _, z⟩ := (show L2.CX _ _ _ _ _ _ _ _ from hq)
    exact False.elim z
  | ok fl =>
    cases fl with
    | ret u => exact I2.after hq
    | next => exact False.elim hq
    | brk => exact False.elim hq
    | cont => exact False.elim hq
end
/-- x(e0, lambda wn: body), x a def that calls its second one -/
def tLamT (T : List (Addr × Str)) (q : Str) (j : Nat) (Ng : List Str) (te0 tb : TE) (tR : Addr → (List V → Hp → VK → Prop) → TS) : TE := fun σ H Q => te0 σ H fun x0 H0 => Tabs T H0 ∧
  ∀ (f c' : Addr) (H1 : Hp), ExtN H0 H1 → Tabs T H1 → H1 c' = some (CodeO c' q) → tR f (SPlam tb σ j c' q) { nx := fun _ H' => Q .non H', rt := Q } (L2.start Ng [x0, .ref f]) H1
section
variable {X : Cx}
theorem pe_lamtold {T : List (Addr × Str)} {x a0 a wn : Str} {g c P : Addr} {k j : Nat} {E : XK} {pg : Arguments} {bg : List Stmt} {sg : Scope} {dV kV doc pm cdv ct oc : Value} {an od : Option Addr} {osl : Array (Option Value)} {Ng : List Str}
    {params : Arguments} {body : Expr} {scope : Scope} {e0 : Expr} {te0 tb : TE} {tR : Addr → (List V → Hp → VK → Prop) → TS} {p lpos pos : Pos} (hg : Gl X x) (hm : X.mg x = some (.ref g)) (hk : PySem.W.keepIn X.K (.ref g) = true)
    (lk : X.K.lookup g = some ⟨oc, od, .func (PySem.W.fnOf x x pg bg sg dV kV doc pm an cdv ct), osl⟩) (hcg : PySem.W.codeIn X.K cdv x = true) (hb : L2.Binds X.K (PySem.W.fnOf x x pg bg sg dV kV doc pm an cdv ct) [a0, a] []) (Sg : FnScope Ng [a0, a] sg) (hNg : Ng[1]? = some a) (hva : Vis sg a)
    (hE : Passes (L2.CX X.prog X.w) X E) (h0 : PE X e0 te0)
    (hD : ∀ (A : Around) (outer : List Env) (s : Shared) (H : Hp) (f : Addr) (SP : List V → Hp → VK → Prop), Room (k + 1) (A.deeper (envOfC x sg s.heap.objs.size g cdv)) →
      (∀ {e : Expr} {ta : TA} {p1 p2 : Pos}, PA (cxOf (L2.CX X.prog X.w) X.prog X.w X.K X.mg X.base Ng x sg g cdv A outer s H E) [e] ta → starEach [e] (envOfC x sg s.heap.objs.size g cdv) = (false, eval e (envOfC x sg s.heap.objs.size g cdv)) :: starEach [] (envOfC x sg s.heap.objs.size g cdv) →
        PE (cxOf (L2.CX X.prog X.w) X.prog X.w X.K X.mg X.base Ng x sg g cdv A outer s H E) (.Call (.Name a p1) [e] [] p2) (tToldL 1 f SP ta)) →
      PSs (cxOf (L2.CX X.prog X.w) X.prog X.w X.K X.mg X.base Ng x sg g cdv A outer s H E) bg (tR f SP))
    (TB : TabB X.base X.mg c P) (hcode : X.env.code = .ref c) (hmT : (P, X.env.qual ++ "<lambda>") ∈ T) (hu : ∀ p ∈ T, p.1 = P → p.2 = X.env.qual ++ "<lambda>") (hr : Room (k + 2) X.A) (hNN : X.N.Nodup) (hj : X.N[j]? = some wn) (L : LamS1 X.env.scope scope wn) (hdef : defaultsOf params X.env = ([], []))
    (hbind : ∀ (q : Str) (cl : List (Str × Addr)) (pm cv ctv u : Value), bindArgs (PySem.W.kla_fn "<lambda>" q params body scope cl pm cv ctv) ⟨[u], []⟩ = pure [(wn, u)])
    (hbody : ∀ (A : Around) (outer : List Env) (s : Shared) (H : Hp) (f c' : Addr), Room k (A.deeper (lamEnv X scope s.heap.objs.size f c')) → PE (lamCx X A outer s H C8.E0 scope f c') body tb)
    (hdb : (x == ("__debug__" : Str)) = false := by decide) (hd : (a == ("__debug__" : Str)) = false := by decide) (hcd : (a == ("__classdict__" : Str)) = false := by decide)
    (he : starEach [e0, .Lambda params body scope lpos] X.env = (false, eval e0 X.env) :: starEach [.Lambda params body scope lpos] X.env := by rfl) :
    PE X (.Call (.Name x p) [e0, .Lambda params body scope lpos] [] pos) (tLamT T (X.env.qual ++ "<lambda>") j Ng te0 tb tR) := by
  refine ⟨fun pins s σ H Q I h => ?_⟩
  refine wpAny_Call_Name_kw (ld_glob I hg hm ?_ hdb)
  refine PySem.W.callWith_K (h₀ := X.base) I.ok.mod.kin hk ?_ he (by rfl)
  rw [he]
  show wpAny _ _ (spliced ((false, eval e0 X.env) :: (false, eval (.Lambda params body scope lpos) X.env) :: backTo pos (starEach [] X.env))) _ _ s
  refine Calls.spliced_cons (thn (h0.run pins s σ H _ I h) fun u0 s0 ⟨x0, H0, I0, r0, hT, h⟩ => ?_)
  refine Calls.spliced_cons (lam_make2 I0 TB hcode hmT hu hT hdef (L.has I0.ok) fun f c' pm' ctv H1 s' I1 eN T1 hf hfn hfr hco => ?_)
  refine Calls.spliced_nil ⟨I1.kIn, ?_⟩
  have rc : codeAny (model X.prog X.w) X.A (.call (.ref g) ⟨[u0, .ref f], []⟩) (CR (L2.CX X.prog X.w) X.stack X.prog X.w H1 s' Q E) s' := by
    refine run_ofS (N := Ng) (ps := [a0, a]) (us := [u0, .ref f]) (vs := [x0, .ref f]) lk hcg Sg hr I1.env0 (hb s' [u0, .ref f] I1.kIn rfl) (.cons r0 (.cons rfl .nil)) rfl fun hr' => ?_
    refine ⟨tR f (SPlam tb σ j c' (X.env.qual ++ "<lambda>")), hD X.A X.stack s' H1 f _ hr' (fun {e ta p1 p2} ha hst => pe_act1 (k := k) (i := 1) I1 L hNN hj hf hfn hfr (fun u => hbind _ _ _ _ _ u) hr' (fun A outer s H hr2 => hbody A outer s H f c' hr2) hNg hva ha hst hd hcd), h f c' H1 eN T1 hco⟩
  refine wpAny_call (codeAny_mono rc fun r s2 hq => ?_)
  cases r with
  | error e => exact hE pins σ H1 s' e s2 I1 hq
  | ok fl =>
    cases fl with
    | ret u => exact I1.after hq
    | next => exact False.elim hq
    | brk => exact False.elim hq
    | cont => exact False.elim hq
end
end Cp
set_option maxHeartbeats 4000000
/-! Own rules: a def's promise that holds where no repr is under way; repr of data; the end with it. -/
namespace Cp
open PySem PySem.Spec PyProof.Rows L2 LamX
/-- 04's FnOk, where no repr is under way -/
structure FnG (P : Program) (w : World) (K : PySem.W.Frag) (mg : Str → Option Value) (base : Heap) (CX : CXT) (k : Nat) (f : Addr) (fd : FuncData) (ps : List Str) (sp : Sp) : Prop where
  len : ∀ vs H Q E, sp vs H Q E → vs.length = ps.length
  run : ∀ (A : Around) (outer : List Env) (s : Shared) (H : Hp) (args : Args) (us : List Value) (vs : List V) (Q : VK) (E : XK), Room k A → A.guards = some [] → Env0 P w K mg base A outer s H → BindsTo s fd args (ps.zip us) → Vals vs us → sp vs H Q E →
    codeAny (model P w) A (.call (.ref f) args) (CR CX outer P w H s Q E) s
/-- a def's body walked where no repr is under way -/
theorem fnG_of {CX : CXT} {P : Program} {w : World} {K : PySem.W.Frag} {mg : Str → Option Value} {base : Heap} {k : Nat} {f : Addr} {name qual : Str} {params : Arguments} {body : List Stmt} {scope : Scope} {dV kV doc pm cdv ct oc : Value} {an od : Option Addr}
    {osl : Array (Option Value)} {N ps : List Str} {sp : Sp} (lk : K.lookup f = some ⟨oc, od, .func (PySem.W.fnOf name qual params body scope dV kV doc pm an cdv ct), osl⟩) (hcd : PySem.W.codeIn K cdv qual = true) (S : FnScope N ps scope) (hl : ∀ vs H Q E, sp vs H Q E → vs.length = ps.length)
    (hbody : ∀ (A : Around) (outer : List Env) (s : Shared) (H : Hp) (vs : List V) (Q : VK) (E : XK), Room k (A.deeper (envOfC qual scope s.heap.objs.size f cdv)) → A.guards = some [] → sp vs H Q E →
      ∃ t, PSs (cxOf CX P w K mg base N qual scope f cdv A outer s H E) body t ∧ t { nx := fun _ H' => Q .non H', rt := Q } (L2.start N vs) H) :
    FnG P w K mg base CX (k + 1) f (PySem.W.fnOf name qual params body scope dV kV doc pm an cdv ct) ps sp :=
  ⟨hl, fun A outer s H args us vs Q E hr hg e0 hb r hs => run_ofS lk hcd S hr e0 hb r (hl _ _ _ _ hs) fun hr' => hbody A outer s H vs Q E hr' hg hs⟩
section
variable {X : Cx} {CX : CXT} {k j : Nat} {f : Addr} {fd : FuncData} {ps : List Str} {sp : Sp} {E : XK} {x : Str} {p pos : Pos} {e : Expr} {es : List Expr} {t : TA}
theorem pe_fnG (F : FnG X.prog X.w X.K X.mg X.base CX k f fd ps sp) (hr : Room k X.A) (hgd : X.A.guards = some []) (hg : Gl X x) (hm : X.mg x = some (.ref f)) (hk : PySem.W.keepIn X.K (.ref f) = true) (hb : Binds X.K fd ps []) (hx : Passes CX X E)
    (ha : PA X (e :: es) t) (hdb : (x == ("__debug__" : Str)) = false := by decide) (he : starEach (e :: es) X.env = (false, eval e X.env) :: starEach es X.env := by rfl) (hpl : (backTo pos (starEach es X.env)).any (·.1) = false := by rfl) :
    PE X (.Call (.Name x p) (e :: es) [] pos) (tCall sp [] E t) := by
  refine ⟨fun pins s σ H Q I h => ?_⟩
  refine wpAny_Call_Name_kw (ld_glob I hg hm ?_ hdb)
  refine PySem.W.callWith_K (h₀ := X.base) I.ok.mod.kin hk (thn (ha.run pos pins s σ H _ I h) fun us s1 ⟨vs, H1, I1, r, q⟩ => ⟨I1.kIn, ?_⟩) he hpl
  have q : sp (vs ++ []) H1 Q E := q
  rw [List.append_nil] at q
  have hl : (us ++ ([] : List Value)).length = ps.length := by rw [List.append_nil, ← r.length]; exact F.len _ _ _ _ q
  refine wpAny_call (codeAny_mono (F.run X.A X.stack s1 H1 ⟨us, []⟩ (us ++ []) vs Q E hr hgd I1.env0 (hb s1 us I1.kIn hl) (by rw [List.append_nil]; exact r) q) fun r s' hq => ?_)
  cases r with
  | error e => exact hx pins σ H1 s1 e s' I1 hq
  | ok fl =>
    cases fl with
    | ret u => exact I1.after hq
    | next => exact False.elim hq
    | brk => exact False.elim hq
    | cont => exact False.elim hq
end

/-- the law called, its promise asking that no repr is under way -/
theorem law_callG {P : Program} {w : World} {K : PySem.W.Frag} {mg mb : Str → Option Value} {CX : CXT} {k : Nat} {fa a : Addr} {cs : List (Addr × Addr)} {fd : FuncData} {x : Str} {sp : Sp} {s₁ : Shared} {vs : List Value} {ns : List Int}
    (KX : K.In s₁.heap) (hns : s₁.heap.Ns mainGlobals mg) (hb : s₁.heap.Ns builtinsNs mb) (hbb : ∀ x : Str, x ≠ "__name__" → mb x = bootBuiltins x) (hlim : s₁.heap.NoLimit) (hg : s₁.gens = #[])
    (hT : ∀ p ∈ cs, s₁.heap.get? p.2 = some { cls := .none, data := .fields #[] }) (nT : ∀ p ∈ cs, K.lookup p.2 = none) (C : ∀ p ∈ cs, PySem.W.CodeHd s₁.heap p.1 p.2)
    (hbm : ∃ (bm : Addr) (ob : Obj), mg "__builtins__" = some (.ref bm) ∧ bm ≠ builtinsNs ∧ s₁.heap.get? bm = some ob ∧ ob.cls = .type "module" ∧ ob.dict = some builtinsNs ∧ ob.data = .plain)
    (ha : s₁.heap.get? a = some { cls := .type "list", data := .seq vs.toArray }) (hi : IntsAre vs ns) (hl : ns.length ≤ sizeLine) (hr : Room k callerA)
    (F : ∀ base : Heap, K.In base → base.Ns mainGlobals mg → (∀ p ∈ cs, TabB base mg p.1 p.2) → FnG P w K mg base CX k fa fd [x] sp) (hbind : ∀ (s : Shared) (u : Value), BindsTo s fd ⟨[u], []⟩ [(x, u)])
    (hsp : ∀ H : Hp, (∀ p ∈ cs, H p.2 = some (.tbl #[])) → SqL K H a (ns.map V.int) → sp [.ref a] H (fun v _ => v = .bl true) fun _ _ _ => False)
    (hCX : ∀ H e s', CX [] H s₁ (fun _ _ _ => False) e s' → False) :
    codeAny (model P w) callerA (.call (.ref fa) ⟨[.ref a], []⟩) (fun r s' => r = .ok (.ret (.bool true)) ∧ OldK s₁.heap s'.heap ∧ s'.os = s₁.os ∧ AllBare s'.gens) s₁ := by
  have rv := vals_ints hi
  have lenV := hi.length
  have isT : ∀ b : Addr, b ∈ cs.map (·.2) → s₁.heap.get? b = some { cls := .none, data := .fields #[] } := fun b hb => by
    obtain ⟨p, hp, e⟩ := List.mem_map.mp hb
    rw [← e]
    exact hT p hp
  have aT : a ∉ cs.map (·.2) := fun z => by
    have q := isT a z
    rw [ha] at q
    have z' : Data.seq vs.toArray _ = Data.fields #[] := congrArg Obj.data (Option.some.inj q)
    cases z'
  have memT : ∀ p ∈ cs, p.2 ∈ cs.map (·.2) := fun p hp => List.mem_map.mpr ⟨p, hp, rfl⟩
  -- from an abstract heap in which nothing but the script and the tables may be tracked
  have core : ∀ H : Hp, (∀ p ∈ cs, H p.2 = some (.tbl #[])) → (∀ b, H b = none ∨ b ∈ cs.map (·.2) ∨ ∃ o xs, H b = some (.frz o (.lst xs))) → SqL K H a (ns.map V.int) → HOk P w H s₁.heap → (∀ b, H b ≠ none → b = a ∨ b ∈ cs.map (·.2)) → (H a ≠ none → K.lookup a = none) →
      codeAny (model P w) callerA (.call (.ref fa) ⟨[.ref a], []⟩) (fun r s' => r = .ok (.ret (.bool true)) ∧ OldK s₁.heap s'.heap ∧ s'.os = s₁.os ∧ AllBare s'.gens) s₁ := by
    intro H hH hO hS hok hA hK
    have base_of : ∀ {b : Addr} {o : Obj}, s₁.heap.get? b = some o → H b = none → (hidT s₁.heap H).get? b = some o := fun e n => hidT_get e n
    have noD : ∀ {b : Addr} {o : Obj}, s₁.heap.get? b = some o → (∀ vs n, o.data ≠ .seq vs n) → o.data ≠ .fields #[] → H b = none := fun {b o} e h1 h2 => by
      cases q : H b with
      | none => rfl
      | some u =>
        rcases hA b (by rw [q]; simp) with e' | e'
        · rw [e', ha] at e
          cases e
          exact (h1 _ _ rfl).elim
        · rw [isT b e'] at e
          cases e
          exact (h2 rfl).elim
    have noA : ∀ {b : Addr} {o : Obj} {es : Array DictEntry} {ep : Nat}, s₁.heap.get? b = some o → o.data = .dict es ep → H b = none := fun {b o es ep} e d => by
      refine noD e (fun vs n z => ?_) fun z => ?_
      · rw [d] at z
        cases z
      · rw [d] at z
        cases z
    have nsK : ∀ {b : Addr} {m : Str → Option Value}, s₁.heap.Ns b m → (hidT s₁.heap H).Ns b m := fun {b m} ⟨o, es, ep, e, d, r⟩ => ⟨o, es, ep, base_of e (noA e d), d, r⟩
    have hKb : K.In (hidT s₁.heap H) := fun b o e => base_of (KX b o e) (by
      cases q : H b with
      | none => rfl
      | some u =>
        rcases hA b (by rw [q]; simp) with e' | e'
        · rw [e'] at e q
          rw [hK (by rw [q]; simp)] at e
          cases e
        · obtain ⟨p, hp, ep⟩ := List.mem_map.mp e'
          rw [← ep, nT p hp] at e
          cases e)
    have hM : L2.Mod K mg (hidT s₁.heap H) := ⟨hKb, nsK hns, ⟨mb, nsK hb, hbb⟩, let ⟨mc, h1, h2⟩ := hlim; ⟨mc, nsK h1, h2⟩⟩
    have TB : ∀ p ∈ cs, TabB (hidT s₁.heap H) mg p.1 p.2 := fun p hp => by
      have hTp := hT p hp
      refine ⟨?_, ?_, fun z => ?_⟩
      · obtain ⟨o, us, file, tf, flags, tg, inF, text, tt, e1, r1, r2, r3, r4, r5, r6, r7, r8, hne⟩ := C p hp
        refine ⟨o, us, file, tf, flags, tg, inF, text, tt, base_of e1 (noD e1 (fun vs n z => ?_) fun z => ?_), r1, r2, r3, r4, r5, r6, r7, r8, hne⟩
        · rw [r2] at z
          cases z
        · rw [r2] at z
          cases z
          simp at r3
      · obtain ⟨bm, ob, b1, b2, b3, b4, b5, b6⟩ := hbm
        have nG : bm ≠ mainGlobals := fun q => by
          obtain ⟨o, es, ep, e, hd, _⟩ := hns
          rw [q, e] at b3
          cases b3
          rw [hd] at b6
          cases b6
        have nP : bm ≠ p.2 := fun q => by
          rw [q, hTp] at b3
          cases b3
          cases b6
        refine ⟨bm, ob, b1, b2, nG, nP, base_of b3 (noD b3 (fun vs n z => ?_) fun z => ?_), b4, b5, b6⟩
        · rw [b6] at z
          cases z
        · rw [b6] at z
          cases z
      · obtain ⟨o, es, ep, e, hd, _⟩ := hns
        rw [z, hTp] at e
        cases e
        cases hd
    have e0 : Env0 P w K mg (hidT s₁.heap H) callerA [] s₁ H := ⟨rfl, hM, fun b o e => of_hidT e, Nat.le_of_eq (hidT_size _ _), trivial, fun b hb => absurd (show b ∈ ([] : List Addr) from hb) (by simp), hok, .of_eq hg⟩
    refine codeAny_mono ((F _ hKb (nsK hns) TB).run callerA [] s₁ H ⟨[.ref a], []⟩ [.ref a] [.ref a] _ _ hr rfl e0 (hbind s₁ (.ref a)) (.cons rfl .nil) (hsp H hH hS)) fun r s' h => ?_
    cases r with
    | error e => exact (hCX H e s' h).elim
    | ok fl =>
      cases fl with
      | next => exact False.elim h
      | brk => exact False.elim h
      | cont => exact False.elim h
      | ret u =>
        obtain ⟨v, H', os, bare, un, hok', r', q⟩ := h
        have q' : v = .bl true := q
        subst q'
        obtain rfl : u = Value.bool true := r'
        have key : ∀ b o, b ∉ cs.map (·.2) → s₁.heap.get? b = some o → s'.heap.get? b = some o := fun b o nb e => by
          cases q : H b with
          | none => exact un.keep b o e q (by intro z; exact absurd (show b ∈ ([] : List Addr) from z) (by simp)) (by simp)
          | some u =>
            rcases hO b with z | z | ⟨ob, xs, z⟩
            · rw [q] at z; cases z
            · exact absurd z nb
            · have z2 := un.frzs b ob _ z
              obtain ⟨e1, _⟩ := hok b _ z
              obtain ⟨e2, _⟩ := hok' b _ z2
              rw [e] at e1; cases e1
              exact e2
        have grown : ∀ p ∈ cs, ∃ more : Array Value, s'.heap.get? p.2 = some { cls := .none, data := .fields more } := fun p hp => by
          obtain ⟨more, z⟩ := un.tbls p.2 #[] (hH p hp)
          exact ⟨_, hok' p.2 _ z⟩
        refine ⟨rfl, ⟨fun b o e => ?_, fun b o e => ?_⟩, os, bare⟩
        · by_cases hb : b ∈ cs.map (·.2)
          · obtain ⟨p, hp, ep⟩ := List.mem_map.mp hb
            obtain ⟨more, hm⟩ := grown p hp
            rw [← ep] at e ⊢
            rw [hT p hp] at e
            cases e
            exact .inr (.inl ⟨((C p hp).tab (hT p hp)).isCodeTable, rfl, #[], more, rfl, by rw [Array.empty_append]; exact hm⟩)
          · exact .inl (key b o hb e)
        · by_cases hb : b ∈ cs.map (·.2)
          · obtain ⟨p, hp, ep⟩ := List.mem_map.mp hb
            obtain ⟨more, hm⟩ := grown p hp
            rw [← ep]
            exact ⟨_, hm⟩
          · exact ⟨o, key b o hb e⟩
  cases hk : K.lookup a with
  | some o =>
    have e := KX a o hk
    rw [ha] at e
    cases e
    refine core (fun b => if b ∈ cs.map (·.2) then some (.tbl #[]) else none) (fun p hp => if_pos (memT p hp)) (fun b => ?_) (.inr ⟨_, vs.toArray, _, hk, rfl, rfl, rfl, by rw [List.size_toArray, lenV]; exact hl, by simpa using rv⟩) (fun b u z => ?_) (fun b z => ?_) fun z => absurd (show (if a ∈ cs.map (·.2) then some (HO.tbl #[]) else none) = none from if_neg aT) z
    · by_cases hb : b ∈ cs.map (·.2)
      · exact .inr (.inl hb)
      · exact .inl (if_neg hb)
    · by_cases hb : b ∈ cs.map (·.2)
      · have z' := (if_pos hb).symm.trans z
        cases z'
        exact isT b hb
      · have z' := (if_neg hb).symm.trans z
        cases z'
    · by_cases hb : b ∈ cs.map (·.2)
      · exact .inr hb
      · exact absurd (if_neg hb) z
  | none =>
    refine core (fun b => if b = a then some (.frz { cls := .type "list", data := .seq vs.toArray } (.lst (ns.map V.int))) else if b ∈ cs.map (·.2) then some (.tbl #[]) else none) (fun p hp => (if_neg (show ¬ p.2 = a from fun z => aT (by rw [← z]; exact memT p hp))).trans (if_pos (memT p hp))) (fun b => ?_)
      (.inl (.inr ⟨{ cls := .type "list", data := .seq vs.toArray }, if_pos rfl⟩)) (fun b u z => ?_) (fun b z => ?_) fun _ => hk
    · by_cases hb : b = a
      · exact .inr (.inr ⟨_, _, if_pos hb⟩)
      · by_cases hb2 : b ∈ cs.map (·.2)
        · exact .inr (.inl hb2)
        · exact .inl ((if_neg hb).trans (if_neg hb2))
    · by_cases hb : b = a
      · have z' := (if_pos hb).symm.trans z
        cases z'
        rw [hb]
        exact ⟨ha, by rw [List.length_map]; exact hl, vs, _, rv, ha⟩
      · have z1 := (if_neg hb).symm.trans z
        by_cases hb2 : b ∈ cs.map (·.2)
        · have z' := (if_pos hb2).symm.trans z1
          cases z'
          exact isT b hb2
        · have z' := (if_neg hb2).symm.trans z1
          cases z'
    · by_cases hb : b = a
      · exact .inl hb
      · by_cases hb2 : b ∈ cs.map (·.2)
        · exact .inr hb2
        · exact absurd ((if_neg hb).trans (if_neg hb2)) z
/-- what is known of the law's promise at the head's heap h -/
def LawAtG (l : PySem.W.OpenLaw) (w : World) (K : PySem.W.Frag) (CX : CXT) (k n : Nat) (x : Str) (mg : Str → Option Value) (fa : Addr) (h : Heap) : Prop :=
  ∃ (fd : FuncData) (cs : List (Addr × Addr)) (sp : Sp), (∀ p ∈ cs, h.get? p.2 = some { cls := .none, data := .fields #[] }) ∧ (∀ p ∈ cs, K.lookup p.2 = none) ∧ (∀ p ∈ cs, PySem.W.CodeHd h p.1 p.2) ∧ (∀ (s : Shared) (u : Value), BindsTo s fd ⟨[u], []⟩ [(x, u)]) ∧
    (∀ (H : Hp) (a : Addr) (ns : List Int), ns.length ≤ n → (∀ z ∈ ns, Builtin.Int.intBits z ≤ 1048576) → (∀ p ∈ cs, H p.2 = some (.tbl #[])) → SqL K H a (ns.map V.int) → sp [.ref a] H (fun v _ => v = .bl true) fun _ _ _ => False) ∧
    ∀ base : Heap, K.In base → base.Ns mainGlobals mg → (∀ p ∈ cs, TabB base mg p.1 p.2) → FnG l.prog w K mg base CX k fa fd [x] sp
theorem walk_ofG {l : PySem.W.OpenLaw} {n k : Nat} {q : Program} {loose : List Str} {XP : (Str → Option Value) → Heap → Prop} {YP : World → Heap → Prop} {d : DefRec} {CX : World → CXT} {x : Str}
    (hn : l.most = some n) (hn2 : n ≤ sizeLine) (hdf : d.params.defaults = []) (hr : Room k callerA)
    (F : ∀ (w : World) (mg : Str → Option Value) (fa : Addr) (h : Heap), YP w h → h.Ns mainGlobals mg → mg d.name = some (.ref fa) → ∃ K : PySem.W.Frag, K.In h ∧ LawAtG l w K (CX w) k n x mg fa h)
    (hCX : ∀ (w : World) (H : Hp) (s : Shared) (e : Value) (s' : Shared), CX w [] H s (fun _ _ _ => False) e s' → False) :
    PySem.W.WalkO q loose XP YP l.row.toRowW d [] (fun f vs => PySem.call f vs) := by
  refine Att.attach_callB hn hdf fun w s₀ s₁ mg mb fa o pm cd doc a vs ns G Y ho hd hcd hmg hobj hints hlen hbits hg => ?_
  obtain ⟨K, KX, fd, cs, sp, hT, nT, C, hb, hsp, hF⟩ := F w mg fa _ Y G.T.g hmg
  exact law_callG KX G.T.g G.T.b G.T.builtins G.T.nolimit hg hT nT C G.T.bmain hobj hints (Nat.le_trans hlen hn2) hr hF hb (fun H hH hS => hsp H a ns hlen hbits hH hS) fun H e s' => hCX w H s₁ e s'

/-! ### repr of data -/
mutual
/-- the value v tells the data d -/
inductive Dt (K : PySem.W.Frag) (H : Hp) : V → PyData → Prop
  | non : Dt K H .non .none
  | bl (b : Bool) : Dt K H (.bl b) (.bool b)
  | int (i : Int) : Dt K H (.int i) (.int i)
  | str (x : Str) : Dt K H (.str x) (.str x)
  | lst {a : Addr} {xs : List V} {ds : List PyData} : SqL K H a xs → Dts K H xs ds → Dt K H (.ref a) (.list ds)
  | tup {a : Addr} {xs : List V} {ds : List PyData} : SqT K H a xs → Dts K H xs ds → Dt K H (.ref a) (.tuple ds)
inductive Dts (K : PySem.W.Frag) (H : Hp) : List V → List PyData → Prop
  | nil : Dts K H [] []
  | cons {v : V} {vs : List V} {d : PyData} {ds : List PyData} : Dt K H v d → Dts K H vs ds → Dts K H (v :: vs) (d :: ds)
end
section
variable {X : Cx} {pins : List (Addr × Obj)} {σ : L2.St} {H : Hp} {s : Shared}
mutual
theorem Dt.reads (I : Inv X pins σ H s) : ∀ {v : V} {d : PyData}, Dt X.K H v d → ∀ u, RelV v u → ∃ as, Reads s.heap u d as
  | _, _, .non, u, r => by
    cases (show u = Value.none from r)
    exact ⟨_, .none⟩
  | _, _, .bl b, u, r => by
    cases (show u = Value.bool b from r)
    exact ⟨_, .bool b⟩
  | _, _, .int i, u, r => by
    obtain ⟨t, q⟩ := (show ∃ t, u = Value.int i t from r)
    cases q
    exact ⟨_, .int i t⟩
  | _, _, .str x, u, r => by
    obtain ⟨t, q⟩ := (show ∃ t, u = Value.str x t from r)
    cases q
    exact ⟨_, .str x t⟩
  | _, _, .lst (a := a) h1 h2, u, r => by
    cases (show u = Value.ref a from r)
    obtain ⟨its, rv, ⟨o, n, ho, hc, _, hd⟩, _⟩ := I.list h1
    obtain ⟨as, hr⟩ := Dts.reads I h2 its rv
    exact ⟨_, .list ho hc hd (by simpa using hr)⟩
  | _, _, .tup (a := a) h1 h2, u, r => by
    cases (show u = Value.ref a from r)
    obtain ⟨its, rv, ⟨o, ho, hc, n, hd⟩, _⟩ := I.tuple h1
    obtain ⟨as, hr⟩ := Dts.reads I h2 its rv
    exact ⟨_, .tuple ho hc hd (by simpa using hr)⟩
theorem Dts.reads (I : Inv X pins σ H s) : ∀ {vs : List V} {ds : List PyData}, Dts X.K H vs ds → ∀ us, Vals vs us → ∃ as, ReadsAll s.heap us ds as
  | _, _, .nil, us, r => by
    cases r
    exact ⟨_, .nil⟩
  | _, _, .cons h t, us, r => by
    cases r with
    | cons r1 r2 =>
      obtain ⟨as, h1⟩ := Dt.reads I h _ r1
      obtain ⟨bs, h2⟩ := Dts.reads I t _ r2
      exact ⟨_, .cons h1 h2⟩
end
def rRepr (K : PySem.W.Frag) : List V → Hp → VK → Prop := fun vs H Q => ∃ p d, vs = [.ref p] ∧ Dt K H (.ref p) d ∧ d.showable = true ∧ d.hasDict = false ∧ d.depth ≤ 100 ∧ d.shown.length ≤ sizeLine ∧ Q (.str d.shown) H
theorem c_repr {k : Nat} (hG : X.A.guards = some []) (hr : Room k X.A) : CallR X (.builtin "repr") (rRepr X.K) := by
  intro pins s σ H vs us Q I r h
  obtain ⟨p, d, rfl, hd, hs, hn, hdp, hz, q⟩ := h
  rw [Vals.ref1 r]
  obtain ⟨as, R⟩ := Dt.reads I hd _ rfl
  refine repr_of_reads' R hs (fun z => absurd z (by rw [hn]; simp)) hG (by have := hr.un; omega) (fun _ _ e => e) (fun h' u tk k => ?_) hz
  exact ⟨.str d.shown, H, I.kept (t' := tk) k, ⟨u, rfl⟩, q⟩
end
end Cp
set_option maxHeartbeats 4000000
/-! The data, what the defs promise, what is known of the text. -/
namespace Cp
open PySem L2 LamX
open NumText (digitsVal)

/-! ### plain -/
structure Kd where
  name : Str
  ed : Int
  bases : List Str
  letter : Str
  mark : Str
def lows : Str := "abcdefghijklmnopqrstuvwxyz"
def figs : Str := "0123456789"
def allOf (t z : Str) : Bool := z.cps.toList.all fun c => decide (c ∈ t.cps.toList)
def nameOk (z : Str) : Bool := decide (1 ≤ z.length) && decide (z.length ≤ 8) && allOf lows z
/-- the letters that stand among cs, in their order -/
def word (cs : List Nat) : Str := ⟨(((List.range 26).map (97 + ·)).filter fun c => decide (c ∈ cs)).toArray⟩
def markOk (z : Str) : Bool := decide (word z.cps.toList = z)
def basesOk (bs : List Str) : Bool := decide (bs.length ≤ 6) && bs.all nameOk && decide bs.Nodup
def edOk : Option Int → Bool
  | some n => decide (1 ≤ n) && decide (n ≤ 99)
  | none => false
def kindOk (name : Str) (ed : Option Int) (bases : List Str) (letter mark : Str) : Bool := nameOk name && edOk ed && basesOk bases && (markOk letter && decide (letter.length = 1) && markOk mark)
def Kd.ok (k : Kd) : Bool := kindOk k.name (some k.ed) k.bases k.letter k.mark
def numb (z : Str) : Option Int := if decide (1 ≤ z.length) && decide (z.length ≤ 6) && allOf figs z && !(decide (z.cps.toList.head? = some 48) && !decide (z = "0")) then some ((digitsVal z.cps.toList : Nat) : Int) else none
def inR (a b : Int) : Option Int → Bool
  | some n => decide (a ≤ n) && decide (n ≤ b)
  | none => false
def at' (ws : List Str) (i : Nat) : Str := ws.getD i ""
def markOf (ws : List Str) : Str := if at' ws 4 = "-" then "" else at' ws 4
def kindRow (ws : List Str) : Option Kd :=
  if decide (5 ≤ ws.length) && decide (at' ws 0 = "kind") && !decide (at' ws 4 = "") && kindOk (at' ws 1) (numb (at' ws 2)) (ws.drop 5) (at' ws 3) (markOf ws) then
    some ⟨at' ws 1, (numb (at' ws 2)).getD 0, ws.drop 5, at' ws 3, markOf ws⟩ else none
def layGo (titles : List Str) (last : Int) (i : Nat) : List Kd → Option Nat
  | [] => none
  | k :: r => if decide (k.name ∈ titles) || decide (k.ed < last) || !(k.bases.all fun b => decide (b ∈ titles)) then some i else layGo (titles ++ [k.name]) k.ed (i + 1) r
def layRes (ks : List Kd) : Option (List Int) := if decide (1 ≤ ks.length) && decide (ks.length ≤ 24) then (layGo [] 1 0 ks).map (fun i => [(i : Int)]) else some []
/-- a plan that stands -/
def Lay (ks : List Kd) : Prop := layRes ks = none ∧ ∀ k ∈ ks, k.ok = true
def nms (ks : List Kd) : List Str := ks.map (·.name)
abbrev Und := List (Str × List Str)
def look (u : Und) (b : Str) : List Str := (u.lookup b).getD []
def ownIn (u : Und) (bs : List Str) (o : Str) : Bool := decide (o ∈ bs) || bs.any fun b => decide (o ∈ look u b)
def undGo (ns : List Str) : List Kd → Und → Und
  | [], u => u
  | k :: r, u => undGo ns r (u ++ [(k.name, ns.filter (ownIn u k.bases))])
def undr (ks : List Kd) : Und := undGo (nms ks) ks []
def rts (ks : List Kd) (nm : Str) : List Str := (ks.filter fun k => decide (k.name ∈ look (undr ks) nm) && k.bases.isEmpty).map (·.name)
/-- what a part holds: one number, or some -/
inductive Cn where
  | one (n : Int)
  | many (ns : List Int)
def allNum (ws : List Str) : Option (List Int) := ws.mapM numb
def partRow (ks : List Kd) (ws : List Str) : Option (Str × Cn) :=
  if decide (3 ≤ ws.length) && decide (at' ws 0 = "part") && decide (at' ws 1 ∈ nms ks) then
    match allNum (ws.drop 2) with
    | none => none
    | some ns => if (rts ks (at' ws 1)).isEmpty then (if ns.length = 1 then some (at' ws 1, .one (ns.getD 0 0)) else none) else if ns.length = (rts ks (at' ws 1)).length then some (at' ws 1, .many ns) else none
  else none
def fileGo (order : List Str) (last : Int) (i : Nat) : List Str → Option Nat
  | [] => none
  | n :: r => if decide ((order.idxOf n : Int) ≤ last) then some i else fileGo order (order.idxOf n) (i + 1) r
def fileRes (order ns : List Str) : Option (List Int) := if decide (ns.length ≤ 24) then (fileGo order (-1) 0 ns).map (fun i => [(i : Int)]) else some []
/-- the rows of a text, each as its words -/
def rowsOf (t : Str) : List (List Str) := (Txt.split t "\n").map fun r => Txt.split r " "
/-- all rows told, or the first that is not -/
def tellGo {α : Type} (f : List Str → Option α) (i : Nat) : List (List Str) → (List α) ⊕ Nat
  | [] => .inl []
  | r :: rs => match f r with
    | none => .inr i
    | some x => match tellGo f (i + 1) rs with
      | .inl xs => .inl (x :: xs)
      | .inr j => .inr j
/-- what a reader answers: the things, or the kind of the error and its place -/
inductive Ans (α : Type) where
  | told (xs : List α)
  | bad (c : Str) (pl : List Int)
def ansL (t : Str) : Ans Kd := match tellGo kindRow 0 (rowsOf t) with
  | .inr i => .bad "BadText" [(i : Int)]
  | .inl ks => match layRes ks with
    | none => .told ks
    | some pl => .bad "BadLayout" pl
def ansF (ks : List Kd) (t : Str) : Ans (Str × Cn) := match tellGo (partRow ks) 0 (if t = "" then [] else rowsOf t) with
  | .inr i => .bad "BadText" [(i : Int)]
  | .inl ps => match fileRes (nms ks) (ps.map (·.1)) with
    | none => .told ps
    | some pl => .bad "BadFile" pl
def Kd.dat (k : Kd) : PyData := .tuple [.str k.name, .int k.ed, .tuple (k.bases.map .str), .str k.letter, .str k.mark]
def Cn.dat : Cn → PyData
  | .one n => .int n
  | .many ns => .tuple (ns.map .int)
def ptDat (p : Str × Cn) : PyData := .tuple [.str p.1, p.2.dat]
def sayOf (c : Str) : Str := if c = "BadText" then "text" else if c = "BadLayout" then "layout" else "file"
def Ans.dat {α : Type} (f : α → PyData) : Ans α → PyData
  | .told xs => .list [.str "told", .tuple (xs.map f)]
  | .bad c pl => .list [.str (sayOf c), .tuple (pl.map .int)]

/-! ### in the heap -/
/-- all stays -/
def Keep (H H' : Hp) : Prop := ∀ b o, H b = some o → H' b = some o
def TupAt (H : Hp) (v : V) (xs : List V) : Prop := ∃ a, v = .ref a ∧ H a = some (.tup xs)
def KdAt (H : Hp) (v : V) (k : Kd) : Prop := ∃ a b, v = .ref a ∧ H a = some (.tup [.str k.name, .int k.ed, .ref b, .str k.letter, .str k.mark]) ∧ H b = some (.tup (k.bases.map V.str))
abbrev KdsAt (H : Hp) (vs : List V) (ks : List Kd) : Prop := Paired (KdAt H) vs ks
def CnAt (H : Hp) (v : V) : Cn → Prop
  | .one n => v = .int n
  | .many ns => TupAt H v (ns.map V.int)
def PtAt (H : Hp) (v : V) (p : Str × Cn) : Prop := ∃ a c, v = .ref a ∧ H a = some (.tup [.str p.1, c]) ∧ CnAt H c p.2
/-- a plan: a tuple of kinds -/
def PlanAt (K : PySem.W.Frag) (H : Hp) (v : V) (ks : List Kd) : Prop := ∃ a vs, v = .ref a ∧ SqT K H a vs ∧ KdsAt H vs ks
/-- .. or a list -/
def SeqAt' (K : PySem.W.Frag) (H : Hp) (v : V) (ks : List Kd) : Prop := ∃ a vs, v = .ref a ∧ (SqL K H a vs ∨ SqT K H a vs) ∧ KdsAt H vs ks
/-- a dict of texts' lists (or tuples) -/
def UndL (H : Hp) (d : Addr) (u : Und) : Prop := ∃ kvs, H d = some (.dK kvs) ∧ Paired (fun (p : Key × V) (q : Str × List Str) => p.1 = .inr q.1 ∧ ∃ l, p.2 = .ref l ∧ H l = some (.lst (q.2.map V.str))) kvs u
def UndT (H : Hp) (d : Addr) (u : Und) : Prop := ∃ kvs, H d = some (.dK kvs) ∧ Paired (fun (p : Key × V) (q : Str × List Str) => p.1 = .inr q.1 ∧ ∃ l, p.2 = .ref l ∧ H l = some (.tup (q.2.map V.str))) kvs u
def KindsAt (H : Hp) (d : Addr) (ks : List Kd) : Prop := ∃ kvs, H d = some (.dK kvs) ∧ Paired (fun (p : Key × V) (k : Kd) => p.1 = .inr k.name ∧ KdAt H p.2 k) kvs ks
def ChartAt (K : PySem.W.Frag) (H : Hp) (v : V) (ks : List Kd) : Prop := ∃ (a dx : Addr) (fs : List (Str × V)) (dk dr : Addr), v = .ref a ∧ H a = some (.ins (He.ga K "Chart") dx fs) ∧ fs.lookup ("kinds" : Str) = some (.ref dk) ∧ fs.lookup ("roots" : Str) = some (.ref dr) ∧ KindsAt H dk ks ∧ UndT H dr (ks.map fun k => (k.name, rts ks k.name))
/-- the draws -/
def DrawAt (H : Hp) (d g : Addr) : Prop := ∃ (m t : Int) (gs : List Int), H d = some (.dK [(.inr "mixed", .int m), (.inr "great", .ref g), (.inr "turn", .int t)]) ∧ H g = some (.lst (gs.map V.int))
/-- all but the draws stays -/
def Go (d g : Addr) (H H' : Hp) : Prop := (∀ b o, b ≠ d → b ≠ g → H b = some o → H' b = some o) ∧ DrawAt H' d g
def numV : Option Int → V
  | some n => .int n
  | none => .non
/-- an error of the class x with its place -/
def BadAt (K : PySem.W.Frag) (H : Hp) (E : XK) (x : Str) (pl : List Int) : Prop := ∀ H' d p, Keep H H' → H' d = some (.xd [("place", .ref p)]) → H' p = some (.tup (pl.map V.int)) → E (.ref (He.ga K x)) (some d) H'
/-- texts of a decent length -/
def Asc (z : Str) : Prop := ∀ c ∈ z.cps.toList, c < 128
def Short (z : Str) : Prop := z.length ≤ 1000000 ∧ Asc z

/-! ### promises: the package -/
def sp_is_integer (K : PySem.W.Frag) : Sp := fun vs H Q _ => ∃ (o : Option Int) (a b : Int), vs = [numV o, .int a, .int b] ∧ Q (.bl (inR a b o)) H
def sp_is_name (K : PySem.W.Frag) : Sp := fun vs H Q _ => ∃ z, vs = [.str z] ∧ Short z ∧ ∀ H', Keep H H' → Q (.bl (nameOk z)) H'
def sp_is_mark (K : PySem.W.Frag) : Sp := fun vs H Q _ => ∃ z, vs = [.str z] ∧ Short z ∧ ∀ H', Keep H H' → Q (.bl (markOk z)) H'
def sp_are_bases (K : PySem.W.Frag) : Sp := fun vs H Q _ => ∃ a bs, vs = [.ref a] ∧ H a = some (.tup (bs.map V.str)) ∧ (∀ b ∈ bs, Short b) ∧ ∀ H', Keep H H' → Q (.bl (basesOk bs)) H'
def sp_is_kind (K : PySem.W.Frag) : Sp := fun vs H Q _ => ∃ a b nm o bs l m, vs = [.ref a] ∧ H a = some (.tup [.str nm, numV o, .ref b, .str l, .str m]) ∧ H b = some (.tup (bs.map V.str)) ∧ Short nm ∧ Short l ∧ Short m ∧ (∀ b ∈ bs, Short b) ∧
  ∀ H', Keep H H' → Q (.bl (kindOk nm o bs l m)) H'
def sp_need_layout (K : PySem.W.Frag) : Sp := fun vs H Q E => ∃ a xs ks, vs = [.ref a] ∧ SqT K H a xs ∧ KdsAt H xs ks ∧ (∀ k ∈ ks, k.ok = true) ∧ (layRes ks = none → ∀ H', Keep H H' → Q (.ref a) H') ∧ ∀ pl, layRes ks = some pl → BadAt K H E "BadLayout" pl
def sp_Chart_init (K : PySem.W.Frag) : Sp := fun vs H Q _ => ∃ x dx v ks, vs = [.ref x, v] ∧ H x = some (.ins (He.ga K "Chart") dx []) ∧ PlanAt K H v ks ∧ Lay ks ∧
  ∀ H', (∀ b o, b ≠ x → H b = some o → H' b = some o) → ChartAt K H' (.ref x) ks → Q .non H'
def sp_is_content (K : PySem.W.Frag) : Sp := fun vs H Q _ => ∃ ch ks nm v, vs = [ch, .str nm, v] ∧ ChartAt K H ch ks ∧ Lay ks ∧ nm ∈ nms ks ∧
  (((rts ks nm) = [] ∧ ∃ o, v = numV o ∧ ∀ H', Keep H H' → Q (.bl (inR 0 999999 o)) H') ∨
    ((rts ks nm) ≠ [] ∧ ∃ os : List (Option Int), TupAt H v (os.map numV) ∧ ∀ H', Keep H H' → Q (.bl (decide (os.length = (rts ks nm).length) && os.all (inR 0 999999))) H'))
/-- a part that may stand in a file of the plan -/
def ptOk (ks : List Kd) (p : Str × Cn) : Prop := p.1 ∈ nms ks ∧ match p.2 with
  | .one n => rts ks p.1 = [] ∧ 0 ≤ n ∧ n ≤ 999999
  | .many ns => rts ks p.1 ≠ [] ∧ ns.length = (rts ks p.1).length ∧ ∀ n ∈ ns, 0 ≤ n ∧ n ≤ 999999
def sp_is_part (K : PySem.W.Frag) : Sp := fun vs H Q _ => ∃ ch ks v p, vs = [ch, v] ∧ ChartAt K H ch ks ∧ Lay ks ∧ PtAt H v p ∧ ptOk ks p ∧ ∀ H', Keep H H' → Q (.bl true) H'
def sp_held_in (K : PySem.W.Frag) : Sp := fun vs H Q E => ∃ ch ks a xs ps, vs = [ch, .ref a] ∧ ChartAt K H ch ks ∧ Lay ks ∧ TupF H a xs ∧ Paired (PtAt H) xs ps ∧ (∀ p ∈ ps, ptOk ks p) ∧
  (fileRes (nms ks) (ps.map (·.1)) = none → ∀ v H', Keep H H' → Q v H') ∧ ∀ pl, fileRes (nms ks) (ps.map (·.1)) = some pl → BadAt K H E "BadFile" pl
def sp_need_file (K : PySem.W.Frag) : Sp := fun vs H Q E => ∃ v ks a xs ps, vs = [v, .ref a] ∧ PlanAt K H v ks ∧ Lay ks ∧ TupF H a xs ∧ Paired (PtAt H) xs ps ∧ (∀ p ∈ ps, ptOk ks p) ∧
  (fileRes (nms ks) (ps.map (·.1)) = none → ∀ H', Keep H H' → Q (.ref a) H') ∧ ∀ pl, fileRes (nms ks) (ps.map (·.1)) = some pl → BadAt K H E "BadFile" pl
def sp_number_in (K : PySem.W.Frag) : Sp := fun vs H Q _ => ∃ z, vs = [.str z] ∧ Short z ∧ ∀ H', Keep H H' → Q (numV (numb z)) H'
def WordsAt (H : Hp) (v : V) (ws : List Str) : Prop := ∃ l, v = .ref l ∧ H l = some (.lst (ws.map V.str)) ∧ (∀ z ∈ ws, Short z) ∧ ws.length ≤ 1000001
def sp_told_kind (K : PySem.W.Frag) : Sp := fun vs H Q _ => ∃ v ws, vs = [v] ∧ WordsAt H v ws ∧ (kindRow ws = none → ∀ H', Keep H H' → Q .non H') ∧ ∀ k, kindRow ws = some k → ∀ y H', Keep H H' → KdAt H' y k → Q y H'
def sp_told_part (K : PySem.W.Frag) : Sp := fun vs H Q _ => ∃ ch ks v ws, vs = [ch, v] ∧ ChartAt K H ch ks ∧ Lay ks ∧ WordsAt H v ws ∧ (partRow ks ws = none → ∀ H', Keep H H' → Q .non H') ∧ ∀ p, partRow ks ws = some p → ∀ y H', Keep H H' → PtAt H' y p → Q y H'
/-- told_rows(text, told_kind) -/
def sp_told_rows (K : PySem.W.Frag) : Sp := fun vs H Q E => ∃ t, vs = [.str t, .ref (He.ga K "told_kind")] ∧ Short t ∧ (∀ i, tellGo kindRow 0 (rowsOf t) = .inr i → BadAt K H E "BadText" [(i : Int)]) ∧
  ∀ ks, tellGo kindRow 0 (rowsOf t) = .inl ks → ∀ a xs H', Keep H H' → TupF H' a xs → KdsAt H' xs ks → Q (.ref a) H'
def sp_read_layout (K : PySem.W.Frag) : Sp := fun vs H Q E => ∃ t, vs = [.str t] ∧ Short t ∧ (∀ c pl, ansL t = .bad c pl → BadAt K H E c pl) ∧ ∀ ks, ansL t = .told ks → ∀ a xs H', Keep H H' → SqT K H' a xs → KdsAt H' xs ks → Q (.ref a) H'
/-- all but the tables stays; T: the tables -/
def KeepT (T : List (Addr × Str)) (H H' : Hp) : Prop := ExtN H H' ∧ Tabs T H'
def sp_read_file (T : List (Addr × Str)) (K : PySem.W.Frag) : Sp := fun vs H Q E => ∃ v ks t, vs = [v, .str t] ∧ PlanAt K H v ks ∧ Lay ks ∧ Short t ∧ Tabs T H ∧
  (∀ c pl, ansF ks t = .bad c pl → ∀ H' d p, KeepT T H H' → H' d = some (.xd [("place", .ref p)]) → H' p = some (.tup (pl.map V.int)) → E (.ref (He.ga K c)) (some d) H') ∧
  ∀ ps, ansF ks t = .told ps → ∀ a xs H', KeepT T H H' → SqT K H' a xs → Paired (PtAt H') xs ps → Q (.ref a) H'

/-! ### promises: the law -/
def sp__law_begun (K : PySem.W.Frag) : Sp := fun vs H Q _ => ∃ a, ∃ ns : List Int, vs = [.ref a] ∧ SqL K H a (ns.map V.int) ∧ ns.length ≤ 100 ∧ ∀ d g H', Keep H H' → DrawAt H' d g → H d = none → H g = none → Q (.ref d) H'
def sp__law_next (K : PySem.W.Frag) : Sp := fun vs H Q _ => ∃ d g b, vs = [.ref d, .int b] ∧ DrawAt H d g ∧ 0 < b ∧ b < 1073741824 ∧ ∀ r H', 0 ≤ r → r < b → Go d g H H' → Q (.int r) H'
def sp__law_titles (K : PySem.W.Frag) : Sp := fun vs H Q _ => ∃ d g, vs = [.ref d] ∧ DrawAt H d g ∧ ∀ (l : Addr) (ts : List Str) (H' : Hp), Go d g H H' → H' l = some (.lst (ts.map V.str)) → l ≠ d → l ≠ g → ts.length = 24 → ts.Nodup → (∀ t ∈ ts, nameOk t = true) → Q (.ref l) H'
def lett (i : Int) : Str := ⟨#[(97 + i % 26).toNat]⟩
def sp__law_sign (K : PySem.W.Frag) : Sp := fun vs H Q _ => ∃ i, vs = [.int i] ∧ Q (.str (lett i)) H
/-- rows of a frame: a plan that stands, without marks -/
def Frame (ks : List Kd) : Prop := layGo [] 1 0 ks = none ∧ 1 ≤ ks.length ∧ ks.length ≤ 24 ∧ ∀ k ∈ ks, k.ok = true
def sp__law_frame (K : PySem.W.Frag) : Sp := fun vs H Q _ => ∃ d g m, vs = [.ref d, .int m] ∧ DrawAt H d g ∧ 1 ≤ m ∧ m ≤ 24 ∧ ∀ l xs ks H', Go d g H H' → H' l = some (.lst xs) → KdsAt H' xs ks → l ≠ d → l ≠ g → Lay ks → ks.length ≤ m.toNat → Q (.ref l) H'
/-- a dict of lists of texts, dict and lists new since H0 -/
def UndN (H0 H : Hp) (d : Addr) (u : Und) : Prop := H0 d = none ∧ ∃ kvs, H d = some (.dK kvs) ∧ Paired (fun (p : Key × V) (q : Str × List Str) => p.1 = .inr q.1 ∧ ∃ l, p.2 = .ref l ∧ H0 l = none ∧ H l = some (.lst (q.2.map V.str))) kvs u
def sp__law_under (K : PySem.W.Frag) : Sp := fun vs H Q _ => ∃ v ks, vs = [v] ∧ SeqAt' K H v ks ∧ Lay ks ∧ ∀ d H', Keep H H' → UndN H H' d (undr ks) → Q (.ref d) H'
def sp__law_word (K : PySem.W.Frag) : Sp := fun vs H Q _ => ∃ v cs, vs = [v] ∧ (v = .str ⟨cs.toArray⟩ ∨ ∃ l, v = .ref l ∧ SqL K H l (cs.map fun c => V.str ⟨#[c]⟩)) ∧ ∀ H', Keep H H' → Q (.str (word cs)) H'
/-- marks: a text of letters for each name -/
def MarksAt (H : Hp) (d : Addr) (ks : List Kd) : Prop := ∃ kvs, H d = some (.dK kvs) ∧ Paired (fun (p : Key × V) (k : Kd) => p.1 = .inr k.name ∧ ∃ cs, p.2 = .str (word cs)) kvs ks
def sp__law_marks (K : PySem.W.Frag) : Sp := fun vs H Q _ => ∃ d g l xs ks w, vs = [.ref d, .ref l, .int w] ∧ DrawAt H d g ∧ H l = some (.lst xs) ∧ KdsAt H xs ks ∧ Lay ks ∧ l ≠ d ∧ l ≠ g ∧ ∀ m H', Go d g H H' → H m = none → MarksAt H' m ks → Q (.ref m) H'
def sp__law_marked (K : PySem.W.Frag) : Sp := fun vs H Q _ => ∃ d g l xs ks w, vs = [.ref d, .ref l, .int w] ∧ DrawAt H d g ∧ H l = some (.lst xs) ∧ KdsAt H xs ks ∧ Lay ks ∧ l ≠ d ∧ l ≠ g ∧ ∀ v ks' H', Go d g H H' → PlanAt K H' v ks' → Lay ks' → ks'.length = ks.length → Q v H'
def sp__law_layout (K : PySem.W.Frag) : Sp := fun vs H Q _ => ∃ d g m, vs = [.ref d, .int m] ∧ DrawAt H d g ∧ 1 ≤ m ∧ m ≤ 24 ∧ ∀ v ks H', Go d g H H' → PlanAt K H' v ks → Lay ks → ks.length ≤ m.toNat → Q v H'
def sp__law_roots (K : PySem.W.Frag) : Sp := fun vs H Q _ => ∃ v ks u nm, vs = [v, .ref u, .str nm] ∧ PlanAt K H v ks ∧ Lay ks ∧ UndL H u (undr ks) ∧ nm ∈ nms ks ∧ ∀ l H', Keep H H' → H l = none → H' l = some (.lst ((rts ks nm).map V.str)) → Q (.ref l) H'
/-- what is held: for some of the names a number or some numbers -/
def HeldAt (H : Hp) (d : Addr) (ks : List Kd) : Prop := ∃ kvs, H d = some (.dK kvs) ∧ ∀ k ∈ ks, ∀ v, valV kvs (.inr k.name) = some v → if k.bases = [] then ∃ n : Int, v = .int n ∧ 0 ≤ n ∧ n ≤ 999999 else ∃ ns : List Int, TupAt H v (ns.map V.int) ∧ ns.length ≤ 24 ∧ ∀ n ∈ ns, 0 ≤ n ∧ n ≤ 999999
def sp__law_held (K : PySem.W.Frag) : Sp := fun vs H Q _ => ∃ d g v ks u, vs = [.ref d, v, .ref u] ∧ DrawAt H d g ∧ PlanAt K H v ks ∧ Lay ks ∧ (∀ H', Go d g H H' → UndL H' u (undr ks)) ∧ ∀ h H', Go d g H H' → HeldAt H' h ks → Q (.ref h) H'
def sp__law_number (K : PySem.W.Frag) : Sp := fun vs H Q _ => ∃ z a b, vs = [.str z, .int a, .int b] ∧ Short z ∧ ∀ H', Keep H H' → Q (numV ((numb z).bind fun n => if inR a b (some n) then some n else none)) H'
def sp__law_is_title (K : PySem.W.Frag) : Sp := fun vs H Q _ => ∃ z, vs = [.str z] ∧ Short z ∧ ∀ H', Keep H H' → Q (.bl (nameOk z)) H'
def sp__law_kind_row (K : PySem.W.Frag) : Sp := sp_told_kind K
def sp__law_part_row (K : PySem.W.Frag) : Sp := fun vs H Q _ => ∃ p ks u v ws, vs = [p, .ref u, v] ∧ PlanAt K H p ks ∧ Lay ks ∧ UndL H u (undr ks) ∧ WordsAt H v ws ∧ (partRow ks ws = none → ∀ H', Keep H H' → Q .non H') ∧ ∀ p, partRow ks ws = some p → ∀ y H', Keep H H' → PtAt H' y p → Q y H'
def plV (H : Hp) (v : V) : Option (List Int) → Prop
  | none => v = .non
  | some pl => TupAt H v (pl.map V.int)
def sp__law_layout_place (K : PySem.W.Frag) : Sp := fun vs H Q _ => ∃ l xs ks, vs = [.ref l] ∧ H l = some (.lst xs) ∧ KdsAt H xs ks ∧ (∀ k ∈ ks, k.ok = true) ∧ ∀ v H', Keep H H' → plV H' v (layRes ks) → Q v H'
def sp__law_file_place (K : PySem.W.Frag) : Sp := fun vs H Q _ => ∃ p ks l xs ps, vs = [p, .ref l] ∧ PlanAt K H p ks ∧ Lay ks ∧ H l = some (.lst xs) ∧ Paired (PtAt H) xs ps ∧ (∀ q ∈ ps, q.1 ∈ nms ks) ∧ ∀ v H', Keep H H' → plV H' v (fileRes (nms ks) (ps.map (·.1))) → Q v H'
def sp__law_due (K : PySem.W.Frag) : Sp := fun vs H Q _ => ∃ p ks t b, vs = [p, .str t, .bl b] ∧ PlanAt K H p ks ∧ Lay ks ∧ Short t ∧ ∀ v H', Keep H H' → Dt K H' v (if b = true then (ansL t).dat Kd.dat else (ansF ks t).dat ptDat) → Q v H'
def sp__law_texts (K : PySem.W.Frag) : Sp := fun vs H Q _ => ∃ p ks h, vs = [p, .ref h] ∧ PlanAt K H p ks ∧ Lay ks ∧ ks.length ≤ 12 ∧ HeldAt H h ks ∧ ∀ l a b H', Keep H H' → H l = none → H' l = some (.lst [.str a, .str b]) → a.length ≤ 10000 → b.length ≤ 10000 → Asc a → Asc b → Q (.ref l) H'
def sp__law_any (K : PySem.W.Frag) : Sp := fun vs H Q _ => ∃ d g p ks, vs = [.ref d, p] ∧ DrawAt H d g ∧ PlanAt K H p ks ∧ Lay ks ∧ ∀ z H', Go d g H H' → z.length ≤ 30 → Asc z → Q (.str z) H'
def sp__law_bent (K : PySem.W.Frag) : Sp := fun vs H Q _ => ∃ d g p ks t, vs = [.ref d, p, .str t] ∧ DrawAt H d g ∧ PlanAt K H p ks ∧ Lay ks ∧ Short t ∧ ∀ z H', Go d g H H' → z.length ≤ 2 * t.length + 1000 → Asc z → Q (.str z) H'
def sp__law_right (T : List (Addr × Str)) (K : PySem.W.Frag) : Sp := fun vs H Q _ => ∃ p ks t b, vs = [p, .str t, .bl b] ∧ PlanAt K H p ks ∧ Lay ks ∧ Short t ∧ Tabs T H ∧ ∀ H', KeepT T H H' → Q (.bl true) H'
def sp_law (T : List (Addr × Str)) (K : PySem.W.Frag) : Sp := fun vs H Q _ => ∃ a, ∃ ns : List Int, vs = [.ref a] ∧ SqL K H a (ns.map V.int) ∧ ns.length ≤ 100 ∧ Tabs T H ∧ ∀ H', Q (.bl true) H'
/-- what is known of the text -/
structure Txt (K : PySem.W.Frag) (mg : Str → Option Value) : Prop where
  len_ : mg "len" = none
  isinstance_ : mg "isinstance" = none
  all_ : mg "all" = none
  list_ : mg "list" = none
  sorted_ : mg "sorted" = none
  set_ : mg "set" = none
  enumerate_ : mg "enumerate" = none
  dict_ : mg "dict" = none
  tuple_ : mg "tuple" = none
  int_ : mg "int" = none
  str_ : mg "str" = none
  range_ : mg "range" = none
  min_ : mg "min" = none
  max_ : mg "max" = none
  repr_ : mg "repr" = none
  bool_ : mg "bool" = none
  iMOST_KINDS : ∃ t, mg "MOST_KINDS" = some (.int 24 t)
  iMOST_BASES : ∃ t, mg "MOST_BASES" = some (.int 6 t)
  iMOST_EDITION : ∃ t, mg "MOST_EDITION" = some (.int 99 t)
  iLONGEST_NAME : ∃ t, mg "LONGEST_NAME" = some (.int 8 t)
  iMOST_CONTENT : ∃ t, mg "MOST_CONTENT" = some (.int 999999 t)
  iMOST_FIGURES : ∃ t, mg "MOST_FIGURES" = some (.int 6 t)
  sLETTERS : ∃ t, mg "LETTERS" = some (.str "abcdefghijklmnopqrstuvwxyz" t)
  sFIGURES : ∃ t, mg "FIGURES" = some (.str "0123456789" t)
  sEMPTY_MARK : ∃ t, mg "EMPTY_MARK" = some (.str "-" t)
  gtold_kind : mg "told_kind" = some (.ref (He.ga K "told_kind"))
  gPartsError : mg "PartsError" = some (.ref (He.ga K "PartsError"))
  gBadLayout : mg "BadLayout" = some (.ref (He.ga K "BadLayout"))
  gBadFile : mg "BadFile" = some (.ref (He.ga K "BadFile"))
  gBadRow : mg "BadRow" = some (.ref (He.ga K "BadRow"))
  gBadLog : mg "BadLog" = some (.ref (He.ga K "BadLog"))
  gBadText : mg "BadText" = some (.ref (He.ga K "BadText"))
  gBadDeed : mg "BadDeed" = some (.ref (He.ga K "BadDeed"))
  gBadQuestion : mg "BadQuestion" = some (.ref (He.ga K "BadQuestion"))
  g_law_said : mg "_law_said" = some (.ref (He.ga K "_law_said"))
  gtold_rows : mg "told_rows" = some (.ref (He.ga K "told_rows"))
  gChart : mg "Chart" = some (.ref (He.ga K "Chart"))
  xBadLayout : BadC K mg "BadLayout"
  cBadLayout : IsC K (He.ga K "BadLayout")
  xBadFile : BadC K mg "BadFile"
  cBadFile : IsC K (He.ga K "BadFile")
  xBadText : BadC K mg "BadText"
  cBadText : IsC K (He.ga K "BadText")
  parts : PartsF K mg
  kit : ∀ x ∈ (["BadLayout", "BadFile", "BadText"] : List Str), ∀ y ∈ (["BadLayout", "BadFile", "BadRow", "BadLog", "BadText", "BadDeed", "BadQuestion"] : List Str), PySem.W.kitOne K (.ref (He.ga K x)) (.ref (He.ga K y)) = some (decide (x = y))
  exm : ∀ x ∈ (["BadLayout", "BadFile", "BadText"] : List Str), PySem.W.exmOne K (.ref (He.ga K x)) (.ref (He.ga K "PartsError")) = some true
  cls : Cls K (He.ga K "Chart")
  mkr : Mk K (He.ga K "Chart") (He.ma K (He.ga K "Chart") "__init__")
  noat : ∀ f ∈ (["plan", "kinds", "under", "roots", "final"] : List Str), NoAttr K (He.ga K "Chart") f
def Fn_is_integer (P : Program) (w : World) (K : PySem.W.Frag) (mg : Str → Option Value) (base : Heap) : Prop := Fn P w K mg base C8.CX0 1 "is_integer" ["thing", "least", "most"] (sp_is_integer K)
def Fn_is_name (P : Program) (w : World) (K : PySem.W.Frag) (mg : Str → Option Value) (base : Heap) : Prop := Fn P w K mg base C8.CX0 1 "is_name" ["thing"] (sp_is_name K)
def Fn_is_mark (P : Program) (w : World) (K : PySem.W.Frag) (mg : Str → Option Value) (base : Heap) : Prop := Fn P w K mg base C8.CX0 1 "is_mark" ["thing"] (sp_is_mark K)
def Fn_are_bases (P : Program) (w : World) (K : PySem.W.Frag) (mg : Str → Option Value) (base : Heap) : Prop := Fn P w K mg base C8.CX0 2 "are_bases" ["thing"] (sp_are_bases K)
def Fn_is_kind (P : Program) (w : World) (K : PySem.W.Frag) (mg : Str → Option Value) (base : Heap) : Prop := Fn P w K mg base C8.CX0 3 "is_kind" ["thing"] (sp_is_kind K)
def Fn_need_layout (P : Program) (w : World) (K : PySem.W.Frag) (mg : Str → Option Value) (base : Heap) : Prop := Fn P w K mg base (L2.CX P w) 4 "need_layout" ["thing"] (sp_need_layout K)
def Fn_is_content (P : Program) (w : World) (K : PySem.W.Frag) (mg : Str → Option Value) (base : Heap) : Prop := Fn P w K mg base C8.CX0 2 "is_content" ["chart", "name", "thing"] (sp_is_content K)
def Fn_is_part (P : Program) (w : World) (K : PySem.W.Frag) (mg : Str → Option Value) (base : Heap) : Prop := Fn P w K mg base C8.CX0 3 "is_part" ["chart", "thing"] (sp_is_part K)
def Fn_held_in (P : Program) (w : World) (K : PySem.W.Frag) (mg : Str → Option Value) (base : Heap) : Prop := Fn P w K mg base (L2.CX P w) 4 "held_in" ["chart", "file"] (sp_held_in K)
def Fn_need_file (P : Program) (w : World) (K : PySem.W.Frag) (mg : Str → Option Value) (base : Heap) : Prop := Fn P w K mg base (L2.CX P w) 8 "need_file" ["layout", "thing"] (sp_need_file K)
def Fn_number_in (P : Program) (w : World) (K : PySem.W.Frag) (mg : Str → Option Value) (base : Heap) : Prop := Fn P w K mg base C8.CX0 1 "number_in" ["word"] (sp_number_in K)
def Fn_told_kind (P : Program) (w : World) (K : PySem.W.Frag) (mg : Str → Option Value) (base : Heap) : Prop := Fn P w K mg base C8.CX0 4 "told_kind" ["words"] (sp_told_kind K)
def Fn_told_part (P : Program) (w : World) (K : PySem.W.Frag) (mg : Str → Option Value) (base : Heap) : Prop := Fn P w K mg base C8.CX0 3 "told_part" ["chart", "words"] (sp_told_part K)
def Fn_told_rows (P : Program) (w : World) (K : PySem.W.Frag) (mg : Str → Option Value) (base : Heap) : Prop := Fn P w K mg base (L2.CX P w) 6 "told_rows" ["text", "told"] (sp_told_rows K)
def Fn_read_layout (P : Program) (w : World) (K : PySem.W.Frag) (mg : Str → Option Value) (base : Heap) : Prop := Fn P w K mg base (L2.CX P w) 7 "read_layout" ["text"] (sp_read_layout K)
def Fn_read_file (T : List (Addr × Str)) (P : Program) (w : World) (K : PySem.W.Frag) (mg : Str → Option Value) (base : Heap) : Prop := Fn P w K mg base (L2.CX P w) 9 "read_file" ["layout", "text"] (sp_read_file T K)
def Fn__law_begun (P : Program) (w : World) (K : PySem.W.Frag) (mg : Str → Option Value) (base : Heap) : Prop := Fn P w K mg base C8.CX0 1 "_law_begun" ["script"] (sp__law_begun K)
def Fn__law_next (P : Program) (w : World) (K : PySem.W.Frag) (mg : Str → Option Value) (base : Heap) : Prop := Fn P w K mg base C8.CX0 1 "_law_next" ["draw", "below"] (sp__law_next K)
def Fn__law_titles (P : Program) (w : World) (K : PySem.W.Frag) (mg : Str → Option Value) (base : Heap) : Prop := Fn P w K mg base C8.CX0 2 "_law_titles" ["draw"] (sp__law_titles K)
def Fn__law_sign (P : Program) (w : World) (K : PySem.W.Frag) (mg : Str → Option Value) (base : Heap) : Prop := Fn P w K mg base C8.CX0 1 "_law_sign" ["at"] (sp__law_sign K)
def Fn__law_frame (P : Program) (w : World) (K : PySem.W.Frag) (mg : Str → Option Value) (base : Heap) : Prop := Fn P w K mg base C8.CX0 3 "_law_frame" ["draw", "most"] (sp__law_frame K)
def Fn__law_under (P : Program) (w : World) (K : PySem.W.Frag) (mg : Str → Option Value) (base : Heap) : Prop := Fn P w K mg base C8.CX0 1 "_law_under" ["plan"] (sp__law_under K)
def Fn__law_word (P : Program) (w : World) (K : PySem.W.Frag) (mg : Str → Option Value) (base : Heap) : Prop := Fn P w K mg base C8.CX0 2 "_law_word" ["signs"] (sp__law_word K)
def Fn__law_marks (P : Program) (w : World) (K : PySem.W.Frag) (mg : Str → Option Value) (base : Heap) : Prop := Fn P w K mg base C8.CX0 3 "_law_marks" ["draw", "rows", "way"] (sp__law_marks K)
def Fn__law_marked (P : Program) (w : World) (K : PySem.W.Frag) (mg : Str → Option Value) (base : Heap) : Prop := Fn P w K mg base C8.CX0 4 "_law_marked" ["draw", "rows", "way"] (sp__law_marked K)
def Fn__law_layout (P : Program) (w : World) (K : PySem.W.Frag) (mg : Str → Option Value) (base : Heap) : Prop := Fn P w K mg base C8.CX0 5 "_law_layout" ["draw", "most"] (sp__law_layout K)
def Fn__law_roots (P : Program) (w : World) (K : PySem.W.Frag) (mg : Str → Option Value) (base : Heap) : Prop := Fn P w K mg base C8.CX0 1 "_law_roots" ["plan", "under", "name"] (sp__law_roots K)
def Fn__law_held (P : Program) (w : World) (K : PySem.W.Frag) (mg : Str → Option Value) (base : Heap) : Prop := Fn P w K mg base C8.CX0 2 "_law_held" ["draw", "plan", "under"] (sp__law_held K)
def Fn__law_number (P : Program) (w : World) (K : PySem.W.Frag) (mg : Str → Option Value) (base : Heap) : Prop := Fn P w K mg base C8.CX0 1 "_law_number" ["told", "least", "most"] (sp__law_number K)
def Fn__law_is_title (P : Program) (w : World) (K : PySem.W.Frag) (mg : Str → Option Value) (base : Heap) : Prop := Fn P w K mg base C8.CX0 1 "_law_is_title" ["told"] (sp__law_is_title K)
def Fn__law_kind_row (P : Program) (w : World) (K : PySem.W.Frag) (mg : Str → Option Value) (base : Heap) : Prop := Fn P w K mg base C8.CX0 3 "_law_kind_row" ["words"] (sp__law_kind_row K)
def Fn__law_part_row (P : Program) (w : World) (K : PySem.W.Frag) (mg : Str → Option Value) (base : Heap) : Prop := Fn P w K mg base C8.CX0 2 "_law_part_row" ["plan", "under", "words"] (sp__law_part_row K)
def Fn__law_layout_place (P : Program) (w : World) (K : PySem.W.Frag) (mg : Str → Option Value) (base : Heap) : Prop := Fn P w K mg base C8.CX0 1 "_law_layout_place" ["rows"] (sp__law_layout_place K)
def Fn__law_file_place (P : Program) (w : World) (K : PySem.W.Frag) (mg : Str → Option Value) (base : Heap) : Prop := Fn P w K mg base C8.CX0 1 "_law_file_place" ["plan", "rows"] (sp__law_file_place K)
def Fn__law_due (P : Program) (w : World) (K : PySem.W.Frag) (mg : Str → Option Value) (base : Heap) : Prop := Fn P w K mg base C8.CX0 4 "_law_due" ["plan", "text", "is_plan"] (sp__law_due K)
def Fn__law_texts (P : Program) (w : World) (K : PySem.W.Frag) (mg : Str → Option Value) (base : Heap) : Prop := Fn P w K mg base C8.CX0 1 "_law_texts" ["plan", "held"] (sp__law_texts K)
def Fn__law_any (P : Program) (w : World) (K : PySem.W.Frag) (mg : Str → Option Value) (base : Heap) : Prop := Fn P w K mg base C8.CX0 2 "_law_any" ["draw", "plan"] (sp__law_any K)
def Fn__law_bent (P : Program) (w : World) (K : PySem.W.Frag) (mg : Str → Option Value) (base : Heap) : Prop := Fn P w K mg base C8.CX0 3 "_law_bent" ["draw", "plan", "text"] (sp__law_bent K)
def Fn_Chart (P : Program) (w : World) (K : PySem.W.Frag) (mg : Str → Option Value) (base : Heap) : Prop := ∃ fd : FuncData, FnOk P w K mg base (L2.CX P w) 5 (He.ma K (He.ga K "Chart") "__init__") fd ["self", "layout"] (sp_Chart_init K) ∧ Binds K fd ["self", "layout"] []
abbrev Fn_BadLayout (P : Program) (w : World) (K : PySem.W.Frag) (mg : Str → Option Value) (base : Heap) : Prop := BadFn P w K mg base 1 "BadLayout"
abbrev Fn_BadFile (P : Program) (w : World) (K : PySem.W.Frag) (mg : Str → Option Value) (base : Heap) : Prop := BadFn P w K mg base 1 "BadFile"
abbrev Fn_BadText (P : Program) (w : World) (K : PySem.W.Frag) (mg : Str → Option Value) (base : Heap) : Prop := BadFn P w K mg base 1 "BadText"
end Cp
set_option maxHeartbeats 4000000
/-! Small words of the walks. -/
namespace Cp
open PySem L2 LamX
section
variable {X : Cx} {E : XK} {e : Expr} {es : List Expr} {t : TA}
theorem passE (hs : X.stack = X.env :: X.outer) (hf : X.env.frame = some X.env.locals) (hex : X.ex = []) {E₁ : Value → Shared → Prop}
    (hx : X.xe = fun e s' => wpAny (model X.prog X.w) X.A (leaving X.env e) (fun _ s'' => L2.CX X.prog X.w X.outer X.H_0 X.s_0 E e s'') E₁ s') : Passes (L2.CX X.prog X.w) X E :=
  passes_call (takes_of hs hf hex hx) fun _ _ _ _ h => h
theorem pe_mkChart {j : Nat} {p pos : Pos} (hr : Room j X.A) (T : Txt X.K X.mg) (F : Fn_Chart X.prog X.w X.K X.mg X.base) (hx : Passes (L2.CX X.prog X.w) X E) (ha : PA X (e :: es) t) (hk : 6 ≤ j := by decide) (hg : Gl X "Chart" := by rfl)
    (he : starEach (e :: es) X.env = (false, eval e X.env) :: starEach es X.env := by rfl) (hpl : (backTo pos (starEach es X.env)).any (·.1) = false := by rfl) : PE X (.Call (.Name "Chart" p) (e :: es) [] pos) (tMake (He.ga X.K "Chart") (sp_Chart_init X.K) [] E t) := by
  obtain ⟨fd, G, b⟩ := F
  exact pe_make T.mkr G (hr.mono hk) hg T.gChart b .nil hx ha (by decide) he hpl
end
end Cp
set_option maxHeartbeats 8000000
/-! The walks (printed by gen_walk.py). -/
namespace Cp
open PySem L2 LamX
open PyProof.Rows (envOfC)
abbrev N_is_integer : List Str := ["thing", "least", "most"]
theorem sc_is_integer : FnScope N_is_integer ["thing", "least", "most"] (defScope sis_integer) := ⟨rfl, rfl, rfl, by decide +kernel, rfl, by decide +kernel, by decide +kernel⟩
def t_is_integer (P : Program) (w : World) (K : PySem.W.Frag) : TS :=
    (tRet (tAndV (tCB (rIsi K) (tCons (tVar 0) (tCons (tC (.ty "int")) tNil))) (tAndV (tNotV (tCB (rIsi K) (tCons (tVar 0) (tCons (tC (.ty "bool")) tNil)))) (tChain rLe rLe (tVar 1) (tVar 0) (tVar 2)))))
theorem d_is_integer {P : Program} {w : World} {K : PySem.W.Frag} {mg : Str → Option Value} {base : Heap} {f : Addr} {cdv : Value} {A : Around} {outer : List Env} {s : Shared} {H : Hp} {E : XK} (T : Txt K mg)
    (hr : Room 0 (A.deeper (envOfC "is_integer" (defScope sis_integer) s.heap.objs.size f cdv))) : PSs (cxOf (CX0) P w K mg base N_is_integer "is_integer" (defScope sis_integer) f cdv A outer s H E).nox (defBody sis_integer) (t_is_integer P w K) := by
  have nd := sc_is_integer.nd
  have hu := hu_of hr
  exact (pss_one (ps_ret (pe_and (pe_callB call_isi (by rfl) T.isinstance_ (by decide +kernel) (pa_cons (pv 0) (pa_cons (pe_bltn (v := .ty "int") rfl T.int_ (by decide +kernel) rfl) pa_nil))) (pe_and (pe_not (pe_callB call_isi (by rfl) T.isinstance_ (by decide +kernel) (pa_cons (pv 0) (pa_cons (pe_bltn (v := .ty "bool") rfl T.bool_ (by decide +kernel) rfl) pa_nil)))) (pe_one (pe_chain o_le o_le (pv 1) (pv 0) (pv 2)))))))
abbrev N_is_name : List Str := ["thing", "sign"]
theorem sc_is_name : FnScope N_is_name ["thing"] (defScope sis_name) := ⟨rfl, rfl, rfl, by decide +kernel, rfl, by decide +kernel, by decide +kernel⟩
def t_is_name (P : Program) (w : World) (K : PySem.W.Frag) : TS :=
    (tSeq (tIfS (tOr (tNot (tB (tCB (rIsi K) (tCons (tVar 0) (tCons (tC (.ty "str")) tNil))))) (tNot (tTest (tChain rLe rLe (tC (.int 1)) (tCB (rLen K) (tCons (tVar 0) tNil)) (tC (.int 8)))))) (tRet (tC (.bl false))) tNext)
    (tRet (tCB (rAll K) (tCons (tLc (iStr (tVar 0)) (gName 1) tYes (tOp rInS (tVar 1) (tC (.str "abcdefghijklmnopqrstuvwxyz"))) [1]) tNil))))
theorem d_is_name {P : Program} {w : World} {K : PySem.W.Frag} {mg : Str → Option Value} {base : Heap} {f : Addr} {cdv : Value} {A : Around} {outer : List Env} {s : Shared} {H : Hp} {E : XK} (T : Txt K mg)
    (hr : Room 0 (A.deeper (envOfC "is_name" (defScope sis_name) s.heap.objs.size f cdv))) : PSs (cxOf (CX0) P w K mg base N_is_name "is_name" (defScope sis_name) f cdv A outer s H E).nox (defBody sis_name) (t_is_name P w K) := by
  have nd := sc_is_name.nd
  have hu := hu_of hr
  exact (pss_cons (ps_if (PW.pt (pw_or (pt_not (pt_val (pe_callB call_isi (by rfl) T.isinstance_ (by decide +kernel) (pa_cons (pv 0) (pa_cons (pe_bltn (v := .ty "str") rfl T.str_ (by decide +kernel) rfl) pa_nil))))) (pw_or1 (pt_not (pt_chain o_le o_le pe_int (pe_callB c_len (by rfl) T.len_ (by decide +kernel) (pa_cons (pv 0) pa_nil)) (pe_gint T.iLONGEST_NAME rfl)))))) (pss_one (ps_ret pe_bl)) pss_nil)
    (pss_one (ps_ret (pe_callB (cr_all rfl) (by rfl) T.all_ (by decide +kernel) (pa_cons (pe_lc (own := [("sign", 1)]) (g := (gName 1)) (tt := tYes) rfl nd (pi_str (pv 0)) (blkOk_by (own := [("sign", 1)]) (N := N_is_name) (sc := defScope sis_name) (by decide +kernel)) (fun _ _ _ _ _ => (pg_name (i := 1) nd rfl (.inl rfl))) (fun _ _ _ _ _ => pts_nil) (fun _ _ _ _ _ => (pe_cmpR o_inS (pv 1) (pe_gstr T.sLETTERS rfl) (by rfl)))) pa_nil)))))
abbrev N_is_mark : List Str := ["thing", "sign"]
theorem sc_is_mark : FnScope N_is_mark ["thing"] (defScope sis_mark) := ⟨rfl, rfl, rfl, by decide +kernel, rfl, by decide +kernel, by decide +kernel⟩
def t_is_mark (P : Program) (w : World) (K : PySem.W.Frag) : TS :=
    (tSeq (tIfS (tOr (tNot (tB (tCB (rIsi K) (tCons (tVar 0) (tCons (tC (.ty "str")) tNil))))) (tNot (tB (tCB (rAll K) (tCons (tLc (iStr (tVar 0)) (gName 1) tYes (tOp rInS (tVar 1) (tC (.str "abcdefghijklmnopqrstuvwxyz"))) [1]) tNil))))) (tRet (tC (.bl false))) tNext)
    (tRet (tOp (rEqD K) (tCB rListS (tCons (tVar 0) tNil)) (tCB (rSortS P w) (tCons (tCB (rSetS P w) (tCons (tVar 0) tNil)) tNil)))))
theorem d_is_mark {P : Program} {w : World} {K : PySem.W.Frag} {mg : Str → Option Value} {base : Heap} {f : Addr} {cdv : Value} {A : Around} {outer : List Env} {s : Shared} {H : Hp} {E : XK} (T : Txt K mg)
    (hr : Room 0 (A.deeper (envOfC "is_mark" (defScope sis_mark) s.heap.objs.size f cdv))) : PSs (cxOf (CX0) P w K mg base N_is_mark "is_mark" (defScope sis_mark) f cdv A outer s H E).nox (defBody sis_mark) (t_is_mark P w K) := by
  have nd := sc_is_mark.nd
  have hu := hu_of hr
  exact (pss_cons (ps_if (PW.pt (pw_or (pt_not (pt_val (pe_callB call_isi (by rfl) T.isinstance_ (by decide +kernel) (pa_cons (pv 0) (pa_cons (pe_bltn (v := .ty "str") rfl T.str_ (by decide +kernel) rfl) pa_nil))))) (pw_or1 (pt_not (pt_val (pe_callB (cr_all rfl) (by rfl) T.all_ (by decide +kernel) (pa_cons (pe_lc (own := [("sign", 1)]) (g := (gName 1)) (tt := tYes) rfl nd (pi_str (pv 0)) (blkOk_by (own := [("sign", 1)]) (N := N_is_mark) (sc := defScope sis_mark) (by decide +kernel)) (fun _ _ _ _ _ => (pg_name (i := 1) nd rfl (.inl rfl))) (fun _ _ _ _ _ => pts_nil) (fun _ _ _ _ _ => (pe_cmpR o_inS (pv 1) (pe_gstr T.sLETTERS rfl) (by rfl)))) pa_nil))))))) (pss_one (ps_ret pe_bl)) pss_nil)
    (pss_one (ps_ret (pe_cmpR (op_eqD hr.units) (pe_callTy (c_listS rfl) (by rfl) T.list_ (by decide +kernel) (pa_cons (pv 0) pa_nil)) (pe_callB (c_sortS rfl) (by rfl) T.sorted_ (by decide +kernel) (pa_cons (pe_callTy (c_setS rfl) (by rfl) T.set_ (by decide +kernel) (pa_cons (pv 0) pa_nil)) pa_nil)) (nomark _)))))
abbrev N_are_bases : List Str := ["thing", "base"]
theorem sc_are_bases : FnScope N_are_bases ["thing"] (defScope sare_bases) := ⟨rfl, rfl, rfl, by decide +kernel, rfl, by decide +kernel, by decide +kernel⟩
def t_are_bases (P : Program) (w : World) (K : PySem.W.Frag) : TS :=
    (tSeq (tIfS (tOr (tNot (tB (tCB (rIsi K) (tCons (tVar 0) (tCons (tC (.ty "tuple")) tNil))))) (tOr (tTest (tOp rGt (tCB (rLen K) (tCons (tVar 0) tNil)) (tC (.int 6)))) (tNot (tB (tCB (rAll K) (tCons (tLc (iTup K (tVar 0)) (gName 1) tYes (tCall (sp_is_name K) [] E0 (tCons (tVar 1) tNil)) [1]) tNil)))))) (tRet (tC (.bl false))) tNext)
    (tRet (tOp rEq (tCB (rLenSet P w) (tCons (tCB (rSetT P w K) (tCons (tVar 0) tNil)) tNil)) (tCB (rLen K) (tCons (tVar 0) tNil)))))
theorem d_are_bases {P : Program} {w : World} {K : PySem.W.Frag} {mg : Str → Option Value} {base : Heap} {f : Addr} {cdv : Value} {A : Around} {outer : List Env} {s : Shared} {H : Hp} {E : XK} (T : Txt K mg) (F_is_name : Fn_is_name P w K mg base)
    (hr : Room 1 (A.deeper (envOfC "are_bases" (defScope sare_bases) s.heap.objs.size f cdv))) : PSs (cxOf (CX0) P w K mg base N_are_bases "are_bases" (defScope sare_bases) f cdv A outer s H E).nox (defBody sare_bases) (t_are_bases P w K) := by
  have nd := sc_are_bases.nd
  have hu := hu_of hr
  exact (pss_cons (ps_if (PW.pt (pw_or (pt_not (pt_val (pe_callB call_isi (by rfl) T.isinstance_ (by decide +kernel) (pa_cons (pv 0) (pa_cons (pe_bltn (v := .ty "tuple") rfl T.tuple_ (by decide +kernel) rfl) pa_nil))))) (pw_or (pt_cmpR o_gt (pe_callB c_len (by rfl) T.len_ (by decide +kernel) (pa_cons (pv 0) pa_nil)) (pe_gint T.iMOST_BASES rfl) (nomark _)) (pw_or1 (pt_not (pt_val (pe_callB (cr_all rfl) (by rfl) T.all_ (by decide +kernel) (pa_cons (pe_lc (own := [("base", 1)]) (g := (gName 1)) (tt := tYes) rfl nd (pi_tup (pv 0)) (blkOk_by (own := [("base", 1)]) (N := N_are_bases) (sc := defScope sare_bases) (by decide +kernel)) (fun _ _ _ _ _ => (pg_name (i := 1) nd rfl (.inl rfl))) (fun _ _ _ _ _ => pts_nil) (fun _ _ _ _ _ => (pe_fn F_is_name hr (by decide) rfl pass0 (pa_cons (pv 1) pa_nil)))) pa_nil)))))))) (pss_one (ps_ret pe_bl)) pss_nil)
    (pss_one (ps_ret (pe_cmpR op_eq (pe_callB c_lenSet (by rfl) T.len_ (by decide +kernel) (pa_cons (pe_callTy (c_setT rfl) (by rfl) T.set_ (by decide +kernel) (pa_cons (pv 0) pa_nil)) pa_nil)) (pe_callB c_len (by rfl) T.len_ (by decide +kernel) (pa_cons (pv 0) pa_nil)) (nomark _)))))
abbrev N_is_kind : List Str := ["thing", "name", "edition", "bases", "letter", "mark"]
theorem sc_is_kind : FnScope N_is_kind ["thing"] (defScope sis_kind) := ⟨rfl, rfl, rfl, by decide +kernel, rfl, by decide +kernel, by decide +kernel⟩
def t_is_kind (P : Program) (w : World) (K : PySem.W.Frag) : TS :=
    (tSeq (tIfS (tOr (tNot (tB (tCB (rIsi K) (tCons (tVar 0) (tCons (tC (.ty "tuple")) tNil))))) (tTest (tOp rNe (tCB (rLen K) (tCons (tVar 0) tNil)) (tC (.int 5))))) (tRet (tC (.bl false))) tNext)
    (tSeq (tAsg (tVar 0) (gTup K 5 (gCons (gName 1) (gCons (gName 2) (gCons (gName 3) (gCons (gName 4) (gCons (gName 5) gNil)))))))
    (tSeq (tIfS (tOr (tNot (tB (tCall (sp_is_name K) [] E0 (tCons (tVar 1) tNil)))) (tOr (tNot (tB (tCall (sp_is_integer K) [] E0 (tCons (tVar 2) (tCons (tC (.int 1)) (tCons (tC (.int 99)) tNil)))))) (tNot (tB (tCall (sp_are_bases K) [] E0 (tCons (tVar 3) tNil)))))) (tRet (tC (.bl false))) tNext)
    (tRet (tAndV (tCall (sp_is_mark K) [] E0 (tCons (tVar 4) tNil)) (tAndV (tOp rEq (tCB (rLen K) (tCons (tVar 4) tNil)) (tC (.int 1))) (tCall (sp_is_mark K) [] E0 (tCons (tVar 5) tNil))))))))
theorem d_is_kind {P : Program} {w : World} {K : PySem.W.Frag} {mg : Str → Option Value} {base : Heap} {f : Addr} {cdv : Value} {A : Around} {outer : List Env} {s : Shared} {H : Hp} {E : XK} (T : Txt K mg) (F_are_bases : Fn_are_bases P w K mg base) (F_is_integer : Fn_is_integer P w K mg base) (F_is_mark : Fn_is_mark P w K mg base) (F_is_name : Fn_is_name P w K mg base)
    (hr : Room 2 (A.deeper (envOfC "is_kind" (defScope sis_kind) s.heap.objs.size f cdv))) : PSs (cxOf (CX0) P w K mg base N_is_kind "is_kind" (defScope sis_kind) f cdv A outer s H E).nox (defBody sis_kind) (t_is_kind P w K) := by
  have nd := sc_is_kind.nd
  have hu := hu_of hr
  exact (pss_cons (ps_if (PW.pt (pw_or (pt_not (pt_val (pe_callB call_isi (by rfl) T.isinstance_ (by decide +kernel) (pa_cons (pv 0) (pa_cons (pe_bltn (v := .ty "tuple") rfl T.tuple_ (by decide +kernel) rfl) pa_nil))))) (pw_or1 (pt_cmpR op_ne (pe_callB c_len (by rfl) T.len_ (by decide +kernel) (pa_cons (pv 0) pa_nil)) pe_int (nomark _))))) (pss_one (ps_ret pe_bl)) pss_nil)
    (pss_cons (ps_asg (pv 0) (pg_tup rfl (pgs_cons (pg_name (i := 1) nd rfl (.inl rfl)) (pgs_cons (pg_name (i := 2) nd rfl (.inl rfl)) (pgs_cons (pg_name (i := 3) nd rfl (.inl rfl)) (pgs_cons (pg_name (i := 4) nd rfl (.inl rfl)) (pgs_cons (pg_name (i := 5) nd rfl (.inl rfl)) pgs_nil)))))))
    (pss_cons (ps_if (PW.pt (pw_or (pt_not (pt_val (pe_fn F_is_name hr (by decide) rfl pass0 (pa_cons (pv 1) pa_nil)))) (pw_or (pt_not (pt_val (pe_fn F_is_integer hr (by decide) rfl pass0 (pa_cons (pv 2) (pa_cons pe_int (pa_cons (pe_gint T.iMOST_EDITION rfl) pa_nil)))))) (pw_or1 (pt_not (pt_val (pe_fn F_are_bases hr (by decide) rfl pass0 (pa_cons (pv 3) pa_nil)))))))) (pss_one (ps_ret pe_bl)) pss_nil)
    (pss_one (ps_ret (pe_and (pe_fn F_is_mark hr (by decide) rfl pass0 (pa_cons (pv 4) pa_nil)) (pe_and (pe_cmpR op_eq (pe_callB c_len (by rfl) T.len_ (by decide +kernel) (pa_cons (pv 4) pa_nil)) pe_int (nomark _)) (pe_one (pe_fn F_is_mark hr (by decide) rfl pass0 (pa_cons (pv 5) pa_nil))))))))))
abbrev N_need_layout : List Str := ["thing", "ahead", "edition", "number", "kind", "base"]
theorem sc_need_layout : FnScope N_need_layout ["thing"] (defScope sneed_layout) := ⟨rfl, rfl, rfl, by decide +kernel, rfl, by decide +kernel, by decide +kernel⟩
def t_need_layout (P : Program) (w : World) (K : PySem.W.Frag) (E : XK) : TS :=
    (tSeq (tIfS (tOr (tNot (tB (tCB (rIsi K) (tCons (tVar 0) (tCons (tC (.ty "tuple")) tNil))))) (tNot (tTest (tChain rLe rLe (tC (.int 1)) (tCB (rLen K) (tCons (tVar 0) tNil)) (tC (.int 24)))))) (tRaiseB K "BadLayout" E (tCons (tTup tNil) tNil)) tNext)
    (tSeq (tAsg (tTup (tCons tDNewK (tCons (tC (.int 1)) tNil))) (gTup K 2 (gCons (gName 1) (gCons (gName 2) gNil))))
    (tSeq (tFor (iEnumT K (tCons (tVar 0) tNil)) (gTup K 2 (gCons (gName 3) (gCons (gName 4) gNil))) (tSeq (tIfS (tOr (tNot (tB (tCall (sp_is_kind K) [] E0 (tCons (tVar 4) tNil)))) (tOr (tB (tDIn (tOp (rIxT K) (tVar 4) (tC (.int 0))) (tVar 1))) (tTest (tOp rLt (tOp (rIxT K) (tVar 4) (tC (.int 1))) (tVar 2))))) (tRaiseB K "BadLayout" E (tCons (tTup (tCons (tVar 3) tNil)) tNil)) tNext)
    (tSeq (tIfS (tNot (tB (tCB (rAll K) (tCons (tLc (iTup K (tOp (rIxT K) (tVar 4) (tC (.int 2)))) (gName 5) tYes (tDIn (tVar 5) (tVar 1)) [5]) tNil)))) (tRaiseB K "BadLayout" E (tCons (tTup (tCons (tVar 3) tNil)) tNil)) tNext)
    (tSeq (tAsg (tC (.bl true)) (gSub (tVar 1) (tOp (rIxT K) (tVar 4) (tC (.int 0))) rSetD))
    (tAsg (tOp (rIxT K) (tVar 4) (tC (.int 1))) (gName 2))))))
    (tRet (tVar 0)))))
theorem d_need_layout {P : Program} {w : World} {K : PySem.W.Frag} {mg : Str → Option Value} {base : Heap} {f : Addr} {cdv : Value} {A : Around} {outer : List Env} {s : Shared} {H : Hp} {E : XK} (T : Txt K mg) (F_BadLayout : Fn_BadLayout P w K mg base) (F_is_kind : Fn_is_kind P w K mg base)
    (hr : Room 3 (A.deeper (envOfC "need_layout" (defScope sneed_layout) s.heap.objs.size f cdv))) : PSs (cxOf (L2.CX P w) P w K mg base N_need_layout "need_layout" (defScope sneed_layout) f cdv A outer s H E) (defBody sneed_layout) (t_need_layout P w K E) := by
  have nd := sc_need_layout.nd
  have hu := hu_of hr
  exact (pss_cons (ps_if (PW.pt (pw_or (pt_not (pt_val (pe_callB call_isi (by rfl) T.isinstance_ (by decide +kernel) (pa_cons (pv 0) (pa_cons (pe_bltn (v := .ty "tuple") rfl T.tuple_ (by decide +kernel) rfl) pa_nil))))) (pw_or1 (pt_not (pt_chain o_le o_le pe_int (pe_callB c_len (by rfl) T.len_ (by decide +kernel) (pa_cons (pv 0) pa_nil)) (pe_gint T.iMOST_KINDS rfl)))))) (pss_one (ps_raiseB T.xBadLayout F_BadLayout hr (takes_of rfl rfl rfl rfl) (pa_cons (pe_tup pa_nil) pa_nil))) pss_nil)
    (pss_cons (ps_asg (pe_tup (pa_cons pe_dnewK (pa_cons pe_int pa_nil))) (pg_tup rfl (pgs_cons (pg_name (i := 1) nd rfl (.inr rfl)) (pgs_cons (pg_name (i := 2) nd rfl (.inl rfl)) pgs_nil))))
    (pss_cons (ps_for (passes_of rfl) rfl (pi_enumT rfl T.enumerate_ (pa_cons (pv 0) pa_nil)) (pg_tup rfl (pgs_cons (pg_name (i := 3) nd rfl (.inl rfl)) (pgs_cons (pg_name (i := 4) nd rfl (.inl rfl)) pgs_nil))) (pss_cons (ps_if (PW.pt (pw_or (pt_not (pt_val (pe_fn F_is_kind hr (by decide) rfl pass0 (pa_cons (pv 4) pa_nil)))) (pw_or (pt_cmp (pc_din hu (pe_ix ix_tup (pv 4) pe_int (fun _ _ => rfl)) (pv 1)) (by rfl)) (pw_or1 (pt_cmpR o_lt (pe_ix ix_tup (pv 4) pe_int (fun _ _ => rfl)) (pv 2) (nomark _)))))) (pss_one (ps_raiseB T.xBadLayout F_BadLayout hr (takes_of rfl rfl rfl rfl) (pa_cons (pe_tup (pa_cons (pv 3) pa_nil)) pa_nil))) pss_nil)
    (pss_cons (ps_if (pt_not (pt_val (pe_callB (cr_all rfl) (by rfl) T.all_ (by decide +kernel) (pa_cons (pe_lc (own := [("base", 5)]) (g := (gName 5)) (tt := tYes) rfl nd (pi_tup (pe_ix ix_tup (pv 4) pe_int (fun _ _ => rfl))) (blkOk_by (own := [("base", 5)]) (N := N_need_layout) (sc := defScope sneed_layout) (by decide +kernel)) (fun _ _ _ _ _ => (pg_name (i := 5) nd rfl (.inl rfl))) (fun _ _ _ _ _ => pts_nil) (fun _ _ _ _ _ => (pe_cmp (pc_din hu (pv 5) (pv 1)) (by rfl)))) pa_nil)))) (pss_one (ps_raiseB T.xBadLayout F_BadLayout hr (takes_of rfl rfl rfl rfl) (pa_cons (pe_tup (pa_cons (pv 3) pa_nil)) pa_nil))) pss_nil)
    (pss_cons (ps_asg pe_bl (pg_sub (pv 1) (pe_ix ix_tup (pv 4) pe_int (fun _ _ => rfl)) (set_dict hu)))
    (pss_one (ps_set (i := 2) nd rfl (.inl rfl) (pe_ix ix_tup (pv 4) pe_int (fun _ _ => rfl))))))))
    (pss_one (ps_ret (pv 0))))))
abbrev N_Chart_init : List Str := ["self", "layout", "name", "edition", "bases", "letter", "mark", "base", "own", "kind", "other"]
theorem sc_Chart_init : FnScope N_Chart_init ["self", "layout"] (defScope sChart_init) := ⟨rfl, rfl, rfl, by decide +kernel, rfl, by decide +kernel, by decide +kernel⟩
def t_Chart_init (P : Program) (w : World) (K : PySem.W.Frag) (E : XK) : TS :=
    (tSeq (sFld K (tVar 0) (tCall (sp_need_layout K) [] E (tCons (tVar 1) tNil)) "plan")
    (tSeq (sFld K (tVar 0) (tDc (iTup K (tVar 1)) (gName 9) tYes (tOp (rIxT K) (tVar 9) (tC (.int 0))) (tVar 9) [9]) "kinds")
    (tSeq (sFld K (tVar 0) tDNewK "under")
    (tSeq (sFld K (tVar 0) tDNewK "roots")
    (tSeq (sFld K (tVar 0) (tOp (rIxT K) (tOp (rIxT K) (tVar 1) (tUn (rU fun i => .int (-i)) (tC (.int 1)))) (tC (.int 1))) "final")
    (tFor (iTup K (tVar 1)) (gTup K 5 (gCons (gName 2) (gCons (gName 3) (gCons (gName 4) (gCons (gName 5) (gCons (gName 6) gNil)))))) (tSeq (tAsg (tDc (iTup K (tVar 4)) (gName 7) tYes (tVar 7) (tC (.bl true)) [7]) (gName 8))
    (tSeq (tFor (iTup K (tVar 4)) (gName 7) (tDrop (tBM K "dict" rUpd (tVar 8) (tCons (tDc (iTup K (tDGet (tFld K (tVar 0) "under") (tVar 7))) (gName 10) tYes (tVar 10) (tC (.bl true)) [10]) tNil))))
    (tSeq (tAsg (tCB (rTupL K) (tCons (tLockE (tLc (iKeys (tFld K (tVar 0) "kinds")) (gName 10) (tB (tDIn (tVar 10) (tVar 8))) (tVar 10) [10])) tNil)) (gSub (tFld K (tVar 0) "under") (tVar 2) rSetD))
    (tAsg (tCB (rTupL K) (tCons (tLc (iTup K (tDGet (tFld K (tVar 0) "under") (tVar 2))) (gName 10) (tTest (tOp (rEqD K) (tOp (rIxT K) (tDGet (tFld K (tVar 0) "kinds") (tVar 10)) (tC (.int 2))) (tTup tNil))) (tVar 10) [10]) tNil)) (gSub (tFld K (tVar 0) "roots") (tVar 2) rSetD)))))))))))
theorem d_Chart_init {P : Program} {w : World} {K : PySem.W.Frag} {mg : Str → Option Value} {base : Heap} {f : Addr} {cdv : Value} {A : Around} {outer : List Env} {s : Shared} {H : Hp} {E : XK} (T : Txt K mg) (F_need_layout : Fn_need_layout P w K mg base)
    (hr : Room 4 (A.deeper (envOfC "Chart.__init__" (defScope sChart_init) s.heap.objs.size f cdv))) : PSs (cxOf (L2.CX P w) P w K mg base N_Chart_init "Chart.__init__" (defScope sChart_init) f cdv A outer s H E) (defBody sChart_init) (t_Chart_init P w K E) := by
  have nd := sc_Chart_init.nd
  have hu := hu_of hr
  exact (pss_cons (ps_fld (pv 0) (pe_fn F_need_layout hr (by decide) rfl (passE rfl rfl rfl rfl) (pa_cons (pv 1) pa_nil)) rfl)
    (pss_cons (ps_fld (pv 0) (pe_dc (own := [("kind", 9)]) (g := (gName 9)) (tt := tYes) rfl nd (pi_tup (pv 1)) (blkOk_by (own := [("kind", 9)]) (N := N_Chart_init) (sc := defScope sChart_init) (by decide +kernel)) (fun _ _ _ _ _ => (pg_name (i := 9) nd rfl (.inl rfl))) (fun _ _ _ _ _ => pts_nil) (fun _ _ _ _ _ => (pe_ix ix_tup (pv 9) pe_int (fun _ _ => rfl))) (fun _ _ _ _ _ => (pv 9))) rfl)
    (pss_cons (ps_fld (pv 0) pe_dnewK rfl)
    (pss_cons (ps_fld (pv 0) pe_dnewK rfl)
    (pss_cons (ps_fld (pv 0) (pe_ix ix_tup (pe_ix ix_tup (pv 1) (pe_un un_neg pe_int) (fun _ _ => rfl)) pe_int (fun _ _ => rfl)) rfl)
    (pss_one (ps_for (passes_of rfl) rfl (pi_tup (pv 1)) (pg_tup rfl (pgs_cons (pg_name (i := 2) nd rfl (.inl rfl)) (pgs_cons (pg_name (i := 3) nd rfl (.inl rfl)) (pgs_cons (pg_name (i := 4) nd rfl (.inl rfl)) (pgs_cons (pg_name (i := 5) nd rfl (.inl rfl)) (pgs_cons (pg_name (i := 6) nd rfl (.inl rfl)) pgs_nil)))))) (pss_cons (ps_set (i := 8) nd rfl (.inr rfl) (pe_dc (own := [("base", 7)]) (g := (gName 7)) (tt := tYes) rfl nd (pi_tup (pv 4)) (blkOk_by (own := [("base", 7)]) (N := N_Chart_init) (sc := defScope sChart_init) (by decide +kernel)) (fun _ _ _ _ _ => (pg_name (i := 7) nd rfl (.inl rfl))) (fun _ _ _ _ _ => pts_nil) (fun _ _ _ _ _ => (pv 7)) (fun _ _ _ _ _ => pe_bl)))
    (pss_cons (ps_for (passes_of rfl) rfl (pi_tup (pv 4)) (pg_name (i := 7) nd rfl (.inl rfl)) (pss_one (ps_expr (pe_bm PySem.F.plainAttrs_dict PySem.F.slot_dict_update PySem.F.type_dict_update mt_update (pv 8) (pa_cons (pe_dc (own := [("other", 10)]) (g := (gName 10)) (tt := tYes) rfl nd (pi_tup (pe_dget hu (pe_fld (pv 0) rfl) (pv 7) (fun _ _ => rfl))) (blkOk_by (own := [("other", 10)]) (N := N_Chart_init) (sc := defScope sChart_init) (by decide +kernel)) (fun _ _ _ _ _ => (pg_name (i := 10) nd rfl (.inl rfl))) (fun _ _ _ _ _ => pts_nil) (fun _ _ _ _ _ => (pv 10)) (fun _ _ _ _ _ => pe_bl)) pa_nil)))))
    (pss_cons (ps_asg (pe_callTy c_tupL (by rfl) T.tuple_ (by decide +kernel) (pa_cons (pe_lock (pe_lc (own := [("other", 10)]) (g := (gName 10)) (tt := (tB (tDIn (tVar 10) (tVar 8)))) rfl nd (pi_keys (pe_fld (pv 0) rfl)) (blkOk_by (own := [("other", 10)]) (N := N_Chart_init) (sc := defScope sChart_init) (by decide +kernel)) (fun _ _ _ _ _ => (pg_name (i := 10) nd rfl (.inl rfl))) (fun _ _ _ _ _ => pts_one (pt_cmp (pc_din hu (pv 10) (pv 8)) (by rfl))) (fun _ _ _ _ _ => (pv 10)))) pa_nil)) (pg_sub (pe_fld (pv 0) rfl) (pv 2) (set_dict hu)))
    (pss_one (ps_asg (pe_callTy c_tupL (by rfl) T.tuple_ (by decide +kernel) (pa_cons (pe_lc (own := [("other", 10)]) (g := (gName 10)) (tt := (tTest (tOp (rEqD K) (tOp (rIxT K) (tDGet (tFld K (tVar 0) "kinds") (tVar 10)) (tC (.int 2))) (tTup tNil)))) rfl nd (pi_tup (pe_dget hu (pe_fld (pv 0) rfl) (pv 2) (fun _ _ => rfl))) (blkOk_by (own := [("other", 10)]) (N := N_Chart_init) (sc := defScope sChart_init) (by decide +kernel)) (fun _ _ _ _ _ => (pg_name (i := 10) nd rfl (.inl rfl))) (fun _ _ _ _ _ => pts_one (pt_cmpR (op_eqD hr.units) (pe_ix ix_tup (pe_dget hu (pe_fld (pv 0) rfl) (pv 10) (fun _ _ => rfl)) pe_int (fun _ _ => rfl)) (pe_tup pa_nil) (nomark _))) (fun _ _ _ _ _ => (pv 10))) pa_nil)) (pg_sub (pe_fld (pv 0) rfl) (pv 2) (set_dict hu))))))))))))))
abbrev N_is_content : List Str := ["chart", "name", "thing", "content"]
theorem sc_is_content : FnScope N_is_content ["chart", "name", "thing"] (defScope sis_content) := ⟨rfl, rfl, rfl, by decide +kernel, rfl, by decide +kernel, by decide +kernel⟩
def t_is_content (P : Program) (w : World) (K : PySem.W.Frag) : TS :=
    (tSeq (tIfS (tTest (tOp (rEqD K) (tOp (rIxT K) (tDGet (tFld K (tVar 0) "kinds") (tVar 1)) (tC (.int 2))) (tTup tNil))) (tRet (tCall (sp_is_integer K) [] E0 (tCons (tVar 2) (tCons (tC (.int 0)) (tCons (tC (.int 999999)) tNil))))) tNext)
    (tSeq (tIfS (tOr (tNot (tB (tCB (rIsi K) (tCons (tVar 2) (tCons (tC (.ty "tuple")) tNil))))) (tTest (tOp rNe (tCB (rLen K) (tCons (tVar 2) tNil)) (tCB (rLen K) (tCons (tDGet (tFld K (tVar 0) "roots") (tVar 1)) tNil))))) (tRet (tC (.bl false))) tNext)
    (tRet (tCB (rAll K) (tCons (tLc (iTup K (tVar 2)) (gName 3) tYes (tCall (sp_is_integer K) [] E0 (tCons (tVar 3) (tCons (tC (.int 0)) (tCons (tC (.int 999999)) tNil)))) [3]) tNil)))))
theorem d_is_content {P : Program} {w : World} {K : PySem.W.Frag} {mg : Str → Option Value} {base : Heap} {f : Addr} {cdv : Value} {A : Around} {outer : List Env} {s : Shared} {H : Hp} {E : XK} (T : Txt K mg) (F_is_integer : Fn_is_integer P w K mg base)
    (hr : Room 1 (A.deeper (envOfC "is_content" (defScope sis_content) s.heap.objs.size f cdv))) : PSs (cxOf (CX0) P w K mg base N_is_content "is_content" (defScope sis_content) f cdv A outer s H E).nox (defBody sis_content) (t_is_content P w K) := by
  have nd := sc_is_content.nd
  have hu := hu_of hr
  exact (pss_cons (ps_if (pt_cmpR (op_eqD hr.units) (pe_ix ix_tup (pe_dget hu (pe_fld (pv 0) rfl) (pv 1) (fun _ _ => rfl)) pe_int (fun _ _ => rfl)) (pe_tup pa_nil) (nomark _)) (pss_one (ps_ret (pe_fn F_is_integer hr (by decide) rfl pass0 (pa_cons (pv 2) (pa_cons pe_int (pa_cons (pe_gint T.iMOST_CONTENT rfl) pa_nil)))))) pss_nil)
    (pss_cons (ps_if (PW.pt (pw_or (pt_not (pt_val (pe_callB call_isi (by rfl) T.isinstance_ (by decide +kernel) (pa_cons (pv 2) (pa_cons (pe_bltn (v := .ty "tuple") rfl T.tuple_ (by decide +kernel) rfl) pa_nil))))) (pw_or1 (pt_cmpR op_ne (pe_callB c_len (by rfl) T.len_ (by decide +kernel) (pa_cons (pv 2) pa_nil)) (pe_callB c_len (by rfl) T.len_ (by decide +kernel) (pa_cons (pe_dget hu (pe_fld (pv 0) rfl) (pv 1) (fun _ _ => rfl)) pa_nil)) (nomark _))))) (pss_one (ps_ret pe_bl)) pss_nil)
    (pss_one (ps_ret (pe_callB (cr_all rfl) (by rfl) T.all_ (by decide +kernel) (pa_cons (pe_lc (own := [("content", 3)]) (g := (gName 3)) (tt := tYes) rfl nd (pi_tup (pv 2)) (blkOk_by (own := [("content", 3)]) (N := N_is_content) (sc := defScope sis_content) (by decide +kernel)) (fun _ _ _ _ _ => (pg_name (i := 3) nd rfl (.inl rfl))) (fun _ _ _ _ _ => pts_nil) (fun _ _ _ _ _ => (pe_fn F_is_integer hr (by decide) rfl pass0 (pa_cons (pv 3) (pa_cons pe_int (pa_cons (pe_gint T.iMOST_CONTENT rfl) pa_nil)))))) pa_nil))))))
abbrev N_is_part : List Str := ["chart", "thing"]
theorem sc_is_part : FnScope N_is_part ["chart", "thing"] (defScope sis_part) := ⟨rfl, rfl, rfl, by decide +kernel, rfl, by decide +kernel, by decide +kernel⟩
def t_is_part (P : Program) (w : World) (K : PySem.W.Frag) : TS :=
    (tSeq (tIfS (tOr (tNot (tB (tCB (rIsi K) (tCons (tVar 1) (tCons (tC (.ty "tuple")) tNil))))) (tOr (tTest (tOp rNe (tCB (rLen K) (tCons (tVar 1) tNil)) (tC (.int 2)))) (tNot (tB (tCB (rIsi K) (tCons (tOp (rIxT K) (tVar 1) (tC (.int 0))) (tCons (tC (.ty "str")) tNil))))))) (tRet (tC (.bl false))) tNext)
    (tRet (tAndV (tDIn (tOp (rIxT K) (tVar 1) (tC (.int 0))) (tFld K (tVar 0) "kinds")) (tCall (sp_is_content K) [] E0 (tCons (tVar 0) (tCons (tOp (rIxT K) (tVar 1) (tC (.int 0))) (tCons (tOp (rIxT K) (tVar 1) (tC (.int 1))) tNil)))))))
theorem d_is_part {P : Program} {w : World} {K : PySem.W.Frag} {mg : Str → Option Value} {base : Heap} {f : Addr} {cdv : Value} {A : Around} {outer : List Env} {s : Shared} {H : Hp} {E : XK} (T : Txt K mg) (F_is_content : Fn_is_content P w K mg base)
    (hr : Room 2 (A.deeper (envOfC "is_part" (defScope sis_part) s.heap.objs.size f cdv))) : PSs (cxOf (CX0) P w K mg base N_is_part "is_part" (defScope sis_part) f cdv A outer s H E).nox (defBody sis_part) (t_is_part P w K) := by
  have nd := sc_is_part.nd
  have hu := hu_of hr
  exact (pss_cons (ps_if (PW.pt (pw_or (pt_not (pt_val (pe_callB call_isi (by rfl) T.isinstance_ (by decide +kernel) (pa_cons (pv 1) (pa_cons (pe_bltn (v := .ty "tuple") rfl T.tuple_ (by decide +kernel) rfl) pa_nil))))) (pw_or (pt_cmpR op_ne (pe_callB c_len (by rfl) T.len_ (by decide +kernel) (pa_cons (pv 1) pa_nil)) pe_int (nomark _)) (pw_or1 (pt_not (pt_val (pe_callB call_isi (by rfl) T.isinstance_ (by decide +kernel) (pa_cons (pe_ix ix_tup (pv 1) pe_int (fun _ _ => rfl)) (pa_cons (pe_bltn (v := .ty "str") rfl T.str_ (by decide +kernel) rfl) pa_nil))))))))) (pss_one (ps_ret pe_bl)) pss_nil)
    (pss_one (ps_ret (pe_and (pe_cmp (pc_din hu (pe_ix ix_tup (pv 1) pe_int (fun _ _ => rfl)) (pe_fld (pv 0) rfl)) (by rfl)) (pe_one (pe_fn F_is_content hr (by decide) rfl pass0 (pa_cons (pv 0) (pa_cons (pe_ix ix_tup (pv 1) pe_int (fun _ _ => rfl)) (pa_cons (pe_ix ix_tup (pv 1) pe_int (fun _ _ => rfl)) pa_nil)))))))))
abbrev N_held_in : List Str := ["chart", "file", "order", "last", "number", "part"]
theorem sc_held_in : FnScope N_held_in ["chart", "file"] (defScope sheld_in) := ⟨rfl, rfl, rfl, by decide +kernel, rfl, by decide +kernel, by decide +kernel⟩
def t_held_in (P : Program) (w : World) (K : PySem.W.Frag) (E : XK) : TS :=
    (tSeq (tIfS (tOr (tNot (tB (tCB (rIsi K) (tCons (tVar 1) (tCons (tC (.ty "tuple")) tNil))))) (tTest (tOp rGt (tCB (rLen K) (tCons (tVar 1) tNil)) (tC (.int 24))))) (tRaiseB K "BadFile" E (tCons (tTup tNil) tNil)) tNext)
    (tSeq (tPar 2 3 (tCons (tCB rListD' (tCons (tFld K (tVar 0) "kinds") tNil)) (tCons (tUn (rU fun i => .int (-i)) (tC (.int 1))) tNil)))
    (tSeq (tFor (iEnumT K (tCons (tVar 1) tNil)) (gTup K 2 (gCons (gName 4) (gCons (gName 5) gNil))) (tSeq (tIfS (tOr (tNot (tB (tCall (sp_is_part K) [] E0 (tCons (tVar 0) (tCons (tVar 5) tNil))))) (tTest (tOp rLe (tBM K "list" (rIndex K) (tVar 2) (tCons (tOp (rIxT K) (tVar 5) (tC (.int 0))) tNil)) (tVar 3)))) (tRaiseB K "BadFile" E (tCons (tTup (tCons (tVar 4) tNil)) tNil)) tNext)
    (tAsg (tBM K "list" (rIndex K) (tVar 2) (tCons (tOp (rIxT K) (tVar 5) (tC (.int 0))) tNil)) (gName 3))))
    (tRet (tCB (rDictT K) (tCons (tVar 1) tNil))))))
theorem d_held_in {P : Program} {w : World} {K : PySem.W.Frag} {mg : Str → Option Value} {base : Heap} {f : Addr} {cdv : Value} {A : Around} {outer : List Env} {s : Shared} {H : Hp} {E : XK} (T : Txt K mg) (F_BadFile : Fn_BadFile P w K mg base) (F_is_part : Fn_is_part P w K mg base)
    (hr : Room 3 (A.deeper (envOfC "held_in" (defScope sheld_in) s.heap.objs.size f cdv))) : PSs (cxOf (L2.CX P w) P w K mg base N_held_in "held_in" (defScope sheld_in) f cdv A outer s H E) (defBody sheld_in) (t_held_in P w K E) := by
  have nd := sc_held_in.nd
  have hu := hu_of hr
  exact (pss_cons (ps_if (PW.pt (pw_or (pt_not (pt_val (pe_callB call_isi (by rfl) T.isinstance_ (by decide +kernel) (pa_cons (pv 1) (pa_cons (pe_bltn (v := .ty "tuple") rfl T.tuple_ (by decide +kernel) rfl) pa_nil))))) (pw_or1 (pt_cmpR o_gt (pe_callB c_len (by rfl) T.len_ (by decide +kernel) (pa_cons (pv 1) pa_nil)) (pe_gint T.iMOST_KINDS rfl) (nomark _))))) (pss_one (ps_raiseB T.xBadFile F_BadFile hr (takes_of rfl rfl rfl rfl) (pa_cons (pe_tup pa_nil) pa_nil))) pss_nil)
    (pss_cons (ps_par (i := 2) (j := 3) rfl nd rfl rfl (by decide) rfl rfl (pa_cons (pe_callTy (c_listD rfl) (by rfl) T.list_ (by decide +kernel) (pa_cons (pe_fld (pv 0) rfl) pa_nil)) (pa_cons (pe_un un_neg pe_int) pa_nil)) rfl)
    (pss_cons (ps_for (passes_of rfl) rfl (pi_enumT rfl T.enumerate_ (pa_cons (pv 1) pa_nil)) (pg_tup rfl (pgs_cons (pg_name (i := 4) nd rfl (.inl rfl)) (pgs_cons (pg_name (i := 5) nd rfl (.inl rfl)) pgs_nil))) (pss_cons (ps_if (PW.pt (pw_or (pt_not (pt_val (pe_fn F_is_part hr (by decide) rfl pass0 (pa_cons (pv 0) (pa_cons (pv 5) pa_nil))))) (pw_or1 (pt_cmpR o_le (pe_bm PySem.F.plainAttrs_list PySem.F.slot_list_index PySem.F.type_list_index mt_index (pv 2) (pa_cons (pe_ix ix_tup (pv 5) pe_int (fun _ _ => rfl)) pa_nil)) (pv 3) (nomark _))))) (pss_one (ps_raiseB T.xBadFile F_BadFile hr (takes_of rfl rfl rfl rfl) (pa_cons (pe_tup (pa_cons (pv 4) pa_nil)) pa_nil))) pss_nil)
    (pss_one (ps_set (i := 3) nd rfl (.inl rfl) (pe_bm PySem.F.plainAttrs_list PySem.F.slot_list_index PySem.F.type_list_index mt_index (pv 2) (pa_cons (pe_ix ix_tup (pv 5) pe_int (fun _ _ => rfl)) pa_nil))))))
    (pss_one (ps_ret (pe_callTy (c_dictT rfl) (by rfl) T.dict_ (by decide +kernel) (pa_cons (pv 1) pa_nil)))))))
abbrev N_need_file : List Str := ["layout", "thing"]
theorem sc_need_file : FnScope N_need_file ["layout", "thing"] (defScope sneed_file) := ⟨rfl, rfl, rfl, by decide +kernel, rfl, by decide +kernel, by decide +kernel⟩
def t_need_file (P : Program) (w : World) (K : PySem.W.Frag) (E : XK) : TS :=
    (tSeq (tDrop (tCall (sp_held_in K) [] E (tCons (tMake (He.ga K "Chart") (sp_Chart_init K) [] E0 (tCons (tVar 0) tNil)) (tCons (tVar 1) tNil))))
    (tRet (tVar 1)))
theorem d_need_file {P : Program} {w : World} {K : PySem.W.Frag} {mg : Str → Option Value} {base : Heap} {f : Addr} {cdv : Value} {A : Around} {outer : List Env} {s : Shared} {H : Hp} {E : XK} (T : Txt K mg) (F_Chart : Fn_Chart P w K mg base) (F_held_in : Fn_held_in P w K mg base)
    (hr : Room 7 (A.deeper (envOfC "need_file" (defScope sneed_file) s.heap.objs.size f cdv))) : PSs (cxOf (L2.CX P w) P w K mg base N_need_file "need_file" (defScope sneed_file) f cdv A outer s H E) (defBody sneed_file) (t_need_file P w K E) := by
  have nd := sc_need_file.nd
  have hu := hu_of hr
  exact (pss_cons (ps_expr (pe_fn F_held_in hr (by decide) rfl (passE rfl rfl rfl rfl) (pa_cons (pe_mkChart hr T F_Chart passL (pa_cons (pv 0) pa_nil)) (pa_cons (pv 1) pa_nil))))
    (pss_one (ps_ret (pv 1))))
abbrev N_number_in : List Str := ["word", "sign"]
theorem sc_number_in : FnScope N_number_in ["word"] (defScope snumber_in) := ⟨rfl, rfl, rfl, by decide +kernel, rfl, by decide +kernel, by decide +kernel⟩
def t_number_in (P : Program) (w : World) (K : PySem.W.Frag) : TS :=
    (tSeq (tIfS (tOr (tNot (tTest (tChain rLe rLe (tC (.int 1)) (tCB (rLen K) (tCons (tVar 0) tNil)) (tC (.int 6))))) (tNot (tB (tCB (rAll K) (tCons (tLc (iStr (tVar 0)) (gName 1) tYes (tOp rInS (tVar 1) (tC (.str "0123456789"))) [1]) tNil))))) (tRet (tC .non)) tNext)
    (tRet (tIf (tAnd (tTest (tOp rEq (tOp rIxS (tVar 0) (tC (.int 0))) (tC (.str "0")))) (tTest (tOp rNe (tVar 0) (tC (.str "0"))))) (tC .non) (tCB rIntS (tCons (tVar 0) tNil)))))
theorem d_number_in {P : Program} {w : World} {K : PySem.W.Frag} {mg : Str → Option Value} {base : Heap} {f : Addr} {cdv : Value} {A : Around} {outer : List Env} {s : Shared} {H : Hp} {E : XK} (T : Txt K mg)
    (hr : Room 0 (A.deeper (envOfC "number_in" (defScope snumber_in) s.heap.objs.size f cdv))) : PSs (cxOf (CX0) P w K mg base N_number_in "number_in" (defScope snumber_in) f cdv A outer s H E).nox (defBody snumber_in) (t_number_in P w K) := by
  have nd := sc_number_in.nd
  have hu := hu_of hr
  exact (pss_cons (ps_if (PW.pt (pw_or (pt_not (pt_chain o_le o_le pe_int (pe_callB c_len (by rfl) T.len_ (by decide +kernel) (pa_cons (pv 0) pa_nil)) (pe_gint T.iMOST_FIGURES rfl))) (pw_or1 (pt_not (pt_val (pe_callB (cr_all rfl) (by rfl) T.all_ (by decide +kernel) (pa_cons (pe_lc (own := [("sign", 1)]) (g := (gName 1)) (tt := tYes) rfl nd (pi_str (pv 0)) (blkOk_by (own := [("sign", 1)]) (N := N_number_in) (sc := defScope snumber_in) (by decide +kernel)) (fun _ _ _ _ _ => (pg_name (i := 1) nd rfl (.inl rfl))) (fun _ _ _ _ _ => pts_nil) (fun _ _ _ _ _ => (pe_cmpR o_inS (pv 1) (pe_gstr T.sFIGURES rfl) (by rfl)))) pa_nil))))))) (pss_one (ps_ret pe_non)) pss_nil)
    (pss_one (ps_ret (pe_ifExp (PW.pt (pw_and (pt_cmpR op_eq (pe_ix ix_str (pv 0) pe_int (fun _ _ => rfl)) pe_str (nomark _)) (pw_and1 (pt_cmpR op_ne (pv 0) pe_str (nomark _))))) pe_non (pe_callTy c_intS (by rfl) T.int_ (by decide +kernel) (pa_cons (pv 0) pa_nil))))))
abbrev N_told_kind : List Str := ["words", "mark", "kind"]
theorem sc_told_kind : FnScope N_told_kind ["words"] (defScope stold_kind) := ⟨rfl, rfl, rfl, by decide +kernel, rfl, by decide +kernel, by decide +kernel⟩
def t_told_kind (P : Program) (w : World) (K : PySem.W.Frag) : TS :=
    (tSeq (tIfS (tOr (tTest (tOp rLt (tCB (rLen K) (tCons (tVar 0) tNil)) (tC (.int 5)))) (tOr (tTest (tOp rNe (tOp (rIxL K) (tVar 0) (tC (.int 0))) (tC (.str "kind")))) (tTest (tOp rEq (tOp (rIxL K) (tVar 0) (tC (.int 4))) (tC (.str "")))))) (tRet (tC .non)) tNext)
    (tSeq (tAsg (tIf (tTest (tOp rEq (tOp (rIxL K) (tVar 0) (tC (.int 4))) (tC (.str "-")))) (tC (.str "")) (tOp (rIxL K) (tVar 0) (tC (.int 4)))) (gName 1))
    (tSeq (tAsg (tTup (tCons (tOp (rIxL K) (tVar 0) (tC (.int 1))) (tCons (tCall (sp_number_in K) [] E0 (tCons (tOp (rIxL K) (tVar 0) (tC (.int 2))) tNil)) (tCons (tCB (rTupL K) (tCons (tSl (rSlL K) (tVar 0) (tPart (tC (.int 5))) tNoPart) tNil)) (tCons (tOp (rIxL K) (tVar 0) (tC (.int 3))) (tCons (tVar 1) tNil)))))) (gName 2))
    (tRet (tIf (tB (tCall (sp_is_kind K) [] E0 (tCons (tVar 2) tNil))) (tVar 2) (tC .non))))))
theorem d_told_kind {P : Program} {w : World} {K : PySem.W.Frag} {mg : Str → Option Value} {base : Heap} {f : Addr} {cdv : Value} {A : Around} {outer : List Env} {s : Shared} {H : Hp} {E : XK} (T : Txt K mg) (F_is_kind : Fn_is_kind P w K mg base) (F_number_in : Fn_number_in P w K mg base)
    (hr : Room 3 (A.deeper (envOfC "told_kind" (defScope stold_kind) s.heap.objs.size f cdv))) : PSs (cxOf (CX0) P w K mg base N_told_kind "told_kind" (defScope stold_kind) f cdv A outer s H E).nox (defBody stold_kind) (t_told_kind P w K) := by
  have nd := sc_told_kind.nd
  have hu := hu_of hr
  exact (pss_cons (ps_if (PW.pt (pw_or (pt_cmpR o_lt (pe_callB c_len (by rfl) T.len_ (by decide +kernel) (pa_cons (pv 0) pa_nil)) pe_int (nomark _)) (pw_or (pt_cmpR op_ne (pe_ix ix_list (pv 0) pe_int (fun _ _ => rfl)) pe_str (nomark _)) (pw_or1 (pt_cmpR op_eq (pe_ix ix_list (pv 0) pe_int (fun _ _ => rfl)) pe_str (nomark _)))))) (pss_one (ps_ret pe_non)) pss_nil)
    (pss_cons (ps_set (i := 1) nd rfl (.inl rfl) (pe_ifExp (pt_cmpR op_eq (pe_ix ix_list (pv 0) pe_int (fun _ _ => rfl)) (pe_gstr T.sEMPTY_MARK rfl) (nomark _)) pe_str (pe_ix ix_list (pv 0) pe_int (fun _ _ => rfl))))
    (pss_cons (ps_set (i := 2) nd rfl (.inl rfl) (pe_tup (pa_cons (pe_ix ix_list (pv 0) pe_int (fun _ _ => rfl)) (pa_cons (pe_fn F_number_in hr (by decide) rfl pass0 (pa_cons (pe_ix ix_list (pv 0) pe_int (fun _ _ => rfl)) pa_nil)) (pa_cons (pe_callTy c_tupL (by rfl) T.tuple_ (by decide +kernel) (pa_cons (pe_slice sl_list (pv 0) (po_some pe_int) po_none) pa_nil)) (pa_cons (pe_ix ix_list (pv 0) pe_int (fun _ _ => rfl)) (pa_cons (pv 1) pa_nil)))))))
    (pss_one (ps_ret (pe_ifExp (pt_val (pe_fn F_is_kind hr (by decide) rfl pass0 (pa_cons (pv 2) pa_nil))) (pv 2) pe_non))))))
abbrev N_told_part : List Str := ["chart", "words", "numbers", "content", "word"]
theorem sc_told_part : FnScope N_told_part ["chart", "words"] (defScope stold_part) := ⟨rfl, rfl, rfl, by decide +kernel, rfl, by decide +kernel, by decide +kernel⟩
def t_told_part (P : Program) (w : World) (K : PySem.W.Frag) : TS :=
    (tSeq (tIfS (tOr (tTest (tOp rLt (tCB (rLen K) (tCons (tVar 1) tNil)) (tC (.int 3)))) (tOr (tTest (tOp rNe (tOp (rIxL K) (tVar 1) (tC (.int 0))) (tC (.str "part")))) (tB (tDNotIn (tOp (rIxL K) (tVar 1) (tC (.int 1))) (tFld K (tVar 0) "kinds"))))) (tRet (tC .non)) tNext)
    (tSeq (tAsg (tCB (rTupL K) (tCons (tLc (iList K (tSl (rSlL K) (tVar 1) (tPart (tC (.int 2))) tNoPart)) (gName 4) tYes (tCall (sp_number_in K) [] E0 (tCons (tVar 4) tNil)) [4]) tNil)) (gName 2))
    (tSeq (tAsg (tVar 2) (gName 3))
    (tSeq (tIfS (tTest (tOp (rEqD K) (tOp (rIxT K) (tDGet (tFld K (tVar 0) "kinds") (tOp (rIxL K) (tVar 1) (tC (.int 1)))) (tC (.int 2))) (tTup tNil))) (tAsg (tIf (tTest (tOp rEq (tCB (rLen K) (tCons (tVar 2) tNil)) (tC (.int 1)))) (tOp (rIxT K) (tVar 2) (tC (.int 0))) (tC .non)) (gName 3)) tNext)
    (tRet (tIf (tB (tCall (sp_is_content K) [] E0 (tCons (tVar 0) (tCons (tOp (rIxL K) (tVar 1) (tC (.int 1))) (tCons (tVar 3) tNil))))) (tTup (tCons (tOp (rIxL K) (tVar 1) (tC (.int 1))) (tCons (tVar 3) tNil))) (tC .non)))))))
theorem d_told_part {P : Program} {w : World} {K : PySem.W.Frag} {mg : Str → Option Value} {base : Heap} {f : Addr} {cdv : Value} {A : Around} {outer : List Env} {s : Shared} {H : Hp} {E : XK} (T : Txt K mg) (F_is_content : Fn_is_content P w K mg base) (F_number_in : Fn_number_in P w K mg base)
    (hr : Room 2 (A.deeper (envOfC "told_part" (defScope stold_part) s.heap.objs.size f cdv))) : PSs (cxOf (CX0) P w K mg base N_told_part "told_part" (defScope stold_part) f cdv A outer s H E).nox (defBody stold_part) (t_told_part P w K) := by
  have nd := sc_told_part.nd
  have hu := hu_of hr
  exact (pss_cons (ps_if (PW.pt (pw_or (pt_cmpR o_lt (pe_callB c_len (by rfl) T.len_ (by decide +kernel) (pa_cons (pv 1) pa_nil)) pe_int (nomark _)) (pw_or (pt_cmpR op_ne (pe_ix ix_list (pv 1) pe_int (fun _ _ => rfl)) pe_str (nomark _)) (pw_or1 (pt_cmp (pc_dnotin hu (pe_ix ix_list (pv 1) pe_int (fun _ _ => rfl)) (pe_fld (pv 0) rfl)) (by rfl)))))) (pss_one (ps_ret pe_non)) pss_nil)
    (pss_cons (ps_set (i := 2) nd rfl (.inl rfl) (pe_callTy c_tupL (by rfl) T.tuple_ (by decide +kernel) (pa_cons (pe_lc (own := [("word", 4)]) (g := (gName 4)) (tt := tYes) rfl nd (pi_list (pe_slice sl_list (pv 1) (po_some pe_int) po_none)) (blkOk_by (own := [("word", 4)]) (N := N_told_part) (sc := defScope stold_part) (by decide +kernel)) (fun _ _ _ _ _ => (pg_name (i := 4) nd rfl (.inl rfl))) (fun _ _ _ _ _ => pts_nil) (fun _ _ _ _ _ => (pe_fn F_number_in hr (by decide) rfl pass0 (pa_cons (pv 4) pa_nil)))) pa_nil)))
    (pss_cons (ps_set (i := 3) nd rfl (.inl rfl) (pv 2))
    (pss_cons (ps_if (pt_cmpR (op_eqD hr.units) (pe_ix ix_tup (pe_dget hu (pe_fld (pv 0) rfl) (pe_ix ix_list (pv 1) pe_int (fun _ _ => rfl)) (fun _ _ => rfl)) pe_int (fun _ _ => rfl)) (pe_tup pa_nil) (nomark _)) (pss_one (ps_set (i := 3) nd rfl (.inl rfl) (pe_ifExp (pt_cmpR op_eq (pe_callB c_len (by rfl) T.len_ (by decide +kernel) (pa_cons (pv 2) pa_nil)) pe_int (nomark _)) (pe_ix ix_tup (pv 2) pe_int (fun _ _ => rfl)) pe_non))) pss_nil)
    (pss_one (ps_ret (pe_ifExp (pt_val (pe_fn F_is_content hr (by decide) rfl pass0 (pa_cons (pv 0) (pa_cons (pe_ix ix_list (pv 1) pe_int (fun _ _ => rfl)) (pa_cons (pv 3) pa_nil))))) (pe_tup (pa_cons (pe_ix ix_list (pv 1) pe_int (fun _ _ => rfl)) (pa_cons (pv 3) pa_nil))) pe_non)))))))
abbrev N_read_layout : List Str := ["text"]
theorem sc_read_layout : FnScope N_read_layout ["text"] (defScope sread_layout) := ⟨rfl, rfl, rfl, by decide +kernel, rfl, by decide +kernel, by decide +kernel⟩
def t_read_layout (P : Program) (w : World) (K : PySem.W.Frag) (E : XK) : TS :=
    (tRet (tCall (sp_need_layout K) [] E (tCons (tCall (sp_told_rows K) [] E (tCons (tVar 0) (tCons (tC (.ref (He.ga K "told_kind"))) tNil))) tNil)))
theorem d_read_layout {P : Program} {w : World} {K : PySem.W.Frag} {mg : Str → Option Value} {base : Heap} {f : Addr} {cdv : Value} {A : Around} {outer : List Env} {s : Shared} {H : Hp} {E : XK} (T : Txt K mg) (F_need_layout : Fn_need_layout P w K mg base) (F_told_rows : Fn_told_rows P w K mg base)
    (hr : Room 6 (A.deeper (envOfC "read_layout" (defScope sread_layout) s.heap.objs.size f cdv))) : PSs (cxOf (L2.CX P w) P w K mg base N_read_layout "read_layout" (defScope sread_layout) f cdv A outer s H E) (defBody sread_layout) (t_read_layout P w K E) := by
  have nd := sc_read_layout.nd
  have hu := hu_of hr
  exact (pss_one (ps_ret (pe_fn F_need_layout hr (by decide) rfl (passE rfl rfl rfl rfl) (pa_cons (pe_fn F_told_rows hr (by decide) rfl (passE rfl rfl rfl rfl) (pa_cons (pv 0) (pa_cons (pe_glob (v := .ref (He.ga K "told_kind")) rfl T.gtold_kind rfl) pa_nil))) pa_nil))))
end Cp
set_option maxHeartbeats 4000000
/-! What stays, comprehensions and loops by what they answer. -/
namespace Cp
open PySem L2 LamX
theorem Keep.refl (H : Hp) : Keep H H := fun _ _ h => h
theorem Keep.trans {H H1 H2 : Hp} (a : Keep H H1) (b : Keep H1 H2) : Keep H H2 := fun c o h => b c o (a c o h)
theorem Keep.new {H : Hp} {p : Addr} {o : HO} (h : H p = none) : Keep H (upd H p o) := fun b u e => by rw [upd_ne (ne_of_none e h)]; exact e
theorem Keep.tnew {H0 H : Hp} {p : Addr} {o : HO} (k : Keep H0 H) (h : H p = none) : Keep H0 (upd H p o) := k.trans (.new h)
theorem Keep.free {H H' : Hp} (k : Keep H H') {p : Addr} (h : H' p = none) : H p = none := by
  cases q : H p with
  | none => rfl
  | some o => rw [k p o q] at h; cases h
/-- a change at p, which was free -/
theorem Keep.at_ {H H' : Hp} {p : Addr} {o : HO} (k : Keep H H') (h : H p = none) : Keep H (upd H' p o) := fun b u e => by rw [upd_ne (ne_of_none e h)]; exact k b u e
theorem Keep.sqL {K : PySem.W.Frag} {H H' : Hp} {a : Addr} {xs : List V} (k : Keep H H') (h : SqL K H a xs) : SqL K H' a xs := by
  rcases h with (h | ⟨o, h⟩) | h
  · exact .inl (.inl (k _ _ h))
  · exact .inl (.inr ⟨o, k _ _ h⟩)
  · exact .inr h
theorem Keep.sqT {K : PySem.W.Frag} {H H' : Hp} {a : Addr} {xs : List V} (k : Keep H H') (h : SqT K H a xs) : SqT K H' a xs := by
  rcases h with (h | ⟨o, h⟩) | h
  · exact .inl (.inl (k _ _ h))
  · exact .inl (.inr ⟨o, k _ _ h⟩)
  · exact .inr h
theorem Keep.tup {H H' : Hp} {v : V} {xs : List V} (k : Keep H H') (h : TupAt H v xs) : TupAt H' v xs := let ⟨a, e, q⟩ := h; ⟨a, e, k _ _ q⟩
theorem Keep.tupF {H H' : Hp} {a : Addr} {xs : List V} (k : Keep H H') (h : TupF H a xs) : TupF H' a xs := let ⟨o, e, q⟩ := h; ⟨o, e, k _ _ q⟩
theorem Keep.kd {H H' : Hp} {v : V} {x : Kd} (k : Keep H H') (h : KdAt H v x) : KdAt H' v x := let ⟨a, b, e, q1, q2⟩ := h; ⟨a, b, e, k _ _ q1, k _ _ q2⟩
theorem Keep.kds {H H' : Hp} {vs : List V} {ks : List Kd} (k : Keep H H') (h : KdsAt H vs ks) : KdsAt H' vs ks := Paired.mapP h fun _ _ q => k.kd q
theorem Keep.cn {H H' : Hp} {v : V} {c : Cn} (k : Keep H H') (h : CnAt H v c) : CnAt H' v c := by
  cases c with
  | one n => exact h
  | many ns => exact k.tup h
theorem Keep.pt {H H' : Hp} {v : V} {p : Str × Cn} (k : Keep H H') (h : PtAt H v p) : PtAt H' v p := let ⟨a, c, e, q1, q2⟩ := h; ⟨a, c, e, k _ _ q1, k.cn q2⟩
theorem Keep.pts {H H' : Hp} {vs : List V} {ps : List (Str × Cn)} (k : Keep H H') (h : Paired (PtAt H) vs ps) : Paired (PtAt H') vs ps := Paired.mapP h fun _ _ q => k.pt q
theorem Keep.plan {K : PySem.W.Frag} {H H' : Hp} {v : V} {ks : List Kd} (k : Keep H H') (h : PlanAt K H v ks) : PlanAt K H' v ks := let ⟨a, vs, e, q1, q2⟩ := h; ⟨a, vs, e, k.sqT q1, k.kds q2⟩
theorem Keep.undL {H H' : Hp} {d : Addr} {u : Und} (k : Keep H H') (h : UndL H d u) : UndL H' d u := let ⟨kvs, e, q⟩ := h; ⟨kvs, k _ _ e, Paired.mapP q fun _ _ ⟨e1, l, e2, e3⟩ => ⟨e1, l, e2, k _ _ e3⟩⟩
theorem Keep.undT {H H' : Hp} {d : Addr} {u : Und} (k : Keep H H') (h : UndT H d u) : UndT H' d u := let ⟨kvs, e, q⟩ := h; ⟨kvs, k _ _ e, Paired.mapP q fun _ _ ⟨e1, l, e2, e3⟩ => ⟨e1, l, e2, k _ _ e3⟩⟩
theorem Keep.kinds {H H' : Hp} {d : Addr} {ks : List Kd} (k : Keep H H') (h : KindsAt H d ks) : KindsAt H' d ks := let ⟨kvs, e, q⟩ := h; ⟨kvs, k _ _ e, Paired.mapP q fun _ _ ⟨e1, e2⟩ => ⟨e1, k.kd e2⟩⟩
theorem Keep.chart {K : PySem.W.Frag} {H H' : Hp} {v : V} {ks : List Kd} (k : Keep H H') (h : ChartAt K H v ks) : ChartAt K H' v ks :=
  let ⟨a, dx, fs, dk, dr, e, q1, q2, q3, q4, q5⟩ := h; ⟨a, dx, fs, dk, dr, e, k _ _ q1, q2, q3, k.kinds q4, k.undT q5⟩
theorem Keep.words {H H' : Hp} {v : V} {ws : List Str} (k : Keep H H') (h : WordsAt H v ws) : WordsAt H' v ws := let ⟨l, e, q1, q2⟩ := h; ⟨l, e, k _ _ q1, q2⟩
theorem Keep.draw {H H' : Hp} {d g : Addr} (k : Keep H H') (h : DrawAt H d g) : DrawAt H' d g := let ⟨m, t, gs, q1, q2⟩ := h; ⟨m, t, gs, k _ _ q1, k _ _ q2⟩
theorem Short.le {z : Str} (h : Short z) : z.length ≤ sizeLine := Nat.le_trans h.1 (by decide)

/-! ### pairs -/
theorem Paired.at_ {α β : Type} {F : α → β → Prop} : ∀ {l : List α} {m : List β}, Paired F l m → ∀ {i : Nat} {x : α}, l[i]? = some x → ∃ y, m[i]? = some y ∧ F x y
  | _, _, .nil, i, x, e => by simp at e
  | _, _, .cons (b := b) r t, i, x, e => by
    cases i with
    | zero =>
      simp only [List.getElem?_cons_zero, Option.some.injEq] at e
      exact ⟨b, rfl, e ▸ r⟩
    | succ i =>
      obtain ⟨y, e2, q⟩ := Paired.at_ t (i := i) (x := x) (by simpa using e)
      exact ⟨y, by simpa using e2, q⟩
theorem paired_map {α β : Type} (f : β → α) : ∀ l : List β, Paired (fun x y => x = f y) (l.map f) l
  | [] => .nil
  | _ :: r => .cons rfl (paired_map f r)
theorem paired_snoc {α β : Type} {F : α → β → Prop} : ∀ {l : List α} {m : List β}, Paired F l m → ∀ {x : α} {y : β}, F x y → Paired F (l ++ [x]) (m ++ [y])
  | _, _, .nil, _, _, h => .cons h .nil
  | _, _, .cons r t, _, _, h => .cons r (paired_snoc t h)
theorem filt_succ {α β : Type} (as : List α) (c : α → Bool) (f : α → β) {i : Nat} {a : α} (h : as[i]? = some a) : ((as.take (i + 1)).filter c).map f = ((as.take i).filter c).map f ++ (if c a = true then [f a] else []) := by
  rw [List.take_add_one, h]
  simp only [Option.toList_some, List.filter_append, List.map_append, List.filter_cons, List.filter_nil]
  by_cases q : c a = true
  · rw [if_pos q, if_pos q]; rfl
  · rw [if_neg q, if_neg q]; rfl

/-! ### comprehensions whose elements are reckoned while all stays -/
theorem lcP {α : Type} {R : V → α → Prop} {vs : List V} {as : List α} {J : It} {G : Hp → Prop} {j : Nat} {tt : TT} {te : TE} {σ : St} {H1 : Hp} {Q : VK} (pr : Paired R vs as) (w : Walk J vs.length G (YAt vs)) (hG : ∀ H', Keep H1 H' → G H') (c : α → Bool) (f : α → V) (hn : vs.length ≤ sizeLine)
    (hj : ∀ x : V, ((wipe σ [j]).set j (some x)).set j none = wipe σ [j])
    (ht : ∀ x a H (Kt : Bool → Hp → Prop), R x a → a ∈ as → Keep H1 H → (∀ H3, Keep H H3 → Kt (c a) H3) → tt ((wipe σ [j]).set j (some x)) H Kt)
    (he : ∀ x a H (Ke : VK), R x a → a ∈ as → c a = true → Keep H1 H → (∀ H4, Keep H H4 → Ke (f a) H4) → te ((wipe σ [j]).set j (some x)) H Ke)
    (hq : ∀ D H', Keep H1 H' → H1 D = none → H' D = some (.lst ((as.filter c).map f)) → Q (.ref D) H') (D : Addr) (hD : H1 D = none) :
    ∃ W : Nat → Nat → Hp → Prop, (∃ m, W 0 m (upd H1 D (.lst []))) ∧ ∀ i m H, W i m H →
      (J.stop i H ∧ Q (.ref D) H) ∨ (J.go i H ∧ ∃ Nx : Hp → Prop, (∀ H', Nx H' → ∃ m', m' < m ∧ W (i + 1) m' H') ∧ ∀ x H', J.yld i H x H' → gName j x (wipe σ [j]) H' fun σ2 H2 => wipe σ2 [j] = wipe σ [j] ∧ tt σ2 H2 fun b H3 =>
        if b = true then te σ2 H3 fun y H4 => ∃ acc, H4 D = some (.lst acc) ∧ acc.length < sizeLine ∧ Nx (upd H4 D (.lst (acc ++ [y]))) else Nx H3) := by
  refine lc_it w (fun i H => Keep H1 H ∧ H D = some (.lst (((as.take i).filter c).map f))) ⟨.new hD, by rw [upd_same]; rfl⟩ (fun i H _ p => hG H p.1) (fun i x H H' hi p y => ?_) fun H p => ?_
  · obtain ⟨k, hd⟩ := p
    obtain ⟨rfl, hx⟩ := y
    obtain ⟨a, ha, r⟩ := Paired.at_ pr hx
    have hm : a ∈ as := List.mem_of_getElem? ha
    refine rd_gname ⟨?_, ?_⟩
    · show ((wipe σ [j]).set j (some x)).set j none = _
      exact hj x
    · refine ht x a H' _ r hm k fun H3 k3 => ?_
      by_cases q : c a = true
      · rw [if_pos q]
        refine he x a H3 _ r hm q (k.trans k3) fun H4 k4 => ⟨_, k4 _ _ (k3 _ _ hd), ?_, ?_, ?_⟩
        · have h1 : (((as.take i).filter c).map f).length ≤ i := by
            rw [List.length_map]
            refine Nat.le_trans (List.length_filter_le _ _) ?_
            rw [List.length_take]
            omega
          omega
        · exact ((k.trans k3).trans k4).at_ hD
        · rw [upd_same, filt_succ as c f ha, if_pos q]
      · rw [if_neg q]
        refine ⟨k.trans k3, ?_⟩
        rw [filt_succ as c f ha, if_neg q, List.append_nil]
        exact k3 _ _ hd
  · obtain ⟨k, hd⟩ := p
    rw [Paired.length pr, List.take_length] at hd
    exact hq D H k hD hd
theorem wipe1 {σ : St} {j : Nat} (x : V) : ((wipe σ [j]).set j (some x)).set j none = wipe σ [j] := by
  show (((σ.set j none).set j (some x)).set j none) = σ.set j none
  rw [List.set_set, List.set_set]
section
variable {K : PySem.W.Frag} {j : Nat} {tt : TT} {te : TE} {σ : St} {H1 : Hp} {Q : VK} {α : Type} {R : V → α → Prop} {vs : List V} {as : List α} {a : Addr}
/-- the rest of a comprehension's reading, once what it walks is there -/
def LcK (J : It) (j : Nat) (tt : TT) (te : TE) (σ : St) (Q : VK) (H1 : Hp) : Prop := ∀ D, H1 D = none → ∃ W : Nat → Nat → Hp → Prop, (∃ m, W 0 m (upd H1 D (.lst []))) ∧ ∀ i m H, W i m H →
  (J.stop i H ∧ Q (.ref D) H) ∨ (J.go i H ∧ ∃ Nx : Hp → Prop, (∀ H', Nx H' → ∃ m', m' < m ∧ W (i + 1) m' H') ∧ ∀ x H', J.yld i H x H' → gName j x (wipe σ [j]) H' fun σ2 H2 => wipe σ2 [j] = wipe σ [j] ∧ tt σ2 H2 fun b H3 =>
    if b = true then te σ2 H3 fun y H4 => ∃ acc, H4 D = some (.lst acc) ∧ acc.length < sizeLine ∧ Nx (upd H4 D (.lst (acc ++ [y]))) else Nx H3)
/-- what its element and its test answer: c a, f a, while all stays -/
structure Els (R : V → α → Prop) (as : List α) (c : α → Bool) (f : α → V) (j : Nat) (tt : TT) (te : TE) (σ : St) (H1 : Hp) : Prop where
  ht : ∀ x a H (Kt : Bool → Hp → Prop), R x a → a ∈ as → Keep H1 H → (∀ H3, Keep H H3 → Kt (c a) H3) → tt ((wipe σ [j]).set j (some x)) H Kt
  he : ∀ x a H (Ke : VK), R x a → a ∈ as → c a = true → Keep H1 H → (∀ H4, Keep H H4 → Ke (f a) H4) → te ((wipe σ [j]).set j (some x)) H Ke
theorem rd_lcL {tl : TE} {H : Hp} (q : tl σ H fun x H1 => ∃ a, x = .ref a ∧ (∃ xs, SqL K H1 a xs) ∧ LcK (Itl K a) j tt te σ Q H1) : tLc (iList K tl) (gName j) tt te [j] σ H Q := q
theorem rd_lcT {tl : TE} {H : Hp} (q : tl σ H fun x H1 => ∃ a, x = .ref a ∧ (∃ xs, SqT K H1 a xs) ∧ LcK (Itt K a) j tt te σ Q H1) : tLc (iTup K tl) (gName j) tt te [j] σ H Q := q
theorem rd_lcS {tl : TE} {H : Hp} (q : tl σ H fun v H1 => ∃ x, v = .str x ∧ LcK (Its x) j tt te σ Q H1) : tLc (iStr tl) (gName j) tt te [j] σ H Q := q
theorem rd_lcR {ta : TA} {H : Hp} (q : ta σ H fun vs H1 => ∃ i : Int, vs = [.int i] ∧ -(2 ^ 62) ≤ i ∧ i < 2 ^ 62 ∧ LcK (Itr 0 i.toNat) j tt te σ Q H1) : tLc (iRng1 ta) (gName j) tt te [j] σ H Q := q
theorem rd_lcQ {tl : TE} {H : Hp} (q : tl σ H fun x H1 => ∃ a, x = .ref a ∧ (((∃ xs, SqL K H1 a xs) ∧ LcK (Itl K a) j tt te σ Q H1) ∨ ((∃ xs, SqT K H1 a xs) ∧ LcK (Itt K a) j tt te σ Q H1))) : tLc (iSeq K tl) (gName j) tt te [j] σ H Q := q
theorem lcK {J : It} {G : Hp → Prop} (pr : Paired R vs as) (w : Walk J vs.length G (YAt vs)) (hG : ∀ H', Keep H1 H' → G H') (hn : vs.length ≤ sizeLine) (c : α → Bool) (f : α → V) (e : Els R as c f j tt te σ H1)
    (q : ∀ D H', Keep H1 H' → H1 D = none → H' D = some (.lst ((as.filter c).map f)) → Q (.ref D) H') : LcK J j tt te σ Q H1 := fun D hD => lcP pr w hG c f hn wipe1 e.ht e.he q D hD
theorem fin_L (hq : SqL K H1 a vs) (pr : Paired R vs as) (hn : vs.length ≤ sizeLine) (c : α → Bool) (f : α → V) (e : Els R as c f j tt te σ H1) (q : ∀ D H', Keep H1 H' → H1 D = none → H' D = some (.lst ((as.filter c).map f)) → Q (.ref D) H') :
    ∃ a', V.ref a = .ref a' ∧ (∃ xs, SqL K H1 a' xs) ∧ LcK (Itl K a') j tt te σ Q H1 := ⟨a, rfl, ⟨vs, hq⟩, lcK pr walk_list (fun H' k => k.sqL hq) hn c f e q⟩
theorem fin_T (hq : SqT K H1 a vs) (pr : Paired R vs as) (hn : vs.length ≤ sizeLine) (c : α → Bool) (f : α → V) (e : Els R as c f j tt te σ H1) (q : ∀ D H', Keep H1 H' → H1 D = none → H' D = some (.lst ((as.filter c).map f)) → Q (.ref D) H') :
    ∃ a', V.ref a = .ref a' ∧ (∃ xs, SqT K H1 a' xs) ∧ LcK (Itt K a') j tt te σ Q H1 := ⟨a, rfl, ⟨vs, hq⟩, lcK pr walk_tup (fun H' k => k.sqT hq) hn c f e q⟩
theorem walk_sings {z : Str} : Walk (Its z) ((z.cps.toList.map fun c => V.str ⟨#[c]⟩).length) (fun _ => True) (YAt (z.cps.toList.map fun c => V.str ⟨#[c]⟩)) := by
  have w := walk_str (z := z)
  have e : (z.cps.toList.map fun c => V.str ⟨#[c]⟩).length = z.cps.size := by simp
  rw [e]
  exact w.mono (fun _ _ => trivial) fun i H x H' _ _ y => by
    obtain ⟨h1, c, h2, h3⟩ := y
    refine ⟨h1, ?_⟩
    rw [List.getElem?_map, Array.getElem?_toList, h2, h3]
    rfl
/-- over a text: its signs by their codes -/
theorem fin_S {z : Str} (hn : z.length ≤ sizeLine) (c : Nat → Bool) (f : Nat → V) (e : Els (fun x c => x = V.str ⟨#[c]⟩) z.cps.toList c f j tt te σ H1) (q : ∀ D H', Keep H1 H' → H1 D = none → H' D = some (.lst ((z.cps.toList.filter c).map f)) → Q (.ref D) H') :
    ∃ x, V.str z = .str x ∧ LcK (Its x) j tt te σ Q H1 := ⟨z, rfl, lcK (paired_map _ _) walk_sings (fun _ _ => trivial) (by
    have h : z.cps.size ≤ sizeLine := hn
    simpa using h) c f e q⟩
theorem walk_rng {n : Nat} : Walk (Itr 0 n) (((List.range n).map fun i => V.int (i : Nat)).length) (fun _ => True) (YAt ((List.range n).map fun i => V.int (i : Nat))) := by
  have e : ((List.range n).map fun i => V.int (i : Nat)).length = n := by simp
  rw [e]
  exact (walk_range (lo := 0) (n := n)).mono (fun _ _ => trivial) fun i H x H' hi _ y => by
    obtain ⟨h1, h2⟩ := y
    refine ⟨h1, ?_⟩
    rw [List.getElem?_map, List.getElem?_range hi, h2]
    simp
/-- over range(i) -/
theorem fin_R {i : Int} (h0 : 0 ≤ i) (hi : i ≤ 1000000) (c : Nat → Bool) (f : Nat → V) (e : Els (fun x k => x = V.int (k : Nat)) (List.range i.toNat) c f j tt te σ H1) (q : ∀ D H', Keep H1 H' → H1 D = none → H' D = some (.lst (((List.range i.toNat).filter c).map f)) → Q (.ref D) H') :
    ∃ i' : Int, [V.int i] = [.int i'] ∧ -(2 ^ 62) ≤ i' ∧ i' < 2 ^ 62 ∧ LcK (Itr 0 i'.toNat) j tt te σ Q H1 :=
  ⟨i, rfl, by omega, by omega, lcK (paired_map _ _) walk_rng (fun _ _ => trivial) (by
    have h : sizeLine = 16777216 := by decide
    simp only [List.length_map, List.length_range]
    omega) c f e q⟩
/-- over a list or a tuple -/
theorem fin_Q (hq : SqL K H1 a vs ∨ SqT K H1 a vs) (pr : Paired R vs as) (hn : vs.length ≤ sizeLine) (c : α → Bool) (f : α → V) (e : Els R as c f j tt te σ H1) (q : ∀ D H', Keep H1 H' → H1 D = none → H' D = some (.lst ((as.filter c).map f)) → Q (.ref D) H') :
    ∃ a', V.ref a = .ref a' ∧ (((∃ xs, SqL K H1 a' xs) ∧ LcK (Itl K a') j tt te σ Q H1) ∨ ((∃ xs, SqT K H1 a' xs) ∧ LcK (Itt K a') j tt te σ Q H1)) := by
  refine ⟨a, rfl, ?_⟩
  rcases hq with hq | hq
  · exact .inl ⟨⟨vs, hq⟩, lcK pr walk_list (fun H' k => k.sqL hq) hn c f e q⟩
  · exact .inr ⟨⟨vs, hq⟩, lcK pr walk_tup (fun H' k => k.sqT hq) hn c f e q⟩
end
/-- no test -/
theorem Els.all {α : Type} {R : V → α → Prop} {as : List α} {f : α → V} {j : Nat} {te : TE} {σ : St} {H1 : Hp}
    (he : ∀ x a H (Ke : VK), R x a → a ∈ as → Keep H1 H → (∀ H4, Keep H H4 → Ke (f a) H4) → te ((wipe σ [j]).set j (some x)) H Ke) : Els R as (fun _ => true) f j tYes te σ H1 :=
  ⟨fun _ _ H _ _ _ _ q => q H (.refl H), fun x a H Ke r m _ k q => he x a H Ke r m k q⟩
theorem filt_all {α : Type} (as : List α) : as.filter (fun _ => true) = as := by simp

/-! ### types, deep equality -/
theorem ty_tup {K : PySem.W.Frag} {H : Hp} {a : Addr} {xs : List V} (h : SqT K H a xs) : TyX K H (.ref a) (.type "tuple") := by
  rcases h with (h | ⟨o, h⟩) | ⟨o, its, n, h, hc, _⟩
  · exact .base (.tup h)
  · exact .fTuple h
  · exact .kTuple h hc
theorem dp_strs {K : PySem.W.Frag} {H : Hp} {a : Addr} (zs : List Str) (h : SqL K H a (zs.map V.str)) : True := trivial
end Cp
set_option maxHeartbeats 4000000
/-! Plain laws: lists of texts, marks, numbers. -/
namespace Cp
open PySem L2 LamX
open NumText (digitsVal AllDigits)
open PyProof.Rows (sortedS risingS)
open PySem.Spec (ltCps)

/-! ### deep equality of flat lists -/
theorem eqv_strs : ∀ xs ys : List Str, PyData.eqvAll (xs.map .str) (ys.map .str) = decide (xs = ys)
  | [], [] => by simp [PyData.eqvAll]
  | [], _ :: _ => by simp [PyData.eqvAll]
  | _ :: _, [] => by simp [PyData.eqvAll]
  | x :: xs, y :: ys => by
    rw [List.map_cons, List.map_cons]
    simp only [PyData.eqvAll, PyData.eqv, eqv_strs xs ys, List.cons.injEq, Bool.decide_and]
    rfl
theorem eqv_nil : ∀ xs : List PyData, PyData.eqvAll xs [] = xs.isEmpty
  | [] => by simp [PyData.eqvAll]
  | _ :: _ => by simp [PyData.eqvAll]
theorem asc_ok {z : Str} (h : Asc z) : PyData.strOk z = true := by
  unfold PyData.strOk
  rw [Array.all_eq_true]
  intro i hi
  have q := h z.cps[i] (by simp)
  simp only [decide_eq_true_eq]
  omega
theorem lay_strs : ∀ {xs : List Str}, (∀ x ∈ xs, Asc x) → PyData.canLayAll0 (xs.map .str) = true
  | [], _ => by simp [PyData.canLayAll0]
  | x :: r, h => by
    rw [List.map_cons]
    simp only [PyData.canLayAll0, PyData.canLay0, asc_ok (h x List.mem_cons_self), lay_strs fun y hy => h y (List.mem_cons_of_mem _ hy), Bool.and_self]
theorem lay_ints : ∀ {xs : List Int}, PyData.canLayAll0 (xs.map .int) = true
  | [] => by simp [PyData.canLayAll0]
  | x :: r => by
    rw [List.map_cons]
    simp only [PyData.canLayAll0, PyData.canLay0, lay_ints, Bool.and_self]
theorem dep_strs : ∀ {xs : List Str}, PyData.depthAll (xs.map .str) = 0
  | [] => by simp [PyData.depthAll]
  | x :: r => by
    rw [List.map_cons]
    simp only [PyData.depthAll, PyData.depth, dep_strs, Nat.max_self]
theorem dep_ints : ∀ {xs : List Int}, PyData.depthAll (xs.map .int) = 0
  | [] => by simp [PyData.depthAll]
  | x :: r => by
    rw [List.map_cons]
    simp only [PyData.depthAll, PyData.depth, dep_ints, Nat.max_self]
theorem sh_strs {xs : List Str} (h : ∀ x ∈ xs, Asc x) : SeqAt.shaped (.list (xs.map .str)) = true := by
  simp [SeqAt.shaped, PyData.canLay0, lay_strs h, PyData.depth, dep_strs]
theorem sh_strsT {xs : List Str} (h : ∀ x ∈ xs, Asc x) : SeqAt.shaped (.tuple (xs.map .str)) = true := by
  simp [SeqAt.shaped, PyData.canLay0, lay_strs h, PyData.depth, dep_strs]
theorem sh_ints {xs : List Int} : SeqAt.shaped (.list (xs.map .int)) = true := by
  simp [SeqAt.shaped, PyData.canLay0, lay_ints, PyData.depth, dep_ints]
theorem sh_nil : SeqAt.shaped (.list []) = true := by decide +kernel
theorem sh_nilT : SeqAt.shaped (.tuple []) = true := by decide +kernel
section
variable {K : PySem.W.Frag} {H : Hp}
theorem dpa_strs : ∀ xs : List Str, DpAll K H (xs.map V.str) (xs.map .str)
  | [] => .nil
  | x :: r => .cons (.str x) (dpa_strs r)
theorem dpa_ints : ∀ xs : List Int, DpAll K H (xs.map V.int) (xs.map .int)
  | [] => .nil
  | x :: r => .cons (.int x) (dpa_ints r)
variable {Q : VK} {a b : Addr}
theorem rd_eqSS {xs ys : List Str} (h1 : SqL K H a (xs.map V.str)) (h2 : SqL K H b (ys.map V.str)) (a1 : ∀ x ∈ xs, Asc x) (a2 : ∀ x ∈ ys, Asc x) (q : Q (.bl (decide (xs = ys))) H) : rEqD K (.ref a) (.ref b) H Q :=
  ⟨_, _, .lst h1 (dpa_strs xs), .lst h2 (dpa_strs ys), sh_strs a1, sh_strs a2, by
    have e : PyData.eqv (.list (xs.map .str)) (.list (ys.map .str)) = decide (xs = ys) := by simp only [PyData.eqv, eqv_strs]
    rw [e]
    exact q⟩
theorem rd_neS0 {xs : List Str} (h1 : SqL K H a (xs.map V.str)) (h2 : SqL K H b []) (a1 : ∀ x ∈ xs, Asc x) (q : Q (.bl (!xs.isEmpty)) H) : rNeD K (.ref a) (.ref b) H Q :=
  ⟨_, _, .lst h1 (dpa_strs xs), .lst h2 .nil, sh_strs a1, sh_nil, by
    have e : PyData.eqv (.list (xs.map .str)) (.list []) = xs.isEmpty := by simp only [PyData.eqv, eqv_nil, List.isEmpty_map]
    rw [e]
    exact q⟩
theorem rd_eqS0 {xs : List Str} (h1 : SqL K H a (xs.map V.str)) (h2 : SqL K H b []) (a1 : ∀ x ∈ xs, Asc x) (q : Q (.bl xs.isEmpty) H) : rEqD K (.ref a) (.ref b) H Q :=
  ⟨_, _, .lst h1 (dpa_strs xs), .lst h2 .nil, sh_strs a1, sh_nil, by
    have e : PyData.eqv (.list (xs.map .str)) (.list []) = xs.isEmpty := by simp only [PyData.eqv, eqv_nil, List.isEmpty_map]
    rw [e]
    exact q⟩
theorem rd_neI0 {xs : List Int} (h1 : SqL K H a (xs.map V.int)) (h2 : SqL K H b []) (q : Q (.bl (!xs.isEmpty)) H) : rNeD K (.ref a) (.ref b) H Q :=
  ⟨_, _, .lst h1 (dpa_ints xs), .lst h2 .nil, sh_ints, sh_nil, by
    have e : PyData.eqv (.list (xs.map .int)) (.list []) = xs.isEmpty := by simp only [PyData.eqv, eqv_nil, List.isEmpty_map]
    rw [e]
    exact q⟩
theorem rd_eqT0 {xs : List Str} (h1 : SqT K H a (xs.map V.str)) (h2 : SqT K H b []) (a1 : ∀ x ∈ xs, Asc x) (q : Q (.bl xs.isEmpty) H) : rEqD K (.ref a) (.ref b) H Q :=
  ⟨_, _, .tup h1 (dpa_strs xs), .tup h2 .nil, sh_strsT a1, sh_nilT, by
    have e : PyData.eqv (.tuple (xs.map .str)) (.tuple []) = xs.isEmpty := by simp only [PyData.eqv, eqv_nil, List.isEmpty_map]
    rw [e]
    exact q⟩
theorem rd_neT0 {xs : List Str} (h1 : SqT K H a (xs.map V.str)) (h2 : SqT K H b []) (a1 : ∀ x ∈ xs, Asc x) (q : Q (.bl (!xs.isEmpty)) H) : rNeD K (.ref a) (.ref b) H Q :=
  ⟨_, _, .tup h1 (dpa_strs xs), .tup h2 .nil, sh_strsT a1, sh_nilT, by
    have e : PyData.eqv (.tuple (xs.map .str)) (.tuple []) = xs.isEmpty := by simp only [PyData.eqv, eqv_nil, List.isEmpty_map]
    rw [e]
    exact q⟩
end

/-! ### marks -/
theorem sinc_ext : ∀ {l m : List Nat}, l.Pairwise (· < ·) → m.Pairwise (· < ·) → (∀ x, x ∈ l ↔ x ∈ m) → l = m
  | [], [], _, _, _ => rfl
  | [], y :: m, _, _, h => absurd ((h y).mpr List.mem_cons_self) (by simp)
  | x :: l, [], _, _, h => absurd ((h x).mp List.mem_cons_self) (by simp)
  | x :: l, y :: m, p, q, h => by
    obtain ⟨p1, p2⟩ := List.pairwise_cons.mp p
    obtain ⟨q1, q2⟩ := List.pairwise_cons.mp q
    have e : x = y := by
      rcases List.mem_cons.mp ((h x).mp List.mem_cons_self) with e | e
      · exact e
      · rcases List.mem_cons.mp ((h y).mpr List.mem_cons_self) with e2 | e2
        · exact e2.symm
        · have a := q1 x e
          have b := p1 y e2
          omega
    subst e
    rw [sinc_ext p2 q2 fun z => ?_]
    constructor
    · intro hz
      rcases List.mem_cons.mp ((h z).mp (List.mem_cons_of_mem _ hz)) with e | e
      · have a := p1 z hz
        omega
      · exact e
    · intro hz
      rcases List.mem_cons.mp ((h z).mpr (List.mem_cons_of_mem _ hz)) with e | e
      · have a := q1 z hz
        omega
      · exact e
def wl (cs : List Nat) : List Nat := ((List.range 26).map (97 + ·)).filter fun c => decide (c ∈ cs)
theorem word_wl (cs : List Nat) : word cs = ⟨(wl cs).toArray⟩ := rfl
theorem wl_inc (cs : List Nat) : (wl cs).Pairwise (· < ·) := by
  unfold wl
  refine List.Pairwise.filter _ ?_
  rw [List.pairwise_map]
  exact List.Pairwise.imp (fun h => by omega) List.pairwise_lt_range
theorem lows_cps : lows.cps.toList = (List.range 26).map (97 + ·) := by decide +kernel
theorem wl_mem {cs : List Nat} {c : Nat} : c ∈ wl cs ↔ c ∈ lows.cps.toList ∧ c ∈ cs := by
  unfold wl
  rw [List.mem_filter, ← lows_cps]
  simp
theorem wl_low {cs : List Nat} (h : cs.all (fun c => decide (c ∈ lows.cps.toList)) = true) {c : Nat} : c ∈ wl cs ↔ c ∈ cs := by
  rw [wl_mem]
  exact ⟨fun q => q.2, fun q => ⟨of_decide_eq_true (List.all_eq_true.mp h c q), q⟩⟩
theorem low_asc {z : Str} (h : allOf lows z = true) : Asc z := fun c hc => by
  have q := of_decide_eq_true (List.all_eq_true.mp h c hc)
  rw [lows_cps, List.mem_map] at q
  obtain ⟨k, hk, rfl⟩ := q
  have := List.mem_range.mp hk
  omega
def sg (c : Nat) : Str := ⟨#[c]⟩
theorem sg_inj {c d : Nat} (h : sg c = sg d) : c = d := by
  have e : (#[c] : Array Nat) = #[d] := congrArg Str.cps h
  simpa using e
theorem sings_eq (z : Str) : sings z = z.cps.toList.map sg := rfl
theorem rising_chain : ∀ (ds : List Nat) (p : Nat), risingS (sg p) (ds.map sg) = true → (p :: ds).Nodup → (p :: ds).Pairwise (· < ·)
  | [], p, _, _ => by simp
  | d :: r, p, h, nd => by
    have h1 : (!ltCps (sg d).cps.toList (sg p).cps.toList && risingS (sg d) (r.map sg)) = true := h
    obtain ⟨a, b⟩ := Bool.and_eq_true_iff.mp h1
    obtain ⟨n1, n2⟩ := List.nodup_cons.mp nd
    have ih := rising_chain r d b n2
    have hpd : p < d := by
      have e : ltCps [d] [p] = (decide (d < p) || (d == p && ltCps [] [])) := rfl
      have a' : ltCps [d] [p] = false := by simpa [sg] using a
      rw [e] at a'
      have hne : p ≠ d := fun z => n1 (z ▸ List.mem_cons_self)
      simp at a'
      omega
    refine List.pairwise_cons.mpr ⟨fun x hx => ?_, ih⟩
    rcases List.mem_cons.mp hx with e | e
    · omega
    · have := (List.pairwise_cons.mp ih).1 x e
      omega
theorem nodup_of_map {α β : Type} {f : α → β} : ∀ {l : List α}, (l.map f).Nodup → l.Nodup
  | [], _ => List.nodup_nil
  | x :: r, h => by
    rw [List.map_cons, List.nodup_cons] at h
    exact List.nodup_cons.mpr ⟨fun q => h.1 (List.mem_map.mpr ⟨x, q, rfl⟩), nodup_of_map h.2⟩
theorem ins_nodup {l : List Str} {k : Str} (h : l.Nodup) : (ins l k).Nodup := by
  unfold ins
  split
  · exact h
  · rename_i q
    exact List.nodup_cons.mpr ⟨q, h⟩
theorem fold_nodup (xs : List Str) : ∀ {l : List Str}, l.Nodup → (xs.foldl ins l).Nodup := by
  induction xs with
  | nil => exact fun h => h
  | cons x r ih => exact fun h => ih (ins_nodup h)
theorem allIn_nodup (xs : List Str) : (allIn xs).Nodup := fold_nodup xs List.nodup_nil
theorem sorted_set_eq {z : Str} (h : allOf lows z = true) {ys : List Str} (p : ys.Perm (allIn (sings z))) (s : sortedS ys = true) : ys = (wl z.cps.toList).map sg := by
  obtain ⟨ds, e⟩ : ∃ ds : List Nat, ys = ds.map sg := by
    have key : ∀ l : List Str, (∀ y ∈ l, ∃ c, y = sg c) → ∃ ds : List Nat, l = ds.map sg := by
      intro l
      induction l with
      | nil => exact fun _ => ⟨[], rfl⟩
      | cons y r ih =>
        intro q
        obtain ⟨c, e⟩ := q y List.mem_cons_self
        obtain ⟨ds, e2⟩ := ih fun x hx => q x (List.mem_cons_of_mem _ hx)
        exact ⟨c :: ds, by rw [List.map_cons, ← e, ← e2]⟩
    refine key ys fun y hy => ?_
    have q := allIn_mem.mp (p.mem_iff.mp hy)
    rw [sings_eq, List.mem_map] at q
    obtain ⟨c, _, e⟩ := q
    exact ⟨c, e.symm⟩
  subst e
  have nd : ds.Nodup := nodup_of_map (p.nodup_iff.mpr (allIn_nodup _))
  have inc : ds.Pairwise (· < ·) := by
    cases ds with
    | nil => exact List.Pairwise.nil
    | cons d r => exact rising_chain r d s nd
  rw [sinc_ext inc (wl_inc _) fun c => ?_]
  rw [wl_low h]
  constructor
  · intro hc
    have q := allIn_mem.mp (p.mem_iff.mp (List.mem_map.mpr ⟨c, hc, rfl⟩))
    rw [sings_eq, List.mem_map] at q
    obtain ⟨c', h1, h2⟩ := q
    exact sg_inj h2 ▸ h1
  · intro hc
    have q := p.mem_iff.mpr (allIn_mem.mpr (show sg c ∈ sings z from by rw [sings_eq]; exact List.mem_map.mpr ⟨c, hc, rfl⟩))
    rw [List.mem_map] at q
    obtain ⟨c', h1, h2⟩ := q
    exact sg_inj h2 ▸ h1
theorem map_sg_inj : ∀ {l m : List Nat}, l.map sg = m.map sg → l = m
  | [], [], _ => rfl
  | [], _ :: _, h => by simp at h
  | _ :: _, [], h => by simp at h
  | x :: l, y :: m, h => by
    rw [List.map_cons, List.map_cons, List.cons.injEq] at h
    rw [sg_inj h.1, map_sg_inj h.2]
/-- list(z) == sorted(set(z)) says that z is its own mark -/
theorem mark_eq {z : Str} (h : allOf lows z = true) {ys : List Str} (p : ys.Perm (allIn (sings z))) (s : sortedS ys = true) : decide (sings z = ys) = markOk z := by
  unfold markOk
  rw [sorted_set_eq h p s, decide_eq_decide, sings_eq]
  constructor
  · intro e
    have e2 := map_sg_inj e
    rw [word_wl, ← e2]
  · intro e
    have e2 : (wl z.cps.toList) = z.cps.toList := by
      have e3 := congrArg (fun y : Str => y.cps.toList) e
      simpa [word_wl] using e3
    rw [e2]
theorem mark_low {z : Str} (h : markOk z = true) : allOf lows z = true := by
  have e := of_decide_eq_true h
  refine List.all_eq_true.mpr fun c hc => ?_
  rw [← e, word_wl] at hc
  exact decide_eq_true (wl_mem.mp (by simpa using hc)).1
theorem len_sub : ∀ {l m : List Nat}, l.Nodup → (∀ x ∈ l, x ∈ m) → l.length ≤ m.length
  | [], _, _, _ => Nat.zero_le _
  | x :: l, m, nd, h => by
    obtain ⟨n1, n2⟩ := List.nodup_cons.mp nd
    have hx : x ∈ m := h x List.mem_cons_self
    have ih : l.length ≤ (m.erase x).length := len_sub n2 fun y hy => (List.mem_erase_of_ne (fun e : y = x => n1 (e ▸ hy))).mpr (h y (List.mem_cons_of_mem _ hy))
    rw [List.length_erase_of_mem hx] at ih
    have hp : 0 < m.length := List.length_pos_of_mem hx
    show l.length + 1 ≤ _
    omega
theorem low_set {z : Str} (h : allOf lows z = true) : (allIn (sings z)).length ≤ 26 := by
  have key : ∀ l : List Str, (∀ y ∈ l, ∃ c ∈ lows.cps.toList, y = sg c) → l.Nodup → l.length ≤ 26 := by
    intro l hl nd
    obtain ⟨ds, e, hd⟩ : ∃ ds : List Nat, l = ds.map sg ∧ ∀ c ∈ ds, c ∈ lows.cps.toList := by
      clear nd
      induction l with
      | nil => exact ⟨[], rfl, by simp⟩
      | cons y r ih =>
        obtain ⟨c, hc, e⟩ := hl y List.mem_cons_self
        obtain ⟨ds, e2, h2⟩ := ih fun x hx => hl x (List.mem_cons_of_mem _ hx)
        refine ⟨c :: ds, by rw [List.map_cons, ← e, ← e2], fun x hx => ?_⟩
        rcases List.mem_cons.mp hx with q | q
        · rw [q]; exact hc
        · exact h2 x q
    rw [e] at nd ⊢
    rw [List.length_map]
    have := len_sub (nodup_of_map nd) hd
    rw [lows_cps] at this
    simpa using this
  refine key _ (fun y hy => ?_) (allIn_nodup _)
  have q := allIn_mem.mp hy
  rw [sings_eq, List.mem_map] at q
  obtain ⟨c, hc, e⟩ := q
  exact ⟨c, of_decide_eq_true (List.all_eq_true.mp h c hc), e.symm⟩
theorem allIn_len (bs : List Str) : ((allIn bs).length = bs.length) ↔ bs.Nodup := by
  have key : ∀ (xs l : List Str), l.Nodup → (xs.foldl ins l).length ≤ l.length + xs.length ∧ ((xs.foldl ins l).length = l.length + xs.length ↔ xs.Nodup ∧ ∀ x ∈ xs, x ∉ l) := by
    intro xs
    induction xs with
    | nil => exact fun l _ => ⟨by simp, by simp⟩
    | cons x r ih =>
      intro l nd
      obtain ⟨h1, h2⟩ := ih (ins l x) (ins_nodup nd)
      rw [List.foldl_cons]
      by_cases hx : x ∈ l
      · have e : ins l x = l := by unfold ins; rw [if_pos hx]
        rw [e] at h1 h2 ⊢
        refine ⟨by rw [List.length_cons]; omega, ?_⟩
        constructor
        · intro q
          rw [List.length_cons] at q
          omega
        · intro q
          exact absurd hx (q.2 x List.mem_cons_self)
      · have e : ins l x = x :: l := by unfold ins; rw [if_neg hx]
        rw [e] at h1 h2 ⊢
        rw [List.length_cons] at h1 h2
        refine ⟨by rw [List.length_cons]; omega, ?_⟩
        rw [List.length_cons]
        have e3 : ((r.foldl ins (x :: l)).length = l.length + (r.length + 1)) ↔ ((r.foldl ins (x :: l)).length = l.length + 1 + r.length) := by omega
        rw [e3, h2, List.nodup_cons]
        constructor
        · intro ⟨q1, q2⟩
          refine ⟨⟨fun z => q2 x z List.mem_cons_self, q1⟩, fun y hy => ?_⟩
          rcases List.mem_cons.mp hy with z | z
          · rw [z]; exact hx
          · exact fun q => q2 y z (List.mem_cons_of_mem _ q)
        · intro ⟨⟨q1, q2⟩, q3⟩
          refine ⟨q2, fun y hy => ?_⟩
          intro z
          rcases List.mem_cons.mp z with z | z
          · exact q1 (z ▸ hy)
          · exact q3 y (List.mem_cons_of_mem _ hy) z
  have q := (key bs [] List.nodup_nil).2
  simp only [List.length_nil, Nat.zero_add] at q
  unfold allIn
  rw [q]
  simp
theorem allIn_le (bs : List Str) : (allIn bs).length ≤ bs.length := by
  have key : ∀ (xs l : List Str), (xs.foldl ins l).length ≤ l.length + xs.length := by
    intro xs
    induction xs with
    | nil => exact fun l => by simp
    | cons x r ih =>
      intro l
      rw [List.foldl_cons]
      have h := ih (ins l x)
      have h2 : (ins l x).length ≤ l.length + 1 := by
        unfold ins
        split
        · omega
        · exact Nat.le_refl _
      rw [List.length_cons]
      omega
  simpa [allIn] using key bs []

/-! ### numbers -/
theorem figs_cps : figs.cps.toList = (List.range 10).map (48 + ·) := by decide +kernel
theorem fig_digits {z : Str} (h : allOf figs z = true) : AllDigits z.cps.toList := fun c hc => by
  have q := of_decide_eq_true (List.all_eq_true.mp h c hc)
  rw [figs_cps, List.mem_map] at q
  obtain ⟨k, hk, rfl⟩ := q
  have := List.mem_range.mp hk
  omega
theorem numb_text {z : Str} (h : allOf figs z = true) (h1 : 1 ≤ z.length) (h2 : z.length ≤ 6) : intText? z = some ((digitsVal z.cps.toList : Nat) : Int) := by
  refine PySem.intText_digits (fig_digits h) (fun e => ?_) (by omega)
  have q : z.cps.toList.length = z.length := Array.length_toList
  rw [e] at q
  simp at q
  omega
theorem digits_lt : ∀ (cs : List Nat), AllDigits cs → digitsVal cs < 10 ^ cs.length := by
  have key : ∀ (cs : List Nat) (a : Nat), AllDigits cs → cs.foldl (fun acc c => acc * 10 + (c - 48)) a < (a + 1) * 10 ^ cs.length := by
    intro cs
    induction cs with
    | nil => exact fun a _ => by simp
    | cons c r ih =>
      intro a h
      have hc := h c List.mem_cons_self
      have q := ih (a * 10 + (c - 48)) fun x hx => h x (List.mem_cons_of_mem _ hx)
      rw [List.foldl_cons, List.length_cons, Nat.pow_succ]
      refine Nat.lt_of_lt_of_le q ?_
      have e : (a + 1) * (10 ^ r.length * 10) = (a * 10 + 10) * 10 ^ r.length := by
        rw [Nat.mul_comm (10 ^ r.length) 10, ← Nat.mul_assoc]
        congr 1
        omega
      rw [e]
      exact Nat.mul_le_mul_right _ (by omega)
  intro cs h
  have q := key cs 0 h
  simpa [digitsVal] using q
theorem numb_range {z : Str} {n : Int} (h : numb z = some n) : 0 ≤ n ∧ n ≤ 999999 := by
  unfold numb at h
  split at h
  · rename_i c
    simp only [Bool.and_eq_true, decide_eq_true_eq] at c
    obtain ⟨⟨⟨h1, h2⟩, h3⟩, _⟩ := c
    have q := digits_lt _ (fig_digits h3)
    have e : z.cps.toList.length = z.length := Array.length_toList
    rw [e] at q
    have q2 : 10 ^ z.length ≤ 10 ^ 6 := Nat.pow_le_pow_right (by decide) h2
    have e2 := Option.some.inj h
    have q3 : (10 : Nat) ^ 6 = 1000000 := by decide
    omega
  · cases h

/-! ### items, slices, membership -/
theorem at_ws {ws : List Str} {i : Nat} (h : i < ws.length) : atI (ws.map V.str) (i : Int) = some (.str (at' ws i)) := by
  refine atI_nat ?_
  rw [List.getElem?_map, List.getElem?_eq_getElem h]
  show some (V.str ws[i]) = _
  rw [at', List.getD_eq_getElem?_getD, List.getElem?_eq_getElem h]
  rfl
theorem cut_from (xs : List V) (n : Nat) : cutV xs (some (n : Int)) none = xs.drop n := by
  have e1 : HT.sIx xs.length xs.length none = xs.length := by rfl
  have e2 : HT.sIx xs.length 0 (some (n : Int)) = min n xs.length := by
    simp only [HT.sIx]
    split <;> omega
  unfold cutV
  rw [e1, e2]
  by_cases h : n ≤ xs.length
  · rw [Nat.min_eq_left h]
    refine List.take_of_length_le ?_
    rw [List.length_drop]
    omega
  · rw [Nat.min_eq_right (by omega), List.drop_length, List.drop_of_length_le (by omega)]
    exact List.take_nil
theorem cut_to (xs : List V) (n : Nat) : cutV xs none (some (n : Int)) = xs.take n := by
  have e1 : HT.sIx xs.length 0 none = 0 := by rfl
  have e2 : HT.sIx xs.length xs.length (some (n : Int)) = min n xs.length := by
    simp only [HT.sIx]
    split <;> omega
  unfold cutV
  rw [e1, e2, List.drop_zero, Nat.sub_zero]
  by_cases h : n ≤ xs.length
  · rw [Nat.min_eq_left h]
  · rw [Nat.min_eq_right (by omega), List.take_length, List.take_of_length_le (by omega)]
theorem in_strs (x : Str) : ∀ xs : List Str, inV (.str x) (xs.map V.str) = decide (x ∈ xs)
  | [] => by simp [inV]
  | y :: r => by
    have ih := in_strs x r
    unfold inV at ih ⊢
    rw [List.map_cons, List.any_cons, ih]
    have e : eqV (.str y) (.str x) = decide (x = y) := by
      show (y == x) = _
      by_cases h : x = y
      · rw [h, decide_eq_true rfl]
        exact beq_self_eq_true y
      · rw [decide_eq_false h]
        exact beq_eq_false_iff_ne.mpr (Ne.symm h)
    rw [e]
    simp only [List.mem_cons, Bool.decide_or]
theorem flat_strs : ∀ xs : List Str, (xs.map V.str).all flatV = true
  | [] => rfl
  | _ :: r => by rw [List.map_cons, List.all_cons, flat_strs r]; rfl
theorem rd_inL {K : PySem.W.Frag} {H : Hp} {Q : VK} {p : Addr} {x : Str} {xs : List Str} (h : SqL K H p (xs.map V.str)) (q : Q (.bl (decide (x ∈ xs))) H) : rIn K false (.str x) (.ref p) H Q :=
  ⟨p, _, rfl, .inl h, rfl, flat_strs xs, by rw [in_strs]; exact q⟩
theorem rd_ninL {K : PySem.W.Frag} {H : Hp} {Q : VK} {p : Addr} {x : Str} {xs : List Str} (h : SqL K H p (xs.map V.str)) (q : Q (.bl (!decide (x ∈ xs))) H) : rIn K true (.str x) (.ref p) H Q :=
  ⟨p, _, rfl, .inl h, rfl, flat_strs xs, by rw [in_strs]; exact q⟩
theorem at_mem {ws : List Str} {i : Nat} (h : i < ws.length) : at' ws i ∈ ws := by
  rw [at', List.getD_eq_getElem?_getD, List.getElem?_eq_getElem h]
  exact List.getElem_mem h
theorem asc_by {z : Str} (h : (z.cps.toList.all fun c => decide (c < 128)) = true) : Asc z := fun c hc => of_decide_eq_true (List.all_eq_true.mp h c hc)
theorem fin_from {K : PySem.W.Frag} {H : Hp} {Q : VK} {σ : St} {l : Addr} {xs : List V} (n : Nat) (h : SqL K H l xs) (q : ∀ p, H p = none → Q (.ref p) (upd H p (.lst (xs.drop n)))) :
    tPart (tC (.int (n : Nat))) σ H fun lo H2 => tNoPart σ H2 fun u H3 => rSlL K (.ref l) lo u H3 Q := ⟨n, rfl, l, xs, rfl, h, fun p hp => by rw [cut_from]; exact q p hp⟩
end Cp
set_option maxHeartbeats 4000000
/-! The small readers of the package. -/
namespace Cp
open PySem L2 LamX
open NumText (digitsVal AllDigits)
theorem rd_bk {k : Bool} {Q : Bool → Prop} (q : Q k) : ∃ c, V.bl k = .bl c ∧ Q c := ⟨k, rfl, q⟩
local macro_rules | `(tactic| walk_at "rd") => `(tactic| repeat (first
  | with_reducible apply rd_seq | with_reducible apply rd_asg | with_reducible apply rd_gname | with_reducible apply rd_if | with_reducible apply rd_ret | with_reducible apply rd_drop | with_reducible apply rd_next
  | with_reducible apply rd_op | with_reducible apply rd_cb | with_reducible apply rd_cons | with_reducible apply rd_nil | with_reducible apply rd_c | with_reducible apply rd_tb | with_reducible apply rd_test | with_reducible apply rd_not
  | with_reducible apply rd_or | with_reducible apply rd_and | with_reducible apply rd_call | with_reducible apply rd_chain | with_reducible apply rd_andV | with_reducible apply rd_notV | with_reducible apply rd_ifx
  | with_reducible apply rd_gcons | with_reducible apply rd_gnil
  | ((with_reducible apply rd_var); exact rfl) | (with_reducible apply rd_bk)))
/-! ### isinstance -/
theorem rd_isi {K : PySem.W.Frag} {H : Hp} {Q : VK} {x : V} {n : String} {t : Value} {b : Bool} (ty : TyX K H x t) (e : PySem.W.kitOne K t (.type n) = some b) (q : Q (.bl b) H) : rIsi K [x, .ty n] H Q := ⟨x, _, t, _, b, rfl, .ty n, ty, e, q⟩
theorem isi_str {K : PySem.W.Frag} {H : Hp} {Q : VK} {z : Str} (q : Q (.bl true) H) : rIsi K [.str z, .ty "str"] H Q := rd_isi (.base (.str z)) (by rfl) q
theorem isi_tup {K : PySem.W.Frag} {H : Hp} {Q : VK} {a : Addr} {xs : List V} (h : SqT K H a xs) (q : Q (.bl true) H) : rIsi K [.ref a, .ty "tuple"] H Q := rd_isi (ty_tup h) (by rfl) q
theorem r_is_integer {P : Program} {w : World} {K : PySem.W.Frag} {vs : List V} {H : Hp} {Q : VK} {E : XK} (h : sp_is_integer K vs H Q E) : t_is_integer P w K { nx := fun _ H' => Q .non H', rt := Q } (L2.start N_is_integer vs) H := by
  obtain ⟨o, a, b, rfl, q⟩ := h
  unfold t_is_integer
  cases o with
  | none =>
    walk_at "rd"

    refine rd_isi (.base .non) (b := false) (by rfl) ?_
    exact ⟨false, rfl, iteF q⟩
  | some n =>
    walk_at "rd"
    refine rd_isi (.base (.int n)) (b := true) (by rfl) ?_
    refine ⟨true, rfl, iteT ?_⟩
    walk_at "rd"
    refine rd_isi (.base (.int n)) (b := false) (by rfl) ?_
    refine ⟨false, rfl, true, rfl, iteT ?_⟩
    walk_at "rd"
    refine rd_le ⟨_, rfl, ?_⟩
    have q' : Q (.bl (decide (a ≤ n) && decide (n ≤ b))) H := q
    by_cases h : a ≤ n
    · rw [decide_eq_true h] at q' ⊢
      refine iteT ?_
      walk_at "rd"
      exact rd_le q'
    · rw [decide_eq_false h] at q' ⊢
      exact iteF q'

/-! ### tests -/
theorem chain_le {σ : St} {H : Hp} {Q : VK} {a b c : Int} {tc : TE} (ht : ∀ P : VK, P (.int c) H → tc σ H P) (q : Q (.bl (decide (a ≤ b) && decide (b ≤ c))) H) :
    rLe (.int a) (.int b) H (fun z H3 => ∃ k, z = .bl k ∧ (if k = true then tc σ H3 (fun w' H4 => rLe (.int b) w' H4 Q) else Q (.bl false) H3)) := by
  refine rd_le ⟨_, rfl, ?_⟩
  by_cases h : a ≤ b
  · rw [decide_eq_true h] at q ⊢
    exact iteT (ht _ (rd_le q))
  · rw [decide_eq_false h] at q ⊢
    exact iteF q
theorem chain_lt {σ : St} {H : Hp} {Q : VK} {a b c : Int} {tc : TE} (ht : ∀ P : VK, P (.int c) H → tc σ H P) (q : Q (.bl (decide (a < b) && decide (b < c))) H) :
    rLt (.int a) (.int b) H (fun z H3 => ∃ k, z = .bl k ∧ (if k = true then tc σ H3 (fun w' H4 => rLt (.int b) w' H4 Q) else Q (.bl false) H3)) := by
  refine rd_lt ⟨_, rfl, ?_⟩
  by_cases h : a < b
  · rw [decide_eq_true h] at q ⊢
    exact iteT (ht _ (rd_lt q))
  · rw [decide_eq_false h] at q ⊢
    exact iteF q
theorem nt {b : Bool} (h : (!b) = true) : b = false := by
  cases b
  · rfl
  · cases h
theorem nf {b : Bool} (h : (!b) = false) : b = true := by
  cases b
  · cases h
  · rfl
/-- a test by its answer -/
theorem iteB {b : Bool} {A B : Prop} (h1 : b = true → A) (h2 : b = false → B) : if b = true then A else B := by
  cases b
  · exact iteF (h2 rfl)
  · exact iteT (h1 rfl)
theorem rd_all {K : PySem.W.Frag} {H : Hp} {Q : VK} {a : Addr} (bs : List Bool) (h : H a = some (.lst (bs.map V.bl))) (q : Q (.bl (bs.all id)) H) : rAll K [.ref a] H Q := ⟨a, bs, rfl, .inl (.inl h), q⟩
theorem all_map {α : Type} (f : α → Bool) (l : List α) : (l.map f).all id = l.all f := by
  rw [List.all_map]
  rfl
/-- all([sign in t for sign in z]) -/
theorem fin_all {K : PySem.W.Frag} {σ : St} {j : Nat} {t z : Str} {H1 : Hp} {Q : VK} (hz : z.length ≤ sizeLine) (hj : ∀ (σ' : St) (v : V) (P : VK) (H : Hp), P v H → tVar j ((wipe σ [j]).set j (some v)) H P)
    (q : ∀ H', Keep H1 H' → Q (.bl (allOf t z)) H') : ∃ x, V.str z = .str x ∧ LcK (Its x) j tYes (tOp rInS (tVar j) (tC (.str t))) σ (fun x H1 => tNil σ H1 fun xs H2 => rAll K (x :: xs) H2 Q) H1 :=
  fin_S hz (fun _ => true) (fun c => .bl (decide (c ∈ t.cps.toList))) (.all fun x c H Ke r _ _ q => by
      subst r
      refine rd_op ?_
      refine hj σ _ _ _ ?_
      exact rd_inS (q H (.refl H))) fun D H' k _ hD => by
    rw [filt_all] at hD
    refine rd_all (z.cps.toList.map fun c => decide (c ∈ t.cps.toList)) ?_ ?_
    · rw [List.map_map]
      exact hD
    · rw [all_map]
      exact q H' k
theorem var_set {σ : St} {j : Nat} (hj : j < σ.length) (σ' : St) (v : V) (P : VK) (H : Hp) (p : P v H) : tVar j ((wipe σ [j]).set j (some v)) H P := by
  refine rd_var ?_ p
  have e : (wipe σ [j]).length = σ.length := wipe_length σ [j]
  rw [List.getElem?_set_self (by rw [e]; exact hj)]
theorem r_is_name {P : Program} {w : World} {K : PySem.W.Frag} {vs : List V} {H : Hp} {Q : VK} {E : XK} (h : sp_is_name K vs H Q E) : t_is_name P w K { nx := fun _ H' => Q .non H', rt := Q } (L2.start N_is_name vs) H := by
  obtain ⟨z, rfl, hz, q⟩ := h
  unfold t_is_name
  walk_at "rd"
  refine isi_str ?_
  walk_at "rd"
  refine iteF ?_
  walk_at "rd"
  refine rd_lenS hz.le ?_
  refine chain_le (fun P p => p) ?_
  walk_at "rd"
  have e : nameOk z = (decide ((1 : Int) ≤ z.length) && decide ((z.length : Int) ≤ 8) && allOf lows z) := by
    unfold nameOk
    have h1 : decide ((1 : Int) ≤ z.length) = decide (1 ≤ z.length) := by simp only [decide_eq_decide]; omega
    have h2 : decide ((z.length : Int) ≤ 8) = decide (z.length ≤ 8) := by simp only [decide_eq_decide]; omega
    rw [h1, h2]
  refine iteB (fun h => ?_) (fun h => ?_)
  · walk_at "rd"
    rw [e, nt h] at q
    exact q H (.refl H)
  · walk_at "rd"
    refine rd_lcS ?_
    walk_at "rd"
    refine fin_all (t := lows) hz.le (var_set (show 1 < 2 by decide)) fun H' k => ?_
    rw [e, nf h] at q
    exact q H' k

theorem r_is_mark {P : Program} {w : World} {K : PySem.W.Frag} {vs : List V} {H : Hp} {Q : VK} {E : XK} (h : sp_is_mark K vs H Q E) : t_is_mark P w K { nx := fun _ H' => Q .non H', rt := Q } (L2.start N_is_mark vs) H := by
  obtain ⟨z, rfl, hz, q⟩ := h
  unfold t_is_mark
  walk_at "rd"
  refine isi_str ?_
  walk_at "rd"
  refine iteF ?_
  walk_at "rd"
  refine rd_lcS ?_
  walk_at "rd"
  refine fin_all (t := lows) hz.le (var_set (show 1 < 2 by decide)) fun H' k => ?_
  walk_at "rd"
  refine iteB (fun h => ?_) (fun h => ?_)
  · walk_at "rd"
    have e : markOk z = false := by
      cases hm : markOk z
      · rfl
      · have := mark_low hm
        rw [nt h] at this
        cases this
    rw [e] at q
    exact q H' k
  · have hl := nf h
    walk_at "rd"
    refine ⟨z, rfl, hz.le, fun l hn => ?_⟩
    walk_at "rd"
    refine ⟨z, rfl, by have := low_set hl; show _ < 4096; omega, fun p hp => ?_⟩
    refine ⟨p, _, rfl, upd_same, by have := low_set hl; omega, fun ys a py sy ha => ?_⟩
    have hp' : H' p = none := by
      rw [upd_ne (fun z => by rw [z, upd_same] at hp; cases hp)] at hp
      exact hp
    refine rd_eqSS (xs := sings z) (ys := ys) (.inl (.inl ?_)) (.inl (.inl upd_same)) (fun x hx => ?_) (fun x hx => ?_) ?_
    · rw [upd_ne (ne_of_none (b := a) (a := l) (by rw [upd_ne (ne_of_none upd_same hp)]; exact upd_same) ha), upd_ne (ne_of_none upd_same hp), upd_same]
    · rw [sings_eq, List.mem_map] at hx
      obtain ⟨c, hc, rfl⟩ := hx
      intro d hd
      have e : d = c := by simpa [sg] using hd
      rw [e]
      exact hz.2 c hc
    · have hx2 := allIn_mem.mp (py.mem_iff.mp hx)
      rw [sings_eq, List.mem_map] at hx2
      obtain ⟨c, hc, rfl⟩ := hx2
      intro d hd
      have e : d = c := by simpa [sg] using hd
      rw [e]
      exact hz.2 c hc
    · rw [mark_eq hl py sy]
      exact q _ (((k.tnew hn).tnew hp).tnew ha)
theorem rd_gtup {K : PySem.W.Frag} {n : Nat} {t : TGs} {a : Addr} {xs : List V} {σ : St} {H : Hp} {Q : St → Hp → Prop} (h : SqT K H a xs) (hl : xs.length = n) (q : t xs σ H Q) : gTup K n t (.ref a) σ H Q := ⟨a, xs, rfl, h, hl, q⟩
theorem r_are_bases {P : Program} {w : World} {K : PySem.W.Frag} {vs : List V} {H : Hp} {Q : VK} {E : XK} (h : sp_are_bases K vs H Q E) : t_are_bases P w K { nx := fun _ H' => Q .non H', rt := Q } (L2.start N_are_bases vs) H := by
  obtain ⟨a, bs, rfl, ha, hs, q⟩ := h
  have sq : SqT K H a (bs.map V.str) := .inl (.inl ha)
  unfold t_are_bases
  walk_at "rd"
  refine isi_tup sq ?_
  walk_at "rd"
  refine iteF ?_
  walk_at "rd"
  refine rd_lenT sq ?_
  walk_at "rd"
  refine rd_gt ?_
  walk_at "rd"
  rw [List.length_map]
  refine iteB (fun h => ?_) (fun h => ?_)
  · walk_at "rd"
    have e : basesOk bs = false := by
      unfold basesOk
      have h' : decide (bs.length ≤ 6) = false := by
        have := of_decide_eq_true h
        simp only [decide_eq_false_iff_not]
        omega
      rw [h']
      rfl
    rw [e] at q
    exact q H (.refl H)
  · have h6 : bs.length ≤ 6 := by
      have := of_decide_eq_false h
      omega
    walk_at "rd"
    refine rd_lcT ?_
    walk_at "rd"
    refine fin_T sq (paired_map _ _) (by rw [List.length_map]; exact Nat.le_trans h6 (by decide)) (fun _ => true) (fun b => .bl (nameOk b)) (.all fun x b H1 Ke r hm k q => ?_) fun D H' k hn hD => ?_
    · subst r
      refine rd_call ?_
      walk_at "rd"
      exact ⟨b, rfl, hs b hm, fun H' k' => q H' k'⟩
    · rw [filt_all] at hD
      walk_at "rd"
      refine rd_all (bs.map nameOk) (by rw [List.map_map]; exact hD) ?_
      rw [all_map]
      walk_at "rd"
      refine iteB (fun h => ?_) (fun h => ?_)
      · walk_at "rd"
        have e : basesOk bs = false := by
          unfold basesOk
          rw [nt h, Bool.and_false]
          rfl
        rw [e] at q
        exact q H' k
      · walk_at "rd"
        refine ⟨a, bs, rfl, k.sqT sq, by have := allIn_le bs; show _ < 4096; omega, fun p hp => ?_⟩
        refine ⟨p, _, rfl, upd_same, by have := allIn_le bs; show _ < 4096; omega, ?_⟩
        walk_at "rd"
        refine rd_lenT ((k.tnew hp).sqT sq) ?_
        walk_at "rd"
        refine rd_eq rfl ?_
        rw [List.length_map]
        have e : basesOk bs = decide (V.int (allIn bs).length = V.int bs.length) := by
          unfold basesOk
          rw [decide_eq_true h6, nf h, Bool.true_and, Bool.true_and, decide_eq_decide]
          rw [← allIn_len bs]
          constructor
          · intro e; rw [e]
          · intro e
            have e2 := V.int.inj e
            omega
        rw [e] at q
        exact q _ (k.tnew hp)

theorem inR_ed (o : Option Int) : inR 1 99 o = edOk o := by
  cases o <;> rfl
theorem r_is_kind {P : Program} {w : World} {K : PySem.W.Frag} {vs : List V} {H : Hp} {Q : VK} {E : XK} (h : sp_is_kind K vs H Q E) : t_is_kind P w K { nx := fun _ H' => Q .non H', rt := Q } (L2.start N_is_kind vs) H := by
  obtain ⟨a, b, nm, o, bs, l, m, rfl, ha, hb, s1, s2, s3, s4, q⟩ := h
  have sq : SqT K H a [.str nm, numV o, .ref b, .str l, .str m] := .inl (.inl ha)
  have e : kindOk nm o bs l m = (nameOk nm && inR 1 99 o && basesOk bs && (markOk l && decide (l.length = 1) && markOk m)) := by rw [inR_ed]; rfl
  rw [e] at q
  unfold t_is_kind
  walk_at "rd"
  refine isi_tup sq ?_
  walk_at "rd"
  refine iteF ?_
  walk_at "rd"
  refine rd_lenT sq ?_
  walk_at "rd"
  refine rd_ne rfl ?_
  walk_at "rd"
  refine iteF ?_
  walk_at "rd"
  refine rd_gtup sq rfl ?_
  walk_at "rd"
  refine ⟨nm, rfl, s1, fun H1 k1 => ?_⟩
  walk_at "rd"
  refine iteB (fun h => ?_) (fun h => ?_)
  · walk_at "rd"
    rw [nt h] at q
    exact q H1 k1
  · rw [nf h] at q
    walk_at "rd"
    refine ⟨o, 1, 99, rfl, ?_⟩
    walk_at "rd"
    refine iteB (fun h => ?_) (fun h => ?_)
    · walk_at "rd"
      rw [nt h] at q
      exact q H1 k1
    · rw [nf h] at q
      walk_at "rd"
      refine ⟨b, bs, rfl, k1 _ _ hb, s4, fun H2 k2 => ?_⟩
      walk_at "rd"
      refine iteB (fun h => ?_) (fun h => ?_)
      · walk_at "rd"
        rw [nt h] at q
        exact q H2 (k1.trans k2)
      · rw [nf h] at q
        walk_at "rd"
        refine ⟨l, rfl, s2, fun H3 k3 => ⟨_, rfl, iteB (fun h => ?_) (fun h => ?_)⟩⟩
        · rw [h] at q
          walk_at "rd"
          refine rd_lenS s2.le ?_
          walk_at "rd"
          refine rd_eq rfl ⟨_, rfl, ?_⟩
          have e2 : decide (V.int (l.length : Nat) = V.int 1) = decide (l.length = 1) := by
            simp only [V.int.injEq, decide_eq_decide]
            omega
          rw [e2]
          refine iteB (fun h => ?_) (fun h => ?_)
          · rw [h] at q
            walk_at "rd"
            exact ⟨m, rfl, s3, fun H4 k4 => q H4 (((k1.trans k2).trans k3).trans k4)⟩
          · rw [h] at q
            exact q H3 ((k1.trans k2).trans k3)
        · rw [h] at q
          exact q H3 ((k1.trans k2).trans k3)
theorem r_number_in {P : Program} {w : World} {K : PySem.W.Frag} {vs : List V} {H : Hp} {Q : VK} {E : XK} (h : sp_number_in K vs H Q E) : t_number_in P w K { nx := fun _ H' => Q .non H', rt := Q } (L2.start N_number_in vs) H := by
  obtain ⟨z, rfl, hz, q⟩ := h
  have e1 : (decide ((1 : Int) ≤ z.length) && decide ((z.length : Int) ≤ 6)) = (decide (1 ≤ z.length) && decide (z.length ≤ 6)) := by
    have h1 : decide ((1 : Int) ≤ z.length) = decide (1 ≤ z.length) := by simp only [decide_eq_decide]; omega
    have h2 : decide ((z.length : Int) ≤ 6) = decide (z.length ≤ 6) := by simp only [decide_eq_decide]; omega
    rw [h1, h2]
  unfold t_number_in
  walk_at "rd"
  refine rd_lenS hz.le ?_
  refine chain_le (fun P p => p) ?_
  rw [e1]
  walk_at "rd"
  refine iteB (fun h => ?_) (fun h => ?_)
  · walk_at "rd"
    have e : numb z = none := by
      unfold numb
      rw [nt h]
      rfl
    rw [e] at q
    exact q H (.refl H)
  · have hl := nf h
    obtain ⟨l1, l2⟩ := Bool.and_eq_true_iff.mp hl
    have l1 := of_decide_eq_true l1
    have l2 := of_decide_eq_true l2
    walk_at "rd"
    refine rd_lcS ?_
    walk_at "rd"
    refine fin_all (t := figs) hz.le (var_set (show 1 < 2 by decide)) fun H' k => ?_
    walk_at "rd"
    refine iteB (fun h => ?_) (fun h => ?_)
    · walk_at "rd"
      have e : numb z = none := by
        unfold numb
        rw [nt h, Bool.and_false]
        rfl
      rw [e] at q
      exact q H' k
    · have hf := nf h
      obtain ⟨c, r, hc⟩ : ∃ c r, z.cps.toList = c :: r := by
        cases hq : z.cps.toList with
        | nil =>
          have : z.cps.toList.length = z.length := Array.length_toList
          rw [hq] at this
          simp at this
          omega
        | cons c r => exact ⟨c, r, rfl⟩
      have h0 : decide (V.str ⟨#[c]⟩ = V.str "0") = decide (z.cps.toList.head? = some 48) := by
        rw [hc]
        simp only [V.str.injEq, decide_eq_decide, List.head?_cons, Option.some.injEq]
        constructor
        · intro e
          have e2 : (#[c] : Array Nat) = #[48] := congrArg Str.cps e
          simpa using e2
        · intro e
          rw [e]
          rfl
      have en : numb z = if (decide (z.cps.toList.head? = some 48) && !decide (z = "0")) = true then none else some ((digitsVal z.cps.toList : Nat) : Int) := by
        unfold numb
        rw [hl, hf, Bool.true_and, Bool.true_and]
        cases decide (z.cps.toList.head? = some 48) && !decide (z = "0") <;> rfl
      have hz0 : decide (V.str z = V.str "0") = decide (z = "0") := by simp only [V.str.injEq]
      walk_at "rd"
      refine rd_ixS hz.le (c := c) (by rw [hc]; exact atI_nat (j := 0) rfl) ?_
      walk_at "rd"
      refine rd_eq rfl ?_
      rw [h0]
      walk_at "rd"
      refine iteB (fun h => ?_) (fun h => ?_)
      · rw [h] at en
        walk_at "rd"
        walk_at "rd"
        refine rd_ne rfl ?_
        rw [hz0]
        walk_at "rd"
        refine iteB (fun h => ?_) (fun h => ?_)
        · rw [h] at en
          walk_at "rd"
          rw [en] at q
          exact q H' k
        · rw [h] at en
          walk_at "rd"
          refine ⟨z, _, rfl, numb_text hf l1 l2, by omega, ?_⟩
          rw [en] at q
          exact q H' k
      · rw [h] at en
        refine iteF ?_
        walk_at "rd"
        refine ⟨z, _, rfl, numb_text hf l1 l2, by omega, ?_⟩
        rw [en] at q
        exact q H' k
end Cp
set_option maxHeartbeats 4000000
/-! The package's reading of a plan. -/
namespace Cp
open PySem L2 LamX
local macro_rules | `(tactic| walk_at "rd") => `(tactic| repeat (first
  | with_reducible apply rd_seq | with_reducible apply rd_asg | with_reducible apply rd_gname | with_reducible apply rd_if | with_reducible apply rd_ret | with_reducible apply rd_drop | with_reducible apply rd_next
  | with_reducible apply rd_op | with_reducible apply rd_cb | with_reducible apply rd_cons | with_reducible apply rd_nil | with_reducible apply rd_c | with_reducible apply rd_tb | with_reducible apply rd_test | with_reducible apply rd_not
  | with_reducible apply rd_or | with_reducible apply rd_and | with_reducible apply rd_call | with_reducible apply rd_chain | with_reducible apply rd_andV | with_reducible apply rd_notV | with_reducible apply rd_ifx
  | with_reducible apply rd_gcons | with_reducible apply rd_gnil
  | ((with_reducible apply rd_var); exact rfl) | (with_reducible apply rd_bk)))
theorem words_ix {K : PySem.W.Frag} {H : Hp} {Q : VK} {l : Addr} {ws : List Str} (h : H l = some (.lst (ws.map V.str))) (i : Nat) (hi : i < ws.length) (q : Q (.str (at' ws i)) H) : rIxL K (.ref l) (.int (i : Nat)) H Q :=
  rd_ixL (.inl (.inl h)) (at_ws hi) q
theorem r_told_kind {P : Program} {w : World} {K : PySem.W.Frag} {vs : List V} {H : Hp} {Q : VK} {E : XK} (h : sp_told_kind K vs H Q E) : t_told_kind P w K { nx := fun _ H' => Q .non H', rt := Q } (L2.start N_told_kind vs) H := by
  obtain ⟨v, ws, rfl, ⟨l, rfl, hl, hs, hwn⟩, q0, q1⟩ := h
  have sq : SqL K H l (ws.map V.str) := .inl (.inl hl)
  have ek : kindRow ws = if (decide (5 ≤ ws.length) && decide (at' ws 0 = "kind") && !decide (at' ws 4 = "") && kindOk (at' ws 1) (numb (at' ws 2)) (ws.drop 5) (at' ws 3) (markOf ws)) = true then
    some ⟨at' ws 1, (numb (at' ws 2)).getD 0, ws.drop 5, at' ws 3, markOf ws⟩ else none := rfl
  have sh : ∀ i, i < ws.length → Short (at' ws i) := fun i hi => hs _ (at_mem hi)
  unfold t_told_kind
  walk_at "rd"
  refine rd_lenL sq ?_
  walk_at "rd"
  rw [List.length_map]
  refine rd_lt ?_
  walk_at "rd"
  refine iteB (fun h => ?_) (fun h => ?_)
  · walk_at "rd"
    have h5 : decide (5 ≤ ws.length) = false := by
      have := of_decide_eq_true h
      simp only [decide_eq_false_iff_not]
      omega
    rw [h5] at ek
    exact q0 ek H (.refl H)
  · have h5 : 5 ≤ ws.length := by
      have := of_decide_eq_false h
      omega
    rw [decide_eq_true h5] at ek
    walk_at "rd"
    refine words_ix hl 0 (by omega) ?_
    walk_at "rd"
    refine rd_ne rfl ?_
    walk_at "rd"
    have e0 : decide (V.str (at' ws 0) = V.str "kind") = decide (at' ws 0 = "kind") := by simp only [V.str.injEq]
    rw [e0]
    refine iteB (fun h => ?_) (fun h => ?_)
    · walk_at "rd"
      rw [nt h] at ek
      exact q0 ek H (.refl H)
    · rw [nf h] at ek
      walk_at "rd"
      refine words_ix hl 4 (by omega) ?_
      walk_at "rd"
      refine rd_eq rfl ?_
      walk_at "rd"
      have e4 : decide (V.str (at' ws 4) = V.str "") = decide (at' ws 4 = "") := by simp only [V.str.injEq]
      rw [e4]
      refine iteB (fun h => ?_) (fun h => ?_)
      · walk_at "rd"
        rw [h] at ek
        exact q0 ek H (.refl H)
      · rw [h] at ek
        have ek : kindRow ws = if kindOk (at' ws 1) (numb (at' ws 2)) (ws.drop 5) (at' ws 3) (markOf ws) = true then some ⟨at' ws 1, (numb (at' ws 2)).getD 0, ws.drop 5, at' ws 3, markOf ws⟩ else none := by
          rw [ek]
          rfl
        walk_at "rd"
        refine words_ix hl 4 (by omega) ?_
        walk_at "rd"
        refine rd_eq rfl ?_
        walk_at "rd"
        have em : decide (V.str (at' ws 4) = V.str "-") = decide (at' ws 4 = "-") := by simp only [V.str.injEq]
        rw [em]
        -- the rest, with the mark m
        have rest : ∀ (m : Str), m = markOf ws → Short m → (tSeq (tAsg (tTup (tCons (tOp (rIxL K) (tVar 0) (tC (.int 1))) (tCons (tCall (sp_number_in K) [] E0 (tCons (tOp (rIxL K) (tVar 0) (tC (.int 2))) tNil)) (tCons (tCB (rTupL K) (tCons (tSl (rSlL K) (tVar 0) (tPart (tC (.int 5))) tNoPart) tNil)) (tCons (tOp (rIxL K) (tVar 0) (tC (.int 3))) (tCons (tVar 1) tNil)))))) (gName 2))
            (tRet (tIf (tB (tCall (sp_is_kind K) [] E0 (tCons (tVar 2) tNil))) (tVar 2) (tC .non)))) { nx := fun _ H' => Q .non H', rt := Q } [some (.ref l), some (.str m), none] H := by
          intro m hm sm
          walk_at "rd"
          refine rd_tup ?_
          walk_at "rd"
          refine words_ix hl 1 (by omega) ?_
          walk_at "rd"
          refine words_ix hl 2 (by omega) ?_
          walk_at "rd"
          refine ⟨_, rfl, sh 2 (by omega), fun H1 k1 => ?_⟩
          walk_at "rd"
          refine rd_sl ?_
          walk_at "rd"
          refine fin_from 5 (k1.sqL sq) fun p hp => ?_
          rw [← List.map_drop]
          walk_at "rd"
          refine rd_tupL (.inl (.inl upd_same)) fun b hb => ?_
          have kb : Keep H (upd (upd H1 p (.lst ((ws.drop 5).map V.str))) b (.tup ((ws.drop 5).map V.str))) := (k1.tnew hp).tnew hb
          walk_at "rd"
          refine words_ix (kb _ _ hl) 3 (by omega) ?_
          walk_at "rd"
          refine ⟨(show 5 ≤ sizeLine by decide), fun t ht => ?_⟩
          walk_at "rd"
          have hbt : upd (upd (upd H1 p (.lst ((ws.drop 5).map V.str))) b (.tup ((ws.drop 5).map V.str))) t (.tup [.str (at' ws 1), numV (numb (at' ws 2)), .ref b, .str (at' ws 3), .str m]) b = some (.tup ((ws.drop 5).map V.str)) :=
            Keep.new ht _ _ upd_same
          refine ⟨t, b, at' ws 1, numb (at' ws 2), ws.drop 5, at' ws 3, m, rfl, upd_same, hbt, sh 1 (by omega), sh 3 (by omega), sm, fun y hy => hs y (List.mem_of_mem_drop hy), fun H2 k2 => ?_⟩
          have kf := (kb.tnew ht).trans k2
          walk_at "rd"
          subst hm
          refine iteB (fun h => ?_) (fun h => ?_)
          · rw [h, if_pos rfl] at ek
            walk_at "rd"
            refine q1 _ ek _ _ kf ⟨t, b, rfl, ?_, k2 _ _ hbt⟩
            have he : edOk (numb (at' ws 2)) = true := by
              unfold kindOk at h
              simp only [Bool.and_eq_true] at h
              exact h.1.1.2
            have hn : numV (numb (at' ws 2)) = .int ((numb (at' ws 2)).getD 0) := by
              cases hq : numb (at' ws 2) with
              | none => rw [hq] at he; cases he
              | some n => rfl
            show H2 t = some (.tup [.str (at' ws 1), .int ((numb (at' ws 2)).getD 0), .ref b, .str (at' ws 3), .str (markOf ws)])
            rw [← hn]
            exact k2 _ _ upd_same
          · rw [h] at ek
            walk_at "rd"
            exact q0 ek _ kf
        have s0 : Short "" := ⟨by decide, asc_by (by decide)⟩
        refine iteB (fun h => ?_) (fun h => ?_)
        · walk_at "rd"
          exact rest "" (by unfold markOf; rw [if_pos (of_decide_eq_true h)]) s0
        · walk_at "rd"
          refine words_ix hl 4 (by omega) ?_
          walk_at "rd"
          exact rest _ (by unfold markOf; rw [if_neg (of_decide_eq_false h)]) (sh 4 (by omega))

/-! ### need_layout -/
def ahead (ns : List Str) : List (Key × V) := ns.map fun n => (.inr n, .bl true)
theorem ahead_val (ns : List Str) (x : Str) : (valV (ahead ns) (.inr x : Key)).isSome = decide (x ∈ ns) := by
  induction ns with
  | nil => simp [ahead, valV_nil]
  | cons n r ih =>
    unfold ahead at ih ⊢
    rw [List.map_cons]
    by_cases h : n = x
    · rw [valV_pos (by simp [h]), h]
      simp
    · rw [valV_neg (by simpa using h), ih]
      simp [Ne.symm h]
theorem ahead_put {ns : List Str} {x : Str} (h : x ∉ ns) : putK (ahead ns) (.inr x : Key) (.bl true) = ahead (ns ++ [x]) := by
  have q := ahead_val ns x
  rw [decide_eq_false h] at q
  rw [putK_new _ (by cases hv : valV (ahead ns) (.inr x : Key) with
    | none => rfl
    | some v => rw [hv] at q; cases q)]
  simp [ahead]
theorem layGo_drop {ks : List Kd} {i : Nat} {k : Kd} (h : ks[i]? = some k) (ts : List Str) (last : Int) : layGo ts last i (ks.drop i) =
    if (decide (k.name ∈ ts) || decide (k.ed < last) || !(k.bases.all fun b => decide (b ∈ ts))) = true then some i else layGo (ts ++ [k.name]) k.ed (i + 1) (ks.drop (i + 1)) := by
  obtain ⟨hlt, e⟩ := List.getElem?_eq_some_iff.mp h
  rw [List.drop_eq_getElem_cons hlt, e]
  rfl
theorem take_names {ks : List Kd} {i : Nat} {k : Kd} (h : ks[i]? = some k) : nms (ks.take (i + 1)) = nms (ks.take i) ++ [k.name] := by
  unfold nms
  rw [List.take_add_one, h, List.map_append]
  rfl
theorem kd_at {H : Hp} {vs : List V} {ks : List Kd} (h : KdsAt H vs ks) {i : Nat} {x : V} (e : vs[i]? = some x) : ∃ k, ks[i]? = some k ∧ KdAt H x k := Paired.at_ h e
theorem kd_asc {k : Kd} (h : k.ok = true) : Asc k.name ∧ (∀ b ∈ k.bases, Asc b) ∧ Asc k.letter ∧ Asc k.mark ∧ Short k.name ∧ Short k.letter ∧ Short k.mark ∧ ∀ b ∈ k.bases, Short b := by
  have name : ∀ z, nameOk z = true → Short z := fun z hz => by
    unfold nameOk at hz
    simp only [Bool.and_eq_true, decide_eq_true_eq] at hz
    exact ⟨by omega, low_asc hz.2⟩
  have mark : ∀ z, markOk z = true → Short z := fun z hz => by
    refine ⟨?_, low_asc (mark_low hz)⟩
    have e := of_decide_eq_true hz
    rw [← e, word_wl]
    show (wl z.cps.toList).toArray.size ≤ _
    rw [List.size_toArray]
    unfold wl
    refine Nat.le_trans (List.length_filter_le _ _) ?_
    rw [List.length_map, List.length_range]
    decide
  unfold Kd.ok kindOk at h
  simp only [Bool.and_eq_true] at h
  obtain ⟨⟨⟨h1, _⟩, h2⟩, ⟨⟨h3, _⟩, h4⟩⟩ := h
  unfold basesOk at h2
  simp only [Bool.and_eq_true] at h2
  have hb : ∀ b ∈ k.bases, Short b := fun b hb => name b (List.all_eq_true.mp h2.1.2 b hb)
  exact ⟨(name _ h1).2, fun b q => (hb b q).2, (mark _ h3).2, (mark _ h4).2, name _ h1, mark _ h3, mark _ h4, hb⟩
theorem r_need_layout {P : Program} {w : World} {K : PySem.W.Frag} {mg : Str → Option Value} (T : Txt K mg) {vs : List V} {H : Hp} {Q : VK} {E : XK} (h : sp_need_layout K vs H Q E) : t_need_layout P w K E { nx := fun _ H' => Q .non H', rt := Q } (L2.start N_need_layout vs) H := by
  obtain ⟨a, xs, ks, rfl, sq, hk, hok, q0, q1⟩ := h
  have hlen : xs.length = ks.length := Paired.length hk
  have bad : ∀ (pl : List Int), layRes ks = some pl → ∀ H1 p, Keep H H1 → H1 p = some (.tup (pl.map V.int)) → raiseK K "BadLayout" E [.ref p] H1 := fun pl e H1 p k hp =>
    rd_raise T.xBadLayout fun d hd => q1 pl e _ _ _ (k.tnew hd) upd_same (by rw [upd_ne (ne_of_none hp hd)]; exact hp)
  unfold t_need_layout
  walk_at "rd"
  refine isi_tup sq ?_
  walk_at "rd"
  refine iteF ?_
  walk_at "rd"
  refine rd_lenT sq ?_
  refine chain_le (fun P p => p) ?_
  walk_at "rd"
  have e1 : (decide ((1 : Int) ≤ xs.length) && decide ((xs.length : Int) ≤ 24)) = (decide (1 ≤ ks.length) && decide (ks.length ≤ 24)) := by
    have h1 : decide ((1 : Int) ≤ xs.length) = decide (1 ≤ ks.length) := by simp only [decide_eq_decide]; omega
    have h2 : decide ((xs.length : Int) ≤ 24) = decide (ks.length ≤ 24) := by simp only [decide_eq_decide]; omega
    rw [h1, h2]
  rw [e1]
  refine iteB (fun h => ?_) (fun h => ?_)
  · show tCons (tTup tNil) tNil _ H (raiseK K "BadLayout" E)
    walk_at "rd"
    refine rd_tup ?_
    walk_at "rd"
    refine ⟨Nat.zero_le _, fun p hp => ?_⟩
    walk_at "rd"
    refine bad [] ?_ _ p (.new hp) upd_same
    unfold layRes
    rw [nt h]
    rfl
  · have hl := nf h
    have er : layRes ks = (layGo [] 1 0 ks).map (fun i => [(i : Int)]) := by
      unfold layRes
      rw [hl]
      rfl
    have hl2 : ks.length ≤ 24 := of_decide_eq_true (Bool.and_eq_true_iff.mp hl).2
    walk_at "rd"
    refine rd_tup ?_
    walk_at "rd"
    refine rd_dnew fun d hd => ?_
    walk_at "rd"
    refine ⟨by show 2 ≤ sizeLine; decide, fun t ht => ?_⟩
    refine rd_gtup (.inl (.inl upd_same)) rfl ?_
    walk_at "rd"
    have k0 : Keep H (upd (upd H d (.dK [])) t (.tup [.ref d, .int 1])) := (Keep.new hd).tnew ht
    refine rd_for ?_
    show tCons (tVar 0) tNil _ _ _
    walk_at "rd"
    refine ⟨a, xs, rfl, k0.sqT sq, ?_⟩
    refine for_enumT (xs := xs) (fun i σ H1 => ∃ (last : Int) (x3 x4 x5 : Option V), σ = [some (.ref a), some (.ref d), some (.int last), x3, x4, x5] ∧ Keep H H1 ∧ H1 d = some (.dK (ahead (nms (ks.take i)))) ∧ layGo [] 1 0 ks = layGo (nms (ks.take i)) last i (ks.drop i)) ?_ ?_ ?_ ?_
    · refine ⟨1, none, none, none, rfl, k0, ?_, rfl⟩
      rw [upd_ne (ne_of_none upd_same ht), upd_same]
      rfl
    · rintro i σ H1 _ ⟨last, x3, x4, x5, rfl, k, hda, _⟩
      exact k.sqT sq
    · rintro i x t2 σ H1 hx ⟨last, x3, x4, x5, rfl, k, hda, hg⟩ ht2
      obtain ⟨kd, hkd, ⟨ka, kb, rfl, hka, hkb⟩⟩ := kd_at hk hx
      have hm : kd ∈ ks := List.mem_of_getElem? hkd
      have ok := hok kd hm
      obtain ⟨a1, a2, a3, a4, s1, s2, s3, s4⟩ := kd_asc ok
      have hi : i < 24 := by
        have := (List.getElem?_eq_some_iff.mp hx).1
        omega
      refine rd_gtup (.inl (.inl upd_same)) rfl ?_
      walk_at "rd"
      have k2 := k.tnew (o := .tup [.int (i : Nat), .ref ka]) ht2
      have hda2 := (Keep.new (o := .tup [.int (i : Nat), .ref ka]) ht2) _ _ hda
      refine ⟨ka, kb, kd.name, some kd.ed, kd.bases, kd.letter, kd.mark, rfl, k2 _ _ hka, k2 _ _ hkb, s1, s2, s3, s4, fun H3 k3 => ?_⟩
      have k13 := k2.trans k3
      have hd3 := k3 _ _ hda2
      have e : kindOk kd.name (some kd.ed) kd.bases kd.letter kd.mark = true := ok
      rw [e]
      walk_at "rd"
      refine iteF ?_
      walk_at "rd"
      have sk : SqT K H3 ka [.str kd.name, .int kd.ed, .ref kb, .str kd.letter, .str kd.mark] := .inl (.inl (k13 _ _ hka))
      refine rd_din ?_
      walk_at "rd"
      refine rd_ixT sk (atI_nat (j := 0) rfl) ?_
      walk_at "rd"
      refine ⟨d, _, rfl, DGet.k (k := .inr kd.name) hd3, ?_⟩
      walk_at "rd"
      rw [ahead_val]
      have raise : (decide (kd.name ∈ nms (ks.take i)) || decide (kd.ed < last) || !(kd.bases.all fun b => decide (b ∈ nms (ks.take i)))) = true → ∀ (σ : St) (H4 : Hp), Keep H H4 → σ[3]? = some (some (.int (i : Nat))) →
          tRaiseB K "BadLayout" E (tCons (tTup (tCons (tVar 3) tNil)) tNil) { nx := fun _ _ => True, rt := fun _ _ => True } σ H4 := by
        intro hb σ H4 k4 hσ
        show tCons (tTup (tCons (tVar 3) tNil)) tNil _ H4 (raiseK K "BadLayout" E)
        walk_at "rd"
        refine rd_tup ?_
        refine rd_cons (rd_var hσ ?_)
        walk_at "rd"
        refine ⟨by show 1 ≤ sizeLine; decide, fun p hp => ?_⟩
        walk_at "rd"
        refine bad [(i : Int)] ?_ _ p (k4.tnew hp) upd_same
        rw [er, hg, layGo_drop hkd, if_pos hb]
        rfl
      refine iteB (fun h => ?_) (fun h => ?_)
      · exact raise (by rw [h]; rfl) _ _ k13 rfl
      · walk_at "rd"
        refine rd_ixT sk (atI_nat (j := 1) rfl) ?_
        walk_at "rd"
        refine rd_lt ?_
        walk_at "rd"
        refine iteB (fun h2 => ?_) (fun h2 => ?_)
        · exact raise (by rw [h, h2]; rfl) _ _ k13 rfl
        · walk_at "rd"
          refine rd_lcT ?_
          walk_at "rd"
          refine rd_ixT sk (atI_nat (j := 2) rfl) ?_
          have hb3 : SqT K H3 kb (kd.bases.map V.str) := .inl (.inl (k13 _ _ hkb))
          have hbl : kd.bases.length ≤ 6 := by
            unfold Kd.ok kindOk at ok
            simp only [Bool.and_eq_true] at ok
            obtain ⟨⟨⟨_, _⟩, h2⟩, _⟩ := ok
            unfold basesOk at h2
            simp only [Bool.and_eq_true] at h2
            exact of_decide_eq_true h2.1.1
          refine fin_T hb3 (paired_map _ _) (by rw [List.length_map]; exact Nat.le_trans hbl (by decide)) (fun _ => true) (fun b => .bl (decide (b ∈ nms (ks.take i)))) (.all fun x b H4 Ke r hm4 k4 q => ?_) fun D H4 k4 hn hD => ?_
          · subst r
            refine rd_din ?_
            walk_at "rd"
            refine ⟨d, _, rfl, DGet.k (k := .inr b) (k4 _ _ hd3), ?_⟩
            rw [ahead_val]
            exact q H4 (.refl H4)
          · rw [filt_all] at hD
            walk_at "rd"
            refine rd_all (kd.bases.map fun b => decide (b ∈ nms (ks.take i))) (by rw [List.map_map]; exact hD) ?_
            rw [all_map]
            walk_at "rd"
            have k14 := k13.trans k4
            refine iteB (fun h3 => ?_) (fun h3 => ?_)
            · exact raise (by rw [h3, Bool.or_true]) _ _ k14 rfl
            · have hnb : (decide (kd.name ∈ nms (ks.take i)) || decide (kd.ed < last) || !(kd.bases.all fun b => decide (b ∈ nms (ks.take i)))) = false := by rw [h, h2, h3]; rfl
              walk_at "rd"
              refine rd_gsub ?_
              walk_at "rd"
              refine rd_ixT (k4.sqT sk) (atI_nat (j := 0) rfl) ?_
              have hd4 := k4 _ _ hd3
              refine ⟨d, _, rfl, .inl ⟨_, .inr kd.name, hd4, rfl, ?_, rfl⟩, ?_⟩
              · unfold ahead nms
                rw [List.length_map, List.length_map, List.length_take]
                exact Nat.lt_of_le_of_lt (Nat.min_le_left _ _) (Nat.lt_of_lt_of_le hi (by decide))
              · rw [ahead_put (of_decide_eq_false h)]
                walk_at "rd"
                have k15 : Keep H (upd H4 d (.dK (ahead (nms (ks.take i) ++ [kd.name])))) := k14.at_ hd
                refine rd_ixT (.inl (.inl (k15 _ _ hka))) (atI_nat (j := 1) rfl) ?_
                walk_at "rd"
                refine ⟨kd.ed, _, _, _, rfl, k15, ?_, ?_⟩
                · rw [upd_same, take_names hkd]
                · rw [hg, layGo_drop hkd, hnb, take_names hkd]
                  rfl
    · rintro σ H1 ⟨last, x3, x4, x5, rfl, k, hda, hg⟩
      walk_at "rd"
      refine q0 ?_ H1 k
      rw [er, hg, hlen, List.drop_length]
      rfl
end Cp
set_option maxHeartbeats 4000000
/-! Plain laws: what stands under a kind, its roots. -/
namespace Cp
open PySem L2 LamX
theorem nms_mem {ks : List Kd} {x : Str} : x ∈ nms ks ↔ ∃ k ∈ ks, k.name = x := by unfold nms; exact List.mem_map
theorem take_mem {ks : List Kd} {i j : Nat} {k : Kd} (h : ks[j]? = some k) (hj : j < i) : k.name ∈ nms (ks.take i) := by
  refine nms_mem.mpr ⟨k, ?_, rfl⟩
  refine List.mem_of_getElem? (i := j) ?_
  rw [List.getElem?_take, if_pos hj]
  exact h
theorem mem_take {ks : List Kd} {i : Nat} {x : Str} (h : x ∈ nms (ks.take i)) : ∃ j k, j < i ∧ ks[j]? = some k ∧ k.name = x := by
  obtain ⟨k, hk, e⟩ := nms_mem.mp h
  obtain ⟨j, hj⟩ := List.mem_iff_getElem?.mp hk
  rw [List.getElem?_take] at hj
  by_cases q : j < i
  · rw [if_pos q] at hj
    exact ⟨j, k, q, hj, e⟩
  · rw [if_neg q] at hj
    cases hj
/-- each kind of a plan that stands: its name is new, its bases stand ahead -/
structure Std (ks : List Kd) : Prop where
  new : ∀ i k, ks[i]? = some k → k.name ∉ nms (ks.take i)
  ahd : ∀ i k, ks[i]? = some k → ∀ b ∈ k.bases, b ∈ nms (ks.take i)
theorem lay_std {ks : List Kd} (h : layGo [] 1 0 ks = none) : Std ks := by
  have key : ∀ i, i ≤ ks.length → ∃ last, layGo (nms (ks.take i)) last i (ks.drop i) = none := by
    intro i
    induction i with
    | zero => exact fun _ => ⟨1, h⟩
    | succ i ih =>
      intro hi
      obtain ⟨last, e⟩ := ih (by omega)
      have hk : ks[i]? = some ks[i] := List.getElem?_eq_getElem (by omega)
      rw [layGo_drop hk] at e
      split at e
      · cases e
      · exact ⟨_, by rw [take_names hk]; exact e⟩
  have one : ∀ i k, ks[i]? = some k → ∃ last, (decide (k.name ∈ nms (ks.take i)) || decide (k.ed < last) || !(k.bases.all fun b => decide (b ∈ nms (ks.take i)))) = false := by
    intro i k hk
    obtain ⟨last, e⟩ := key i (Nat.le_of_lt (List.getElem?_eq_some_iff.mp hk).1)
    rw [layGo_drop hk] at e
    split at e
    · cases e
    · rename_i q
      exact ⟨last, by simpa using q⟩
  refine ⟨fun i k hk => ?_, fun i k hk b hb => ?_⟩
  · obtain ⟨last, e⟩ := one i k hk
    simp only [Bool.or_eq_false_iff, decide_eq_false_iff_not] at e
    exact e.1.1
  · obtain ⟨last, e⟩ := one i k hk
    simp only [Bool.or_eq_false_iff] at e
    exact of_decide_eq_true (List.all_eq_true.mp (nf e.2) b hb)
theorem Lay.go {ks : List Kd} (h : Lay ks) : layGo [] 1 0 ks = none := by
  have e := h.1
  unfold layRes at e
  split at e
  · cases hq : layGo [] 1 0 ks with
    | none => rfl
    | some i => rw [hq] at e; cases e
  · cases e
theorem Lay.std {ks : List Kd} (h : Lay ks) : Std ks := lay_std h.go
theorem Lay.len {ks : List Kd} (h : Lay ks) : 1 ≤ ks.length ∧ ks.length ≤ 24 := by
  have e := h.1
  unfold layRes at e
  split at e
  · rename_i q
    simpa using q
  · cases e
theorem Std.inj {ks : List Kd} (S : Std ks) {i j : Nat} {k l : Kd} (hi : ks[i]? = some k) (hj : ks[j]? = some l) (e : k.name = l.name) : i = j := by
  rcases Nat.lt_trichotomy i j with h | h | h
  · exact absurd (e ▸ take_mem hi h) (S.new j l hj)
  · exact h
  · exact absurd (e ▸ take_mem hj h) (S.new i k hi)
theorem Std.nodup {ks : List Kd} (S : Std ks) : (nms ks).Nodup := by
  unfold nms List.Nodup
  rw [List.pairwise_iff_getElem]
  intro i j hi hj hij e
  rw [List.length_map] at hi hj
  rw [List.getElem_map, List.getElem_map] at e
  have := S.inj (List.getElem?_eq_getElem hi) (List.getElem?_eq_getElem hj) e
  omega

/-! ### under -/
theorem undGo_app (ns : List Str) : ∀ (a b : List Kd) (u : Und), undGo ns (a ++ b) u = undGo ns b (undGo ns a u)
  | [], _, _ => rfl
  | k :: a, b, u => by
    show undGo ns (a ++ b) _ = undGo ns b (undGo ns a _)
    exact undGo_app ns a b _
theorem undGo_keys (ns : List Str) : ∀ (a : List Kd) (u : Und), (undGo ns a u).map (·.1) = u.map (·.1) ++ nms a
  | [], u => by simp [undGo, nms]
  | k :: a, u => by
    show (undGo ns a _).map (·.1) = _
    rw [undGo_keys ns a]
    simp [nms]
theorem undGo_pre (ns : List Str) : ∀ (a : List Kd) (u : Und), ∃ r, undGo ns a u = u ++ r ∧ r.map (·.1) = nms a
  | [], u => ⟨[], by simp [undGo], rfl⟩
  | k :: a, u => by
    obtain ⟨r, e, e2⟩ := undGo_pre ns a (u ++ [(k.name, ns.filter (ownIn u k.bases))])
    exact ⟨_, by show undGo ns a _ = _; rw [e, List.append_assoc], by simp [nms] at e2 ⊢; exact e2⟩
theorem lookup_app {u r : Und} {b : Str} : (u ++ r).lookup b = (u.lookup b).or (r.lookup b) := by
  induction u with
  | nil => rfl
  | cons p u ih =>
    obtain ⟨x, l⟩ := p
    rw [List.cons_append]
    simp only [List.lookup]
    cases b == x
    · exact ih
    · rfl
theorem lookup_none {u : Und} {b : Str} (h : b ∉ u.map (·.1)) : u.lookup b = none := by
  induction u with
  | nil => rfl
  | cons p u ih =>
    obtain ⟨x, l⟩ := p
    rw [List.map_cons, List.mem_cons, not_or] at h
    simp only [List.lookup]
    have e : (b == x) = false := beq_eq_false_iff_ne.mpr h.1
    rw [e]
    exact ih h.2
theorem lookup_some {u : Und} {b : Str} (h : b ∈ u.map (·.1)) : ∃ l, u.lookup b = some l := by
  induction u with
  | nil => simp at h
  | cons p u ih =>
    obtain ⟨x, l⟩ := p
    simp only [List.lookup]
    by_cases e : b = x
    · rw [e, beq_self_eq_true]
      exact ⟨l, rfl⟩
    · rw [beq_eq_false_iff_ne.mpr e]
      rw [List.map_cons, List.mem_cons] at h
      exact ih (h.resolve_left e)
/-- under, as far as the first i kinds go -/
def undI (ks : List Kd) (i : Nat) : Und := undGo (nms ks) (ks.take i) []
theorem undI_succ {ks : List Kd} {i : Nat} {k : Kd} (h : ks[i]? = some k) : undI ks (i + 1) = undI ks i ++ [(k.name, (nms ks).filter (ownIn (undI ks i) k.bases))] := by
  unfold undI
  rw [List.take_add_one, h, undGo_app]
  rfl
theorem undI_all (ks : List Kd) : undI ks ks.length = undr ks := by
  unfold undI undr
  rw [List.take_length]
theorem undI_keys (ks : List Kd) (i : Nat) : (undI ks i).map (·.1) = nms (ks.take i) := by
  unfold undI
  rw [undGo_keys]
  rfl
theorem undr_pre (ks : List Kd) (i : Nat) : ∃ r, undr ks = undI ks i ++ r := by
  have e : undr ks = undGo (nms ks) (ks.drop i) (undI ks i) := by
    unfold undr undI
    rw [← undGo_app, List.take_append_drop]
  obtain ⟨r, e2, _⟩ := undGo_pre (nms ks) (ks.drop i) (undI ks i)
  exact ⟨r, by rw [e, e2]⟩
theorem look_pre {ks : List Kd} {i : Nat} {b : Str} (h : b ∈ nms (ks.take i)) : look (undr ks) b = look (undI ks i) b := by
  obtain ⟨r, e⟩ := undr_pre ks i
  obtain ⟨l, e2⟩ := lookup_some (u := undI ks i) (b := b) (by rw [undI_keys]; exact h)
  unfold look
  rw [e, lookup_app, e2]
  rfl
theorem look_at {ks : List Kd} (S : Std ks) {i : Nat} {k : Kd} (h : ks[i]? = some k) : look (undr ks) k.name = (nms ks).filter (ownIn (undI ks i) k.bases) := by
  have hm : k.name ∈ nms (ks.take (i + 1)) := take_mem h (Nat.lt_succ_self i)
  rw [look_pre hm]
  unfold look
  rw [undI_succ h, lookup_app, lookup_none (by rw [undI_keys]; exact S.new i k h)]
  simp [List.lookup]
theorem rts_eq {ks : List Kd} (nm : Str) : rts ks nm = (ks.filter fun k => decide (k.name ∈ look (undr ks) nm) && k.bases.isEmpty).map (·.name) := rfl
/-- the bases of a kind by its name -/
def bsOf (ks : List Kd) (o : Str) : List Str := ((ks.find? fun k => decide (k.name = o)).map (·.bases)).getD []
theorem bsOf_at {ks : List Kd} (S : Std ks) {i : Nat} {k : Kd} (h : ks[i]? = some k) : ks.find? (fun l => decide (l.name = k.name)) = some k := by
  cases hf : ks.find? fun l => decide (l.name = k.name) with
  | none =>
    have q := List.find?_eq_none.mp hf k (List.mem_of_getElem? h)
    simp at q
  | some l =>
    have hl := List.mem_of_find?_eq_some hf
    have he := List.find?_some hf
    obtain ⟨j, hj⟩ := List.mem_iff_getElem?.mp hl
    have e := S.inj hj h (of_decide_eq_true he)
    subst e
    rw [hj] at h
    rw [h]
theorem bsOf_eq {ks : List Kd} (S : Std ks) {k : Kd} (h : k ∈ ks) : bsOf ks k.name = k.bases := by
  obtain ⟨i, hi⟩ := List.mem_iff_getElem?.mp h
  unfold bsOf
  rw [bsOf_at S hi]
  rfl
theorem rts_of {ks : List Kd} (S : Std ks) {i : Nat} {k : Kd} (h : ks[i]? = some k) : ((look (undr ks) k.name).filter fun o => (bsOf ks o).isEmpty) = rts ks k.name := by
  rw [rts_eq, look_at S h]
  unfold nms
  rw [List.filter_map, List.filter_map, List.filter_filter]
  congr 1
  refine List.filter_congr fun l hl => ?_
  simp only [Function.comp_apply]
  rw [bsOf_eq S hl, Bool.and_comm]
  congr 1
  have e : decide (l.name ∈ List.map (fun x => x.name) (ks.filter (ownIn (undI ks i) k.bases ∘ fun x => x.name))) = ownIn (undI ks i) k.bases l.name := by
    cases ho : ownIn (undI ks i) k.bases l.name
    · rw [decide_eq_false_iff_not]
      intro hm
      obtain ⟨m, hm1, hm2⟩ := List.mem_map.mp hm
      have q := (List.mem_filter.mp hm1).2
      simp only [Function.comp_apply] at q
      rw [hm2, ho] at q
      cases q
    · rw [decide_eq_true_eq]
      exact List.mem_map.mpr ⟨l, List.mem_filter.mpr ⟨hl, ho⟩, rfl⟩
  exact e.symm
theorem look_mem {ks : List Kd} (S : Std ks) {i : Nat} {k : Kd} (h : ks[i]? = some k) {o : Str} : o ∈ look (undr ks) k.name ↔ o ∈ nms ks ∧ ownIn (undI ks i) k.bases o = true := by
  rw [look_at S h, List.mem_filter]
theorem has_root {ks : List Kd} (S : Std ks) : ∀ (i : Nat) (k : Kd), ks[i]? = some k → k.bases ≠ [] → ∃ r ∈ ks, r.name ∈ look (undr ks) k.name ∧ r.bases = [] := by
  intro i
  induction i using Nat.strongRecOn with
  | _ i ih =>
    intro k hk hb
    cases hbs : k.bases with
    | nil => exact absurd hbs hb
    | cons b rest =>
      have hbm : b ∈ k.bases := by rw [hbs]; exact List.mem_cons_self
      obtain ⟨j, l, hj, hl, e⟩ := mem_take (S.ahd i k hk b hbm)
      have hlm : l ∈ ks := List.mem_of_getElem? hl
      by_cases hz : l.bases = []
      · refine ⟨l, hlm, (look_mem S hk).mpr ⟨nms_mem.mpr ⟨l, hlm, rfl⟩, ?_⟩, hz⟩
        unfold ownIn
        rw [e, decide_eq_true hbm]
        rfl
      · obtain ⟨r, h1, h2, h3⟩ := ih j hj l hl hz
        refine ⟨r, h1, (look_mem S hk).mpr ⟨nms_mem.mpr ⟨r, h1, rfl⟩, ?_⟩, h3⟩
        unfold ownIn
        rw [Bool.or_eq_true]
        refine .inr (List.any_eq_true.mpr ⟨b, hbm, decide_eq_true ?_⟩)
        rw [← look_pre (S.ahd i k hk b hbm), ← e]
        exact h2
theorem rts_nil {ks : List Kd} (S : Std ks) {k : Kd} (h : k ∈ ks) : rts ks k.name = [] ↔ k.bases = [] := by
  obtain ⟨i, hi⟩ := List.mem_iff_getElem?.mp h
  constructor
  · intro e
    by_cases hb : k.bases = []
    · exact hb
    · obtain ⟨r, h1, h2, h3⟩ := has_root S i k hi hb
      have q : r.name ∈ rts ks k.name := by
        rw [rts_eq]
        refine List.mem_map.mpr ⟨r, List.mem_filter.mpr ⟨h1, ?_⟩, rfl⟩
        rw [decide_eq_true h2, h3]
        rfl
      rw [e] at q
      cases q
  · intro e
    rw [rts_eq]
    have : (ks.filter fun l => decide (l.name ∈ look (undr ks) k.name) && l.bases.isEmpty) = [] := by
      rw [List.filter_eq_nil_iff]
      intro l hl q
      rw [Bool.and_eq_true] at q
      have q2 := ((look_mem S hi).mp (of_decide_eq_true q.1)).2
      rw [e] at q2
      simp [ownIn] at q2
    rw [this]
    rfl
theorem rts_len {ks : List Kd} (nm : Str) : (rts ks nm).length ≤ ks.length := by
  rw [rts_eq, List.length_map]
  exact List.length_filter_le _ _
theorem look_len {ks : List Kd} (S : Std ks) {k : Kd} (h : k ∈ ks) : (look (undr ks) k.name).length ≤ ks.length := by
  obtain ⟨i, hi⟩ := List.mem_iff_getElem?.mp h
  rw [look_at S hi]
  refine Nat.le_trans (List.length_filter_le _ _) ?_
  unfold nms
  rw [List.length_map]
  exact Nat.le_refl _
end Cp
set_option maxHeartbeats 4000000
/-! Dicts by their names. -/
namespace Cp
open PySem L2 LamX
/-! ### a dict comprehension over a tuple, its keys and values reckoned while all stays -/
def DcK (J : It) (j : Nat) (tt : TT) (tk tv : TE) (σ : St) (Q : VK) (H1 : Hp) : Prop := ∀ D, H1 D = none → ∃ W : Nat → Nat → Hp → Prop, (∃ m, W 0 m (upd H1 D (.dK []))) ∧ ∀ i m H, W i m H →
  (J.stop i H ∧ Q (.ref D) H) ∨ (J.go i H ∧ ∃ Nx : Hp → Prop, (∀ H', Nx H' → ∃ m', m' < m ∧ W (i + 1) m' H') ∧ ∀ x H', J.yld i H x H' → gName j x (wipe σ [j]) H' fun σ2 H2 => wipe σ2 [j] = wipe σ [j] ∧ tt σ2 H2 fun b H3 =>
    if b = true then tk σ2 H3 fun y H4 => tv σ2 H4 fun z H5 => ∃ kvs k, y = kV k ∧ H5 D = some (.dK kvs) ∧ kvs.length < sizeLine ∧ Nx (upd H5 D (.dK (putK kvs k z))) else Nx H3)
theorem rd_yes {σ : St} {H : Hp} {Q : Bool → Hp → Prop} (q : Q true H) : tYes σ H Q := q
section
variable {K : PySem.W.Frag} {j : Nat} {tk tv : TE} {σ : St} {H1 : Hp} {Q : VK} {α : Type} {R : V → α → Prop} {vs : List V} {as : List α} {a : Addr}
theorem rd_dcT {tl : TE} {tt : TT} {H : Hp} (q : tl σ H fun x H1 => ∃ a, x = .ref a ∧ (∃ xs, SqT K H1 a xs) ∧ DcK (Itt K a) j tt tk tv σ Q H1) : tDc (iTup K tl) (gName j) tt tk tv [j] σ H Q := q
theorem fin_D (hq : SqT K H1 a vs) (pr : Paired R vs as) (hn : vs.length ≤ 1000) (kf : α → Key) (vf : V → α → V)
    (hk : ∀ x a H (P : VK), R x a → Keep H1 H → P (kV (kf a)) H → tk ((wipe σ [j]).set j (some x)) H P) (hv : ∀ x a H (P : VK), R x a → Keep H1 H → P (vf x a) H → tv ((wipe σ [j]).set j (some x)) H P)
    (q : ∀ D H', Keep H1 H' → H1 D = none → H' D = some (.dK (mergeK [] ((vs.zip as).map fun p => (kf p.2, vf p.1 p.2)))) → Q (.ref D) H') :
    ∃ a', V.ref a = .ref a' ∧ (∃ xs, SqT K H1 a' xs) ∧ DcK (Itt K a') j tYes tk tv σ Q H1 := by
  refine ⟨a, rfl, ⟨vs, hq⟩, fun D hD => ?_⟩
  refine dc_tup (xs := vs) (fun i H => Keep H1 H ∧ H D = some (.dK (mergeK [] (((vs.zip as).map fun p => (kf p.2, vf p.1 p.2)).take i)))) ⟨.new hD, by rw [upd_same]; rfl⟩ (fun i H _ p => p.1.sqT hq) (fun i x H hx p => ?_) fun H p => ?_
  · obtain ⟨k, hd⟩ := p
    obtain ⟨b, hb, r⟩ := Paired.at_ pr hx
    refine rd_gname ⟨wipe1 x, ?_⟩
    apply rd_yes
    rw [if_pos rfl]
    refine hk x b H _ r k ?_
    refine hv x b H _ r k ?_
    refine ⟨_, kf b, rfl, hd, ?_, k.at_ hD, ?_⟩
    · refine Nat.lt_of_le_of_lt (length_mergeK _ _) ?_
      rw [List.length_nil, Nat.zero_add, List.length_take, List.length_map, List.length_zip]
      have : sizeLine = 16777216 := by decide
      omega
    · rw [upd_same]
      have e : ((vs.zip as).map fun p => (kf p.2, vf p.1 p.2)).take (i + 1) = ((vs.zip as).map fun p => (kf p.2, vf p.1 p.2)).take i ++ [(kf b, vf x b)] := by
        rw [List.take_add_one, List.getElem?_map]
        have e2 : (vs.zip as)[i]? = some (x, b) := by rw [List.getElem?_zip_eq_some]; exact ⟨hx, hb⟩
        rw [e2]
        rfl
      rw [e]
      unfold mergeK
      rw [List.foldl_append]
      rfl
  · obtain ⟨k, hd⟩ := p
    rw [List.take_of_length_le (by rw [List.length_map, List.length_zip]; omega)] at hd
    exact q D H k hD hd
end
theorem merge_some (k : Key) : ∀ (more kvs : List (Key × V)), (valV (mergeK kvs more) k).isSome = ((valV kvs k).isSome || more.any fun p => decide (p.1 = k))
  | [], kvs => by simp [mergeK]
  | p :: r, kvs => by
    have ih := merge_some k r (putK kvs p.1 p.2)
    have e : mergeK kvs (p :: r) = mergeK (putK kvs p.1 p.2) r := rfl
    rw [e, ih, valV_put, List.any_cons]
    by_cases h : k = p.1
    · rw [if_pos h, decide_eq_true h.symm]
      simp
    · rw [if_neg h, decide_eq_false (Ne.symm h), Bool.false_or]
theorem merge_new : ∀ (more kvs : List (Key × V)), (more.map (·.1)).Nodup → (∀ p ∈ more, valV kvs p.1 = none) → mergeK kvs more = kvs ++ more
  | [], kvs, _, _ => by simp [mergeK]
  | p :: r, kvs, nd, h => by
    rw [List.map_cons, List.nodup_cons] at nd
    have e : mergeK kvs (p :: r) = mergeK (putK kvs p.1 p.2) r := rfl
    rw [e, putK_new _ (h p List.mem_cons_self), merge_new r _ nd.2 fun q hq => ?_, List.append_assoc]
    · rfl
    · rw [valV_snoc _ _ _ _ (h p List.mem_cons_self), if_neg (fun e : q.1 = p.1 => nd.1 (e ▸ List.mem_map.mpr ⟨q, hq, rfl⟩))]
      exact h q (List.mem_cons_of_mem _ hq)
/-! ### dicts by names -/
theorem valV_paired {α : Type} {F : Key × V → α → Prop} {kvs : List (Key × V)} {as : List α} (pr : Paired F kvs as) (nm : α → Str) (hF : ∀ p a, F p a → p.1 = .inr (nm a)) (x : Str) :
    (valV kvs (.inr x : Key)).isSome = decide (x ∈ as.map nm) := by
  induction pr with
  | nil => simp [valV_nil]
  | @cons p a l m r t ih =>
    have e := hF _ _ r
    rw [List.map_cons]
    by_cases h : nm a = x
    · rw [valV_pos (by rw [e, h]), h]
      simp
    · rw [valV_neg (by rw [e]; simpa using h), ih]
      simp [Ne.symm h]
theorem valV_get {α : Type} {F : Key × V → α → Prop} {kvs : List (Key × V)} {as : List α} (pr : Paired F kvs as) (nm : α → Str) (hF : ∀ p a, F p a → p.1 = .inr (nm a)) {x : Str} (hx : x ∈ as.map nm) :
    ∃ p a, as.find? (fun a => decide (nm a = x)) = some a ∧ F p a ∧ valV kvs (.inr x : Key) = some p.2 := by
  induction pr with
  | nil => simp at hx
  | @cons p a l m r t ih =>
    have e := hF _ _ r
    by_cases h : nm a = x
    · exact ⟨p, a, by simp [h], r, valV_pos (by rw [e, h])⟩
    · rw [List.map_cons, List.mem_cons] at hx
      obtain ⟨p', a', h1, h2, h3⟩ := ih (hx.resolve_left (fun z => h z.symm))
      exact ⟨p', a', by rw [List.find?_cons_of_neg (by simpa using h)]; exact h1, h2, by rw [valV_neg (by rw [e]; simpa using h)]; exact h3⟩
theorem find_lookup {u : Und} {b : Str} {p : Str × List Str} (h : u.find? (fun a => decide (a.1 = b)) = some p) : look u b = p.2 := by
  induction u with
  | nil => simp at h
  | cons q u ih =>
    obtain ⟨x, l⟩ := q
    unfold look at ih ⊢
    simp only [List.lookup]
    by_cases e : x = b
    · rw [List.find?_cons_of_pos (by simpa using e)] at h
      cases h
      rw [e, beq_self_eq_true]
      rfl
    · rw [List.find?_cons_of_neg (by simpa using e)] at h
      rw [beq_eq_false_iff_ne.mpr (Ne.symm e)]
      exact ih h
theorem UndT.get {H : Hp} {d : Addr} {u : Und} {b : Str} (h : UndT H d u) (hb : b ∈ u.map (·.1)) : ∃ l, DGet H d (.str b) (some (.ref l)) ∧ H l = some (.tup ((look u b).map V.str)) := by
  obtain ⟨kvs, hd, pr⟩ := h
  obtain ⟨p, q, h1, ⟨h2, l, h3, h4⟩, h5⟩ := valV_get pr (·.1) (fun p q r => r.1) hb
  exact ⟨l, by have e := DGet.k (k := .inr b) hd; rw [h5, h3] at e; exact e, by rw [find_lookup h1]; exact h4⟩
theorem UndL.get {H : Hp} {d : Addr} {u : Und} {b : Str} (h : UndL H d u) (hb : b ∈ u.map (·.1)) : ∃ l, DGet H d (.str b) (some (.ref l)) ∧ H l = some (.lst ((look u b).map V.str)) := by
  obtain ⟨kvs, hd, pr⟩ := h
  obtain ⟨p, q, h1, ⟨h2, l, h3, h4⟩, h5⟩ := valV_get pr (·.1) (fun p q r => r.1) hb
  exact ⟨l, by have e := DGet.k (k := .inr b) hd; rw [h5, h3] at e; exact e, by rw [find_lookup h1]; exact h4⟩
theorem UndT.has {H : Hp} {d : Addr} {u : Und} (h : UndT H d u) (b : Str) : ∃ o, DGet H d (.str b) o ∧ o.isSome = decide (b ∈ u.map (·.1)) := by
  obtain ⟨kvs, hd, pr⟩ := h
  exact ⟨_, DGet.k (k := .inr b) hd, valV_paired pr (·.1) (fun p q r => r.1) b⟩
theorem UndL.has {H : Hp} {d : Addr} {u : Und} (h : UndL H d u) (b : Str) : ∃ o, DGet H d (.str b) o ∧ o.isSome = decide (b ∈ u.map (·.1)) := by
  obtain ⟨kvs, hd, pr⟩ := h
  exact ⟨_, DGet.k (k := .inr b) hd, valV_paired pr (·.1) (fun p q r => r.1) b⟩
theorem KindsAt.has {H : Hp} {d : Addr} {ks : List Kd} (h : KindsAt H d ks) (b : Str) : ∃ o, DGet H d (.str b) o ∧ o.isSome = decide (b ∈ nms ks) := by
  obtain ⟨kvs, hd, pr⟩ := h
  exact ⟨_, DGet.k (k := .inr b) hd, valV_paired pr (·.name) (fun p q r => r.1) b⟩
theorem KindsAt.get {H : Hp} {d : Addr} {ks : List Kd} {b : Str} (h : KindsAt H d ks) (hb : b ∈ nms ks) : ∃ v k, ks.find? (fun k => decide (k.name = b)) = some k ∧ DGet H d (.str b) (some v) ∧ KdAt H v k := by
  obtain ⟨kvs, hd, pr⟩ := h
  obtain ⟨p, k, h1, ⟨h2, h3⟩, h5⟩ := valV_get pr (·.name) (fun p q r => r.1) hb
  exact ⟨p.2, k, h1, by have e := DGet.k (k := .inr b) hd; rw [h5] at e; exact e, h3⟩
/-- the dict at p changes; nothing else hangs on it -/
theorem UndT.chg {H : Hp} {d p : Addr} {u : Und} {kvs : List (Key × V)} {o : HO} (h : UndT H d u) (hp : H p = some (.dK kvs)) (hne : d ≠ p) : UndT (upd H p o) d u := by
  obtain ⟨kv, hd, pr⟩ := h
  refine ⟨kv, by rw [upd_ne hne]; exact hd, Paired.mapP pr fun a b ⟨h1, l, h2, h3⟩ => ⟨h1, l, h2, ?_⟩⟩
  rw [upd_ne (ne_of h3 hp (fun z => by cases z))]
  exact h3
theorem KindsAt.chg {H : Hp} {d p : Addr} {ks : List Kd} {kvs : List (Key × V)} {o : HO} (h : KindsAt H d ks) (hp : H p = some (.dK kvs)) (hne : d ≠ p) : KindsAt (upd H p o) d ks := by
  obtain ⟨kv, hd, pr⟩ := h
  refine ⟨kv, by rw [upd_ne hne]; exact hd, Paired.mapP pr fun a k ⟨h1, x, y, h2, h3, h4⟩ => ⟨h1, x, y, h2, ?_, ?_⟩⟩
  · rw [upd_ne (ne_of h3 hp (fun z => by cases z))]
    exact h3
  · rw [upd_ne (ne_of h4 hp (fun z => by cases z))]
    exact h4
theorem paired_len {α β : Type} {F : α → β → Prop} {l : List α} {m : List β} (h : Paired F l m) : l.length = m.length := Paired.length h
theorem UndT.put {H : Hp} {d l : Addr} {u : Und} {n : Str} {zs : List Str} (h : UndT H d u) (hn : n ∉ u.map (·.1)) (hl : H l = some (.tup (zs.map V.str))) :
    ∃ kvs, H d = some (.dK kvs) ∧ kvs.length = u.length ∧ UndT (upd H d (.dK (putK kvs (.inr n) (.ref l)))) d (u ++ [(n, zs)]) := by
  obtain ⟨kvs, hd, pr⟩ := h
  have hv : valV kvs (.inr n : Key) = none := by
    have e := valV_paired pr (·.1) (fun p q r => r.1) n
    rw [decide_eq_false hn] at e
    cases q : valV kvs (.inr n : Key) with
    | none => rfl
    | some v => rw [q] at e; cases e
  refine ⟨kvs, hd, paired_len pr, ⟨kvs ++ [(.inr n, .ref l)], by rw [upd_same, putK_new _ hv], paired_snoc (Paired.mapP pr fun a b ⟨h1, l', h2, h3⟩ => ⟨h1, l', h2, ?_⟩) ⟨rfl, l, rfl, ?_⟩⟩⟩
  · rw [upd_ne (ne_of hl hd (fun z => by cases z))]
    exact hl
  · rw [upd_ne (ne_of h3 hd (fun z => by cases z))]
    exact h3
theorem UndL.put {H : Hp} {d l : Addr} {u : Und} {n : Str} {zs : List Str} (h : UndL H d u) (hn : n ∉ u.map (·.1)) (hl : H l = some (.lst (zs.map V.str))) :
    ∃ kvs, H d = some (.dK kvs) ∧ kvs.length = u.length ∧ UndL (upd H d (.dK (putK kvs (.inr n) (.ref l)))) d (u ++ [(n, zs)]) := by
  obtain ⟨kvs, hd, pr⟩ := h
  have hv : valV kvs (.inr n : Key) = none := by
    have e := valV_paired pr (·.1) (fun p q r => r.1) n
    rw [decide_eq_false hn] at e
    cases q : valV kvs (.inr n : Key) with
    | none => rfl
    | some v => rw [q] at e; cases e
  refine ⟨kvs, hd, paired_len pr, ⟨kvs ++ [(.inr n, .ref l)], by rw [upd_same, putK_new _ hv], paired_snoc (Paired.mapP pr fun a b ⟨h1, l', h2, h3⟩ => ⟨h1, l', h2, ?_⟩) ⟨rfl, l, rfl, ?_⟩⟩⟩
  · rw [upd_ne (ne_of hl hd (fun z => by cases z))]
    exact hl
  · rw [upd_ne (ne_of h3 hd (fun z => by cases z))]
    exact h3
/-- a dict that holds the names of p -/
def OwnAt (H : Hp) (d : Addr) (n : Nat) (p : Str → Bool) : Prop := ∃ kvs, H d = some (.dK kvs) ∧ kvs.length ≤ n ∧ ∀ o, (valV kvs (.inr o : Key)).isSome = p o
theorem own_new {H : Hp} {D : Addr} {vs : List V} {bs : List Str} (h : H D = some (.dK (mergeK [] ((vs.zip bs).map fun p => ((.inr p.2 : Key), V.bl true))))) (hl : vs.length = bs.length) : OwnAt H D bs.length fun o => decide (o ∈ bs) := by
  refine ⟨_, h, ?_, fun o => ?_⟩
  · refine Nat.le_trans (length_mergeK _ _) ?_
    rw [List.length_nil, Nat.zero_add, List.length_map, List.length_zip]
    omega
  · rw [merge_some, valV_nil]
    show (false || _) = _
    rw [Bool.false_or, List.any_map]
    have e : (vs.zip bs).map (·.2) = bs := by
      rw [List.map_snd_zip]
      omega
    have e2 : (vs.zip bs).any ((fun p : Key × V => decide (p.1 = .inr o)) ∘ fun p => ((.inr p.2 : Key), V.bl true)) = ((vs.zip bs).map (·.2)).any fun b => decide (b = o) := by
      rw [List.any_map]
      congr 1
      funext p
      simp [Function.comp]
    rw [e2, e]
    induction bs with
    | nil => simp
    | cons b r ih =>
      rw [List.any_cons]
      by_cases hb : b = o
      · rw [decide_eq_true hb, hb]
        simp
      · rw [decide_eq_false hb, Bool.false_or]
        have key : ∀ l : List Str, (l.any fun b => decide (b = o)) = decide (o ∈ l) := by
          intro l
          induction l with
          | nil => simp
          | cons x y ih2 =>
            rw [List.any_cons, ih2]
            simp only [List.mem_cons, Bool.decide_or]
            congr 1
            exact decide_eq_decide.mpr eq_comm
        rw [key]
        simp [Ne.symm hb]
/-! ### what a loop walks -/
section
variable {K : PySem.W.Frag} {tl : TE} {ta : TA} {σ : St} {H : Hp} {R : It → Hp → Prop}
theorem rd_iT (q : tl σ H fun x H1 => ∃ a, x = .ref a ∧ (∃ xs, SqT K H1 a xs) ∧ R (Itt K a) H1) : iTup K tl σ H R := q
theorem rd_iL (q : tl σ H fun x H1 => ∃ a, x = .ref a ∧ (∃ xs, SqL K H1 a xs) ∧ R (Itl K a) H1) : iList K tl σ H R := q
theorem rd_iS (q : tl σ H fun v H1 => ∃ x, v = .str x ∧ R (Its x) H1) : iStr tl σ H R := q
theorem rd_iR (q : ta σ H fun vs H1 => ∃ j : Int, vs = [.int j] ∧ -(2 ^ 62) ≤ j ∧ j < 2 ^ 62 ∧ R (Itr 0 j.toNat) H1) : iRng1 ta σ H R := q
theorem rd_iE (q : ta σ H fun vs H1 => ∃ a xs, vs = [.ref a] ∧ SqL K H1 a xs ∧ R (Ite K a) H1) : iEnum K ta σ H R := q
theorem rd_iET (q : ta σ H fun vs H1 => ∃ a xs, vs = [.ref a] ∧ SqT K H1 a xs ∧ R (IteT K a) H1) : iEnumT K ta σ H R := q
theorem rd_iQ (q : tl σ H fun x H1 => ∃ a, x = .ref a ∧ (((∃ xs, SqL K H1 a xs) ∧ R (Itl K a) H1) ∨ ((∃ xs, SqT K H1 a xs) ∧ R (Itt K a) H1))) : iSeq K tl σ H R := q
end
end Cp
set_option maxHeartbeats 8000000
/-! The chart is made. -/
namespace Cp
open PySem L2 LamX
local macro_rules | `(tactic| walk_at "rd") => `(tactic| repeat (first
  | with_reducible apply rd_seq | with_reducible apply rd_asg | with_reducible apply rd_gname | with_reducible apply rd_if | with_reducible apply rd_ret | with_reducible apply rd_drop | with_reducible apply rd_next
  | with_reducible apply rd_op | with_reducible apply rd_cb | with_reducible apply rd_cons | with_reducible apply rd_nil | with_reducible apply rd_c | with_reducible apply rd_tb | with_reducible apply rd_test | with_reducible apply rd_not
  | with_reducible apply rd_or | with_reducible apply rd_and | with_reducible apply rd_call | with_reducible apply rd_chain | with_reducible apply rd_andV | with_reducible apply rd_notV | with_reducible apply rd_ifx
  | with_reducible apply rd_gcons | with_reducible apply rd_gnil
  | ((with_reducible apply rd_var); exact rfl) | (with_reducible apply rd_bk)))
theorem le1000 {n : Nat} (h : n ≤ 1000) : n ≤ sizeLine := Nat.le_trans h (by decide)
theorem flen {f : Str} {v : V} : ∀ {fs : List (Str × V)} {n : Nat}, fs.length ≤ n → (putF f v fs).length ≤ n + 1
  | [], n, h => by show 1 ≤ n + 1; omega
  | (g, x) :: r, n, h => by
    show (if g = f then (g, v) :: r else (g, x) :: putF f v r).length ≤ n + 1
    have h' : r.length + 1 ≤ n := h
    split
    · show r.length + 1 ≤ n + 1
      omega
    · show (putF f v r).length + 1 ≤ n + 1
      have := flen (f := f) (v := v) (fs := r) (n := n - 1) (by omega)
      omega
/-! ### fields -/
theorem rd_sFld {K : PySem.W.Frag} {ta tv : TE} {f : Str} {D : Ends} {σ : St} {H : Hp} (q : tv σ H fun y H1 => ta σ H1 fun x H2 => ∃ a C dx fs, x = .ref a ∧ H2 a = some (.ins C dx fs) ∧ Cls K C ∧ NoAttr K C f ∧ fs.length < 1000 ∧ D.nx σ (upd H2 a (.ins C dx (putF f y fs)))) : sFld K ta tv f D σ H := q
theorem del_keep {H : Hp} {x : Addr} : Keep (del H x) H := fun b o e => by
  by_cases h : b = x
  · rw [h, del_same] at e; cases e
  · rw [del_ne h] at e; exact e
theorem keep_del {H : Hp} {x b : Addr} {o : HO} (h : H b = some o) (hne : b ≠ x) : del H x b = some o := by rw [del_ne hne]; exact h
theorem plan_del {K : PySem.W.Frag} {H : Hp} {x C dx : Addr} {fs : List (Str × V)} {v : V} {ks : List Kd} (hx : H x = some (.ins C dx fs)) (h : PlanAt K H v ks) : PlanAt K (del H x) v ks := by
  obtain ⟨a, vs, e, q1, q2⟩ := h
  refine ⟨a, vs, e, ?_, Paired.mapP q2 fun y k ⟨p, q, e1, e2, e3⟩ => ⟨p, q, e1, keep_del e2 (ne_of e2 hx (fun z => by cases z)), keep_del e3 (ne_of e3 hx (fun z => by cases z))⟩⟩
  rcases q1 with (h | ⟨o, h⟩) | h
  · exact .inl (.inl (keep_del h (ne_of h hx (fun z => by cases z))))
  · exact .inl (.inr ⟨o, keep_del h (ne_of h hx (fun z => by cases z))⟩)
  · exact .inr h
theorem zip_fst_paired {α : Type} {R : V → α → Prop} (nm : α → Str) : ∀ {vs : List V} {as : List α}, Paired R vs as → Paired (fun (p : Key × V) (a : α) => p.1 = .inr (nm a) ∧ R p.2 a) ((vs.zip as).map fun p => ((.inr (nm p.2) : Key), p.1)) as
  | _, _, .nil => .nil
  | _, _, .cons r t => .cons ⟨rfl, r⟩ (zip_fst_paired nm t)
theorem zip_keys {α : Type} {R : V → α → Prop} (nm : α → Str) : ∀ {vs : List V} {as : List α}, Paired R vs as → ((vs.zip as).map fun p => ((.inr (nm p.2) : Key), p.1)).map (·.1) = (as.map nm).map (fun n => (.inr n : Key))
  | _, _, .nil => rfl
  | _, _, .cons r t => by
    have ih := zip_keys nm t
    simp only [List.zip_cons_cons, List.map_cons] at ih ⊢
    rw [ih]
theorem nodup_inr : ∀ {l : List Str}, l.Nodup → (l.map fun n => (.inr n : Key)).Nodup
  | [], _ => List.nodup_nil
  | n :: r, h => by
    rw [List.nodup_cons] at h
    rw [List.map_cons, List.nodup_cons]
    refine ⟨fun q => ?_, nodup_inr h.2⟩
    obtain ⟨m, h1, h2⟩ := List.mem_map.mp q
    cases h2
    exact h.1 h1
/-- the kinds' dict -/
theorem kinds_new {H : Hp} {D : Addr} {vs : List V} {ks : List Kd} (S : Std ks) (pr : KdsAt H vs ks) (h : H D = some (.dK (mergeK [] ((vs.zip ks).map fun p => ((.inr p.2.name : Key), p.1))))) : KindsAt H D ks := by
  refine ⟨_, h, ?_⟩
  rw [merge_new _ _ (by rw [zip_keys (·.name) pr]; exact nodup_inr S.nodup) (fun p _ => valV_nil), List.nil_append]
  exact zip_fst_paired (·.name) pr
theorem rd_fldI {K : PySem.W.Frag} {H : Hp} {Q : VK} {x C dx : Addr} {fs : List (Str × V)} {f : Str} {v : V} (h : H x = some (.ins C dx fs)) (c : Cls K C) (n : NoAttr K C f) (l : fs.lookup f = some v) (q : Q v H) :
    ∃ a C dx fs v', V.ref x = .ref a ∧ H a = some (.ins C dx fs) ∧ Cls K C ∧ NoAttr K C f ∧ fs.lookup f = some v' ∧ Q v' H := ⟨x, C, dx, fs, v, rfl, h, c, n, l, q⟩
theorem rd_fldX {K : PySem.W.Frag} {ta : TE} {σ : St} {H : Hp} {Q : VK} {x C dx : Addr} {fs : List (Str × V)} {f : Str} {v : V} (ht : ∀ P : VK, P (.ref x) H → ta σ H P) (h : H x = some (.ins C dx fs)) (c : Cls K C) (n : NoAttr K C f) (l : fs.lookup f = some v) (q : Q v H) : tFld K ta f σ H Q :=
  rd_fld (ht _ ⟨x, C, dx, fs, v, rfl, h, c, n, l, q⟩)
theorem rd_lcKeys {tl : TE} {j : Nat} {tt : TT} {te : TE} {σ : St} {H : Hp} {Q : VK} (q : tl σ H fun x H1 => ∃ d o, x = .ref d ∧ ((∃ kvs, H1 d = some (.frz o (.dK kvs)) ∧ LcK (Itk d o kvs) j tt te σ Q H1) ∨ ∃ kvs, H1 d = some (.frz o (.dT kvs)) ∧ LcK (Itkt d o kvs) j tt te σ Q H1)) : tLc (iKeys tl) (gName j) tt te [j] σ H Q := q
theorem lcK_keys {d : Addr} {o : Obj} {kvs : List (Key × V)} {ns : List Str} {j : Nat} {tt : TT} {te : TE} {σ : St} {Q : VK} {H1 : Hp} (hd : H1 d = some (.frz o (.dK kvs))) (hk : kvs.map (·.1) = ns.map fun n => (.inr n : Key)) (hn : ns.length ≤ 1000) (c : Str → Bool) (f : Str → V)
    (e : Els (fun x n => x = V.str n) ns c f j tt te σ H1) (q : ∀ D H', Keep H1 H' → H1 D = none → H' D = some (.lst ((ns.filter c).map f)) → Q (.ref D) H') : LcK (Itk d o kvs) j tt te σ Q H1 := by
  have hl : kvs.length = ns.length := by
    have := congrArg List.length hk
    simpa using this
  have w : Walk (Itk d o kvs) ((ns.map V.str).length) (fun H => H d = some (.frz o (.dK kvs))) (YAt (ns.map V.str)) := by
    rw [List.length_map, ← hl]
    refine walk_keys.mono (fun _ h => h) fun i H x H' hi _ y => ?_
    obtain ⟨h1, k, v, h2, h3⟩ := y
    refine ⟨h1, ?_⟩
    have e1 : (kvs.map (·.1))[i]? = some k := by rw [List.getElem?_map, h2]; rfl
    rw [hk, List.getElem?_map] at e1
    rw [List.getElem?_map]
    cases hq : ns[i]? with
    | none => rw [hq] at e1; cases e1
    | some n =>
      rw [hq] at e1
      have e2 : k = .inr n := (Option.some.inj e1).symm
      rw [h3, e2]
      rfl
  exact lcK (paired_map _ _) w (fun H' k => k _ _ hd) (by rw [List.length_map]; exact le1000 hn) c f e q
theorem own_upd {H : Hp} {d o : Addr} {n m : Nat} {p q : Str → Bool} (h1 : OwnAt H d n p) (h2 : OwnAt H o m q) (hne : d ≠ o) (hz : n + m ≤ 1000) {Q : VK} (k : ∀ H', (∀ b u, b ≠ d → H b = some u → H' b = some u) → OwnAt H' d (n + m) (fun z => p z || q z) → Q .non H') : rUpd (.ref d) [.ref o] H Q := by
  obtain ⟨kv, e1, l1, v1⟩ := h1
  obtain ⟨mv, e2, l2, v2⟩ := h2
  refine ⟨d, o, kv, mv, rfl, rfl, hne, e1, e2, le1000 (by omega), k _ (fun b u hb e => by rw [upd_ne hb]; exact e) ⟨_, upd_same, Nat.le_trans (length_mergeK _ _) (by omega), fun z => ?_⟩⟩
  rw [merge_some, v1]
  congr 1
  rw [← v2]
  have key : ∀ l : List (Key × V), (l.any fun r => decide (r.1 = .inr z)) = (valV l (.inr z : Key)).isSome := fun l => valV_any (.inr z) l
  exact key mv

theorem r_Chart_init {P : Program} {w : World} {K : PySem.W.Frag} {mg : Str → Option Value} (T : Txt K mg) {vs : List V} {H : Hp} {Q : VK} {E : XK} (h : sp_Chart_init K vs H Q E) : t_Chart_init P w K E { nx := fun _ H' => Q .non H', rt := Q } (L2.start N_Chart_init vs) H := by
  obtain ⟨x, dx, v, ks, rfl, hx, hp, lay, q⟩ := h
  have S := lay.std
  obtain ⟨l1, l2⟩ := lay.len
  have hp' := plan_del hx hp
  obtain ⟨a, xs, rfl, sq, kds⟩ := hp'
  have k0 : Keep (del H x) H := del_keep
  have hxl : xs.length = ks.length := paired_len kds
  have fx : del H x x = none := del_same
  unfold t_Chart_init
  walk_at "rd"
  -- plan
  refine rd_sFld ?_
  walk_at "rd"
  refine ⟨a, xs, ks, rfl, k0.sqT sq, k0.kds kds, lay.2, fun _ H1 k1 => ?_, fun pl e => by rw [lay.1] at e; cases e⟩
  walk_at "rd"
  refine ⟨x, _, dx, [], rfl, k1 _ _ hx, T.cls, T.noat _ (by simp), (by decide), ?_⟩
  have kA : Keep (del H x) (upd H1 x (.ins (He.ga K "Chart") dx (putF "plan" (.ref a) []))) := (k0.trans k1).at_ fx
  generalize hH2 : upd H1 x (.ins (He.ga K "Chart") dx (putF "plan" (.ref a) [])) = H2 at kA ⊢
  have hx2 : H2 x = some (.ins (He.ga K "Chart") dx (putF "plan" (.ref a) [])) := by rw [← hH2, upd_same]
  clear hH2 k1
  -- kinds
  walk_at "rd"
  refine rd_sFld ?_
  refine rd_dcT ?_
  walk_at "rd"
  refine fin_D (kA.sqT sq) (kA.kds kds) (by omega) (fun k => .inr k.name) (fun x _ => x) (fun y k H3 P r k3 p => ?_) (fun y k H3 P r k3 p => ?_) fun dk H3 k3 hn3 hdk => ?_
  · obtain ⟨ka, kb, rfl, e1, e2⟩ := r
    walk_at "rd"
    exact rd_ixT (.inl (.inl (k3 _ _ e1))) (atI_nat (j := 0) rfl) p
  · walk_at "rd"
    exact p
  have hkd := kinds_new S ((kA.trans k3).kds kds) hdk
  walk_at "rd"
  refine ⟨x, _, dx, _, rfl, k3 _ _ hx2, T.cls, T.noat _ (by simp), Nat.lt_of_le_of_lt (flen (Nat.le_refl 0)) (by decide), ?_⟩
  have fdk : del H x dk = none := kA.free hn3
  have xdk : x ≠ dk := ne_of_none hx2 hn3
  have kB : Keep (del H x) (upd H3 x (.ins (He.ga K "Chart") dx (putF "kinds" (.ref dk) (putF "plan" (.ref a) [])))) := (kA.trans k3).at_ fx
  have hkd4 : KindsAt (upd H3 x (.ins (He.ga K "Chart") dx (putF "kinds" (.ref dk) (putF "plan" (.ref a) [])))) dk ks := by
    obtain ⟨kv, e, pr⟩ := hkd
    refine ⟨kv, by rw [upd_ne (Ne.symm xdk)]; exact e, Paired.mapP pr fun p k ⟨h1, p1, p2, h2, h3, h4⟩ => ⟨h1, p1, p2, h2, ?_, ?_⟩⟩
    · rw [upd_ne (ne_of h3 (k3 _ _ hx2) (fun z => by cases z))]; exact h3
    · rw [upd_ne (ne_of h4 (k3 _ _ hx2) (fun z => by cases z))]; exact h4
  generalize hH4 : upd H3 x (.ins (He.ga K "Chart") dx (putF "kinds" (.ref dk) (putF "plan" (.ref a) []))) = H4 at kB hkd4 ⊢
  have hx4 : H4 x = some (.ins (He.ga K "Chart") dx (putF "kinds" (.ref dk) (putF "plan" (.ref a) []))) := by rw [← hH4, upd_same]
  clear hH4 hkd hdk k3 hx2
  -- under
  walk_at "rd"
  refine rd_sFld ?_
  refine rd_dnew fun du hdu => ?_
  walk_at "rd"
  have n1 : Keep H4 (upd H4 du (.dK [])) := .new hdu
  refine ⟨x, _, dx, _, rfl, n1 _ _ hx4, T.cls, T.noat _ (by simp), Nat.lt_of_le_of_lt (flen (flen (Nat.le_refl 0))) (by decide), ?_⟩
  have fdu : del H x du = none := kB.free hdu
  have xdu : x ≠ du := ne_of_none hx4 hdu
  have kdu : dk ≠ du := by
    obtain ⟨kv, e, _⟩ := hkd4
    exact ne_of_none e hdu
  have kC : Keep (del H x) (upd (upd H4 du (.dK [])) x (.ins (He.ga K "Chart") dx (putF "under" (.ref du) (putF "kinds" (.ref dk) (putF "plan" (.ref a) []))))) := (kB.trans n1).at_ fx
  have hkd5 : KindsAt (upd (upd H4 du (.dK [])) x (.ins (He.ga K "Chart") dx (putF "under" (.ref du) (putF "kinds" (.ref dk) (putF "plan" (.ref a) []))))) dk ks := by
    obtain ⟨kv, e, pr⟩ := n1.kinds hkd4
    refine ⟨kv, by rw [upd_ne (Ne.symm xdk)]; exact e, Paired.mapP pr fun p k ⟨h1, p1, p2, h2, h3, h4⟩ => ⟨h1, p1, p2, h2, ?_, ?_⟩⟩
    · rw [upd_ne (ne_of h3 (n1 _ _ hx4) (fun z => by cases z))]; exact h3
    · rw [upd_ne (ne_of h4 (n1 _ _ hx4) (fun z => by cases z))]; exact h4
  have hdu5 : (upd (upd H4 du (.dK [])) x (.ins (He.ga K "Chart") dx (putF "under" (.ref du) (putF "kinds" (.ref dk) (putF "plan" (.ref a) []))))) du = some (.dK []) := by rw [upd_ne (Ne.symm xdu), upd_same]
  generalize hH5 : upd (upd H4 du (.dK [])) x (.ins (He.ga K "Chart") dx (putF "under" (.ref du) (putF "kinds" (.ref dk) (putF "plan" (.ref a) [])))) = H5 at kC hkd5 hdu5 ⊢
  have hx5 : H5 x = some (.ins (He.ga K "Chart") dx (putF "under" (.ref du) (putF "kinds" (.ref dk) (putF "plan" (.ref a) [])))) := by rw [← hH5, upd_same]
  clear hH5 hkd4 hx4 hdu n1
  -- roots
  walk_at "rd"
  refine rd_sFld ?_
  refine rd_dnew fun dr hdr => ?_
  walk_at "rd"
  have n1 : Keep H5 (upd H5 dr (.dK [])) := .new hdr
  refine ⟨x, _, dx, _, rfl, n1 _ _ hx5, T.cls, T.noat _ (by simp), Nat.lt_of_le_of_lt (flen (flen (flen (Nat.le_refl 0)))) (by decide), ?_⟩
  have fdr : del H x dr = none := kC.free hdr
  have xdr : x ≠ dr := ne_of_none hx5 hdr
  have udr : du ≠ dr := ne_of_none hdu5 hdr
  have kdr : dk ≠ dr := by
    obtain ⟨kv, e, _⟩ := hkd5
    exact ne_of_none e hdr
  have kD : Keep (del H x) (upd (upd H5 dr (.dK [])) x (.ins (He.ga K "Chart") dx (putF "roots" (.ref dr) (putF "under" (.ref du) (putF "kinds" (.ref dk) (putF "plan" (.ref a) [])))))) := (kC.trans n1).at_ fx
  have hkd6 : KindsAt (upd (upd H5 dr (.dK [])) x (.ins (He.ga K "Chart") dx (putF "roots" (.ref dr) (putF "under" (.ref du) (putF "kinds" (.ref dk) (putF "plan" (.ref a) [])))))) dk ks := by
    obtain ⟨kv, e, pr⟩ := n1.kinds hkd5
    refine ⟨kv, by rw [upd_ne (Ne.symm xdk)]; exact e, Paired.mapP pr fun p k ⟨h1, p1, p2, h2, h3, h4⟩ => ⟨h1, p1, p2, h2, ?_, ?_⟩⟩
    · rw [upd_ne (ne_of h3 (n1 _ _ hx5) (fun z => by cases z))]; exact h3
    · rw [upd_ne (ne_of h4 (n1 _ _ hx5) (fun z => by cases z))]; exact h4
  have hdu6 : (upd (upd H5 dr (.dK [])) x (.ins (He.ga K "Chart") dx (putF "roots" (.ref dr) (putF "under" (.ref du) (putF "kinds" (.ref dk) (putF "plan" (.ref a) [])))))) du = some (.dK []) := by rw [upd_ne (Ne.symm xdu)]; exact n1 _ _ hdu5
  have hdr6 : (upd (upd H5 dr (.dK [])) x (.ins (He.ga K "Chart") dx (putF "roots" (.ref dr) (putF "under" (.ref du) (putF "kinds" (.ref dk) (putF "plan" (.ref a) [])))))) dr = some (.dK []) := by rw [upd_ne (Ne.symm xdr), upd_same]
  generalize hH6 : upd (upd H5 dr (.dK [])) x (.ins (He.ga K "Chart") dx (putF "roots" (.ref dr) (putF "under" (.ref du) (putF "kinds" (.ref dk) (putF "plan" (.ref a) []))))) = H6 at kD hkd6 hdu6 hdr6 ⊢
  have hx6 : H6 x = some (.ins (He.ga K "Chart") dx (putF "roots" (.ref dr) (putF "under" (.ref du) (putF "kinds" (.ref dk) (putF "plan" (.ref a) []))))) := by rw [← hH6, upd_same]
  clear hH6 hkd5 hx5 hdr n1 hdu5
  -- final
  walk_at "rd"
  refine rd_sFld ?_
  walk_at "rd"
  obtain ⟨kl, hkl⟩ : ∃ k, ks[ks.length - 1]? = some k := ⟨ks[ks.length - 1], List.getElem?_eq_getElem (by omega)⟩
  obtain ⟨yl, hyl⟩ : ∃ y, xs[xs.length - 1]? = some y := ⟨xs[xs.length - 1], List.getElem?_eq_getElem (by omega)⟩
  obtain ⟨kl', _, ⟨la, lb, rfl, hla, hlb⟩⟩ := kd_at kds hyl
  refine rd_un (rd_c (rd_u ?_))
  refine rd_ixT (kD.sqT sq) (i := -1) (v := .ref la) ?_ ?_
  · unfold atI ixN
    rw [if_neg (by decide), if_pos (by omega)]
    show xs[((-1 : Int) + xs.length).toNat]? = _
    rw [show ((-1 : Int) + xs.length).toNat = xs.length - 1 by omega]
    exact hyl
  walk_at "rd"
  refine rd_ixT (.inl (.inl (kD _ _ hla))) (atI_nat (j := 1) rfl) ?_
  walk_at "rd"
  refine ⟨x, _, dx, _, rfl, hx6, T.cls, T.noat _ (by simp), Nat.lt_of_le_of_lt (flen (flen (flen (flen (Nat.le_refl 0))))) (by decide), ?_⟩
  have kE : Keep (del H x) (upd H6 x (.ins (He.ga K "Chart") dx (putF "final" (.int kl'.ed) (putF "roots" (.ref dr) (putF "under" (.ref du) (putF "kinds" (.ref dk) (putF "plan" (.ref a) []))))))) := kD.at_ fx
  have hkd7 : KindsAt (upd H6 x (.ins (He.ga K "Chart") dx (putF "final" (.int kl'.ed) (putF "roots" (.ref dr) (putF "under" (.ref du) (putF "kinds" (.ref dk) (putF "plan" (.ref a) []))))))) dk ks := by
    obtain ⟨kv, e, pr⟩ := hkd6
    refine ⟨kv, by rw [upd_ne (Ne.symm xdk)]; exact e, Paired.mapP pr fun p k ⟨h1, p1, p2, h2, h3, h4⟩ => ⟨h1, p1, p2, h2, ?_, ?_⟩⟩
    · rw [upd_ne (ne_of h3 hx6 (fun z => by cases z))]; exact h3
    · rw [upd_ne (ne_of h4 hx6 (fun z => by cases z))]; exact h4
  have hdu7 : (upd H6 x (.ins (He.ga K "Chart") dx (putF "final" (.int kl'.ed) (putF "roots" (.ref dr) (putF "under" (.ref du) (putF "kinds" (.ref dk) (putF "plan" (.ref a) []))))))) du = some (.dK []) := by rw [upd_ne (Ne.symm xdu)]; exact hdu6
  have hdr7 : (upd H6 x (.ins (He.ga K "Chart") dx (putF "final" (.int kl'.ed) (putF "roots" (.ref dr) (putF "under" (.ref du) (putF "kinds" (.ref dk) (putF "plan" (.ref a) []))))))) dr = some (.dK []) := by rw [upd_ne (Ne.symm xdr)]; exact hdr6
  generalize hfs : putF "final" (.int kl'.ed) (putF "roots" (.ref dr) (putF "under" (.ref du) (putF "kinds" (.ref dk) (putF "plan" (.ref a) [])))) = fs at kE hkd7 hdu7 hdr7 ⊢
  have fk : fs.lookup ("kinds" : Str) = some (.ref dk) := by rw [← hfs]; rfl
  have fu : fs.lookup ("under" : Str) = some (.ref du) := by rw [← hfs]; rfl
  have fr : fs.lookup ("roots" : Str) = some (.ref dr) := by rw [← hfs]; rfl
  generalize hH7 : upd H6 x (.ins (He.ga K "Chart") dx fs) = H7 at kE hkd7 hdu7 hdr7 ⊢
  have hx7 : H7 x = some (.ins (He.ga K "Chart") dx fs) := by rw [← hH7, upd_same]
  clear hH7 hkd6 hx6 hdr6 hdu6 hfs
  -- the loop
  dsimp only
  refine rd_for (rd_iT ?_)
  walk_at "rd"
  refine ⟨a, rfl, ⟨xs, kE.sqT sq⟩, ?_⟩
  refine for_tup (xs := xs) (fun i σ H1 => ∃ (x2 x3 x4 x5 x6 x7 x8 : Option V), σ = [some (.ref x), some (.ref a), x2, x3, x4, x5, x6, x7, x8, none, none] ∧ Keep (del H x) H1 ∧ H1 x = some (.ins (He.ga K "Chart") dx fs) ∧ KindsAt H1 dk ks ∧
    UndT H1 du (undI ks i) ∧ UndT H1 dr ((ks.take i).map fun k => (k.name, rts ks k.name))) ?_ ?_ ?_ ?_
  · exact ⟨none, none, none, none, none, none, none, rfl, kE, hx7, hkd7, ⟨[], hdu7, .nil⟩, ⟨[], hdr7, .nil⟩⟩
  · rintro i σ H1 _ ⟨x2, x3, x4, x5, x6, x7, x8, rfl, k, _⟩
    exact k.sqT sq
  · rintro i y σ H1 hy ⟨x2, x3, x4, x5, x6, x7, x8, rfl, k, hx1, hk1, hu1, hr1⟩
    obtain ⟨kd, hkd, ⟨ka, kb, rfl, hka, hkb⟩⟩ := kd_at kds hy
    have hm : kd ∈ ks := List.mem_of_getElem? hkd
    have ok := lay.2 kd hm
    obtain ⟨a1, a2, a3, a4, s1, s2, s3, s4⟩ := kd_asc ok
    have hbl : kd.bases.length ≤ 6 := by
      unfold Kd.ok kindOk at ok
      simp only [Bool.and_eq_true] at ok
      obtain ⟨⟨⟨_, _⟩, h2⟩, _⟩ := ok
      unfold basesOk at h2
      simp only [Bool.and_eq_true] at h2
      exact of_decide_eq_true h2.1.1
    have new := S.new i kd hkd
    refine rd_gtup (.inl (.inl (k _ _ hka))) rfl ?_
    walk_at "rd"
    -- own
    refine rd_dcT ?_
    walk_at "rd"
    refine fin_D (.inl (.inl (k _ _ hkb))) (paired_map _ _) (by rw [List.length_map]; omega) (fun b => .inr b) (fun _ _ => .bl true) (fun y b H3 P r k3 p => ?_) (fun y b H3 P r k3 p => ?_) fun D H2 k2 hnD hD => ?_
    · subst r
      walk_at "rd"
      exact p
    · walk_at "rd"
      exact p
    have own0 := own_new hD (by rw [List.length_map])
    have fD : del H x D = none := k.free hnD
    walk_at "rd"
    -- own grows
    refine rd_for (rd_iT ?_)
    walk_at "rd"
    have kk2 := k.trans k2
    refine ⟨kb, rfl, ⟨_, .inl (.inl (kk2 _ _ hkb))⟩, ?_⟩
    have dne : ∀ {p : Addr} {o : HO}, H1 p = some o → p ≠ D := fun e => ne_of_none e hnD
    refine for_tup (xs := kd.bases.map V.str) (fun j σ H3 => ∃ x7 : Option V, σ = [some (.ref x), some (.ref a), some (.str kd.name), some (.int kd.ed), some (.ref kb), some (.str kd.letter), some (.str kd.mark), x7, some (.ref D), none, none] ∧
      Keep H1 H3 ∧ OwnAt H3 D (6 + 24 * j) (fun o => decide (o ∈ kd.bases) || (kd.bases.take j).any fun b => decide (o ∈ look (undI ks i) b))) ?_ ?_ ?_ ?_
    · refine ⟨x7, rfl, k2, ?_⟩
      obtain ⟨kv, e1, e2, e3⟩ := own0
      exact ⟨kv, e1, by omega, fun o => by rw [e3]; simp⟩
    · rintro j σ H3 _ ⟨x7, rfl, k3, _⟩
      exact .inl (.inl ((k.trans k3) _ _ hkb))
    · rintro j y σ H3 hyj ⟨x7, rfl, k3, ho3⟩
      rw [List.getElem?_map] at hyj
      obtain ⟨b, hb, rfl⟩ : ∃ b, kd.bases[j]? = some b ∧ V.str b = y := by
        cases hq : kd.bases[j]? with
        | none => rw [hq] at hyj; cases hyj
        | some b => exact ⟨b, rfl, by rw [hq] at hyj; exact Option.some.inj hyj⟩
      have hj6 : j < 6 := by
        have := (List.getElem?_eq_some_iff.mp hb).1
        omega
      have hbm : b ∈ kd.bases := List.mem_of_getElem? hb
      have hbt := S.ahd i kd hkd b hbm
      walk_at "rd"
      refine rd_bm ?_
      walk_at "rd"
      obtain ⟨kv3, e31, e32, e33⟩ := id ho3
      refine ⟨.inr (.inr (.inl ⟨rfl, .inl ⟨_, e31⟩⟩)), ?_⟩
      walk_at "rd"
      refine rd_dcT ?_
      refine rd_dget ?_
      refine rd_fldX (fun P p => rd_var rfl p) (k3 _ _ hx1) T.cls (T.noat _ (by simp)) fu ?_
      walk_at "rd"
      obtain ⟨ul, hg, hul⟩ := (k3.undT hu1).get (b := b) (by rw [undI_keys]; exact hbt)
      refine ⟨du, _, rfl, hg, ?_⟩
      have hll : (look (undI ks i) b).length ≤ 24 := by
        obtain ⟨jj, l, hjl, hl, e⟩ := mem_take hbt
        rw [← look_pre hbt, ← e]
        exact Nat.le_trans (look_len S (List.mem_of_getElem? hl)) l2
      refine fin_D (.inl (.inl hul)) (paired_map _ _) (by rw [List.length_map]; omega) (fun b => .inr b) (fun _ _ => .bl true) (fun y b H3 P r k3 p => ?_) (fun y b H3 P r k3 p => ?_) fun O H4 k4 hnO hO => ?_
      · subst r
        walk_at "rd"
        exact p
      · walk_at "rd"
        exact p
      have ownO := own_new hO (by rw [List.length_map])
      walk_at "rd"
      have hDO : D ≠ O := ne_of_none e31 hnO
      have ho4 : OwnAt H4 D (6 + 24 * j) (fun o => decide (o ∈ kd.bases) || (kd.bases.take j).any fun b => decide (o ∈ look (undI ks i) b)) := ⟨kv3, k4 _ _ e31, e32, e33⟩
      refine own_upd ho4 ownO hDO (by omega) fun H5 k5 ho5 => ?_
      refine ⟨_, rfl, fun p u e => k5 p u (dne e) (k4 _ _ (k3 _ _ e)), ?_⟩
      obtain ⟨kv5, e51, e52, e53⟩ := ho5
      refine ⟨kv5, e51, by omega, fun o => ?_⟩
      rw [e53, List.take_add_one, hb]
      simp only [Option.toList_some, List.any_append, List.any_cons, List.any_nil, Bool.or_false, Bool.or_assoc]
    · rintro σ H3 ⟨x7', rfl, k3, ho3⟩
      rw [List.length_map, List.take_length] at ho3
      have ho3 : OwnAt H3 D (6 + 24 * kd.bases.length) (ownIn (undI ks i) kd.bases) := ho3
      obtain ⟨kv3, e31, e32, e33⟩ := id ho3
      -- under[name]
      have k3' := k.trans k3
      walk_at "rd"
      obtain ⟨kkv, ekk, pkk⟩ := k3.kinds hk1
      refine ⟨dk, _, ekk, True.intro, fun od => ?_⟩
      have hxdk : x ≠ dk := xdk
      refine rd_lcKeys ?_
      refine rd_fldX (fun P p => rd_var rfl p) (by rw [upd_ne hxdk]; exact k3 _ _ hx1) T.cls (T.noat _ (by simp)) fk ?_
      refine ⟨dk, od, rfl, .inl ⟨kkv, upd_same, ?_⟩⟩
      obtain ⟨kv0, ekv0, _⟩ := id hk1
      have hDdk : D ≠ dk := Ne.symm (dne ekv0)
      have kkeys : kkv.map (·.1) = (nms ks).map fun n => (.inr n : Key) := by
        have key : ∀ {l : List (Key × V)} {m : List Kd}, Paired (fun (p : Key × V) (k : Kd) => p.1 = .inr k.name ∧ KdAt H3 p.2 k) l m → l.map (·.1) = (nms m).map fun n => (.inr n : Key) := by
          intro l m h
          induction h with
          | nil => rfl
          | cons r t ih =>
            unfold nms at ih ⊢
            rw [List.map_cons, List.map_cons, List.map_cons, ih, r.1]
        exact key pkk
      refine lcK_keys (H1 := upd H3 dk (.frz od (.dK kkv))) upd_same kkeys (by unfold nms; rw [List.length_map]; omega) (ownIn (undI ks i) kd.bases) V.str ⟨fun y n H4 Kt r hm4 k4 q => ?_, fun y n H4 Ke r hm4 hc k4 q => ?_⟩ fun U H4 k4 hnU hU => ?_
      · subst r
        walk_at "rd"
        refine rd_din ?_
        walk_at "rd"
        have e4 : H4 D = some (.dK kv3) := k4 _ _ (by rw [upd_ne hDdk]; exact e31)
        refine ⟨D, _, rfl, DGet.k (k := .inr n) e4, ?_⟩
        walk_at "rd"
        rw [e33]
        exact q H4 (.refl H4)
      · subst r
        walk_at "rd"
        exact q H4 (.refl H4)
      · have hU3 : H3 U = none := by
          have : U ≠ dk := fun z => by rw [z, upd_same] at hnU; cases hnU
          rw [upd_ne this] at hnU
          exact hnU
        have hUdk : U ≠ dk := fun z => by rw [z, ekk] at hU3; cases hU3
        refine ⟨k4 _ _ upd_same, ?_⟩
        have k5 : Keep H3 (upd H4 dk (.dK kkv)) := fun p o e => by
          by_cases hp : p = dk
          · rw [hp] at e ⊢
            rw [upd_same]
            rw [ekk] at e
            exact e
          · rw [upd_ne hp]
            exact k4 _ _ (by rw [upd_ne hp]; exact e)
        have hU5 : upd H4 dk (.dK kkv) U = some (.lst (((nms ks).filter (ownIn (undI ks i) kd.bases)).map V.str)) := by rw [upd_ne hUdk]; exact hU
        generalize upd H4 dk (.dK kkv) = H5 at k5 hU5 ⊢
        walk_at "rd"
        refine rd_tupL (.inl (.inl hU5)) fun tu htu => ?_
        have k6 : Keep H3 (upd H5 tu (.tup (((nms ks).filter (ownIn (undI ks i) kd.bases)).map V.str))) := k5.tnew htu
        have htu6 : upd H5 tu (.tup (((nms ks).filter (ownIn (undI ks i) kd.bases)).map V.str)) tu = some (.tup (((nms ks).filter (ownIn (undI ks i) kd.bases)).map V.str)) := upd_same
        generalize upd H5 tu (.tup (((nms ks).filter (ownIn (undI ks i) kd.bases)).map V.str)) = H6 at k6 htu6 ⊢
        have k16 := (k3.trans k6)
        walk_at "rd"
        refine rd_gsub ?_
        refine rd_fldX (fun P p => rd_var rfl p) (k16 _ _ hx1) T.cls (T.noat _ (by simp)) fu ?_
        walk_at "rd"
        have hlk := look_at S hkd
        obtain ⟨ukv, eu1, eu2, hu7⟩ := (k16.undT hu1).put (n := kd.name) (by rw [undI_keys]; exact new) htu6
        have hi : i < 24 := by
          have := (List.getElem?_eq_some_iff.mp hkd).1
          omega
        have hul : (undI ks i).length ≤ 24 := by
          have e : (undI ks i).length = ((undI ks i).map (·.1)).length := by rw [List.length_map]
          rw [e, undI_keys]
          unfold nms
          rw [List.length_map, List.length_take]
          omega
        refine ⟨du, _, rfl, .inl ⟨ukv, .inr kd.name, eu1, rfl, Nat.lt_of_le_of_lt (by rw [eu2]; exact hul) (by decide), rfl⟩, ?_⟩
        have k7 : Keep (del H x) (upd H6 du (.dK (putK ukv (.inr kd.name) (.ref tu)))) := (k.trans k16).at_ fdu
        have hx7' : upd H6 du (.dK (putK ukv (.inr kd.name) (.ref tu))) x = some (.ins (He.ga K "Chart") dx fs) := by rw [upd_ne xdu]; exact k16 _ _ hx1
        have hk7 : KindsAt (upd H6 du (.dK (putK ukv (.inr kd.name) (.ref tu)))) dk ks := (k16.kinds hk1).chg eu1 kdu
        have hr7 : UndT (upd H6 du (.dK (putK ukv (.inr kd.name) (.ref tu)))) dr ((ks.take i).map fun k => (k.name, rts ks k.name)) := (k16.undT hr1).chg eu1 (Ne.symm udr)
        rw [← undI_succ hkd] at hu7
        generalize upd H6 du (.dK (putK ukv (.inr kd.name) (.ref tu))) = H7' at k7 hx7' hk7 hr7 hu7 ⊢
        -- roots[name]
        walk_at "rd"
        refine rd_lcT ?_
        refine rd_dget ?_
        refine rd_fldX (fun P p => rd_var rfl p) hx7' T.cls (T.noat _ (by simp)) fu ?_
        walk_at "rd"
        obtain ⟨ul, hg, hul2⟩ := hu7.get (b := kd.name) (by rw [undI_keys]; exact take_mem hkd (Nat.lt_succ_self i))
        have e7 : look (undI ks (i + 1)) kd.name = look (undr ks) kd.name := (look_pre (take_mem hkd (Nat.lt_succ_self i))).symm
        rw [e7] at hul2
        refine ⟨du, _, rfl, hg, ?_⟩
        have hll : (look (undr ks) kd.name).length ≤ 24 := Nat.le_trans (look_len S hm) l2
        refine fin_T (.inl (.inl hul2)) (paired_map _ _) (le1000 (by rw [List.length_map]; omega)) (fun o => (bsOf ks o).isEmpty) V.str ⟨fun y o H8 Kt r hm8 k8 q => ?_, fun y o H8 Ke r hm8 hc k8 q => ?_⟩ fun R8 H8 k8 hn8 hR8 => ?_
        · subst r
          have ho : o ∈ nms ks := ((look_mem S hkd).mp hm8).1
          refine rd_test (rd_op ?_)
          refine rd_op ?_
          refine rd_dget ?_
          refine rd_fldX (fun P p => rd_var rfl p) (k8 _ _ hx7') T.cls (T.noat _ (by simp)) fk ?_
          walk_at "rd"
          obtain ⟨vv, kk, hf, hg8, ⟨pa, pb, rfl, hpa, hpb⟩⟩ := (k8.kinds hk7).get ho
          refine ⟨dk, _, rfl, hg8, ?_⟩
          walk_at "rd"
          refine rd_ixT (.inl (.inl hpa)) (atI_nat (j := 2) rfl) ?_
          refine rd_tup ?_
          walk_at "rd"
          refine ⟨Nat.zero_le _, fun p hp => ?_⟩
          have hkm : kk ∈ ks := List.mem_of_find?_eq_some hf
          refine rd_eqT0 (.inl (.inl ((Keep.new hp) _ _ hpb))) (.inl (.inl upd_same)) (kd_asc (lay.2 kk hkm)).2.1 ?_
          have eb : (bsOf ks o).isEmpty = kk.bases.isEmpty := by
            unfold bsOf
            rw [hf]
            rfl
          walk_at "rd"
          rw [← eb]
          exact q _ (.new hp)
        · subst r
          walk_at "rd"
          exact q H8 (.refl H8)
        · rw [rts_of S hkd] at hR8
          walk_at "rd"
          refine rd_tupL (.inl (.inl hR8)) fun tr htr => ?_
          have k9 : Keep H7' (upd H8 tr (.tup ((rts ks kd.name).map V.str))) := k8.tnew htr
          have htr9 : upd H8 tr (.tup ((rts ks kd.name).map V.str)) tr = some (.tup ((rts ks kd.name).map V.str)) := upd_same
          generalize upd H8 tr (.tup ((rts ks kd.name).map V.str)) = H9 at k9 htr9 ⊢
          walk_at "rd"
          refine rd_gsub ?_
          refine rd_fldX (fun P p => rd_var rfl p) (k9 _ _ hx7') T.cls (T.noat _ (by simp)) fr ?_
          walk_at "rd"
          have hnr : kd.name ∉ (((ks.take i).map fun k => (k.name, rts ks k.name)).map (·.1)) := by
            rw [List.map_map]
            exact new
          obtain ⟨rkv, er1, er2, hr10⟩ := (k9.undT hr7).put (n := kd.name) hnr htr9
          refine ⟨dr, _, rfl, .inl ⟨rkv, .inr kd.name, er1, rfl, Nat.lt_of_le_of_lt (by rw [er2, List.length_map, List.length_take]; omega) (show 24 < sizeLine by decide), rfl⟩, ?_⟩
          have hx10 := k9 _ _ hx7'
          refine ⟨_, _, _, _, _, _, _, rfl, (k7.trans k9).at_ fdr, by rw [upd_ne xdr]; exact hx10, (k9.kinds hk7).chg er1 kdr, (k9.undT hu7).chg er1 udr, ?_⟩
          have e10 : ((ks.take (i + 1)).map fun k => (k.name, rts ks k.name)) = ((ks.take i).map fun k => (k.name, rts ks k.name)) ++ [(kd.name, rts ks kd.name)] := by
            rw [List.take_add_one, hkd, List.map_append]
            rfl
          rw [e10]
          exact hr10
  · rintro σ H1 ⟨x2, x3, x4, x5, x6, x7, x8, rfl, k, hx1, hk1, hu1, hr1⟩
    refine q H1 (fun b o hb e => k b o (keep_del e hb)) ⟨x, dx, fs, dk, dr, rfl, hx1, fk, fr, hk1, ?_⟩
    rw [hxl, List.take_length] at hr1
    exact hr1
end Cp
set_option maxHeartbeats 8000000
/-! Parts and files of the package. -/
namespace Cp
open PySem L2 LamX
local macro_rules | `(tactic| walk_at "rd") => `(tactic| repeat (first
  | with_reducible apply rd_seq | with_reducible apply rd_asg | with_reducible apply rd_gname | with_reducible apply rd_if | with_reducible apply rd_ret | with_reducible apply rd_drop | with_reducible apply rd_next
  | with_reducible apply rd_op | with_reducible apply rd_cb | with_reducible apply rd_cons | with_reducible apply rd_nil | with_reducible apply rd_c | with_reducible apply rd_tb | with_reducible apply rd_test | with_reducible apply rd_not
  | with_reducible apply rd_or | with_reducible apply rd_and | with_reducible apply rd_call | with_reducible apply rd_chain | with_reducible apply rd_andV | with_reducible apply rd_notV | with_reducible apply rd_ifx
  | with_reducible apply rd_gcons | with_reducible apply rd_gnil
  | ((with_reducible apply rd_var); exact rfl) | (with_reducible apply rd_bk)))
theorem look_map {ks : List Kd} {f : Str → List Str} {nm : Str} (h : nm ∈ nms ks) : look (ks.map fun k => (k.name, f k.name)) nm = f nm := by
  induction ks with
  | nil => simp [nms] at h
  | cons k r ih =>
    unfold look at ih ⊢
    rw [List.map_cons]
    simp only [List.lookup]
    by_cases e : nm = k.name
    · rw [e, beq_self_eq_true]
      rfl
    · rw [beq_eq_false_iff_ne.mpr e]
      refine ih ?_
      unfold nms at h ⊢
      rw [List.map_cons, List.mem_cons] at h
      exact h.resolve_left e
/-- a chart's rows, by name -/
theorem chart_at {K : PySem.W.Frag} {H : Hp} {ch : V} {ks : List Kd} {nm : Str} (h : ChartAt K H ch ks) (lay : Lay ks) (hn : nm ∈ nms ks) : ∃ (x dx : Addr) (fs : List (Str × V)) (dk dr : Addr) (kk : Kd) (ka kb lr : Addr), ch = .ref x ∧ H x = some (.ins (He.ga K "Chart") dx fs) ∧ fs.lookup ("kinds" : Str) = some (.ref dk) ∧
    fs.lookup ("roots" : Str) = some (.ref dr) ∧ kk ∈ ks ∧ kk.name = nm ∧ DGet H dk (.str nm) (some (.ref ka)) ∧ H ka = some (.tup [.str kk.name, .int kk.ed, .ref kb, .str kk.letter, .str kk.mark]) ∧ H kb = some (.tup (kk.bases.map V.str)) ∧
    DGet H dr (.str nm) (some (.ref lr)) ∧ H lr = some (.tup ((rts ks nm).map V.str)) ∧ (rts ks nm = [] ↔ kk.bases = []) := by
  obtain ⟨x, dx, fs, dk, dr, rfl, hx, fk, fr, hk, hr⟩ := h
  obtain ⟨v, kk, hf, hg, ⟨ka, kb, rfl, h1, h2⟩⟩ := hk.get hn
  obtain ⟨lr, hg2, h3⟩ := hr.get (b := nm) (by rw [List.map_map]; exact hn)
  have hm := List.mem_of_find?_eq_some hf
  have hnm0 := List.find?_some hf
  have hnm : kk.name = nm := by simpa using hnm0
  rw [look_map hn] at h3
  exact ⟨x, dx, fs, dk, dr, kk, ka, kb, lr, rfl, hx, fk, fr, hm, hnm, hg, h1, h2, hg2, h3, by rw [← hnm]; exact rts_nil lay.std hm⟩
theorem r_is_content {P : Program} {w : World} {K : PySem.W.Frag} {mg : Str → Option Value} (T : Txt K mg) {vs : List V} {H : Hp} {Q : VK} {E : XK} (h : sp_is_content K vs H Q E) : t_is_content P w K { nx := fun _ H' => Q .non H', rt := Q } (L2.start N_is_content vs) H := by
  obtain ⟨ch, ks, nm, v, rfl, hch, lay, hn, hq⟩ := h
  obtain ⟨x, dx, fs, dk, dr, kk, ka, kb, lr, rfl, hx, fk, fr, hm, hnm, hg, h1, h2, hg2, h3, hiff⟩ := chart_at hch lay hn
  have kasc := (kd_asc (lay.2 kk hm)).2.1
  unfold t_is_content
  walk_at "rd"
  refine rd_dget ?_
  refine rd_fldX (fun P p => rd_var rfl p) hx T.cls (T.noat _ (by simp)) fk ?_
  walk_at "rd"
  refine ⟨dk, _, rfl, hg, ?_⟩
  walk_at "rd"
  refine rd_ixT (.inl (.inl h1)) (atI_nat (j := 2) rfl) ?_
  refine rd_tup ?_
  walk_at "rd"
  refine ⟨Nat.zero_le _, fun p hp => ?_⟩
  have kp : Keep H (upd H p (.tup [])) := .new hp
  refine rd_eqT0 (.inl (.inl (kp _ _ h2))) (.inl (.inl upd_same)) kasc ?_
  generalize upd H p (.tup []) = H1 at kp ⊢
  walk_at "rd"
  rcases hq with ⟨hr, o, rfl, q⟩ | ⟨hr, os, ⟨ta, rfl, ht⟩, q⟩
  · have eb : kk.bases.isEmpty = true := by rw [hiff.mp hr]; rfl
    rw [eb]
    refine iteT ?_
    walk_at "rd"
    exact ⟨o, 0, 999999, rfl, q H1 kp⟩
  · have eb : kk.bases.isEmpty = false := by
      cases hb : kk.bases with
      | nil => exact absurd (hiff.mpr hb) hr
      | cons b r => rfl
    rw [eb]
    refine iteF ?_
    walk_at "rd"
    have sq : SqT K H1 ta (os.map numV) := .inl (.inl (kp _ _ ht))
    refine isi_tup sq ?_
    walk_at "rd"
    refine iteF ?_
    walk_at "rd"
    refine rd_lenT sq ?_
    walk_at "rd"
    refine rd_dget ?_
    obtain ⟨x', dx', fs', dk', dr', kk', ka', kb', lr', e1, hx', fk', fr', hm', hnm', hg', h1', h2', hg2', h3', hiff'⟩ := chart_at (kp.chart hch) lay hn
    cases e1
    refine rd_fldX (fun P p => rd_var rfl p) hx' T.cls (T.noat _ (by simp)) fr' ?_
    walk_at "rd"
    refine ⟨dr', _, rfl, hg2', ?_⟩
    walk_at "rd"
    refine rd_lenT (.inl (.inl h3')) ?_
    refine rd_ne rfl ?_
    rw [List.length_map, List.length_map]
    walk_at "rd"
    have el : decide (V.int (os.length : Nat) = V.int ((rts ks nm).length : Nat)) = decide (os.length = (rts ks nm).length) := by
      simp only [V.int.injEq, decide_eq_decide]
      omega
    rw [el]
    refine iteB (fun h => ?_) (fun h => ?_)
    · walk_at "rd"
      rw [nt h] at q
      exact q H1 kp
    · rw [nf h] at q
      have hl : os.length ≤ 24 := by
        rw [of_decide_eq_true (nf h)]
        exact Nat.le_trans (rts_len nm) lay.len.2
      walk_at "rd"
      refine rd_lcT ?_
      walk_at "rd"
      refine fin_T sq (paired_map _ _) (le1000 (by rw [List.length_map]; omega)) (fun _ => true) (fun o => .bl (inR 0 999999 o)) (.all fun y o H2 Ke r hmo k2 q => ?_) fun D H2 k2 hnD hD => ?_
      · subst r
        refine rd_call ?_
        walk_at "rd"
        exact ⟨o, 0, 999999, rfl, q H2 (.refl H2)⟩
      · rw [filt_all] at hD
        walk_at "rd"
        refine rd_all (os.map (inR 0 999999)) (by rw [List.map_map]; exact hD) ?_
        rw [all_map]
        exact q H2 (kp.trans k2)
theorem r_is_part {P : Program} {w : World} {K : PySem.W.Frag} {mg : Str → Option Value} (T : Txt K mg) {vs : List V} {H : Hp} {Q : VK} {E : XK} (h : sp_is_part K vs H Q E) : t_is_part P w K { nx := fun _ H' => Q .non H', rt := Q } (L2.start N_is_part vs) H := by
  obtain ⟨ch, ks, v, p, rfl, hch, lay, ⟨pa, c, rfl, hpa, hc⟩, ⟨hn, hok⟩, q⟩ := h
  obtain ⟨x, dx, fs, dk, dr, rfl, hx, fk, fr, hk, hr⟩ := id hch
  have sq : SqT K H pa [.str p.1, c] := .inl (.inl hpa)
  unfold t_is_part
  walk_at "rd"
  refine isi_tup sq ?_
  walk_at "rd"
  refine iteF ?_
  walk_at "rd"
  refine rd_lenT sq ?_
  walk_at "rd"
  refine rd_ne rfl ?_
  walk_at "rd"
  refine iteF ?_
  walk_at "rd"
  refine rd_ixT sq (atI_nat (j := 0) rfl) ?_
  walk_at "rd"
  refine isi_str ?_
  walk_at "rd"
  refine iteF ?_
  walk_at "rd"
  refine rd_din ?_
  walk_at "rd"
  refine rd_ixT sq (atI_nat (j := 0) rfl) ?_
  refine rd_fldX (fun P p => rd_var rfl p) hx T.cls (T.noat _ (by simp)) fk ?_
  obtain ⟨o, hg, ho⟩ := hk.has p.1
  refine ⟨dk, o, rfl, hg, o.isSome, rfl, ?_⟩
  rw [ho, decide_eq_true hn]
  refine iteT ?_
  walk_at "rd"
  refine rd_ixT sq (atI_nat (j := 0) rfl) ?_
  walk_at "rd"
  refine rd_ixT sq (atI_nat (j := 1) rfl) ?_
  walk_at "rd"
  refine ⟨.ref x, ks, p.1, c, rfl, hch, lay, hn, ?_⟩
  obtain ⟨nm, cc⟩ := p
  cases cc with
  | one n =>
    have hc : c = .int n := hc
    subst hc
    refine .inl ⟨hok.1, some n, rfl, fun H' k => ?_⟩
    have e : inR 0 999999 (some n) = true := by
      show (decide (0 ≤ n) && decide (n ≤ 999999)) = true
      rw [decide_eq_true hok.2.1, decide_eq_true hok.2.2]
      rfl
    rw [e]
    exact q H' k
  | many ns =>
    have hc : TupAt H c (ns.map V.int) := hc
    refine .inr ⟨hok.1, ns.map some, ?_, fun H' k => ?_⟩
    · rw [List.map_map]
      exact hc
    · have e : (decide ((ns.map some).length = (rts ks nm).length) && (ns.map some).all (inR 0 999999)) = true := by
        rw [List.length_map, decide_eq_true hok.2.1, Bool.true_and, List.all_map, List.all_eq_true]
        intro n hnn
        obtain ⟨b1, b2⟩ := hok.2.2 n hnn
        show (decide (0 ≤ n) && decide (n ≤ 999999)) = true
        rw [decide_eq_true b1, decide_eq_true b2]
        rfl
      rw [e]
      exact q H' k
end Cp
set_option maxHeartbeats 8000000
/-! Files of the package. -/
namespace Cp
open PySem L2 LamX
local macro_rules | `(tactic| walk_at "rd") => `(tactic| repeat (first
  | with_reducible apply rd_seq | with_reducible apply rd_asg | with_reducible apply rd_gname | with_reducible apply rd_if | with_reducible apply rd_ret | with_reducible apply rd_drop | with_reducible apply rd_next
  | with_reducible apply rd_op | with_reducible apply rd_cb | with_reducible apply rd_cons | with_reducible apply rd_nil | with_reducible apply rd_c | with_reducible apply rd_tb | with_reducible apply rd_test | with_reducible apply rd_not
  | with_reducible apply rd_or | with_reducible apply rd_and | with_reducible apply rd_call | with_reducible apply rd_chain | with_reducible apply rd_andV | with_reducible apply rd_notV | with_reducible apply rd_ifx
  | with_reducible apply rd_gcons | with_reducible apply rd_gnil
  | ((with_reducible apply rd_var); exact rfl) | (with_reducible apply rd_bk)))
/-- x's place in a list of texts -/
theorem rd_index {K : PySem.W.Frag} {H : Hp} {Q : VK} {a : Addr} {ns : List Str} {x : Str} (h : SqL K H a (ns.map V.str)) (hx : x ∈ ns) (q : Q (.int (ns.idxOf x : Nat)) H) : rIndex K (.ref a) [.str x] H Q := by
  have hi : ns.idxOf x < ns.length := List.idxOf_lt_length_of_mem hx
  have hg : ns[ns.idxOf x]? = some x := by
    rw [List.getElem?_eq_getElem hi]
    exact congrArg some (List.getElem_idxOf hi)
  have eqs : ∀ y z : Str, eqV (.str y) (.str z) = decide (y = z) := fun y z => by
    show (y == z) = _
    by_cases e : y = z
    · rw [e, decide_eq_true rfl]; exact beq_self_eq_true z
    · rw [decide_eq_false e]; exact beq_eq_false_iff_ne.mpr e
  refine ⟨a, ns.map V.str, .str x, ns.idxOf x, .str x, rfl, rfl, h, rfl, flat_strs ns, by rw [List.getElem?_map, hg]; rfl, by rw [eqs]; simp, fun m z hm hz => ?_, q⟩
  rw [List.getElem?_map] at hz
  cases hq : ns[m]? with
  | none => rw [hq] at hz; cases hz
  | some y =>
    rw [hq] at hz
    have e : z = .str y := (Option.some.inj hz).symm
    rw [e, eqs, decide_eq_false_iff_not]
    intro e2
    obtain ⟨hlt, e3⟩ := List.getElem?_eq_some_iff.mp hq
    have := List.not_of_lt_findIdx (p := (· == x)) (xs := ns) (i := m) hm
    rw [e3, e2] at this
    simp at this
theorem fileGo_drop {order ns : List Str} {i : Nat} {n : Str} (h : ns[i]? = some n) (last : Int) : fileGo order last i (ns.drop i) = if decide ((order.idxOf n : Int) ≤ last) = true then some i else fileGo order (order.idxOf n) (i + 1) (ns.drop (i + 1)) := by
  obtain ⟨hlt, e⟩ := List.getElem?_eq_some_iff.mp h
  rw [List.drop_eq_getElem_cons hlt, e]
  rfl
theorem keys_names {H : Hp} {kvs : List (Key × V)} {ks : List Kd} (h : Paired (fun (p : Key × V) (k : Kd) => p.1 = .inr k.name ∧ KdAt H p.2 k) kvs ks) : (kvs.map fun kv => kV kv.1) = (nms ks).map V.str := by
  induction h with
  | nil => rfl
  | cons r t ih =>
    unfold nms at ih ⊢
    rw [List.map_cons, List.map_cons, List.map_cons, ih, r.1]
    rfl
/-- a list or a tuple of parts: the pairs for dict() -/
theorem pts_pairs {K : PySem.W.Frag} {H : Hp} {xs : List V} {ps : List (Str × Cn)} (h : Paired (PtAt H) xs ps) : ∃ (as : List Addr) (kvs : List (Key × V)), xs = as.map V.ref ∧ Paired (fun p (kv : Key × V) => SqT K H p [kV kv.1, kv.2]) as kvs := by
  induction h with
  | nil => exact ⟨[], [], rfl, .nil⟩
  | cons r t ih =>
    obtain ⟨as, kvs, e1, e2⟩ := ih
    obtain ⟨a, c, rfl, h1, h2⟩ := r
    exact ⟨a :: as, (.inr _, c) :: kvs, by rw [List.map_cons, ← e1], .cons (.inl (.inl h1)) e2⟩
theorem r_held_in {P : Program} {w : World} {K : PySem.W.Frag} {mg : Str → Option Value} (T : Txt K mg) {vs : List V} {H : Hp} {Q : VK} {E : XK} (h : sp_held_in K vs H Q E) : t_held_in P w K E { nx := fun _ H' => Q .non H', rt := Q } (L2.start N_held_in vs) H := by
  obtain ⟨ch, ks, a, xs, ps, rfl, hch, lay, tf, pts, hok, q0, q1⟩ := h
  have sq : SqT K H a xs := tf.sq
  have hlen : xs.length = ps.length := paired_len pts
  obtain ⟨x, dx, fs, dk, dr, rfl, hx, fk, fr, hk, hr⟩ := id hch
  have bad : ∀ (pl : List Int), fileRes (nms ks) (ps.map (·.1)) = some pl → ∀ H1 p, Keep H H1 → H1 p = some (.tup (pl.map V.int)) → raiseK K "BadFile" E [.ref p] H1 := fun pl e H1 p k hp =>
    rd_raise T.xBadFile fun d hd => q1 pl e _ _ _ (k.tnew hd) upd_same (by rw [upd_ne (ne_of_none hp hd)]; exact hp)
  unfold t_held_in
  walk_at "rd"
  refine isi_tup sq ?_
  walk_at "rd"
  refine iteF ?_
  walk_at "rd"
  refine rd_lenT sq ?_
  walk_at "rd"
  refine rd_gt ?_
  walk_at "rd"
  have e1 : decide ((24 : Int) < xs.length) = !decide ((ps.map (·.1)).length ≤ 24) := by
    by_cases h : (ps.map (·.1)).length ≤ 24
    · rw [decide_eq_true h]
      rw [List.length_map] at h
      simp only [Bool.not_true, decide_eq_false_iff_not]
      omega
    · rw [decide_eq_false h]
      rw [List.length_map] at h
      simp only [Bool.not_false, decide_eq_true_eq]
      omega
  rw [e1]
  refine iteB (fun h => ?_) (fun h => ?_)
  · show tCons (tTup tNil) tNil _ H (raiseK K "BadFile" E)
    walk_at "rd"
    refine rd_tup ?_
    walk_at "rd"
    refine ⟨Nat.zero_le _, fun p hp => ?_⟩
    walk_at "rd"
    refine bad [] ?_ _ p (.new hp) upd_same
    unfold fileRes
    rw [nt h]
    rfl
  · have hl := nf h
    have hl24 : ps.length ≤ 24 := by
      have := of_decide_eq_true hl
      rw [List.length_map] at this
      exact this
    have er : fileRes (nms ks) (ps.map (·.1)) = (fileGo (nms ks) (-1) 0 (ps.map (·.1))).map (fun i => [(i : Int)]) := by
      unfold fileRes
      rw [hl]
      rfl
    obtain ⟨kvs, hd, pr⟩ := hk
    have hks := keys_names pr
    walk_at "rd"
    show tCons _ _ _ _ _
    walk_at "rd"
    refine rd_fldX (fun P p => rd_var rfl p) hx T.cls (T.noat _ (by simp)) fk ?_
    walk_at "rd"
    refine ⟨dk, kvs, rfl, .inl hd, fun o ho => ?_⟩
    rw [hks]
    walk_at "rd"
    refine rd_un (rd_c (rd_u ?_))
    walk_at "rd"
    refine ⟨_, _, rfl, ?_⟩
    have k0 : Keep H (upd H o (.lst ((nms ks).map V.str))) := .new ho
    have ho0 : upd H o (.lst ((nms ks).map V.str)) o = some (.lst ((nms ks).map V.str)) := upd_same
    generalize upd H o (.lst ((nms ks).map V.str)) = H0 at k0 ho0 ⊢
    walk_at "rd"
    refine rd_for (rd_iET ?_)
    walk_at "rd"
    refine ⟨a, xs, rfl, k0.sqT sq, ?_⟩
    refine for_enumT (xs := xs) (fun i σ H1 => ∃ (last : Int) (x4 x5 : Option V), σ = [some (.ref x), some (.ref a), some (.ref o), some (.int last), x4, x5] ∧ Keep H0 H1 ∧ fileGo (nms ks) (-1) 0 (ps.map (·.1)) = fileGo (nms ks) last i ((ps.map (·.1)).drop i)) ?_ ?_ ?_ ?_
    · exact ⟨-1, none, none, rfl, .refl _, rfl⟩
    · rintro i σ H1 _ ⟨last, x4, x5, rfl, k, _⟩
      exact (k0.trans k).sqT sq
    · rintro i y t2 σ H1 hy ⟨last, x4, x5, rfl, k, hg⟩ ht2
      obtain ⟨p, hp, hpt⟩ := Paired.at_ pts hy
      have hm : p ∈ ps := List.mem_of_getElem? hp
      have okp := hok p hm
      have hpn : (ps.map (·.1))[i]? = some p.1 := by rw [List.getElem?_map, hp]; rfl
      obtain ⟨pa, c, rfl, hpa, hc⟩ := id hpt
      refine rd_gtup (.inl (.inl upd_same)) rfl ?_
      have kt : Keep H (upd H1 t2 (.tup [.int (i : Nat), .ref pa])) := (k0.trans k).tnew ht2
      have kt0 : Keep H0 (upd H1 t2 (.tup [.int (i : Nat), .ref pa])) := k.tnew ht2
      generalize upd H1 t2 (.tup [.int (i : Nat), .ref pa]) = H2 at kt kt0 ⊢
      walk_at "rd"
      refine ⟨.ref x, ks, .ref pa, p, rfl, kt.chart hch, lay, kt.pt hpt, okp, fun H3 k3 => ?_⟩
      have k13 := kt.trans k3
      walk_at "rd"
      refine iteF ?_
      walk_at "rd"
      have sp3 : SqT K H3 pa [.str p.1, c] := .inl (.inl (k13 _ _ hpa))
      have so3 : SqL K H3 o ((nms ks).map V.str) := .inl (.inl (k3 _ _ (kt0 _ _ ho0)))
      refine rd_bm ?_
      walk_at "rd"
      refine ⟨ty_lst so3, ?_⟩
      walk_at "rd"
      refine rd_ixT sp3 (atI_nat (j := 0) rfl) ?_
      walk_at "rd"
      refine rd_index so3 okp.1 ?_
      walk_at "rd"
      refine rd_le ?_
      walk_at "rd"
      refine iteB (fun h => ?_) (fun h => ?_)
      · show tCons (tTup (tCons (tVar 4) tNil)) tNil _ H3 (raiseK K "BadFile" E)
        walk_at "rd"
        refine rd_tup ?_
        walk_at "rd"
        refine ⟨by show 1 ≤ sizeLine; decide, fun p hp => ?_⟩
        walk_at "rd"
        refine bad [(i : Int)] ?_ _ p (k13.tnew hp) upd_same
        rw [er, hg, fileGo_drop hpn, if_pos h]
        rfl
      · walk_at "rd"
        refine rd_bm ?_
        walk_at "rd"
        refine ⟨ty_lst so3, ?_⟩
        walk_at "rd"
        refine rd_ixT sp3 (atI_nat (j := 0) rfl) ?_
        walk_at "rd"
        refine rd_index so3 okp.1 ?_
        walk_at "rd"
        refine ⟨_, _, _, rfl, kt0.trans k3, ?_⟩
        rw [hg, fileGo_drop hpn, h]
        rfl
    · rintro σ H1 ⟨last, x4, x5, rfl, k, hg⟩
      have kk := k0.trans k
      walk_at "rd"
      obtain ⟨as, kv, e, prs⟩ := pts_pairs (K := K) (kk.pts pts)
      refine ⟨a, as, kv, rfl, ?_, prs, fun p hp => ?_⟩
      · rw [← e]
        exact kk.tupF tf
      · refine q0 ?_ _ _ (kk.tnew hp)
        rw [er, hg, hlen, List.drop_of_length_le (by rw [List.length_map]; exact Nat.le_refl _)]
        rfl
theorem rd_make {C : Addr} {sp : Sp} {dvs : List V} {E : XK} {t : TA} {σ : St} {H : Hp} {Q : VK} (q : t σ H fun vs H1 => ∀ x dx, H1 x = none → H1 dx = none → dx ≠ x → sp (.ref x :: (vs ++ dvs)) (upd (upd H1 dx (.own x)) x (.ins C dx [])) (fun v H2 => v = .non ∧ Q (.ref x) H2) E) : tMake C sp dvs E t σ H Q := q
theorem r_need_file {P : Program} {w : World} {K : PySem.W.Frag} {vs : List V} {H : Hp} {Q : VK} {E : XK} (h : sp_need_file K vs H Q E) : t_need_file P w K E { nx := fun _ H' => Q .non H', rt := Q } (L2.start N_need_file vs) H := by
  obtain ⟨v, ks, a, xs, ps, rfl, hp, lay, tf, pts, hok, q0, q1⟩ := h
  unfold t_need_file
  walk_at "rd"
  refine rd_make ?_
  walk_at "rd"
  intro x dx hx hdx hne
  have k0 : Keep H (upd (upd H dx (.own x)) x (.ins (He.ga K "Chart") dx [])) := fun b o e => by
    rw [upd_ne (ne_of_none e hx), upd_ne (ne_of_none e hdx)]
    exact e
  refine ⟨x, dx, v, ks, rfl, upd_same, k0.plan hp, lay, fun H1 k1 hch => ⟨rfl, ?_⟩⟩
  have k01 : Keep H H1 := fun b o e => k1 b o (ne_of_none e hx) (k0 b o e)
  walk_at "rd"
  refine ⟨.ref x, ks, a, xs, ps, rfl, hch, lay, k01.tupF tf, k01.pts pts, hok, fun e v H2 k2 => ?_, fun pl e H2 d p k2 => q1 pl e H2 d p (k01.trans k2)⟩
  walk_at "rd"
  exact q0 e H2 (k01.trans k2)
end Cp
set_option maxHeartbeats 4000000
/-! Plain laws: texts split, joined. -/
namespace Cp
open PySem L2 LamX
theorem app_cps (a b : Str) : (a ++ b).cps.toList = a.cps.toList ++ b.cps.toList := by
  show (a.cps ++ b.cps).toList = _
  exact Array.toList_append
theorem app_len (a b : Str) : (a ++ b).length = a.length + b.length := by
  show (a.cps ++ b.cps).size = a.cps.size + b.cps.size
  exact Array.size_append
theorem len_cps (a : Str) : a.cps.toList.length = a.length := Array.length_toList
theorem asc_app {a b : Str} (h1 : Asc a) (h2 : Asc b) : Asc (a ++ b) := fun c hc => by
  rw [app_cps] at hc
  rcases List.mem_append.mp hc with h | h
  · exact h1 c h
  · exact h2 c h
theorem join_mem (sep : Str) : ∀ (l : List Str) (p : Str), p ∈ l → ∀ c ∈ p.cps.toList, c ∈ (Str.join sep l).cps.toList
  | [], p, h, _, _ => by simp at h
  | [x], p, h, c, hc => by
    have e : p = x := by simpa using h
    rw [e] at hc
    exact hc
  | x :: y :: r, p, h, c, hc => by
    show c ∈ (x ++ sep ++ Str.join sep (y :: r)).cps.toList
    rw [app_cps, app_cps]
    rcases List.mem_cons.mp h with e | e
    · rw [e] at hc
      exact List.mem_append_left _ (List.mem_append_left _ hc)
    · exact List.mem_append_right _ (join_mem sep (y :: r) p e c hc)
theorem join_asc {sep : Str} (hs : Asc sep) : ∀ {l : List Str}, (∀ p ∈ l, Asc p) → Asc (Str.join sep l)
  | [], _ => fun c hc => absurd hc (by show ¬ c ∈ ([] : List Nat); simp)
  | [x], h => h x (by simp)
  | x :: y :: r, h => by
    show Asc (x ++ sep ++ Str.join sep (y :: r))
    exact asc_app (asc_app (h x List.mem_cons_self) hs) (join_asc hs fun p hp => h p (List.mem_cons_of_mem _ hp))
theorem tj (sep : Str) (l : List Str) : Txt.join sep l = Str.join sep l := StrLaws.glued_eq_join sep l
theorem join_len (sep : Str) (l : List Str) : (Txt.join sep l).length = (l.map (·.length)).sum + (l.length - 1) * sep.length := size_glued sep l
theorem tj_split (x y : Str) : Txt.join y (Txt.split x y) = x := by rw [tj]; exact StrLaws.join_split x y
theorem split_sum (x y : Str) : ((Txt.split x y).map (·.length)).sum + ((Txt.split x y).length - 1) * y.length = x.length := by
  rw [← join_len, tj_split]
theorem split_asc {x y p : Str} (h : Asc x) (hp : p ∈ Txt.split x y) : Asc p := fun c hc => by
  have q := join_mem y _ p hp c hc
  rw [StrLaws.join_split] at q
  exact h c q
theorem sum_mem {l : List Str} {p : Str} (h : p ∈ l) : p.length ≤ (l.map (·.length)).sum := by
  induction l with
  | nil => simp at h
  | cons x r ih =>
    rw [List.map_cons, List.sum_cons]
    rcases List.mem_cons.mp h with e | e
    · rw [e]
      omega
    · have := ih e
      omega
theorem split_le {x y p : Str} (hp : p ∈ Txt.split x y) : p.length ≤ x.length := by
  have h1 := split_sum x y
  have h2 := sum_mem hp
  omega
theorem split_short {x y p : Str} (h : Short x) (hp : p ∈ Txt.split x y) : Short p := ⟨Nat.le_trans (split_le hp) h.1, split_asc h.2 hp⟩
theorem split_n {x y : Str} (hy : y.length = 1) : (Txt.split x y).length ≤ x.length + 1 := by
  have h1 := split_sum x y
  rw [hy, Nat.mul_one] at h1
  omega
theorem split_pos (x y : Str) : 1 ≤ (Txt.split x y).length := PyProof.Rows.split_pos x y
end Cp
set_option maxHeartbeats 8000000
/-! The walks (printed by gen_walk.py). -/
namespace Cp
open PySem L2 LamX
open PyProof.Rows (envOfC)
abbrev N_told_rows : List Str := ["text", "told", "found", "number", "row", "thing"]
theorem sc_told_rows : FnScope N_told_rows ["text", "told"] (defScope stold_rows) := ⟨rfl, rfl, rfl, by decide +kernel, rfl, by decide +kernel, by decide +kernel⟩
def t_told_rows (P : Program) (w : World) (K : PySem.W.Frag) (E : XK) (fa : Addr) (SP : List V → Hp → VK → Prop) : TS :=
    (tSeq (tIfS (tNot (tB (tCB (rIsi K) (tCons (tVar 0) (tCons (tC (.ty "str")) tNil))))) (tRaiseB K "BadText" E (tCons (tTup tNil) tNil)) tNext)
    (tSeq (tAsg (tLst tNil) (gName 2))
    (tSeq (tFor (iEnum K (tCons (tM1 rSplit (tVar 0) (tC (.str "\n"))) tNil)) (gTup K 2 (gCons (gName 3) (gCons (gName 4) gNil))) (tSeq (tAsg (tToldL 1 fa SP (tCons (tM1 rSplit (tVar 4) (tC (.str " "))) tNil)) (gName 5))
    (tSeq (tIfS (tTest (tOp rIsN (tVar 5) (tC .non))) (tRaiseB K "BadText" E (tCons (tTup (tCons (tVar 3) tNil)) tNil)) tNext)
    (tDrop (tBM K "list" rAppend (tVar 2) (tCons (tVar 5) tNil))))))
    (tRet (tCB (rTupF K) (tCons (tVar 2) tNil))))))
theorem d_told_rows {P : Program} {w : World} {K : PySem.W.Frag} {mg : Str → Option Value} {base : Heap} {f : Addr} {cdv : Value} {A : Around} {outer : List Env} {s : Shared} {H : Hp} {E : XK} (T : Txt K mg) (F_BadText : Fn_BadText P w K mg base) {fa : Addr} {SP : List V → Hp → VK → Prop}
    (pe_local : ∀ {e : Expr} {ta : TA} {p1 p2 : Pos}, PA (cxOf (L2.CX P w) P w K mg base N_told_rows "told_rows" (defScope stold_rows) f cdv A outer s H E) [e] ta → starEach [e] (envOfC "told_rows" (defScope stold_rows) s.heap.objs.size f cdv) = (false, eval e (envOfC "told_rows" (defScope stold_rows) s.heap.objs.size f cdv)) :: starEach [] (envOfC "told_rows" (defScope stold_rows) s.heap.objs.size f cdv) → PE (cxOf (L2.CX P w) P w K mg base N_told_rows "told_rows" (defScope stold_rows) f cdv A outer s H E) (.Call (.Name "told" p1) [e] [] p2) (tToldL 1 fa SP ta))
    (hr : Room 5 (A.deeper (envOfC "told_rows" (defScope stold_rows) s.heap.objs.size f cdv))) : PSs (cxOf (L2.CX P w) P w K mg base N_told_rows "told_rows" (defScope stold_rows) f cdv A outer s H E) (defBody stold_rows) (t_told_rows P w K E fa SP) := by
  have nd := sc_told_rows.nd
  have hu := hu_of hr
  exact (pss_cons (ps_if (pt_not (pt_val (pe_callB call_isi (by rfl) T.isinstance_ (by decide +kernel) (pa_cons (pv 0) (pa_cons (pe_bltn (v := .ty "str") rfl T.str_ (by decide +kernel) rfl) pa_nil))))) (pss_one (ps_raiseB T.xBadText F_BadText hr (takes_of rfl rfl rfl rfl) (pa_cons (pe_tup pa_nil) pa_nil))) pss_nil)
    (pss_cons (ps_set (i := 2) nd rfl (.inl rfl) (pe_lst pa_nil))
    (pss_cons (ps_for (passes_of rfl) rfl (pi_enum (by rfl) T.enumerate_ (pa_cons (pe_splitR (pv 0) pe_str) pa_nil)) (pg_tup rfl (pgs_cons (pg_name (i := 3) nd rfl (.inl rfl)) (pgs_cons (pg_name (i := 4) nd rfl (.inl rfl)) pgs_nil))) (pss_cons (ps_set (i := 5) nd rfl (.inl rfl) (pe_local (pa_cons (pe_splitR (pv 4) pe_str) pa_nil) (by rfl)))
    (pss_cons (ps_if (pt_cmpR o_isN (pv 5) pe_non (nomark _)) (pss_one (ps_raiseB T.xBadText F_BadText hr (takes_of rfl rfl rfl rfl) (pa_cons (pe_tup (pa_cons (pv 3) pa_nil)) pa_nil))) pss_nil)
    (pss_one (ps_expr (pe_bm PySem.F.plainAttrs_list PySem.F.slot_list_append PySem.F.type_list_append mt_append (pv 2) (pa_cons (pv 5) pa_nil)))))))
    (pss_one (ps_ret (pe_callTy c_tupF (by rfl) T.tuple_ (by decide +kernel) (pa_cons (pv 2) pa_nil)))))))
end Cp
set_option maxHeartbeats 8000000
/-! Texts of the package. -/
namespace Cp
open PySem L2 LamX
local macro_rules | `(tactic| walk_at "rd") => `(tactic| repeat (first
  | with_reducible apply rd_seq | with_reducible apply rd_asg | with_reducible apply rd_gname | with_reducible apply rd_if | with_reducible apply rd_ret | with_reducible apply rd_drop | with_reducible apply rd_next
  | with_reducible apply rd_op | with_reducible apply rd_cb | with_reducible apply rd_cons | with_reducible apply rd_nil | with_reducible apply rd_c | with_reducible apply rd_tb | with_reducible apply rd_test | with_reducible apply rd_not
  | with_reducible apply rd_or | with_reducible apply rd_and | with_reducible apply rd_call | with_reducible apply rd_chain | with_reducible apply rd_andV | with_reducible apply rd_notV | with_reducible apply rd_ifx
  | with_reducible apply rd_gcons | with_reducible apply rd_gnil
  | ((with_reducible apply rd_var); exact rfl) | (with_reducible apply rd_bk)))
theorem rd_split {H : Hp} {Q : VK} {z y : Str} (hy : (y.length == 0) = false) (hz : z.length + 2 ≤ sizeLine) (q : ∀ p, H p = none → Q (.ref p) (upd H p (.lst ((Txt.split z y).map V.str)))) : (∃ a, V.str z = .str a) ∧ rSplit (.str z) [.str y] H Q := ⟨⟨z, rfl⟩, z, y, rfl, rfl, hy, hz, q⟩
theorem TupAt.lst {H : Hp} {v : V} {zs xs ys : List V} {l : Addr} (hl : H l = some (.lst xs)) (h : TupAt H v zs) : TupAt (upd H l (.lst ys)) v zs := let ⟨a, e, q⟩ := h; ⟨a, e, by rw [upd_ne (ne_of q hl (fun z => by cases z))]; exact q⟩
theorem KdAt.lst {H : Hp} {v : V} {k : Kd} {xs ys : List V} {l : Addr} (hl : H l = some (.lst xs)) (h : KdAt H v k) : KdAt (upd H l (.lst ys)) v k := by
  obtain ⟨a, b, e, q1, q2⟩ := h
  exact ⟨a, b, e, by rw [upd_ne (ne_of q1 hl (fun z => by cases z))]; exact q1, by rw [upd_ne (ne_of q2 hl (fun z => by cases z))]; exact q2⟩
theorem CnAt.lst {H : Hp} {v : V} {c : Cn} {xs ys : List V} {l : Addr} (hl : H l = some (.lst xs)) (h : CnAt H v c) : CnAt (upd H l (.lst ys)) v c := by
  cases c with
  | one n => exact h
  | many ns => exact TupAt.lst hl h
theorem PtAt.lst {H : Hp} {v : V} {p : Str × Cn} {xs ys : List V} {l : Addr} (hl : H l = some (.lst xs)) (h : PtAt H v p) : PtAt (upd H l (.lst ys)) v p := by
  obtain ⟨a, c, e, q1, q2⟩ := h
  exact ⟨a, c, e, by rw [upd_ne (ne_of q1 hl (fun z => by cases z))]; exact q1, CnAt.lst hl q2⟩
/-- the rest of all rows told -/
def addTo {α : Type} (as : List α) : (List α) ⊕ Nat → (List α) ⊕ Nat
  | .inl xs => .inl (as ++ xs)
  | .inr j => .inr j
theorem tell_drop {α : Type} {F : List Str → Option α} {rs : List (List Str)} {i : Nat} {r : List Str} (h : rs[i]? = some r) : tellGo F i (rs.drop i) = match F r with
    | none => .inr i
    | some x => addTo [x] (tellGo F (i + 1) (rs.drop (i + 1))) := by
  obtain ⟨hlt, e⟩ := List.getElem?_eq_some_iff.mp h
  rw [List.drop_eq_getElem_cons hlt, e]
  show (match F r with | none => _ | some x => _) = _
  cases F r with
  | none => rfl
  | some x =>
    show (match tellGo F (i + 1) (rs.drop (i + 1)) with | .inl xs => Sum.inl (x :: xs) | .inr j => .inr j) = _
    cases tellGo F (i + 1) (rs.drop (i + 1)) <;> rfl
theorem addTo_app {α : Type} (as bs : List α) (r : (List α) ⊕ Nat) : addTo as (addTo bs r) = addTo (as ++ bs) r := by
  cases r with
  | inl xs => simp [addTo]
  | inr j => rfl
theorem r_told_rows {P : Program} {w : World} {K : PySem.W.Frag} {mg : Str → Option Value} (T : Txt K mg) {α : Type} {F : List Str → Option α} {Rep : Hp → V → α → Prop} {fa : Addr} {SP : List V → Hp → VK → Prop} {t : Str} {H : Hp} {Q : VK} {E : XK} (ht : Short t)
    (hst : ∀ H1 H2 v a, Keep H1 H2 → Rep H1 v a → Rep H2 v a) (hne : ∀ H1 v a, Rep H1 v a → v ≠ .non) (hls : ∀ H1 v a l xs ys, H1 l = some (.lst xs) → Rep H1 v a → Rep (upd H1 l (.lst ys)) v a)
    (hSP : ∀ H1 p ws (Q' : VK), Keep H H1 → H1 p = some (.lst (ws.map V.str)) → (∀ z ∈ ws, Short z) → ws.length ≤ 1000001 → (F ws = none → ∀ H', Keep H1 H' → Q' .non H') → (∀ a, F ws = some a → ∀ y H', Keep H1 H' → Rep H' y a → Q' y H') → SP [.ref p] H1 Q')
    (q1 : ∀ i, tellGo F 0 (rowsOf t) = .inr i → BadAt K H E "BadText" [(i : Int)]) (q0 : ∀ as, tellGo F 0 (rowsOf t) = .inl as → ∀ a xs H', Keep H H' → TupF H' a xs → Paired (Rep H') xs as → Q (.ref a) H') :
    t_told_rows P w K E fa SP { nx := fun _ H' => Q .non H', rt := Q } (L2.start N_told_rows [.str t, .ref fa]) H := by
  have lt := ht.1
  have hline : sizeLine = 16777216 := by decide
  unfold t_told_rows
  walk_at "rd"
  refine isi_str ?_
  walk_at "rd"
  refine iteF ?_
  walk_at "rd"
  refine rd_lst ?_
  walk_at "rd"
  refine ⟨Nat.zero_le _, fun fl hfl => ?_⟩
  walk_at "rd"
  refine rd_for (rd_iE ?_)
  walk_at "rd"
  refine rd_m1 ?_
  walk_at "rd"
  refine ⟨⟨_, rfl⟩, ?_⟩
  walk_at "rd"
  refine ⟨_, _, rfl, rfl, by decide, by omega, fun rl hrl => ?_⟩
  walk_at "rd"
  have k0 : Keep H (upd H fl (.lst [])) := .new hfl
  have k1 : Keep H (upd (upd H fl (.lst [])) rl (.lst ((Txt.split t "\n").map V.str))) := k0.tnew hrl
  have hfl1 : upd (upd H fl (.lst [])) rl (.lst ((Txt.split t "\n").map V.str)) fl = some (.lst []) := by rw [upd_ne (ne_of_none upd_same hrl), upd_same]
  have hrl1 : upd (upd H fl (.lst [])) rl (.lst ((Txt.split t "\n").map V.str)) rl = some (.lst ((Txt.split t "\n").map V.str)) := upd_same
  have hne2 : rl ≠ fl := fun z => by rw [z, upd_same] at hrl; cases hrl
  generalize upd (upd H fl (.lst [])) rl (.lst ((Txt.split t "\n").map V.str)) = H1 at k1 hfl1 hrl1 ⊢
  clear k0
  refine ⟨rl, _, rfl, .inl (.inl hrl1), ?_⟩
  have hn : (Txt.split t "\n").length ≤ 1000001 := Nat.le_trans (split_n (by decide)) (by omega)
  refine for_enumL (xs := (Txt.split t "\n").map V.str) (fun i σ H2 => ∃ (x3 x4 x5 : Option V) (vs : List V) (as : List α), σ = [some (.str t), some (.ref fa), some (.ref fl), x3, x4, x5] ∧ Keep H H2 ∧ H2 rl = some (.lst ((Txt.split t "\n").map V.str)) ∧ H2 fl = some (.lst vs) ∧ vs.length = i ∧ Paired (Rep H2) vs as ∧
    tellGo F 0 (rowsOf t) = addTo as (tellGo F i ((rowsOf t).drop i))) ?_ ?_ ?_ ?_
  · refine ⟨none, none, none, [], [], rfl, k1, hrl1, hfl1, rfl, .nil, ?_⟩
    rw [List.drop_zero]
    cases tellGo F 0 (rowsOf t) <;> rfl
  · rintro i σ H2 _ ⟨x3, x4, x5, vs, as, rfl, k, hr, _⟩
    exact .inl (.inl hr)
  · rintro i y t2 σ H2 hy ⟨x3, x4, x5, vs, as, rfl, k, hr, hf, hvl, pr, hg⟩ ht2
    rw [List.getElem?_map] at hy
    obtain ⟨row, hrow, rfl⟩ : ∃ row, (Txt.split t "\n")[i]? = some row ∧ V.str row = y := by
      cases hq : (Txt.split t "\n")[i]? with
      | none => rw [hq] at hy; cases hy
      | some b => exact ⟨b, rfl, by rw [hq] at hy; exact Option.some.inj hy⟩
    have srow : Short row := split_short ht (List.mem_of_getElem? hrow)
    have hrs : (rowsOf t)[i]? = some (Txt.split row " ") := by
      unfold rowsOf
      rw [List.getElem?_map, hrow]
      rfl
    have hilt : i < 1000001 := by
      have := (List.getElem?_eq_some_iff.mp hrow).1
      omega
    have k2 : Keep H (upd H2 t2 (.tup [.int (i : Nat), .str row])) := k.tnew ht2
    have kt : Keep H2 (upd H2 t2 (.tup [.int (i : Nat), .str row])) := .new ht2
    refine rd_gtup (.inl (.inl upd_same)) rfl ?_
    generalize upd H2 t2 (.tup [.int (i : Nat), .str row]) = H3 at k2 kt ⊢
    walk_at "rd"
    refine ⟨rfl, ?_⟩
    walk_at "rd"
    refine rd_m1 ?_
    walk_at "rd"
    refine ⟨⟨_, rfl⟩, ?_⟩
    walk_at "rd"
    have sl := srow.1
    refine ⟨_, _, rfl, rfl, by decide, by omega, fun wl' hwl => ?_⟩
    have k3 : Keep H (upd H3 wl' (.lst ((Txt.split row " ").map V.str))) := k2.tnew hwl
    have kt3 : Keep H2 (upd H3 wl' (.lst ((Txt.split row " ").map V.str))) := kt.tnew hwl
    have hw3 : upd H3 wl' (.lst ((Txt.split row " ").map V.str)) wl' = some (.lst ((Txt.split row " ").map V.str)) := upd_same
    generalize upd H3 wl' (.lst ((Txt.split row " ").map V.str)) = H4 at k3 kt3 hw3 ⊢
    walk_at "rd"
    refine hSP H4 wl' (Txt.split row " ") _ k3 hw3 (fun z hz => split_short srow hz) (Nat.le_trans (split_n (by decide)) (by omega)) (fun e H5 k5 => ?_) (fun a e y H5 k5 hy => ?_)
    · walk_at "rd"
      refine rd_isN ?_
      walk_at "rd"
      refine iteT ?_
      show tCons (tTup (tCons (tVar 3) tNil)) tNil _ H5 (raiseK K "BadText" E)
      walk_at "rd"
      refine rd_tup ?_
      walk_at "rd"
      refine ⟨by show 1 ≤ sizeLine; decide, fun p hp => ?_⟩
      walk_at "rd"
      refine rd_raise T.xBadText fun d hd => q1 i ?_ _ d p (((k3.trans k5).tnew hp).tnew hd) upd_same (by rw [upd_ne (ne_of_none upd_same hd), upd_same]; rfl)
      rw [hg, tell_drop hrs, e]
      rfl
    · walk_at "rd"
      refine rd_isN ?_
      walk_at "rd"
      rw [decide_eq_false (hne _ _ _ hy)]
      refine iteF ?_
      walk_at "rd"
      have kk : Keep H2 H5 := kt3.trans k5
      have hf5 := kk _ _ hf
      refine rd_bm ?_
      walk_at "rd"
      refine ⟨ty_lst (.inl (.inl hf5)), ?_⟩
      walk_at "rd"
      refine rd_app hf5 (by omega) ?_
      refine ⟨_, _, _, vs ++ [y], as ++ [a], rfl, ?_, ?_, upd_same, by rw [List.length_append, hvl]; rfl, ?_, ?_⟩
      · exact (k3.trans k5).at_ hfl
      · rw [upd_ne hne2]
        exact kk _ _ hr
      · exact paired_snoc (Paired.mapP pr fun v a r => hls _ _ _ _ _ _ hf5 (hst _ _ _ _ kk r)) (hls _ _ _ _ _ _ hf5 hy)
      · rw [hg, tell_drop hrs, e, addTo_app]
  · rintro σ H2 ⟨x3, x4, x5, vs, as, rfl, k, hr, hf, hvl, pr, hg⟩
    walk_at "rd"
    refine ⟨fl, vs, rfl, .inl (.inl hf), fun l o ho hl => ?_⟩
    refine q0 as ?_ l vs _ (k.tnew hl) ⟨o, ho, upd_same⟩ (Paired.mapP pr fun v a r => hst _ _ _ _ (.new hl) r)
    rw [hg, List.length_map]
    have e : (rowsOf t).length = (Txt.split t "\n").length := by unfold rowsOf; rw [List.length_map]
    rw [← e, List.drop_length]
    show Sum.inl (as ++ []) = _
    rw [List.append_nil]
end Cp
set_option maxHeartbeats 8000000
/-! Parts told; a plan read. -/
namespace Cp
open PySem L2 LamX
local macro_rules | `(tactic| walk_at "rd") => `(tactic| repeat (first
  | with_reducible apply rd_seq | with_reducible apply rd_asg | with_reducible apply rd_gname | with_reducible apply rd_if | with_reducible apply rd_ret | with_reducible apply rd_drop | with_reducible apply rd_next
  | with_reducible apply rd_op | with_reducible apply rd_cb | with_reducible apply rd_cons | with_reducible apply rd_nil | with_reducible apply rd_c | with_reducible apply rd_tb | with_reducible apply rd_test | with_reducible apply rd_not
  | with_reducible apply rd_or | with_reducible apply rd_and | with_reducible apply rd_call | with_reducible apply rd_chain | with_reducible apply rd_andV | with_reducible apply rd_notV | with_reducible apply rd_ifx
  | with_reducible apply rd_gcons | with_reducible apply rd_gnil
  | ((with_reducible apply rd_var); exact rfl) | (with_reducible apply rd_bk)))
theorem allNum_eq : ∀ ws : List Str, allNum ws = if ((ws.map numb).all Option.isSome) = true then some (ws.map fun w => (numb w).getD 0) else none
  | [] => rfl
  | w :: r => by
    have ih := allNum_eq r
    unfold allNum at ih ⊢
    rw [List.mapM_cons, ih, List.map_cons, List.all_cons, List.map_cons]
    cases numb w with
    | none => rfl
    | some n =>
      show (if _ then _ else _ : Option (List Int)).bind _ = _
      rw [Option.isSome_some, Bool.true_and]
      split <;> rfl
theorem num_in {ws : List Str} : ((ws.map numb).all (inR 0 999999)) = (ws.map numb).all Option.isSome := by
  rw [List.all_map, List.all_map]
  congr 1
  funext w
  show inR 0 999999 (numb w) = (numb w).isSome
  cases h : numb w with
  | none => rfl
  | some n =>
    obtain ⟨a, b⟩ := numb_range h
    show (decide (0 ≤ n) && decide (n ≤ 999999)) = true
    rw [decide_eq_true a, decide_eq_true b]
    rfl
theorem some_map {ws : List Str} (h : ((ws.map numb).all Option.isSome) = true) : (ws.map numb).map numV = (ws.map fun w => (numb w).getD 0).map V.int := by
  rw [List.map_map, List.map_map]
  refine List.map_congr_left fun w hw => ?_
  have q := List.all_eq_true.mp h (numb w) (List.mem_map.mpr ⟨w, hw, rfl⟩)
  show numV (numb w) = .int ((numb w).getD 0)
  cases hq : numb w with
  | none => rw [hq] at q; cases q
  | some n => rfl
/-- the part of a row whose name is known -/
theorem partRow_eq (ks : List Kd) (ws : List Str) : partRow ks ws = if (decide (3 ≤ ws.length) && decide (at' ws 0 = "part") && decide (at' ws 1 ∈ nms ks)) = true then
    (if (((ws.drop 2).map numb).all Option.isSome) = true then
      (if (rts ks (at' ws 1)).isEmpty = true then (if ((ws.drop 2).map fun w => (numb w).getD 0).length = 1 then some (at' ws 1, .one (((ws.drop 2).map fun w => (numb w).getD 0).getD 0 0)) else none)
        else if ((ws.drop 2).map fun w => (numb w).getD 0).length = (rts ks (at' ws 1)).length then some (at' ws 1, .many ((ws.drop 2).map fun w => (numb w).getD 0)) else none) else none) else none := by
  unfold partRow
  rw [allNum_eq]
  split
  · cases h : ((ws.drop 2).map numb).all Option.isSome <;> rfl
  · rfl
theorem r_told_part {P : Program} {w : World} {K : PySem.W.Frag} {mg : Str → Option Value} (T : Txt K mg) {vs : List V} {H : Hp} {Q : VK} {E : XK} (h : sp_told_part K vs H Q E) : t_told_part P w K { nx := fun _ H' => Q .non H', rt := Q } (L2.start N_told_part vs) H := by
  obtain ⟨ch, ks, v, ws, rfl, hch, lay, ⟨l, rfl, hl, hs, hwn⟩, q0, q1⟩ := h
  have sq : SqL K H l (ws.map V.str) := .inl (.inl hl)
  have ek := partRow_eq ks ws
  unfold t_told_part
  walk_at "rd"
  refine rd_lenL sq ?_
  walk_at "rd"
  rw [List.length_map]
  refine rd_lt ?_
  walk_at "rd"
  refine iteB (fun h => ?_) (fun h => ?_)
  · walk_at "rd"
    have h3 : decide (3 ≤ ws.length) = false := by
      have := of_decide_eq_true h
      simp only [decide_eq_false_iff_not]
      omega
    rw [h3] at ek
    exact q0 ek H (.refl H)
  have h3 : 3 ≤ ws.length := by
    have := of_decide_eq_false h
    omega
  rw [decide_eq_true h3] at ek
  walk_at "rd"
  refine words_ix hl 0 (by omega) ?_
  walk_at "rd"
  refine rd_ne rfl ?_
  walk_at "rd"
  have e0 : decide (V.str (at' ws 0) = V.str "part") = decide (at' ws 0 = "part") := by simp only [V.str.injEq]
  rw [e0]
  refine iteB (fun h => ?_) (fun h => ?_)
  · walk_at "rd"
    rw [nt h] at ek
    exact q0 ek H (.refl H)
  rw [nf h] at ek
  walk_at "rd"
  obtain ⟨x, dx, fs, dk, dr, rfl, hx, fk, fr, hk, hr⟩ := id hch
  refine rd_dnotin ?_
  walk_at "rd"
  refine words_ix hl 1 (by omega) ?_
  refine rd_fldX (fun P p => rd_var rfl p) hx T.cls (T.noat _ (by simp)) fk ?_
  obtain ⟨o, hg, ho⟩ := hk.has (at' ws 1)
  refine ⟨dk, o, rfl, hg, _, rfl, ?_⟩
  rw [ho]
  refine iteB (fun h => ?_) (fun h => ?_)
  · walk_at "rd"
    rw [nt h] at ek
    exact q0 ek H (.refl H)
  rw [nf h] at ek
  have hn := of_decide_eq_true (nf h)
  have ek : partRow ks ws = (if (((ws.drop 2).map numb).all Option.isSome) = true then
      (if (rts ks (at' ws 1)).isEmpty = true then (if ((ws.drop 2).map fun w => (numb w).getD 0).length = 1 then some (at' ws 1, .one (((ws.drop 2).map fun w => (numb w).getD 0).getD 0 0)) else none)
        else if ((ws.drop 2).map fun w => (numb w).getD 0).length = (rts ks (at' ws 1)).length then some (at' ws 1, .many ((ws.drop 2).map fun w => (numb w).getD 0)) else none) else none) := ek
  -- the numbers
  walk_at "rd"
  refine rd_lcL ?_
  refine rd_sl ?_
  walk_at "rd"
  refine fin_from 2 sq fun p hp => ?_
  rw [← List.map_drop]
  have kp : Keep H (upd H p (.lst ((ws.drop 2).map V.str))) := .new hp
  have hlen : ws.length ≤ sizeLine := Nat.le_trans hwn (by decide)
  refine fin_L (vs := (ws.drop 2).map V.str) (.inl (.inl upd_same)) (paired_map _ _) (by rw [List.length_map, List.length_drop]; omega) (fun _ => true) (fun z => numV (numb z)) (.all fun y z H1 Ke r hm k1 q => ?_) fun D H1 k1 hnD hD => ?_
  · subst r
    refine rd_call ?_
    walk_at "rd"
    exact ⟨z, rfl, hs z (List.mem_of_mem_drop hm), fun H2 k2 => q H2 k2⟩
  rw [filt_all] at hD
  have k01 : Keep H H1 := kp.trans k1
  walk_at "rd"
  refine rd_tupL (.inl (.inl hD)) fun nt' hnt => ?_
  have k2 : Keep H (upd H1 nt' (.tup ((ws.drop 2).map fun z => numV (numb z)))) := k01.tnew hnt
  have hN : upd H1 nt' (.tup ((ws.drop 2).map fun z => numV (numb z))) nt' = some (.tup (((ws.drop 2).map numb).map numV)) := by
    rw [upd_same, List.map_map]
    rfl
  generalize upd H1 nt' (.tup ((ws.drop 2).map fun z => numV (numb z))) = H2 at k2 hN ⊢
  clear hnD hD k1 kp k01 hnt
  walk_at "rd"
  obtain ⟨x', dx', fs', dk', dr', kk, ka, kb, lr, e1, hx', fk', fr', hm', hnm', hg', h1', h2', hg2', h3', hiff⟩ := chart_at (k2.chart hch) lay hn
  cases e1
  have kasc := (kd_asc (lay.2 kk hm')).2.1
  refine rd_dget ?_
  refine rd_fldX (fun P p => rd_var rfl p) hx' T.cls (T.noat _ (by simp)) fk' ?_
  walk_at "rd"
  refine words_ix (k2 _ _ hl) 1 (by omega) ?_
  refine ⟨dk', _, rfl, hg', ?_⟩
  walk_at "rd"
  refine rd_ixT (.inl (.inl h1')) (atI_nat (j := 2) rfl) ?_
  refine rd_tup ?_
  walk_at "rd"
  refine ⟨Nat.zero_le _, fun p hp => ?_⟩
  have kp : Keep H2 (upd H2 p (.tup [])) := .new hp
  refine rd_eqT0 (.inl (.inl (kp _ _ h2'))) (.inl (.inl upd_same)) kasc ?_
  have k3 : Keep H (upd H2 p (.tup [])) := k2.trans kp
  generalize upd H2 p (.tup []) = H3 at kp k3 ⊢
  walk_at "rd"
  have hN3 := kp _ _ hN
  -- the end, by what is_content says
  have fin : ∀ (c : V) (σ : St) (b : Bool) (H4 : Hp), Keep H3 H4 → σ[0]? = some (some (.ref x)) → σ[1]? = some (some (.ref l)) → σ[3]? = some (some c) → (b = false → partRow ks ws = none) →
      (b = true → ∃ cn, partRow ks ws = some (at' ws 1, cn) ∧ CnAt H4 c cn) →
      (if b = true then tTup (tCons (tOp (rIxL K) (tVar 1) (tC (.int 1))) (tCons (tVar 3) tNil)) σ H4 Q else tC .non σ H4 Q) := by
    intro c σ b H4 k4 s0 s1 s3 hb0 hb1
    refine iteB (fun h => ?_) (fun h => ?_)
    · obtain ⟨cn, e, hc⟩ := hb1 h
      refine rd_tup (rd_cons (rd_op (rd_var s1 ?_)))
      walk_at "rd"
      refine words_ix ((k3.trans k4) _ _ hl) 1 (by omega) ?_
      refine rd_cons (rd_var s3 ?_)
      walk_at "rd"
      refine ⟨by show 2 ≤ sizeLine; decide, fun t ht => ?_⟩
      exact q1 _ e _ _ ((k3.trans k4).tnew ht) ⟨t, c, rfl, upd_same, (Keep.new ht).cn hc⟩
    · exact q0 (hb0 h) _ (k3.trans k4)
  have el : ((ws.drop 2).map fun w => (numb w).getD 0).length = (ws.drop 2).length := List.length_map _
  have el2 : ((ws.drop 2).map numb).length = (ws.drop 2).length := List.length_map _
  refine iteB (fun h => ?_) (fun h => ?_)
  · have hr0 : rts ks (at' ws 1) = [] := hiff.mpr (List.isEmpty_iff.mp h)
    rw [hr0] at ek
    have ek : partRow ks ws = (if (((ws.drop 2).map numb).all Option.isSome) = true then (if ((ws.drop 2).map fun w => (numb w).getD 0).length = 1 then some (at' ws 1, .one (((ws.drop 2).map fun w => (numb w).getD 0).getD 0 0)) else none) else none) := ek
    walk_at "rd"
    refine rd_lenT (.inl (.inl hN3)) ?_
    walk_at "rd"
    refine rd_eq rfl ?_
    walk_at "rd"
    rw [List.length_map, List.length_map]
    have e1 : decide (V.int ((ws.drop 2).length : Nat) = V.int 1) = decide ((ws.drop 2).length = 1) := by
      simp only [V.int.injEq, decide_eq_decide]
      omega
    rw [e1]
    refine iteB (fun h => ?_) (fun h => ?_)
    · have h1 := of_decide_eq_true h
      obtain ⟨z, hz⟩ : ∃ z, ws.drop 2 = [z] := List.length_eq_one_iff.mp h1
      rw [hz] at ek hN3
      walk_at "rd"
      refine rd_ixT (v := numV (numb z)) (.inl (.inl hN3)) (atI_nat (j := 0) rfl) ?_
      walk_at "rd"
      refine words_ix (k3 _ _ hl) 1 (by omega) ?_
      walk_at "rd"
      refine ⟨.ref x, ks, at' ws 1, _, rfl, k3.chart hch, lay, hn, .inl ⟨hr0, numb z, rfl, fun H4 k4 => ?_⟩⟩
      refine ⟨_, rfl, fin _ _ _ _ k4 rfl rfl rfl (fun hb => ?_) fun hb => ?_⟩
      · rw [ek]
        have : numb z = none := by
          cases hq : numb z with
          | none => rfl
          | some n =>
            rw [hq] at hb
            obtain ⟨b1, b2⟩ := numb_range hq
            have e : inR 0 999999 (some n) = true := by
              show (decide (0 ≤ n) && decide (n ≤ 999999)) = true
              rw [decide_eq_true b1, decide_eq_true b2]
              rfl
            rw [e] at hb
            cases hb
        simp [this]
      · cases hq : numb z with
        | none => rw [hq] at hb; cases hb
        | some n =>
          refine ⟨.one n, ?_, rfl⟩
          rw [ek]
          simp [hq]
    · have h1 := of_decide_eq_false h
      walk_at "rd"
      refine words_ix (k3 _ _ hl) 1 (by omega) ?_
      walk_at "rd"
      refine ⟨.ref x, ks, at' ws 1, _, rfl, k3.chart hch, lay, hn, .inl ⟨hr0, none, rfl, fun H4 k4 => ?_⟩⟩
      refine ⟨_, rfl, fin _ _ _ _ k4 rfl rfl rfl (fun hb => ?_) fun hb => by cases hb⟩
      rw [ek, el, if_neg h1]
      split <;> rfl
  · have hr1 : rts ks (at' ws 1) ≠ [] := fun z => by
      rw [hiff.mp z] at h
      cases h
    have hre : (rts ks (at' ws 1)).isEmpty = false := by
      cases hq : rts ks (at' ws 1) with
      | nil => exact absurd hq hr1
      | cons a b => rfl
    rw [hre] at ek
    have ek : partRow ks ws = (if (((ws.drop 2).map numb).all Option.isSome) = true then (if ((ws.drop 2).map fun w => (numb w).getD 0).length = (rts ks (at' ws 1)).length then some (at' ws 1, .many ((ws.drop 2).map fun w => (numb w).getD 0)) else none) else none) := ek
    walk_at "rd"
    refine words_ix (k3 _ _ hl) 1 (by omega) ?_
    walk_at "rd"
    refine ⟨.ref x, ks, at' ws 1, _, rfl, k3.chart hch, lay, hn, .inr ⟨hr1, (ws.drop 2).map numb, ⟨nt', rfl, hN3⟩, fun H4 k4 => ?_⟩⟩
    refine ⟨_, rfl, fin _ _ _ _ k4 rfl rfl rfl (fun hb => ?_) fun hb => ?_⟩
    · rw [num_in, el2] at hb
      rw [ek, el]
      cases ha : ((ws.drop 2).map numb).all Option.isSome with
      | false => rfl
      | true =>
        rw [ha, Bool.and_true] at hb
        rw [if_pos rfl, if_neg (of_decide_eq_false hb)]
    · rw [num_in, el2, Bool.and_eq_true] at hb
      refine ⟨.many _, by rw [ek, if_pos hb.2, el, if_pos (of_decide_eq_true hb.1)], ?_⟩
      refine ⟨nt', rfl, ?_⟩
      rw [← some_map hb.2]
      exact k4 _ _ hN3
end Cp
set_option maxHeartbeats 8000000
/-! The walk of read_file: a lambda handed to told_rows. -/
namespace Cp
open PySem L2 LamX
open PyProof.Rows (envOfC)
abbrev N_read_file : List Str := ["layout", "text", "chart", "words"]
theorem sc_read_file : FnScope N_read_file ["layout", "text"] (defScope sread_file) := ⟨rfl, rfl, rfl, by decide +kernel, rfl, by decide +kernel, by decide +kernel⟩
def q_read_file : Str := (envOfC "read_file" (defScope sread_file) 0 0 .none).qual ++ "<lambda>"
def b_read_file (K : PySem.W.Frag) : TE := tCall (sp_told_part K) [] E0 (tCons (tVar 2) (tCons (tVar 3) tNil))
def t_read_file (P : Program) (w : World) (K : PySem.W.Frag) (Tb : List (Addr × Str)) (E : XK) : TS :=
  (tSeq (tAsg (tMake (He.ga K "Chart") (sp_Chart_init K) [] E0 (tCons (tVar 0) tNil)) (gName 2))
  (tSeq (tIfS (tTest (tOp rEq (tVar 1) (tC (.str "")))) (tRet (tTup tNil)) tNext)
  (tRet (tCall (sp_need_file K) [] E (tCons (tVar 0) (tCons (tLamT Tb q_read_file 3 N_told_rows (tVar 1) (b_read_file K) (fun f SP => t_told_rows P w K E f SP)) tNil))))))
theorem d_read_file {P : Program} {w : World} {K : PySem.W.Frag} {mg : Str → Option Value} {base : Heap} {f c Pt : Addr} {cdv : Value} {fdT : FuncData} {Tb : List (Addr × Str)} {A : Around} {outer : List Env} {s : Shared} {H : Hp} {E : XK} (T : Txt K mg)
    (F_Chart : Fn_Chart P w K mg base) (F_told_part : Fn_told_part P w K mg base) (F_need_file : Fn_need_file P w K mg base) (F_BadText : Fn_BadText P w K mg base)
    (FT : Fun K "told_rows" "told_rows" stold_rows (He.ga K "told_rows") fdT) (bT : Binds K fdT ["text", "told"] []) (TB : TabB base mg c Pt) (hcode : cdv = .ref c) (hm : (Pt, q_read_file) ∈ Tb) (hu1 : ∀ p ∈ Tb, p.1 = Pt → p.2 = q_read_file)
    (hr : Room 8 (A.deeper (envOfC "read_file" (defScope sread_file) s.heap.objs.size f cdv))) :
    PSs (cxOf (L2.CX P w) P w K mg base N_read_file "read_file" (defScope sread_file) f cdv A outer s H E) (defBody sread_file) (t_read_file P w K Tb E) := by
  have nd := sc_read_file.nd
  have hu := hu_of hr
  obtain ⟨oc, od, kV, doc, pm, an, cdvT, ct, osl, rfl, lk, hcd⟩ := FT.ex
  exact (pss_cons (ps_set (i := 2) nd rfl (.inr rfl) (pe_mkChart hr T F_Chart passL (pa_cons (pv 0) pa_nil)))
    (pss_cons (ps_if (pt_cmpR op_eq (pv 1) pe_str (nomark _)) (pss_one (ps_ret (pe_tup pa_nil))) pss_nil)
    (pss_one (ps_ret (pe_fn F_need_file hr (by decide) rfl (passE rfl rfl rfl rfl) (pa_cons (pv 0) (pa_cons
      (pe_lamtold (k := 4) (E := E) (T := Tb) (P := Pt) (c := c) (a0 := "text") (a := "told") (wn := "words") (j := 3) (Ng := N_told_rows) (tR := fun f SP => t_told_rows P w K E f SP) rfl T.gtold_rows FT.kp lk hcd bT sc_told_rows rfl (.inl rfl) (passE rfl rfl rfl rfl) (pv 1)
        (fun A outer s H f SP hr2 hl => d_told_rows T F_BadText hl hr2) TB hcode hm hu1 (hr.mono (by decide)) nd rfl (show LamS1 (defScope sread_file) _ _ from lamS1_by (by decide +kernel)) rfl (fun _ _ _ _ _ _ => rfl)
        (fun A outer s H f' c' hr2 => pe_fn F_told_part hr2 (by decide) rfl pass0 (pa_cons (pv 2) (pa_cons (pv 3) pa_nil)))) pa_nil)))))))
end Cp
set_option maxHeartbeats 8000000
/-! read_layout, read_file. -/
namespace Cp
open PySem L2 LamX
local macro_rules | `(tactic| walk_at "rd") => `(tactic| repeat (first
  | with_reducible apply rd_seq | with_reducible apply rd_asg | with_reducible apply rd_gname | with_reducible apply rd_if | with_reducible apply rd_ret | with_reducible apply rd_drop | with_reducible apply rd_next
  | with_reducible apply rd_op | with_reducible apply rd_cb | with_reducible apply rd_cons | with_reducible apply rd_nil | with_reducible apply rd_c | with_reducible apply rd_tb | with_reducible apply rd_test | with_reducible apply rd_not
  | with_reducible apply rd_or | with_reducible apply rd_and | with_reducible apply rd_call | with_reducible apply rd_chain | with_reducible apply rd_andV | with_reducible apply rd_notV | with_reducible apply rd_ifx
  | with_reducible apply rd_gcons | with_reducible apply rd_gnil
  | ((with_reducible apply rd_var); exact rfl) | (with_reducible apply rd_bk)))
theorem kindRow_ok {ws : List Str} {k : Kd} (h : kindRow ws = some k) : k.ok = true := by
  unfold kindRow at h
  split at h
  · rename_i c
    rw [Bool.and_eq_true] at c
    have c2 := c.2
    cases Option.some.inj h
    unfold Kd.ok
    cases hn : numb (at' ws 2) with
    | none => rw [hn] at c2; unfold kindOk edOk at c2; simp at c2
    | some n => rw [hn] at c2; exact c2
  · cases h
theorem tell_mem {α : Type} {F : List Str → Option α} : ∀ {rs : List (List Str)} {i : Nat} {xs : List α}, tellGo F i rs = .inl xs → ∀ x ∈ xs, ∃ ws, F ws = some x
  | [], i, xs, h, x, hx => by
    cases h
    cases hx
  | r :: rs, i, xs, h, x, hx => by
    unfold tellGo at h
    cases hr : F r with
    | none => rw [hr] at h; cases h
    | some y =>
      rw [hr] at h
      cases hg : tellGo F (i + 1) rs with
      | inr j => simp only [hg] at h; cases h
      | inl ys =>
        simp only [hg] at h
        cases h
        rcases List.mem_cons.mp hx with rfl | hx
        · exact ⟨r, hr⟩
        · exact tell_mem hg x hx
theorem partRow_ok {ks : List Kd} {ws : List Str} {p : Str × Cn} (h : partRow ks ws = some p) : ptOk ks p := by
  rw [partRow_eq] at h
  split at h
  · rename_i c
    rw [Bool.and_eq_true, Bool.and_eq_true] at c
    have hn := of_decide_eq_true c.2
    split at h
    · rename_i ca
      have rng : ∀ n ∈ ((ws.drop 2).map fun w => (numb w).getD 0), 0 ≤ n ∧ n ≤ 999999 := by
        intro n hm
        obtain ⟨w, hw, rfl⟩ := List.mem_map.mp hm
        have q := List.all_eq_true.mp ca (numb w) (List.mem_map.mpr ⟨w, hw, rfl⟩)
        cases hq : numb w with
        | none => rw [hq] at q; cases q
        | some n => exact numb_range hq
      split at h
      · rename_i cr
        split at h
        · rename_i cl
          cases Option.some.inj h
          refine ⟨hn, List.isEmpty_iff.mp cr, rng _ ?_⟩
          rw [List.getD_eq_getElem?_getD, List.getElem?_eq_getElem (by omega)]
          exact List.getElem_mem _
        · cases h
      · rename_i cr
        split at h
        · rename_i cl
          cases Option.some.inj h
          exact ⟨hn, fun e => cr (by rw [e]; rfl), cl, rng⟩
        · cases h
    · cases h
  · cases h
theorem r_read_layout {P : Program} {w : World} {K : PySem.W.Frag} {vs : List V} {H : Hp} {Q : VK} {E : XK} (h : sp_read_layout K vs H Q E) : t_read_layout P w K E { nx := fun _ H' => Q .non H', rt := Q } (L2.start N_read_layout vs) H := by
  obtain ⟨t, rfl, ht, qb, q⟩ := h
  unfold t_read_layout
  walk_at "rd"
  refine ⟨t, rfl, ht, fun i e => qb _ _ (by unfold ansL; rw [e]), fun ks e a xs H1 k1 tf kd => ?_⟩
  walk_at "rd"
  refine ⟨a, xs, ks, rfl, tf.sq, kd, fun k hk => ?_, fun el H2 k2 => ?_, fun pl el H2 d p k2 => ?_⟩
  · obtain ⟨ws, hw⟩ := tell_mem e k hk
    exact kindRow_ok hw
  · exact q ks (by unfold ansL; rw [e]; simp only [el]) a xs H2 (k1.trans k2) (k2.sqT tf.sq) (k2.kds kd)
  · exact qb "BadLayout" pl (by unfold ansL; rw [e]; simp only [el]) H2 d p (k1.trans k2)

/-! ### all but the tables -/
theorem _root_.LamX.ExtN.sqT {K : PySem.W.Frag} {H H' : Hp} {a : Addr} {xs : List V} (k : ExtN H H') (h : SqT K H a xs) : SqT K H' a xs := by
  rcases h with (h | ⟨o, h⟩) | h
  · exact .inl (.inl (k _ _ h (fun _ z => by cases z)))
  · exact .inl (.inr ⟨o, k _ _ h (fun _ z => by cases z)⟩)
  · exact .inr h
theorem _root_.LamX.ExtN.tup {H H' : Hp} {v : V} {xs : List V} (k : ExtN H H') (h : TupAt H v xs) : TupAt H' v xs := let ⟨a, e, q⟩ := h; ⟨a, e, k _ _ q (fun _ z => by cases z)⟩
theorem _root_.LamX.ExtN.kd {H H' : Hp} {v : V} {x : Kd} (k : ExtN H H') (h : KdAt H v x) : KdAt H' v x := let ⟨a, b, e, q1, q2⟩ := h; ⟨a, b, e, k _ _ q1 (fun _ z => by cases z), k _ _ q2 (fun _ z => by cases z)⟩
theorem _root_.LamX.ExtN.kds {H H' : Hp} {vs : List V} {ks : List Kd} (k : ExtN H H') (h : KdsAt H vs ks) : KdsAt H' vs ks := Paired.mapP h fun _ _ q => k.kd q
theorem _root_.LamX.ExtN.plan {K : PySem.W.Frag} {H H' : Hp} {v : V} {ks : List Kd} (k : ExtN H H') (h : PlanAt K H v ks) : PlanAt K H' v ks := let ⟨a, vs, e, q1, q2⟩ := h; ⟨a, vs, e, k.sqT q1, k.kds q2⟩
theorem _root_.LamX.ExtN.undT {H H' : Hp} {d : Addr} {u : Und} (k : ExtN H H') (h : UndT H d u) : UndT H' d u := let ⟨kvs, e, q⟩ := h; ⟨kvs, k _ _ e (fun _ z => by cases z), Paired.mapP q fun _ _ ⟨e1, l, e2, e3⟩ => ⟨e1, l, e2, k _ _ e3 (fun _ z => by cases z)⟩⟩
theorem _root_.LamX.ExtN.kinds {H H' : Hp} {d : Addr} {ks : List Kd} (k : ExtN H H') (h : KindsAt H d ks) : KindsAt H' d ks := let ⟨kvs, e, q⟩ := h; ⟨kvs, k _ _ e (fun _ z => by cases z), Paired.mapP q fun _ _ ⟨e1, e2⟩ => ⟨e1, k.kd e2⟩⟩
theorem _root_.LamX.ExtN.chart {K : PySem.W.Frag} {H H' : Hp} {v : V} {ks : List Kd} (k : ExtN H H') (h : ChartAt K H v ks) : ChartAt K H' v ks :=
  let ⟨a, dx, fs, dk, dr, e, q1, q2, q3, q4, q5⟩ := h; ⟨a, dx, fs, dk, dr, e, k _ _ q1 (fun _ z => by cases z), q2, q3, k.kinds q4, k.undT q5⟩
theorem KeepT.of {T : List (Addr × Str)} {H H' : Hp} (t : Tabs T H) (k : Keep H H') : KeepT T H H' := ⟨ExtN.of k, t.ext k⟩
theorem KeepT.keep {T : List (Addr × Str)} {H H' H2 : Hp} (t : KeepT T H H') (k : Keep H' H2) : KeepT T H H2 := ⟨t.1.trans (ExtN.of k), t.2.ext k⟩
theorem KeepT.trans {T : List (Addr × Str)} {H H' H2 : Hp} (t : KeepT T H H') (k : KeepT T H' H2) : KeepT T H H2 := ⟨t.1.trans k.1, k.2⟩
theorem PtAt.nn {H : Hp} {v : V} {p : Str × Cn} (h : PtAt H v p) : v ≠ .non := by
  obtain ⟨a, c, rfl, _⟩ := h
  exact fun z => by cases z
theorem r_read_file {P : Program} {w : World} {K : PySem.W.Frag} {mg : Str → Option Value} (T : Txt K mg) {Tb : List (Addr × Str)} {vs : List V} {H : Hp} {Q : VK} {E : XK} (h : sp_read_file Tb K vs H Q E) : t_read_file P w K Tb E { nx := fun _ H' => Q .non H', rt := Q } (L2.start N_read_file vs) H := by
  obtain ⟨v, ks, t, rfl, hp, lay, ht, hT, qb, q⟩ := h
  unfold t_read_file
  walk_at "rd"
  refine rd_make ?_
  walk_at "rd"
  intro x dx hx hdx hne
  have k0 : Keep H (upd (upd H dx (.own x)) x (.ins (He.ga K "Chart") dx [])) := fun b o e => by
    rw [upd_ne (ne_of_none e hx), upd_ne (ne_of_none e hdx)]
    exact e
  refine ⟨x, dx, v, ks, rfl, upd_same, k0.plan hp, lay, fun H1 k1 hch => ⟨rfl, ?_⟩⟩
  have k01 : Keep H H1 := fun b o e => k1 b o (ne_of_none e hx) (k0 b o e)
  walk_at "rd"
  refine rd_eq rfl ?_
  walk_at "rd"
  have e0 : decide (V.str t = V.str "") = decide (t = "") := by simp only [V.str.injEq]
  rw [e0]
  refine iteB (fun h => ?_) (fun h => ?_)
  · walk_at "rd"
    refine rd_tup ?_
    walk_at "rd"
    refine ⟨Nat.zero_le _, fun p hp => ?_⟩
    refine q [] ?_ p [] _ (.of hT (k01.tnew hp)) (.inl (.inl upd_same)) .nil
    unfold ansF
    rw [if_pos (of_decide_eq_true h)]
    rfl
  · have ht0 : ¬ t = "" := of_decide_eq_false h
    have hrows : (if t = "" then [] else rowsOf t) = rowsOf t := if_neg ht0
    walk_at "rd"
    show tVar 1 _ _ _
    walk_at "rd"
    refine ⟨hT.ext k01, fun f c' H2 eN T2 hc => ?_⟩
    have k02 : KeepT Tb H H2 := ⟨(ExtN.of k01).trans eN, T2⟩
    refine r_told_rows T (F := partRow ks) (Rep := PtAt) ht (fun _ _ _ _ k h => k.pt h) (fun _ _ _ h => h.nn) (fun _ _ _ _ _ _ hl h => h.lst hl) (fun H3 p ws Q' k3 hp3 hs hwn n0 n1 => ?_) (fun i e => ?_) (fun ps e a xs H3 k3 tf pts => ?_)
    · refine ⟨_, rfl, k3 _ _ hc, ?_⟩
      show tCall _ _ _ _ _ _ _
      walk_at "rd"
      exact ⟨.ref x, ks, .ref p, ws, rfl, k3.chart (eN.chart hch), lay, ⟨p, rfl, hp3, hs, hwn⟩, n0, n1⟩
    · intro H3 d p k3 hd hp3
      exact qb "BadText" [(i : Int)] (by unfold ansF; rw [hrows, e]) H3 d p (k02.keep k3) hd hp3
    · have ef : fileRes (nms ks) (ps.map (·.1)) = none → ansF ks t = .told ps := fun el => by
        unfold ansF
        rw [hrows, e]
        simp only [el]
      have eb : ∀ pl, fileRes (nms ks) (ps.map (·.1)) = some pl → ansF ks t = .bad "BadFile" pl := fun pl el => by
        unfold ansF
        rw [hrows, e]
        simp only [el]
      walk_at "rd"
      refine ⟨v, ks, a, xs, ps, rfl, k3.plan (k02.1.plan hp), lay, tf, pts, fun p hp => ?_, fun el H4 k4 => ?_, fun pl el H4 d p k4 hd hp4 => ?_⟩
      · obtain ⟨ws, hw⟩ := tell_mem e p hp
        exact partRow_ok hw
      · exact q ps (ef el) a xs H4 ((k02.keep k3).keep k4) (k4.sqT tf.sq) (k4.pts pts)
      · exact qb _ _ (eb pl el) H4 d p ((k02.keep k3).keep k4) hd hp4
end Cp
set_option maxHeartbeats 8000000
/-! The classes of errors: their own __init__. -/
namespace Cp
open PySem L2 LamX
open PyProof.Rows (envOfC)
local macro_rules | `(tactic| walk_at "rd") => `(tactic| repeat (first
  | with_reducible apply rd_seq | with_reducible apply rd_asg | with_reducible apply rd_gname | with_reducible apply rd_if | with_reducible apply rd_ret | with_reducible apply rd_drop | with_reducible apply rd_next
  | with_reducible apply rd_op | with_reducible apply rd_cb | with_reducible apply rd_cons | with_reducible apply rd_nil | with_reducible apply rd_c | with_reducible apply rd_tb | with_reducible apply rd_test | with_reducible apply rd_not
  | with_reducible apply rd_or | with_reducible apply rd_and | with_reducible apply rd_call | with_reducible apply rd_chain | with_reducible apply rd_andV | with_reducible apply rd_notV | with_reducible apply rd_ifx
  | with_reducible apply rd_gcons | with_reducible apply rd_gnil
  | ((with_reducible apply rd_var); exact rfl) | (with_reducible apply rd_bk)))
abbrev N_bad : List Str := ["self", "place"]
def t_bad (K : PySem.W.Frag) (z : Str) : TS := tSeq (tDrop (tVeI K (tCons (tVar 0) (tCons (tC (.str z)) tNil)))) (tOst K "place" (tVar 0) (tVar 1))
theorem r_bad {K : PySem.W.Frag} {z : Str} {vs : List V} {H : Hp} {Q : VK} {E : XK} (h : spBad K vs H Q E) : t_bad K z { nx := fun _ H' => Q .non H', rt := Q } (L2.start N_bad vs) H := by
  obtain ⟨a, C, v, rfl, oc, nf, ha, q⟩ := h
  unfold t_bad
  walk_at "rd"
  show tCons (tVar 0) (tCons (tC (.str z)) tNil) _ H _
  walk_at "rd"
  refine ⟨a, C, [V.str z], rfl, (show 1 ≤ 1000 by decide), oc, ha, ?_⟩
  show tOst K "place" (tVar 0) (tVar 1) _ _ _
  refine rd_var rfl (rd_var rfl ⟨a, C, rfl, oc, nf, .inl ⟨ha, fun dx h1 h2 => q dx h1 h2⟩⟩)
theorem d_BadLayout {P : Program} {w : World} {K : PySem.W.Frag} {mg : Str → Option Value} {base : Heap} {f : Addr} {cdv : Value} {A : Around} {outer : List Env} {s : Shared} {H : Hp} {E : XK} (T : Txt K mg) :
    PSs (cxOf (CX0) P w K mg base N_bad "BadLayout.__init__" (defScope sBadLayout_init) f cdv A outer s H E).nox (defBody sBadLayout_init) (t_bad K "not a layout") :=
  pss_cons (ps_expr (pe_peinit rfl T.parts (pa_cons (pv 0) (pa_cons pe_str pa_nil)))) (pss_one (ps_ost (pv 0) (pv 1)))
theorem d_BadFile {P : Program} {w : World} {K : PySem.W.Frag} {mg : Str → Option Value} {base : Heap} {f : Addr} {cdv : Value} {A : Around} {outer : List Env} {s : Shared} {H : Hp} {E : XK} (T : Txt K mg) :
    PSs (cxOf (CX0) P w K mg base N_bad "BadFile.__init__" (defScope sBadFile_init) f cdv A outer s H E).nox (defBody sBadFile_init) (t_bad K "not a file") :=
  pss_cons (ps_expr (pe_peinit rfl T.parts (pa_cons (pv 0) (pa_cons pe_str pa_nil)))) (pss_one (ps_ost (pv 0) (pv 1)))
theorem d_BadText {P : Program} {w : World} {K : PySem.W.Frag} {mg : Str → Option Value} {base : Heap} {f : Addr} {cdv : Value} {A : Around} {outer : List Env} {s : Shared} {H : Hp} {E : XK} (T : Txt K mg) :
    PSs (cxOf (CX0) P w K mg base N_bad "BadText.__init__" (defScope sBadText_init) f cdv A outer s H E).nox (defBody sBadText_init) (t_bad K "not such a text") :=
  pss_cons (ps_expr (pe_peinit rfl T.parts (pa_cons (pv 0) (pa_cons pe_str pa_nil)))) (pss_one (ps_ost (pv 0) (pv 1)))
theorem sc_BadLayout : FnScope N_bad ["self", "place"] (defScope sBadLayout_init) := ⟨rfl, rfl, rfl, by decide +kernel, rfl, by decide +kernel, by decide +kernel⟩
theorem sc_BadFile : FnScope N_bad ["self", "place"] (defScope sBadFile_init) := ⟨rfl, rfl, rfl, by decide +kernel, rfl, by decide +kernel, by decide +kernel⟩
theorem sc_BadText : FnScope N_bad ["self", "place"] (defScope sBadText_init) := ⟨rfl, rfl, rfl, by decide +kernel, rfl, by decide +kernel, by decide +kernel⟩
theorem ok_BadLayout {P : Program} {w : World} {K : PySem.W.Frag} {mg : Str → Option Value} {base : Heap} {fd : FuncData} (T : Txt K mg) (F : Fun K "__init__" "BadLayout.__init__" sBadLayout_init (He.ma K (He.ga K "BadLayout") "__init__") fd) : Fn_BadLayout P w K mg base :=
  ⟨fd, F.ok sc_BadLayout (fun vs H Q E h => by obtain ⟨_, _, _, rfl, _⟩ := h; rfl) (fun cdv A outer s H vs Q E hr h => ⟨_, d_BadLayout T, r_bad h⟩), F.binds fun _ _ _ _ _ _ us hl => match us, hl with | [_, _], _ => rfl⟩
theorem ok_BadFile {P : Program} {w : World} {K : PySem.W.Frag} {mg : Str → Option Value} {base : Heap} {fd : FuncData} (T : Txt K mg) (F : Fun K "__init__" "BadFile.__init__" sBadFile_init (He.ma K (He.ga K "BadFile") "__init__") fd) : Fn_BadFile P w K mg base :=
  ⟨fd, F.ok sc_BadFile (fun vs H Q E h => by obtain ⟨_, _, _, rfl, _⟩ := h; rfl) (fun cdv A outer s H vs Q E hr h => ⟨_, d_BadFile T, r_bad h⟩), F.binds fun _ _ _ _ _ _ us hl => match us, hl with | [_, _], _ => rfl⟩
theorem ok_BadText {P : Program} {w : World} {K : PySem.W.Frag} {mg : Str → Option Value} {base : Heap} {fd : FuncData} (T : Txt K mg) (F : Fun K "__init__" "BadText.__init__" sBadText_init (He.ma K (He.ga K "BadText") "__init__") fd) : Fn_BadText P w K mg base :=
  ⟨fd, F.ok sc_BadText (fun vs H Q E h => by obtain ⟨_, _, _, rfl, _⟩ := h; rfl) (fun cdv A outer s H vs Q E hr h => ⟨_, d_BadText T, r_bad h⟩), F.binds fun _ _ _ _ _ _ us hl => match us, hl with | [_, _], _ => rfl⟩
end Cp
set_option maxHeartbeats 8000000
/-! The walks (printed by gen_walk.py). -/
namespace Cp
open PySem L2 LamX
open PyProof.Rows (envOfC)
abbrev N__law_begun : List Str := ["script", "mixed", "k", "cell"]
theorem sc__law_begun : FnScope N__law_begun ["script"] (defScope s_law_begun) := ⟨rfl, rfl, rfl, by decide +kernel, rfl, by decide +kernel, by decide +kernel⟩
def t__law_begun (P : Program) (w : World) (K : PySem.W.Frag) : TS :=
    (tSeq (tAsg (tOp rAdd (tC (.int 32452843)) (tOp rMul (tC (.int 41)) (tCB (rLen K) (tCons (tVar 0) tNil)))) (gName 1))
    (tSeq (tFor (iEnum K (tCons (tVar 0) tNil)) (gTup K 2 (gCons (gName 2) (gCons (gName 3) gNil))) (tAsg (tOp rMod (tCB rIntI (tCons (tOp rAdd (tOp rAdd (tOp rMul (tVar 1) (tC (.int 998244353))) (tVar 3)) (tOp rMul (tC (.int 104723)) (tVar 2))) tNil)) (tC (.int 2305843009213693951))) (gName 1)))
    (tRet (tDisp [((tC (.str "mixed")), (tVar 1)), ((tC (.str "great")), (tLc (iList K (tVar 0)) (gName 3) (tTest (tOp rGe (tVar 3) (tOp rPow (tC (.int 10)) (tC (.int 18))))) (tVar 3) [3])), ((tC (.str "turn")), (tC (.int 0)))]))))
theorem d__law_begun {P : Program} {w : World} {K : PySem.W.Frag} {mg : Str → Option Value} {base : Heap} {f : Addr} {cdv : Value} {A : Around} {outer : List Env} {s : Shared} {H : Hp} {E : XK} (T : Txt K mg)
    (hr : Room 0 (A.deeper (envOfC "_law_begun" (defScope s_law_begun) s.heap.objs.size f cdv))) : PSs (cxOf (CX0) P w K mg base N__law_begun "_law_begun" (defScope s_law_begun) f cdv A outer s H E).nox (defBody s_law_begun) (t__law_begun P w K) := by
  have nd := sc__law_begun.nd
  have hu := hu_of hr
  exact (pss_cons (ps_set (i := 1) nd rfl (.inl rfl) (pe_op o_add pe_int (pe_op o_mul pe_int (pe_callB c_len (by rfl) T.len_ (by decide +kernel) (pa_cons (pv 0) pa_nil)))))
    (pss_cons (ps_for PassesOwn.never rfl (pi_enum (by rfl) T.enumerate_ (pa_cons (pv 0) pa_nil)) (pg_tup rfl (pgs_cons (pg_name (i := 2) nd rfl (.inl rfl)) (pgs_cons (pg_name (i := 3) nd rfl (.inl rfl)) pgs_nil))) (pss_one (ps_set (i := 1) nd rfl (.inl rfl) (pe_op o_mod (pe_callTy c_intI (by rfl) T.int_ (by decide +kernel) (pa_cons (pe_op o_add (pe_op o_add (pe_op o_mul (pv 1) pe_int) (pv 3)) (pe_op o_mul pe_int (pv 2))) pa_nil)) pe_int))))
    (pss_one (ps_ret (pe_disp (pps_cons pe_str (pv 1) (pps_cons pe_str (pe_lc (own := [("cell", 3)]) (g := (gName 3)) (tt := (tTest (tOp rGe (tVar 3) (tOp rPow (tC (.int 10)) (tC (.int 18)))))) rfl nd (pi_list (pv 0)) (blkOk_by (own := [("cell", 3)]) (N := N__law_begun) (sc := defScope s_law_begun) (by decide +kernel)) (fun _ _ _ _ _ => (pg_name (i := 3) nd rfl (.inl rfl))) (fun _ _ _ _ _ => pts_one (pt_cmpR o_ge (pv 3) (pe_op o_pow pe_int pe_int) (nomark _))) (fun _ _ _ _ _ => (pv 3))) (pps_cons pe_str pe_int pps_nil))) (by rfl) (by rfl) (fun z => by cases z) (by decide))))))
abbrev N__law_next : List Str := ["draw", "below", "great", "at", "found", "mixed"]
theorem sc__law_next : FnScope N__law_next ["draw", "below"] (defScope s_law_next) := ⟨rfl, rfl, rfl, by decide +kernel, rfl, by decide +kernel, by decide +kernel⟩
def t__law_next (P : Program) (w : World) (K : PySem.W.Frag) : TS :=
    (tSeq (tAsg (tTup (tCons (tOp rAdd (tDGet (tVar 0) (tC (.str "turn"))) (tC (.int 1))) (tCons (tDGet (tVar 0) (tC (.str "great"))) tNil))) (gTup K 2 (gCons (gSub (tVar 0) (tC (.str "turn")) rSetD) (gCons (gName 2) gNil))))
    (tSeq (tAsg (tOp rMod (tCB rIntI (tCons (tDGet (tVar 0) (tC (.str "turn"))) tNil)) (tCB rMax (tCons (tC (.int 1)) (tCons (tCB (rLen K) (tCons (tVar 2) tNil)) tNil)))) (gName 3))
    (tSeq (tIfS (tAnd (tTest (tOp (rNeD K) (tVar 2) (tLst tNil))) (tTest (tOp rGt (tOp (rIxL K) (tVar 2) (tVar 3)) (tC (.int 0))))) (tSeq (tAsg (tOp rMod (tCB rIntI (tCons (tOp (rIxL K) (tVar 2) (tVar 3)) tNil)) (tVar 1)) (gName 4))
    (tSeq (tAsg (tOp rFdiv (tOp (rIxL K) (tVar 2) (tVar 3)) (tVar 1)) (gSub (tVar 2) (tVar 3) rSetL))
    (tRet (tVar 4)))) tNext)
    (tSeq (tAsg (tCB rIntI (tCons (tOp rAdd (tOp rAdd (tOp rMul (tDGet (tVar 0) (tC (.str "mixed"))) (tC (.int 6364136223846793))) (tOp rMul (tC (.int 1442695040888963)) (tDGet (tVar 0) (tC (.str "turn"))))) (tC (.int 11))) tNil)) (gName 5))
    (tSeq (tAsg (tOp rMod (tCB rIntI (tCons (tVar 5) tNil)) (tC (.int 2305843009213693951))) (gSub (tVar 0) (tC (.str "mixed")) rSetD))
    (tRet (tOp rMod (tCB rIntI (tCons (tOp rFdiv (tDGet (tVar 0) (tC (.str "mixed"))) (tC (.int 32749))) tNil)) (tVar 1))))))))
theorem d__law_next {P : Program} {w : World} {K : PySem.W.Frag} {mg : Str → Option Value} {base : Heap} {f : Addr} {cdv : Value} {A : Around} {outer : List Env} {s : Shared} {H : Hp} {E : XK} (T : Txt K mg)
    (hr : Room 0 (A.deeper (envOfC "_law_next" (defScope s_law_next) s.heap.objs.size f cdv))) : PSs (cxOf (CX0) P w K mg base N__law_next "_law_next" (defScope s_law_next) f cdv A outer s H E).nox (defBody s_law_next) (t__law_next P w K) := by
  have nd := sc__law_next.nd
  have hu := hu_of hr
  exact (pss_cons (ps_asg (pe_tup (pa_cons (pe_op o_add (pe_dget hu (pv 0) pe_str (fun _ _ => rfl)) pe_int) (pa_cons (pe_dget hu (pv 0) pe_str (fun _ _ => rfl)) pa_nil))) (pg_tup rfl (pgs_cons (pg_sub (pv 0) pe_str (set_dict hu)) (pgs_cons (pg_name (i := 2) nd rfl (.inl rfl)) pgs_nil))))
    (pss_cons (ps_set (i := 3) nd rfl (.inl rfl) (pe_op o_mod (pe_callTy c_intI (by rfl) T.int_ (by decide +kernel) (pa_cons (pe_dget hu (pv 0) pe_str (fun _ _ => rfl)) pa_nil)) (pe_callB (c_max rfl) (by rfl) T.max_ (by decide +kernel) (pa_cons pe_int (pa_cons (pe_callB c_len (by rfl) T.len_ (by decide +kernel) (pa_cons (pv 2) pa_nil)) pa_nil)))))
    (pss_cons (ps_if (PW.pt (pw_and (pt_cmpR (op_neD hr.units) (pv 2) (pe_lst pa_nil) (nomark _)) (pw_and1 (pt_cmpR o_gt (pe_ix ix_list (pv 2) (pv 3) (fun _ _ => rfl)) pe_int (nomark _))))) (pss_cons (ps_set (i := 4) nd rfl (.inl rfl) (pe_op o_mod (pe_callTy c_intI (by rfl) T.int_ (by decide +kernel) (pa_cons (pe_ix ix_list (pv 2) (pv 3) (fun _ _ => rfl)) pa_nil)) (pv 1)))
    (pss_cons (ps_asg (pe_op o_fdiv (pe_ix ix_list (pv 2) (pv 3) (fun _ _ => rfl)) (pv 1)) (pg_sub (pv 2) (pv 3) set_list))
    (pss_one (ps_ret (pv 4))))) pss_nil)
    (pss_cons (ps_set (i := 5) nd rfl (.inl rfl) (pe_callTy c_intI (by rfl) T.int_ (by decide +kernel) (pa_cons (pe_op o_add (pe_op o_add (pe_op o_mul (pe_dget hu (pv 0) pe_str (fun _ _ => rfl)) pe_int) (pe_op o_mul pe_int (pe_dget hu (pv 0) pe_str (fun _ _ => rfl)))) pe_int) pa_nil)))
    (pss_cons (ps_asg (pe_op o_mod (pe_callTy c_intI (by rfl) T.int_ (by decide +kernel) (pa_cons (pv 5) pa_nil)) pe_int) (pg_sub (pv 0) pe_str (set_dict hu)))
    (pss_one (ps_ret (pe_op o_mod (pe_callTy c_intI (by rfl) T.int_ (by decide +kernel) (pa_cons (pe_op o_fdiv (pe_dget hu (pv 0) pe_str (fun _ _ => rfl)) pe_int) pa_nil)) (pv 1)))))))))
abbrev N__law_titles : List Str := ["draw", "signs", "start", "way", "words", "row", "stem", "turn", "k", "sign"]
theorem sc__law_titles : FnScope N__law_titles ["draw"] (defScope s_law_titles) := ⟨rfl, rfl, rfl, by decide +kernel, rfl, by decide +kernel, by decide +kernel⟩
def t__law_titles (P : Program) (w : World) (K : PySem.W.Frag) : TS :=
    (tSeq (tAsg (tTup (tCons (tC (.str "abcdefghijklmnopqrstuvwxyz")) (tCons (tCall (sp__law_next K) [] E0 (tCons (tVar 0) (tCons (tC (.int 26)) tNil))) tNil))) (gTup K 2 (gCons (gName 1) (gCons (gName 2) gNil))))
    (tSeq (tAsg (tCall (sp__law_next K) [] E0 (tCons (tVar 0) (tCons (tC (.int 4)) tNil))) (gName 3))
    (tSeq (tIfS (tTest (tOp rEq (tVar 3) (tC (.int 3)))) (tSeq (tAsg (tLst (tCons (tC (.str "set")) (tCons (tC (.str "make")) (tCons (tC (.str "drop")) (tCons (tC (.str "kind")) (tCons (tC (.str "part")) (tCons (tC (.str "file")) (tCons (tC (.str "undo")) (tCons (tC (.str "redo")) (tCons (tC (.str "gaps")) (tCons (tC (.str "wastes")) tNil))))))))))) (gName 4))
    (tSeq (tAsg (tOp rCat (tVar 4) (tLst (tCons (tC (.str "letters")) (tCons (tC (.str "stale")) (tCons (tC (.str "lost")) (tCons (tC (.str "done")) (tCons (tC (.str "no")) (tCons (tC (.str "none")) (tCons (tC (.str "empty")) (tCons (tC (.str "nothing")) tNil)))))))))) (gName 4))
    (tSeq (tAsg (tOp rCat (tVar 4) (tLst (tCons (tC (.str "mark")) (tCons (tC (.str "base")) (tCons (tC (.str "one")) (tCons (tC (.str "other")) (tCons (tC (.str "layout")) (tCons (tC (.str "edition")) tNil)))))))) (gName 4))
    (tRet (tOp rCat (tSl (rSlL K) (tVar 4) (tPart (tOp rMod (tVar 2) (tC (.int 24)))) tNoPart) (tSl (rSlL K) (tVar 4) tNoPart (tPart (tOp rMod (tVar 2) (tC (.int 24)))))))))) tNext)
    (tSeq (tAsg (tLc (iRng1 (tCons (tC (.int 24)) tNil)) (gName 8) tYes (tOp rIxS (tVar 1) (tOp rMod (tCB rIntI (tCons (tOp rAdd (tVar 2) (tOp rMul (tC (.int 7)) (tVar 8))) tNil)) (tC (.int 26)))) [8]) (gName 5))
    (tSeq (tAsg (tC (.str "")) (gName 6))
    (tSeq (tFor (iRng1 (tCons (tCall (sp__law_next K) [] E0 (tCons (tVar 0) (tCons (tC (.int 8)) tNil))) tNil)) (gName 7) (tAsg (tOp rAddS (tVar 6) (tOp rIxS (tVar 1) (tCall (sp__law_next K) [] E0 (tCons (tVar 0) (tCons (tC (.int 26)) tNil))))) (gName 6)))
    (tSeq (tIfS (tTest (tOp rEq (tVar 3) (tC (.int 0)))) (tRet (tVar 5)) tNext)
    (tRet (tLc (iList K (tVar 5)) (gName 9) tYes (tIf (tTest (tOp rEq (tVar 3) (tC (.int 1)))) (tOp rAddS (tVar 6) (tVar 9)) (tOp rAddS (tVar 9) (tVar 6))) [9])))))))))
theorem d__law_titles {P : Program} {w : World} {K : PySem.W.Frag} {mg : Str → Option Value} {base : Heap} {f : Addr} {cdv : Value} {A : Around} {outer : List Env} {s : Shared} {H : Hp} {E : XK} (T : Txt K mg) (F__law_next : Fn__law_next P w K mg base)
    (hr : Room 1 (A.deeper (envOfC "_law_titles" (defScope s_law_titles) s.heap.objs.size f cdv))) : PSs (cxOf (CX0) P w K mg base N__law_titles "_law_titles" (defScope s_law_titles) f cdv A outer s H E).nox (defBody s_law_titles) (t__law_titles P w K) := by
  have nd := sc__law_titles.nd
  have hu := hu_of hr
  exact (pss_cons (ps_asg (pe_tup (pa_cons pe_str (pa_cons (pe_fn F__law_next hr (by decide) rfl pass0 (pa_cons (pv 0) (pa_cons pe_int pa_nil))) pa_nil))) (pg_tup rfl (pgs_cons (pg_name (i := 1) nd rfl (.inr rfl)) (pgs_cons (pg_name (i := 2) nd rfl (.inr rfl)) pgs_nil))))
    (pss_cons (ps_set (i := 3) nd rfl (.inr rfl) (pe_fn F__law_next hr (by decide) rfl pass0 (pa_cons (pv 0) (pa_cons pe_int pa_nil))))
    (pss_cons (ps_if (pt_cmpR op_eq (pv 3) pe_int (nomark _)) (pss_cons (ps_set (i := 4) nd rfl (.inl rfl) (pe_lst (pa_cons pe_str (pa_cons pe_str (pa_cons pe_str (pa_cons pe_str (pa_cons pe_str (pa_cons pe_str (pa_cons pe_str (pa_cons pe_str (pa_cons pe_str (pa_cons pe_str pa_nil))))))))))))
    (pss_cons (ps_set (i := 4) nd rfl (.inl rfl) (pe_op op_cat (pv 4) (pe_lst (pa_cons pe_str (pa_cons pe_str (pa_cons pe_str (pa_cons pe_str (pa_cons pe_str (pa_cons pe_str (pa_cons pe_str (pa_cons pe_str pa_nil)))))))))))
    (pss_cons (ps_set (i := 4) nd rfl (.inl rfl) (pe_op op_cat (pv 4) (pe_lst (pa_cons pe_str (pa_cons pe_str (pa_cons pe_str (pa_cons pe_str (pa_cons pe_str (pa_cons pe_str pa_nil)))))))))
    (pss_one (ps_ret (pe_op op_cat (pe_slice sl_list (pv 4) (po_some (pe_op o_mod (pv 2) pe_int)) po_none) (pe_slice sl_list (pv 4) po_none (po_some (pe_op o_mod (pv 2) pe_int))))))))) pss_nil)
    (pss_cons (ps_setLc (i := 5) (own := [("k", 8)]) (g := (gName 8)) (tt := tYes) rfl nd rfl rfl (sw_true rfl rfl rfl (by decide +kernel)) (pi_range1 rfl T.range_ (pa_cons pe_int pa_nil)) (blkOk_by (own := [("k", 8)]) (N := N__law_titles) (sc := defScope s_law_titles) (by decide +kernel)) (fun _ _ _ _ _ => (pg_name (i := 8) nd rfl (.inl rfl))) (fun _ _ _ _ _ => pts_nil) (fun _ _ _ _ _ => (pe_ix ix_str (pv 1) (pe_op o_mod (pe_callTy c_intI (by rfl) T.int_ (by decide +kernel) (pa_cons (pe_op o_add (pv 2) (pe_op o_mul pe_int (pv 8))) pa_nil)) pe_int) (fun _ _ => rfl))))
    (pss_cons (ps_set (i := 6) nd rfl (.inr rfl) pe_str)
    (pss_cons (ps_for PassesOwn.never rfl (pi_range1 rfl T.range_ (pa_cons (pe_fn F__law_next hr (by decide) rfl pass0 (pa_cons (pv 0) (pa_cons pe_int pa_nil))) pa_nil)) (pg_name (i := 7) nd rfl (.inl rfl)) (pss_one (ps_set (i := 6) nd rfl (.inr rfl) (pe_op o_addS (pv 6) (pe_ix ix_str (pv 1) (pe_fn F__law_next hr (by decide) rfl pass0 (pa_cons (pv 0) (pa_cons pe_int pa_nil))) (fun _ _ => rfl))))))
    (pss_cons (ps_if (pt_cmpR op_eq (pv 3) pe_int (nomark _)) (pss_one (ps_ret (pv 5))) pss_nil)
    (pss_one (ps_ret (pe_lc (own := [("sign", 9)]) (g := (gName 9)) (tt := tYes) rfl nd (pi_list (pv 5)) (blkOk_by (own := [("sign", 9)]) (N := N__law_titles) (sc := defScope s_law_titles) (by decide +kernel)) (fun _ _ _ _ _ => (pg_name (i := 9) nd rfl (.inl rfl))) (fun _ _ _ _ _ => pts_nil) (fun _ _ _ _ _ => (pe_ifExp (pt_cmpR op_eq (pv 3) pe_int (nomark _)) (pe_op o_addS (pv 6) (pv 9)) (pe_op o_addS (pv 9) (pv 6))))))))))))))
abbrev N__law_sign : List Str := ["at"]
theorem sc__law_sign : FnScope N__law_sign ["at"] (defScope s_law_sign) := ⟨rfl, rfl, rfl, by decide +kernel, rfl, by decide +kernel, by decide +kernel⟩
def t__law_sign (P : Program) (w : World) (K : PySem.W.Frag) : TS :=
    (tRet (tOp rIxS (tC (.str "abcdefghijklmnopqrstuvwxyz")) (tOp rMod (tCB rIntI (tCons (tVar 0) tNil)) (tC (.int 26)))))
theorem d__law_sign {P : Program} {w : World} {K : PySem.W.Frag} {mg : Str → Option Value} {base : Heap} {f : Addr} {cdv : Value} {A : Around} {outer : List Env} {s : Shared} {H : Hp} {E : XK} (T : Txt K mg)
    (hr : Room 0 (A.deeper (envOfC "_law_sign" (defScope s_law_sign) s.heap.objs.size f cdv))) : PSs (cxOf (CX0) P w K mg base N__law_sign "_law_sign" (defScope s_law_sign) f cdv A outer s H E).nox (defBody s_law_sign) (t__law_sign P w K) := by
  have nd := sc__law_sign.nd
  have hu := hu_of hr
  exact (pss_one (ps_ret (pe_ix ix_str pe_str (pe_op o_mod (pe_callTy c_intI (by rfl) T.int_ (by decide +kernel) (pa_cons (pv 0) pa_nil)) pe_int) (fun _ _ => rfl))))
abbrev N__law_frame : List Str := ["draw", "most", "titles", "many", "rows", "pool", "start", "ed", "k", "bases", "turn", "base", "at"]
theorem sc__law_frame : FnScope N__law_frame ["draw", "most"] (defScope s_law_frame) := ⟨rfl, rfl, rfl, by decide +kernel, rfl, by decide +kernel, by decide +kernel⟩
def t__law_frame (P : Program) (w : World) (K : PySem.W.Frag) : TS :=
    (tSeq (tPar3 2 3 4 (tCons (tCall (sp__law_titles K) [] E0 (tCons (tVar 0) tNil)) (tCons (tOp rAdd (tC (.int 1)) (tCall (sp__law_next K) [] E0 (tCons (tVar 0) (tCons (tVar 1) tNil)))) (tCons (tLst tNil) tNil))))
    (tSeq (tPar3 5 6 7 (tCons (tOp (rIxL K) (tLst (tCons (tC (.int 2)) (tCons (tC (.int 4)) (tCons (tC (.int 26)) tNil)))) (tCall (sp__law_next K) [] E0 (tCons (tVar 0) (tCons (tC (.int 3)) tNil)))) (tCons (tCall (sp__law_next K) [] E0 (tCons (tVar 0) (tCons (tC (.int 26)) tNil))) (tCons (tC (.int 1)) tNil))))
    (tSeq (tFor (iRng1 (tCons (tVar 3) tNil)) (gName 8) (tSeq (tAsg (tCB rMin (tCons (tC (.int 99)) (tCons (tOp rAdd (tVar 7) (tOp (rIxL K) (tLst (tCons (tC (.int 0)) (tCons (tC (.int 1)) (tCons (tC (.int 0)) (tCons (tC (.int 1)) (tCons (tC (.int 2)) (tCons (tC (.int 1)) (tCons (tC (.int 0)) (tCons (tC (.int 40)) tNil))))))))) (tCall (sp__law_next K) [] E0 (tCons (tVar 0) (tCons (tC (.int 8)) tNil))))) tNil))) (gName 7))
    (tSeq (tAsg (tLst tNil) (gName 9))
    (tSeq (tFor (iRng1 (tCons (tOp (rIxL K) (tLst (tCons (tC (.int 0)) (tCons (tC (.int 1)) (tCons (tC (.int 2)) (tCons (tC (.int 1)) (tCons (tC (.int 3)) (tCons (tC (.int 2)) (tCons (tC (.int 0)) (tCons (tC (.int 9)) tNil))))))))) (tCall (sp__law_next K) [] E0 (tCons (tVar 0) (tCons (tC (.int 8)) tNil)))) tNil)) (gName 10) (tSeq (tAsg (tOp (rIxL K) (tVar 2) (tCall (sp__law_next K) [] E0 (tCons (tVar 0) (tCons (tOp rAdd (tVar 8) (tC (.int 1))) tNil)))) (gName 11))
    (tIfS (tAnd (tTest (tOp rNe (tVar 11) (tOp (rIxL K) (tVar 2) (tVar 8)))) (tAnd (tTest (tOp (rIn K true) (tVar 11) (tVar 9))) (tTest (tOp rLt (tCB (rLen K) (tCons (tVar 9) tNil)) (tC (.int 6)))))) (tDrop (tBM K "list" rAppend (tVar 9) (tCons (tVar 11) tNil))) tNext)))
    (tSeq (tAsg (tOp rAdd (tOp rAdd (tVar 6) (tOp rMul (tC (.int 5)) (tVar 8))) (tCall (sp__law_next K) [] E0 (tCons (tVar 0) (tCons (tC (.int 2)) tNil)))) (gName 12))
    (tSeq (tIfS (tTest (tOp rLt (tVar 5) (tC (.int 26)))) (tAsg (tOp rAdd (tVar 6) (tOp rMul (tC (.int 5)) (tCall (sp__law_next K) [] E0 (tCons (tVar 0) (tCons (tVar 5) tNil))))) (gName 12)) tNext)
    (tDrop (tBM K "list" rAppend (tVar 4) (tCons (tTup (tCons (tOp (rIxL K) (tVar 2) (tVar 8)) (tCons (tVar 7) (tCons (tCB (rTupL K) (tCons (tVar 9) tNil)) (tCons (tCall (sp__law_sign K) [] E0 (tCons (tVar 12) tNil)) (tCons (tC (.str "")) tNil)))))) tNil)))))))))
    (tRet (tVar 4)))))
theorem d__law_frame {P : Program} {w : World} {K : PySem.W.Frag} {mg : Str → Option Value} {base : Heap} {f : Addr} {cdv : Value} {A : Around} {outer : List Env} {s : Shared} {H : Hp} {E : XK} (T : Txt K mg) (F__law_next : Fn__law_next P w K mg base) (F__law_sign : Fn__law_sign P w K mg base) (F__law_titles : Fn__law_titles P w K mg base)
    (hr : Room 2 (A.deeper (envOfC "_law_frame" (defScope s_law_frame) s.heap.objs.size f cdv))) : PSs (cxOf (CX0) P w K mg base N__law_frame "_law_frame" (defScope s_law_frame) f cdv A outer s H E).nox (defBody s_law_frame) (t__law_frame P w K) := by
  have nd := sc__law_frame.nd
  have hu := hu_of hr
  exact (pss_cons (ps_par3 (i := 2) (j := 3) (l := 4) rfl nd rfl rfl rfl (by decide) (by decide) (by decide) rfl rfl rfl (pa_cons (pe_fn F__law_titles hr (by decide) rfl pass0 (pa_cons (pv 0) pa_nil)) (pa_cons (pe_op o_add pe_int (pe_fn F__law_next hr (by decide) rfl pass0 (pa_cons (pv 0) (pa_cons (pv 1) pa_nil)))) (pa_cons (pe_lst pa_nil) pa_nil))) rfl)
    (pss_cons (ps_par3 (i := 5) (j := 6) (l := 7) rfl nd rfl rfl rfl (by decide) (by decide) (by decide) rfl rfl rfl (pa_cons (pe_ix ix_list (pe_lst (pa_cons pe_int (pa_cons pe_int (pa_cons pe_int pa_nil)))) (pe_fn F__law_next hr (by decide) rfl pass0 (pa_cons (pv 0) (pa_cons pe_int pa_nil))) (fun _ _ => rfl)) (pa_cons (pe_fn F__law_next hr (by decide) rfl pass0 (pa_cons (pv 0) (pa_cons pe_int pa_nil))) (pa_cons pe_int pa_nil))) rfl)
    (pss_cons (ps_for PassesOwn.never rfl (pi_range1 rfl T.range_ (pa_cons (pv 3) pa_nil)) (pg_name (i := 8) nd rfl (.inl rfl)) (pss_cons (ps_set (i := 7) nd rfl (.inl rfl) (pe_callB (c_min rfl) (by rfl) T.min_ (by decide +kernel) (pa_cons pe_int (pa_cons (pe_op o_add (pv 7) (pe_ix ix_list (pe_lst (pa_cons pe_int (pa_cons pe_int (pa_cons pe_int (pa_cons pe_int (pa_cons pe_int (pa_cons pe_int (pa_cons pe_int (pa_cons pe_int pa_nil))))))))) (pe_fn F__law_next hr (by decide) rfl pass0 (pa_cons (pv 0) (pa_cons pe_int pa_nil))) (fun _ _ => rfl))) pa_nil))))
    (pss_cons (ps_set (i := 9) nd rfl (.inl rfl) (pe_lst pa_nil))
    (pss_cons (ps_for PassesOwn.never rfl (pi_range1 rfl T.range_ (pa_cons (pe_ix ix_list (pe_lst (pa_cons pe_int (pa_cons pe_int (pa_cons pe_int (pa_cons pe_int (pa_cons pe_int (pa_cons pe_int (pa_cons pe_int (pa_cons pe_int pa_nil))))))))) (pe_fn F__law_next hr (by decide) rfl pass0 (pa_cons (pv 0) (pa_cons pe_int pa_nil))) (fun _ _ => rfl)) pa_nil)) (pg_name (i := 10) nd rfl (.inl rfl)) (pss_cons (ps_set (i := 11) nd rfl (.inl rfl) (pe_ix ix_list (pv 2) (pe_fn F__law_next hr (by decide) rfl pass0 (pa_cons (pv 0) (pa_cons (pe_op o_add (pv 8) pe_int) pa_nil))) (fun _ _ => rfl)))
    (pss_one (ps_if (PW.pt (pw_and (pt_cmpR op_ne (pv 11) (pe_ix ix_list (pv 2) (pv 8) (fun _ _ => rfl)) (nomark _)) (pw_and (pt_cmpR op_notIn_seq (pv 11) (pv 9) (by rfl)) (pw_and1 (pt_cmpR o_lt (pe_callB c_len (by rfl) T.len_ (by decide +kernel) (pa_cons (pv 9) pa_nil)) pe_int (nomark _)))))) (pss_one (ps_expr (pe_bm PySem.F.plainAttrs_list PySem.F.slot_list_append PySem.F.type_list_append mt_append (pv 9) (pa_cons (pv 11) pa_nil)))) pss_nil))))
    (pss_cons (ps_set (i := 12) nd rfl (.inl rfl) (pe_op o_add (pe_op o_add (pv 6) (pe_op o_mul pe_int (pv 8))) (pe_fn F__law_next hr (by decide) rfl pass0 (pa_cons (pv 0) (pa_cons pe_int pa_nil)))))
    (pss_cons (ps_if (pt_cmpR o_lt (pv 5) pe_int (nomark _)) (pss_one (ps_set (i := 12) nd rfl (.inl rfl) (pe_op o_add (pv 6) (pe_op o_mul pe_int (pe_fn F__law_next hr (by decide) rfl pass0 (pa_cons (pv 0) (pa_cons (pv 5) pa_nil))))))) pss_nil)
    (pss_one (ps_expr (pe_bm PySem.F.plainAttrs_list PySem.F.slot_list_append PySem.F.type_list_append mt_append (pv 4) (pa_cons (pe_tup (pa_cons (pe_ix ix_list (pv 2) (pv 8) (fun _ _ => rfl)) (pa_cons (pv 7) (pa_cons (pe_callTy c_tupL (by rfl) T.tuple_ (by decide +kernel) (pa_cons (pv 9) pa_nil)) (pa_cons (pe_fn F__law_sign hr (by decide) rfl pass0 (pa_cons (pv 12) pa_nil)) (pa_cons pe_str pa_nil)))))) pa_nil))))))))))
    (pss_one (ps_ret (pv 4))))))
abbrev N__law_under : List Str := ["plan", "found", "name", "ed", "bases", "letter", "mark", "own", "base", "kind"]
theorem sc__law_under : FnScope N__law_under ["plan"] (defScope s_law_under) := ⟨rfl, rfl, rfl, by decide +kernel, rfl, by decide +kernel, by decide +kernel⟩
def t__law_under (P : Program) (w : World) (K : PySem.W.Frag) : TS :=
    (tSeq (tAsg tDNewK (gName 1))
    (tSeq (tFor (iSeq K (tVar 0)) (gTup K 5 (gCons (gName 2) (gCons (gName 3) (gCons (gName 4) (gCons (gName 5) (gCons (gName 6) gNil)))))) (tSeq (tAsg (tLst tNil) (gName 7))
    (tSeq (tFor (iTup K (tVar 4)) (gName 8) (tAsg (tOp rCat (tOp rCat (tVar 7) (tDGet (tVar 1) (tVar 8))) (tLst (tCons (tVar 8) tNil))) (gName 7)))
    (tAsg (tLc (iSeq K (tVar 0)) (gName 9) (tTest (tOp (rIn K false) (tOp (rIxT K) (tVar 9) (tC (.int 0))) (tVar 7))) (tOp (rIxT K) (tVar 9) (tC (.int 0))) [9]) (gSub (tVar 1) (tVar 2) rSetD)))))
    (tRet (tVar 1))))
theorem d__law_under {P : Program} {w : World} {K : PySem.W.Frag} {mg : Str → Option Value} {base : Heap} {f : Addr} {cdv : Value} {A : Around} {outer : List Env} {s : Shared} {H : Hp} {E : XK} (T : Txt K mg)
    (hr : Room 0 (A.deeper (envOfC "_law_under" (defScope s_law_under) s.heap.objs.size f cdv))) : PSs (cxOf (CX0) P w K mg base N__law_under "_law_under" (defScope s_law_under) f cdv A outer s H E).nox (defBody s_law_under) (t__law_under P w K) := by
  have nd := sc__law_under.nd
  have hu := hu_of hr
  exact (pss_cons (ps_set (i := 1) nd rfl (.inl rfl) pe_dnewK)
    (pss_cons (ps_for PassesOwn.never rfl (pi_seq (pv 0)) (pg_tup rfl (pgs_cons (pg_name (i := 2) nd rfl (.inl rfl)) (pgs_cons (pg_name (i := 3) nd rfl (.inl rfl)) (pgs_cons (pg_name (i := 4) nd rfl (.inl rfl)) (pgs_cons (pg_name (i := 5) nd rfl (.inl rfl)) (pgs_cons (pg_name (i := 6) nd rfl (.inl rfl)) pgs_nil)))))) (pss_cons (ps_set (i := 7) nd rfl (.inr rfl) (pe_lst pa_nil))
    (pss_cons (ps_for PassesOwn.never rfl (pi_tup (pv 4)) (pg_name (i := 8) nd rfl (.inl rfl)) (pss_one (ps_set (i := 7) nd rfl (.inr rfl) (pe_op op_cat (pe_op op_cat (pv 7) (pe_dget hu (pv 1) (pv 8) (fun _ _ => rfl))) (pe_lst (pa_cons (pv 8) pa_nil))))))
    (pss_one (ps_asg (pe_lc (own := [("kind", 9)]) (g := (gName 9)) (tt := (tTest (tOp (rIn K false) (tOp (rIxT K) (tVar 9) (tC (.int 0))) (tVar 7)))) rfl nd (pi_seq (pv 0)) (blkOk_by (own := [("kind", 9)]) (N := N__law_under) (sc := defScope s_law_under) (by decide +kernel)) (fun _ _ _ _ _ => (pg_name (i := 9) nd rfl (.inl rfl))) (fun _ _ _ _ _ => pts_one (pt_cmpR op_in_seq (pe_ix ix_tup (pv 9) pe_int (fun _ _ => rfl)) (pv 7) (by rfl))) (fun _ _ _ _ _ => (pe_ix ix_tup (pv 9) pe_int (fun _ _ => rfl)))) (pg_sub (pv 1) (pv 2) (set_dict hu)))))))
    (pss_one (ps_ret (pv 1)))))
abbrev N__law_word : List Str := ["signs", "k"]
theorem sc__law_word : FnScope N__law_word ["signs"] (defScope s_law_word) := ⟨rfl, rfl, rfl, by decide +kernel, rfl, by decide +kernel, by decide +kernel⟩
def t__law_word (P : Program) (w : World) (K : PySem.W.Frag) : TS :=
    (tRet (tM1 (rJoin K) (tC (.str "")) (tLc (iRng1 (tCons (tC (.int 26)) tNil)) (gName 1) (tTest (tOp (rInSL K) (tCall (sp__law_sign K) [] E0 (tCons (tVar 1) tNil)) (tVar 0))) (tCall (sp__law_sign K) [] E0 (tCons (tVar 1) tNil)) [1])))
theorem d__law_word {P : Program} {w : World} {K : PySem.W.Frag} {mg : Str → Option Value} {base : Heap} {f : Addr} {cdv : Value} {A : Around} {outer : List Env} {s : Shared} {H : Hp} {E : XK} (T : Txt K mg) (F__law_sign : Fn__law_sign P w K mg base)
    (hr : Room 1 (A.deeper (envOfC "_law_word" (defScope s_law_word) s.heap.objs.size f cdv))) : PSs (cxOf (CX0) P w K mg base N__law_word "_law_word" (defScope s_law_word) f cdv A outer s H E).nox (defBody s_law_word) (t__law_word P w K) := by
  have nd := sc__law_word.nd
  have hu := hu_of hr
  exact (pss_one (ps_ret (pe_joinR pe_str (pe_lc (own := [("k", 1)]) (g := (gName 1)) (tt := (tTest (tOp (rInSL K) (tCall (sp__law_sign K) [] E0 (tCons (tVar 1) tNil)) (tVar 0)))) rfl nd (pi_range1 rfl T.range_ (pa_cons pe_int pa_nil)) (blkOk_by (own := [("k", 1)]) (N := N__law_word) (sc := defScope s_law_word) (by decide +kernel)) (fun _ _ _ _ _ => (pg_name (i := 1) nd rfl (.inl rfl))) (fun _ _ _ _ _ => pts_one (pt_cmpR o_inSL (pe_fn F__law_sign hr (by decide) rfl pass0 (pa_cons (pv 1) pa_nil)) (pv 0) (by rfl))) (fun _ _ _ _ _ => (pe_fn F__law_sign hr (by decide) rfl pass0 (pa_cons (pv 1) pa_nil)))))))
abbrev N__law_marks : List Str := ["draw", "rows", "way", "under", "marks", "name", "ed", "bases", "letter", "mark", "own", "kind", "turn"]
theorem sc__law_marks : FnScope N__law_marks ["draw", "rows", "way"] (defScope s_law_marks) := ⟨rfl, rfl, rfl, by decide +kernel, rfl, by decide +kernel, by decide +kernel⟩
def t__law_marks (P : Program) (w : World) (K : PySem.W.Frag) : TS :=
    (tSeq (tPar 3 4 (tCons (tCall (sp__law_under K) [] E0 (tCons (tVar 1) tNil)) (tCons tDNewK tNil)))
    (tSeq (tFor (iList K (tVar 1)) (gTup K 5 (gCons (gName 5) (gCons (gName 6) (gCons (gName 7) (gCons (gName 8) (gCons (gName 9) gNil)))))) (tSeq (tAsg (tLst tNil) (gName 10))
    (tSeq (tFor (iList K (tVar 1)) (gName 11) (tIfS (tTest (tOp (rIn K false) (tOp (rIxT K) (tVar 11) (tC (.int 0))) (tDGet (tVar 3) (tVar 5)))) (tSeq (tAsg (tOp rCat (tVar 10) (tCB rListS (tCons (tDGet (tVar 4) (tOp (rIxT K) (tVar 11) (tC (.int 0)))) tNil))) (gName 10))
    (tIfS (tOr (tTest (tOp rEq (tVar 2) (tC (.int 3)))) (tTest (tOp rLt (tOp (rIxT K) (tVar 11) (tC (.int 1))) (tVar 6)))) (tDrop (tBM K "list" rAppend (tVar 10) (tCons (tOp (rIxT K) (tVar 11) (tC (.int 3))) tNil))) tNext)) tNext))
    (tSeq (tIfS (tTest (tOp rEq (tVar 2) (tC (.int 0)))) (tSeq (tAsg (tLst tNil) (gName 10))
    (tFor (iRng1 (tCons (tCall (sp__law_next K) [] E0 (tCons (tVar 0) (tCons (tC (.int 4)) tNil))) tNil)) (gName 12) (tDrop (tBM K "list" rAppend (tVar 10) (tCons (tOp (rIxT K) (tOp (rIxL K) (tVar 1) (tCall (sp__law_next K) [] E0 (tCons (tVar 0) (tCons (tCB (rLen K) (tCons (tVar 1) tNil)) tNil)))) (tC (.int 3))) tNil))))) tNext)
    (tAsg (tCall (sp__law_word K) [] E0 (tCons (tVar 10) tNil)) (gSub (tVar 4) (tVar 5) rSetD))))))
    (tRet (tVar 4))))
theorem d__law_marks {P : Program} {w : World} {K : PySem.W.Frag} {mg : Str → Option Value} {base : Heap} {f : Addr} {cdv : Value} {A : Around} {outer : List Env} {s : Shared} {H : Hp} {E : XK} (T : Txt K mg) (F__law_next : Fn__law_next P w K mg base) (F__law_under : Fn__law_under P w K mg base) (F__law_word : Fn__law_word P w K mg base)
    (hr : Room 2 (A.deeper (envOfC "_law_marks" (defScope s_law_marks) s.heap.objs.size f cdv))) : PSs (cxOf (CX0) P w K mg base N__law_marks "_law_marks" (defScope s_law_marks) f cdv A outer s H E).nox (defBody s_law_marks) (t__law_marks P w K) := by
  have nd := sc__law_marks.nd
  have hu := hu_of hr
  exact (pss_cons (ps_par (i := 3) (j := 4) rfl nd rfl rfl (by decide) rfl rfl (pa_cons (pe_fn F__law_under hr (by decide) rfl pass0 (pa_cons (pv 1) pa_nil)) (pa_cons pe_dnewK pa_nil)) rfl)
    (pss_cons (ps_for PassesOwn.never rfl (pi_list (pv 1)) (pg_tup rfl (pgs_cons (pg_name (i := 5) nd rfl (.inl rfl)) (pgs_cons (pg_name (i := 6) nd rfl (.inl rfl)) (pgs_cons (pg_name (i := 7) nd rfl (.inl rfl)) (pgs_cons (pg_name (i := 8) nd rfl (.inl rfl)) (pgs_cons (pg_name (i := 9) nd rfl (.inl rfl)) pgs_nil)))))) (pss_cons (ps_set (i := 10) nd rfl (.inl rfl) (pe_lst pa_nil))
    (pss_cons (ps_for PassesOwn.never rfl (pi_list (pv 1)) (pg_name (i := 11) nd rfl (.inl rfl)) (pss_one (ps_if (pt_cmpR op_in_seq (pe_ix ix_tup (pv 11) pe_int (fun _ _ => rfl)) (pe_dget hu (pv 3) (pv 5) (fun _ _ => rfl)) (by rfl)) (pss_cons (ps_set (i := 10) nd rfl (.inl rfl) (pe_op op_cat (pv 10) (pe_callTy (c_listS rfl) (by rfl) T.list_ (by decide +kernel) (pa_cons (pe_dget hu (pv 4) (pe_ix ix_tup (pv 11) pe_int (fun _ _ => rfl)) (fun _ _ => rfl)) pa_nil))))
    (pss_one (ps_if (PW.pt (pw_or (pt_cmpR op_eq (pv 2) pe_int (nomark _)) (pw_or1 (pt_cmpR o_lt (pe_ix ix_tup (pv 11) pe_int (fun _ _ => rfl)) (pv 6) (nomark _))))) (pss_one (ps_expr (pe_bm PySem.F.plainAttrs_list PySem.F.slot_list_append PySem.F.type_list_append mt_append (pv 10) (pa_cons (pe_ix ix_tup (pv 11) pe_int (fun _ _ => rfl)) pa_nil)))) pss_nil))) pss_nil)))
    (pss_cons (ps_if (pt_cmpR op_eq (pv 2) pe_int (nomark _)) (pss_cons (ps_set (i := 10) nd rfl (.inl rfl) (pe_lst pa_nil))
    (pss_one (ps_for PassesOwn.never rfl (pi_range1 rfl T.range_ (pa_cons (pe_fn F__law_next hr (by decide) rfl pass0 (pa_cons (pv 0) (pa_cons pe_int pa_nil))) pa_nil)) (pg_name (i := 12) nd rfl (.inl rfl)) (pss_one (ps_expr (pe_bm PySem.F.plainAttrs_list PySem.F.slot_list_append PySem.F.type_list_append mt_append (pv 10) (pa_cons (pe_ix ix_tup (pe_ix ix_list (pv 1) (pe_fn F__law_next hr (by decide) rfl pass0 (pa_cons (pv 0) (pa_cons (pe_callB c_len (by rfl) T.len_ (by decide +kernel) (pa_cons (pv 1) pa_nil)) pa_nil))) (fun _ _ => rfl)) pe_int (fun _ _ => rfl)) pa_nil))))))) pss_nil)
    (pss_one (ps_asg (pe_fn F__law_word hr (by decide) rfl pass0 (pa_cons (pv 10) pa_nil)) (pg_sub (pv 4) (pv 5) (set_dict hu))))))))
    (pss_one (ps_ret (pv 4)))))
abbrev N__law_marked : List Str := ["draw", "rows", "way", "marks", "found", "name", "ed", "bases", "letter", "mark", "told", "some", "sign", "more", "kind", "one"]
theorem sc__law_marked : FnScope N__law_marked ["draw", "rows", "way"] (defScope s_law_marked) := ⟨rfl, rfl, rfl, by decide +kernel, rfl, by decide +kernel, by decide +kernel⟩
def t__law_marked (P : Program) (w : World) (K : PySem.W.Frag) : TS :=
    (tSeq (tPar 3 4 (tCons (tCall (sp__law_marks K) [] E0 (tCons (tVar 0) (tCons (tVar 1) (tCons (tVar 2) tNil)))) (tCons (tLst tNil) tNil)))
    (tSeq (tFor (iList K (tVar 1)) (gTup K 5 (gCons (gName 5) (gCons (gName 6) (gCons (gName 7) (gCons (gName 8) (gCons (gName 9) gNil)))))) (tSeq (tAsg (tDGet (tVar 3) (tVar 5)) (gName 10))
    (tSeq (tIfS (tAnd (tTest (tOp rEq (tVar 2) (tC (.int 2)))) (tTest (tOp rEq (tCall (sp__law_next K) [] E0 (tCons (tVar 0) (tCons (tC (.int 3)) tNil))) (tC (.int 0))))) (tSeq (tAsg (tLc (iList K (tVar 1)) (gName 14) (tTest (tOp rLt (tOp (rIxT K) (tVar 14) (tC (.int 1))) (tVar 6))) (tOp (rIxT K) (tVar 14) (tC (.int 3))) [14]) (gName 11))
    (tSeq (tDrop (tBM K "list" rAppend (tVar 11) (tCons (tCall (sp__law_sign K) [] E0 (tCons (tCall (sp__law_next K) [] E0 (tCons (tVar 0) (tCons (tC (.int 26)) tNil))) tNil)) tNil)))
    (tSeq (tAsg (tOp (rIxL K) (tVar 11) (tCall (sp__law_next K) [] E0 (tCons (tVar 0) (tCons (tCB (rLen K) (tCons (tVar 11) tNil)) tNil)))) (gName 12))
    (tSeq (tAsg (tIf (tTest (tOp rInS (tVar 12) (tVar 10))) (tLst tNil) (tLst (tCons (tVar 12) tNil))) (gName 13))
    (tAsg (tCall (sp__law_word K) [] E0 (tCons (tOp rCat (tLc (iStr (tVar 10)) (gName 15) (tTest (tOp rNe (tVar 15) (tVar 12))) (tVar 15) [15]) (tVar 13)) tNil)) (gName 10)))))) tNext)
    (tDrop (tBM K "list" rAppend (tVar 4) (tCons (tTup (tCons (tVar 5) (tCons (tVar 6) (tCons (tVar 7) (tCons (tVar 8) (tCons (tVar 10) tNil)))))) tNil))))))
    (tRet (tCB (rTupL K) (tCons (tVar 4) tNil)))))
theorem d__law_marked {P : Program} {w : World} {K : PySem.W.Frag} {mg : Str → Option Value} {base : Heap} {f : Addr} {cdv : Value} {A : Around} {outer : List Env} {s : Shared} {H : Hp} {E : XK} (T : Txt K mg) (F__law_marks : Fn__law_marks P w K mg base) (F__law_next : Fn__law_next P w K mg base) (F__law_sign : Fn__law_sign P w K mg base) (F__law_word : Fn__law_word P w K mg base)
    (hr : Room 3 (A.deeper (envOfC "_law_marked" (defScope s_law_marked) s.heap.objs.size f cdv))) : PSs (cxOf (CX0) P w K mg base N__law_marked "_law_marked" (defScope s_law_marked) f cdv A outer s H E).nox (defBody s_law_marked) (t__law_marked P w K) := by
  have nd := sc__law_marked.nd
  have hu := hu_of hr
  exact (pss_cons (ps_par (i := 3) (j := 4) rfl nd rfl rfl (by decide) rfl rfl (pa_cons (pe_fn F__law_marks hr (by decide) rfl pass0 (pa_cons (pv 0) (pa_cons (pv 1) (pa_cons (pv 2) pa_nil)))) (pa_cons (pe_lst pa_nil) pa_nil)) rfl)
    (pss_cons (ps_for PassesOwn.never rfl (pi_list (pv 1)) (pg_tup rfl (pgs_cons (pg_name (i := 5) nd rfl (.inl rfl)) (pgs_cons (pg_name (i := 6) nd rfl (.inr rfl)) (pgs_cons (pg_name (i := 7) nd rfl (.inl rfl)) (pgs_cons (pg_name (i := 8) nd rfl (.inl rfl)) (pgs_cons (pg_name (i := 9) nd rfl (.inl rfl)) pgs_nil)))))) (pss_cons (ps_set (i := 10) nd rfl (.inl rfl) (pe_dget hu (pv 3) (pv 5) (fun _ _ => rfl)))
    (pss_cons (ps_if (PW.pt (pw_and (pt_cmpR op_eq (pv 2) pe_int (nomark _)) (pw_and1 (pt_cmpR op_eq (pe_fn F__law_next hr (by decide) rfl pass0 (pa_cons (pv 0) (pa_cons pe_int pa_nil))) pe_int (nomark _))))) (pss_cons (ps_setLc (i := 11) (own := [("kind", 14)]) (g := (gName 14)) (tt := (tTest (tOp rLt (tOp (rIxT K) (tVar 14) (tC (.int 1))) (tVar 6)))) rfl nd rfl rfl (sw_true rfl rfl rfl (by decide +kernel)) (pi_list (pv 1)) (blkOk_by (own := [("kind", 14)]) (N := N__law_marked) (sc := defScope s_law_marked) (by decide +kernel)) (fun _ _ _ _ _ => (pg_name (i := 14) nd rfl (.inl rfl))) (fun _ _ _ _ _ => pts_one (pt_cmpR o_lt (pe_ix ix_tup (pv 14) pe_int (fun _ _ => rfl)) (pv 6) (nomark _))) (fun _ _ _ _ _ => (pe_ix ix_tup (pv 14) pe_int (fun _ _ => rfl))))
    (pss_cons (ps_expr (pe_bm PySem.F.plainAttrs_list PySem.F.slot_list_append PySem.F.type_list_append mt_append (pv 11) (pa_cons (pe_fn F__law_sign hr (by decide) rfl pass0 (pa_cons (pe_fn F__law_next hr (by decide) rfl pass0 (pa_cons (pv 0) (pa_cons pe_int pa_nil))) pa_nil)) pa_nil)))
    (pss_cons (ps_set (i := 12) nd rfl (.inr rfl) (pe_ix ix_list (pv 11) (pe_fn F__law_next hr (by decide) rfl pass0 (pa_cons (pv 0) (pa_cons (pe_callB c_len (by rfl) T.len_ (by decide +kernel) (pa_cons (pv 11) pa_nil)) pa_nil))) (fun _ _ => rfl)))
    (pss_cons (ps_set (i := 13) nd rfl (.inl rfl) (pe_ifExp (pt_cmpR o_inS (pv 12) (pv 10) (by rfl)) (pe_lst pa_nil) (pe_lst (pa_cons (pv 12) pa_nil))))
    (pss_one (ps_set (i := 10) nd rfl (.inl rfl) (pe_fn F__law_word hr (by decide) rfl pass0 (pa_cons (pe_op op_cat (pe_lc (own := [("one", 15)]) (g := (gName 15)) (tt := (tTest (tOp rNe (tVar 15) (tVar 12)))) rfl nd (pi_str (pv 10)) (blkOk_by (own := [("one", 15)]) (N := N__law_marked) (sc := defScope s_law_marked) (by decide +kernel)) (fun _ _ _ _ _ => (pg_name (i := 15) nd rfl (.inl rfl))) (fun _ _ _ _ _ => pts_one (pt_cmpR op_ne (pv 15) (pv 12) (nomark _))) (fun _ _ _ _ _ => (pv 15))) (pv 13)) pa_nil)))))))) pss_nil)
    (pss_one (ps_expr (pe_bm PySem.F.plainAttrs_list PySem.F.slot_list_append PySem.F.type_list_append mt_append (pv 4) (pa_cons (pe_tup (pa_cons (pv 5) (pa_cons (pv 6) (pa_cons (pv 7) (pa_cons (pv 8) (pa_cons (pv 10) pa_nil)))))) pa_nil)))))))
    (pss_one (ps_ret (pe_callTy c_tupL (by rfl) T.tuple_ (by decide +kernel) (pa_cons (pv 4) pa_nil))))))
abbrev N__law_layout : List Str := ["draw", "most", "rows"]
theorem sc__law_layout : FnScope N__law_layout ["draw", "most"] (defScope s_law_layout) := ⟨rfl, rfl, rfl, by decide +kernel, rfl, by decide +kernel, by decide +kernel⟩
def t__law_layout (P : Program) (w : World) (K : PySem.W.Frag) : TS :=
    (tSeq (tAsg (tCall (sp__law_frame K) [] E0 (tCons (tVar 0) (tCons (tVar 1) tNil))) (gName 2))
    (tRet (tCall (sp__law_marked K) [] E0 (tCons (tVar 0) (tCons (tVar 2) (tCons (tCall (sp__law_next K) [] E0 (tCons (tVar 0) (tCons (tC (.int 4)) tNil))) tNil))))))
theorem d__law_layout {P : Program} {w : World} {K : PySem.W.Frag} {mg : Str → Option Value} {base : Heap} {f : Addr} {cdv : Value} {A : Around} {outer : List Env} {s : Shared} {H : Hp} {E : XK} (T : Txt K mg) (F__law_frame : Fn__law_frame P w K mg base) (F__law_marked : Fn__law_marked P w K mg base) (F__law_next : Fn__law_next P w K mg base)
    (hr : Room 4 (A.deeper (envOfC "_law_layout" (defScope s_law_layout) s.heap.objs.size f cdv))) : PSs (cxOf (CX0) P w K mg base N__law_layout "_law_layout" (defScope s_law_layout) f cdv A outer s H E).nox (defBody s_law_layout) (t__law_layout P w K) := by
  have nd := sc__law_layout.nd
  have hu := hu_of hr
  exact (pss_cons (ps_set (i := 2) nd rfl (.inl rfl) (pe_fn F__law_frame hr (by decide) rfl pass0 (pa_cons (pv 0) (pa_cons (pv 1) pa_nil))))
    (pss_one (ps_ret (pe_fn F__law_marked hr (by decide) rfl pass0 (pa_cons (pv 0) (pa_cons (pv 2) (pa_cons (pe_fn F__law_next hr (by decide) rfl pass0 (pa_cons (pv 0) (pa_cons pe_int pa_nil))) pa_nil)))))))
abbrev N__law_roots : List Str := ["plan", "under", "name", "kind"]
theorem sc__law_roots : FnScope N__law_roots ["plan", "under", "name"] (defScope s_law_roots) := ⟨rfl, rfl, rfl, by decide +kernel, rfl, by decide +kernel, by decide +kernel⟩
def t__law_roots (P : Program) (w : World) (K : PySem.W.Frag) : TS :=
    (tRet (tLc (iTup K (tVar 0)) (gName 3) (tAnd (tTest (tOp (rIn K false) (tOp (rIxT K) (tVar 3) (tC (.int 0))) (tDGet (tVar 1) (tVar 2)))) (tTest (tOp (rEqD K) (tOp (rIxT K) (tVar 3) (tC (.int 2))) (tTup tNil)))) (tOp (rIxT K) (tVar 3) (tC (.int 0))) [3]))
theorem d__law_roots {P : Program} {w : World} {K : PySem.W.Frag} {mg : Str → Option Value} {base : Heap} {f : Addr} {cdv : Value} {A : Around} {outer : List Env} {s : Shared} {H : Hp} {E : XK} (T : Txt K mg)
    (hr : Room 0 (A.deeper (envOfC "_law_roots" (defScope s_law_roots) s.heap.objs.size f cdv))) : PSs (cxOf (CX0) P w K mg base N__law_roots "_law_roots" (defScope s_law_roots) f cdv A outer s H E).nox (defBody s_law_roots) (t__law_roots P w K) := by
  have nd := sc__law_roots.nd
  have hu := hu_of hr
  exact (pss_one (ps_ret (pe_lc (own := [("kind", 3)]) (g := (gName 3)) (tt := (tAnd (tTest (tOp (rIn K false) (tOp (rIxT K) (tVar 3) (tC (.int 0))) (tDGet (tVar 1) (tVar 2)))) (tTest (tOp (rEqD K) (tOp (rIxT K) (tVar 3) (tC (.int 2))) (tTup tNil))))) rfl nd (pi_tup (pv 0)) (blkOk_by (own := [("kind", 3)]) (N := N__law_roots) (sc := defScope s_law_roots) (by decide +kernel)) (fun _ _ _ _ _ => (pg_name (i := 3) nd rfl (.inl rfl))) (fun _ _ _ _ _ => pts_one (PW.pt (pw_and (pt_cmpR op_in_seq (pe_ix ix_tup (pv 3) pe_int (fun _ _ => rfl)) (pe_dget hu (pv 1) (pv 2) (fun _ _ => rfl)) (by rfl)) (pw_and1 (pt_cmpR (op_eqD hr.units) (pe_ix ix_tup (pv 3) pe_int (fun _ _ => rfl)) (pe_tup pa_nil) (nomark _)))))) (fun _ _ _ _ _ => (pe_ix ix_tup (pv 3) pe_int (fun _ _ => rfl))))))
abbrev N__law_held : List Str := ["draw", "plan", "under", "held", "some", "share", "name", "ed", "bases", "letter", "mark", "told", "one"]
theorem sc__law_held : FnScope N__law_held ["draw", "plan", "under"] (defScope s_law_held) := ⟨rfl, rfl, rfl, by decide +kernel, rfl, by decide +kernel, by decide +kernel⟩
def t__law_held (P : Program) (w : World) (K : PySem.W.Frag) : TS :=
    (tSeq (tAsg (tTup (tCons tDNewK (tCons (tLst (tCons (tC (.int 0)) (tCons (tC (.int 1)) (tCons (tC (.int 2)) (tCons (tC (.int 999999)) (tCons (tCall (sp__law_next K) [] E0 (tCons (tVar 0) (tCons (tC (.int 1000000)) tNil))) tNil)))))) tNil))) (gTup K 2 (gCons (gName 3) (gCons (gName 4) gNil))))
    (tSeq (tAsg (tOp rAdd (tC (.int 1)) (tCall (sp__law_next K) [] E0 (tCons (tVar 0) (tCons (tC (.int 4)) tNil)))) (gName 5))
    (tSeq (tFor (iTup K (tVar 1)) (gTup K 5 (gCons (gName 6) (gCons (gName 7) (gCons (gName 8) (gCons (gName 9) (gCons (gName 10) gNil)))))) (tIfS (tTest (tOp rLt (tCall (sp__law_next K) [] E0 (tCons (tVar 0) (tCons (tC (.int 5)) tNil))) (tVar 5))) (tIfS (tTest (tOp (rEqD K) (tVar 8) (tTup tNil))) (tAsg (tOp (rIxL K) (tVar 4) (tCall (sp__law_next K) [] E0 (tCons (tVar 0) (tCons (tC (.int 5)) tNil)))) (gSub (tVar 3) (tVar 6) rSetD)) (tSeq (tAsg (tLc (iList K (tCall (sp__law_roots K) [] E0 (tCons (tVar 1) (tCons (tVar 2) (tCons (tVar 6) tNil))))) (gName 12) tYes (tDGet2 (tVar 3) (tVar 12) (tC (.int 7))) [12]) (gName 11))
    (tSeq (tIfS (tTest (tOp rEq (tCall (sp__law_next K) [] E0 (tCons (tVar 0) (tCons (tC (.int 4)) tNil))) (tC (.int 0)))) (tAsg (tOp (rIxL K) (tVar 4) (tCall (sp__law_next K) [] E0 (tCons (tVar 0) (tCons (tC (.int 5)) tNil)))) (gSub (tVar 11) (tCall (sp__law_next K) [] E0 (tCons (tVar 0) (tCons (tCB (rLen K) (tCons (tVar 11) tNil)) tNil))) rSetL)) tNext)
    (tAsg (tCB (rTupL K) (tCons (tVar 11) tNil)) (gSub (tVar 3) (tVar 6) rSetD))))) tNext))
    (tRet (tVar 3)))))
theorem d__law_held {P : Program} {w : World} {K : PySem.W.Frag} {mg : Str → Option Value} {base : Heap} {f : Addr} {cdv : Value} {A : Around} {outer : List Env} {s : Shared} {H : Hp} {E : XK} (T : Txt K mg) (F__law_next : Fn__law_next P w K mg base) (F__law_roots : Fn__law_roots P w K mg base)
    (hr : Room 1 (A.deeper (envOfC "_law_held" (defScope s_law_held) s.heap.objs.size f cdv))) : PSs (cxOf (CX0) P w K mg base N__law_held "_law_held" (defScope s_law_held) f cdv A outer s H E).nox (defBody s_law_held) (t__law_held P w K) := by
  have nd := sc__law_held.nd
  have hu := hu_of hr
  exact (pss_cons (ps_asg (pe_tup (pa_cons pe_dnewK (pa_cons (pe_lst (pa_cons pe_int (pa_cons pe_int (pa_cons pe_int (pa_cons pe_int (pa_cons (pe_fn F__law_next hr (by decide) rfl pass0 (pa_cons (pv 0) (pa_cons pe_int pa_nil))) pa_nil)))))) pa_nil))) (pg_tup rfl (pgs_cons (pg_name (i := 3) nd rfl (.inr rfl)) (pgs_cons (pg_name (i := 4) nd rfl (.inl rfl)) pgs_nil))))
    (pss_cons (ps_set (i := 5) nd rfl (.inl rfl) (pe_op o_add pe_int (pe_fn F__law_next hr (by decide) rfl pass0 (pa_cons (pv 0) (pa_cons pe_int pa_nil)))))
    (pss_cons (ps_for PassesOwn.never rfl (pi_tup (pv 1)) (pg_tup rfl (pgs_cons (pg_name (i := 6) nd rfl (.inl rfl)) (pgs_cons (pg_name (i := 7) nd rfl (.inl rfl)) (pgs_cons (pg_name (i := 8) nd rfl (.inl rfl)) (pgs_cons (pg_name (i := 9) nd rfl (.inl rfl)) (pgs_cons (pg_name (i := 10) nd rfl (.inl rfl)) pgs_nil)))))) (pss_one (ps_if (pt_cmpR o_lt (pe_fn F__law_next hr (by decide) rfl pass0 (pa_cons (pv 0) (pa_cons pe_int pa_nil))) (pv 5) (nomark _)) (pss_one (ps_if (pt_cmpR (op_eqD hr.units) (pv 8) (pe_tup pa_nil) (nomark _)) (pss_one (ps_asg (pe_ix ix_list (pv 4) (pe_fn F__law_next hr (by decide) rfl pass0 (pa_cons (pv 0) (pa_cons pe_int pa_nil))) (fun _ _ => rfl)) (pg_sub (pv 3) (pv 6) (set_dict hu)))) (pss_cons (ps_setLc (i := 11) (own := [("one", 12)]) (g := (gName 12)) (tt := tYes) rfl nd rfl rfl (sw_true rfl rfl rfl (by decide +kernel)) (pi_list (pe_fn F__law_roots hr (by decide) rfl pass0 (pa_cons (pv 1) (pa_cons (pv 2) (pa_cons (pv 6) pa_nil))))) (blkOk_by (own := [("one", 12)]) (N := N__law_held) (sc := defScope s_law_held) (by decide +kernel)) (fun _ _ _ _ _ => (pg_name (i := 12) nd rfl (.inl rfl))) (fun _ _ _ _ _ => pts_nil) (fun _ _ _ _ _ => (pe_dget2 hu (pv 3) (pv 12) pe_int ⟨rfl, rfl, rfl, rfl⟩)))
    (pss_cons (ps_if (pt_cmpR op_eq (pe_fn F__law_next hr (by decide) rfl pass0 (pa_cons (pv 0) (pa_cons pe_int pa_nil))) pe_int (nomark _)) (pss_one (ps_asg (pe_ix ix_list (pv 4) (pe_fn F__law_next hr (by decide) rfl pass0 (pa_cons (pv 0) (pa_cons pe_int pa_nil))) (fun _ _ => rfl)) (pg_sub (pv 11) (pe_fn F__law_next hr (by decide) rfl pass0 (pa_cons (pv 0) (pa_cons (pe_callB c_len (by rfl) T.len_ (by decide +kernel) (pa_cons (pv 11) pa_nil)) pa_nil))) set_list))) pss_nil)
    (pss_one (ps_asg (pe_callTy c_tupL (by rfl) T.tuple_ (by decide +kernel) (pa_cons (pv 11) pa_nil)) (pg_sub (pv 3) (pv 6) (set_dict hu)))))))) pss_nil)))
    (pss_one (ps_ret (pv 3))))))
end Cp
set_option maxHeartbeats 8000000
/-! The walks (printed by gen_walk.py). -/
namespace Cp
open PySem L2 LamX
open PyProof.Rows (envOfC)
abbrev N__law_number : List Str := ["told", "least", "most", "one"]
theorem sc__law_number : FnScope N__law_number ["told", "least", "most"] (defScope s_law_number) := ⟨rfl, rfl, rfl, by decide +kernel, rfl, by decide +kernel, by decide +kernel⟩
def t__law_number (P : Program) (w : World) (K : PySem.W.Frag) : TS :=
    (tSeq (tIfS (tOr (tTest (tOp rEq (tVar 0) (tC (.str "")))) (tOr (tTest (tOp rGt (tCB (rLen K) (tCons (tVar 0) tNil)) (tC (.int 6)))) (tTest (tOp (rNeD K) (tLc (iStr (tVar 0)) (gName 3) (tTest (tOp rNinS (tVar 3) (tC (.str "0123456789")))) (tVar 3) [3]) (tLst tNil))))) (tRet (tC .non)) tNext)
    (tSeq (tIfS (tOr (tAnd (tTest (tOp rEq (tOp rIxS (tVar 0) (tC (.int 0))) (tC (.str "0")))) (tTest (tOp rNe (tVar 0) (tC (.str "0"))))) (tNot (tTest (tChain rLe rLe (tVar 1) (tCB rIntS (tCons (tVar 0) tNil)) (tVar 2))))) (tRet (tC .non)) tNext)
    (tRet (tCB rIntS (tCons (tVar 0) tNil)))))
theorem d__law_number {P : Program} {w : World} {K : PySem.W.Frag} {mg : Str → Option Value} {base : Heap} {f : Addr} {cdv : Value} {A : Around} {outer : List Env} {s : Shared} {H : Hp} {E : XK} (T : Txt K mg)
    (hr : Room 0 (A.deeper (envOfC "_law_number" (defScope s_law_number) s.heap.objs.size f cdv))) : PSs (cxOf (CX0) P w K mg base N__law_number "_law_number" (defScope s_law_number) f cdv A outer s H E).nox (defBody s_law_number) (t__law_number P w K) := by
  have nd := sc__law_number.nd
  have hu := hu_of hr
  exact (pss_cons (ps_if (PW.pt (pw_or (pt_cmpR op_eq (pv 0) pe_str (nomark _)) (pw_or (pt_cmpR o_gt (pe_callB c_len (by rfl) T.len_ (by decide +kernel) (pa_cons (pv 0) pa_nil)) pe_int (nomark _)) (pw_or1 (pt_cmpR (op_neD hr.units) (pe_lc (own := [("one", 3)]) (g := (gName 3)) (tt := (tTest (tOp rNinS (tVar 3) (tC (.str "0123456789"))))) rfl nd (pi_str (pv 0)) (blkOk_by (own := [("one", 3)]) (N := N__law_number) (sc := defScope s_law_number) (by decide +kernel)) (fun _ _ _ _ _ => (pg_name (i := 3) nd rfl (.inl rfl))) (fun _ _ _ _ _ => pts_one (pt_cmpR o_ninS (pv 3) pe_str (by rfl))) (fun _ _ _ _ _ => (pv 3))) (pe_lst pa_nil) (nomark _)))))) (pss_one (ps_ret pe_non)) pss_nil)
    (pss_cons (ps_if (PW.pt (pw_or (PW.pt (pw_and (pt_cmpR op_eq (pe_ix ix_str (pv 0) pe_int (fun _ _ => rfl)) pe_str (nomark _)) (pw_and1 (pt_cmpR op_ne (pv 0) pe_str (nomark _))))) (pw_or1 (pt_not (pt_chain o_le o_le (pv 1) (pe_callTy c_intS (by rfl) T.int_ (by decide +kernel) (pa_cons (pv 0) pa_nil)) (pv 2)))))) (pss_one (ps_ret pe_non)) pss_nil)
    (pss_one (ps_ret (pe_callTy c_intS (by rfl) T.int_ (by decide +kernel) (pa_cons (pv 0) pa_nil))))))
abbrev N__law_is_title : List Str := ["told", "one"]
theorem sc__law_is_title : FnScope N__law_is_title ["told"] (defScope s_law_is_title) := ⟨rfl, rfl, rfl, by decide +kernel, rfl, by decide +kernel, by decide +kernel⟩
def t__law_is_title (P : Program) (w : World) (K : PySem.W.Frag) : TS :=
    (tRet (tAndV (tChain rLt rLt (tC (.int 0)) (tCB (rLen K) (tCons (tVar 0) tNil)) (tC (.int 9))) (tOp (rEqD K) (tLc (iStr (tVar 0)) (gName 1) (tTest (tOp rNinS (tVar 1) (tC (.str "abcdefghijklmnopqrstuvwxyz")))) (tVar 1) [1]) (tLst tNil))))
theorem d__law_is_title {P : Program} {w : World} {K : PySem.W.Frag} {mg : Str → Option Value} {base : Heap} {f : Addr} {cdv : Value} {A : Around} {outer : List Env} {s : Shared} {H : Hp} {E : XK} (T : Txt K mg)
    (hr : Room 0 (A.deeper (envOfC "_law_is_title" (defScope s_law_is_title) s.heap.objs.size f cdv))) : PSs (cxOf (CX0) P w K mg base N__law_is_title "_law_is_title" (defScope s_law_is_title) f cdv A outer s H E).nox (defBody s_law_is_title) (t__law_is_title P w K) := by
  have nd := sc__law_is_title.nd
  have hu := hu_of hr
  exact (pss_one (ps_ret (pe_and (pe_chain o_lt o_lt pe_int (pe_callB c_len (by rfl) T.len_ (by decide +kernel) (pa_cons (pv 0) pa_nil)) pe_int) (pe_one (pe_cmpR (op_eqD hr.units) (pe_lc (own := [("one", 1)]) (g := (gName 1)) (tt := (tTest (tOp rNinS (tVar 1) (tC (.str "abcdefghijklmnopqrstuvwxyz"))))) rfl nd (pi_str (pv 0)) (blkOk_by (own := [("one", 1)]) (N := N__law_is_title) (sc := defScope s_law_is_title) (by decide +kernel)) (fun _ _ _ _ _ => (pg_name (i := 1) nd rfl (.inl rfl))) (fun _ _ _ _ _ => pts_one (pt_cmpR o_ninS (pv 1) pe_str (by rfl))) (fun _ _ _ _ _ => (pv 1))) (pe_lst pa_nil) (nomark _))))))
abbrev N__law_kind_row : List Str := ["words", "ed", "mark", "bases", "told", "k"]
theorem sc__law_kind_row : FnScope N__law_kind_row ["words"] (defScope s_law_kind_row) := ⟨rfl, rfl, rfl, by decide +kernel, rfl, by decide +kernel, by decide +kernel⟩
def t__law_kind_row (P : Program) (w : World) (K : PySem.W.Frag) : TS :=
    (tSeq (tIfS (tOr (tTest (tOp rLt (tCB (rLen K) (tCons (tVar 0) tNil)) (tC (.int 5)))) (tOr (tTest (tOp rGt (tCB (rLen K) (tCons (tVar 0) tNil)) (tC (.int 11)))) (tOr (tTest (tOp rNe (tOp (rIxL K) (tVar 0) (tC (.int 0))) (tC (.str "kind")))) (tTest (tOp rEq (tOp (rIxL K) (tVar 0) (tC (.int 4))) (tC (.str ""))))))) (tRet (tC .non)) tNext)
    (tSeq (tAsg (tTup (tCons (tCall (sp__law_number K) [] E0 (tCons (tOp (rIxL K) (tVar 0) (tC (.int 2))) (tCons (tC (.int 1)) (tCons (tC (.int 99)) tNil)))) (tCons (tIf (tTest (tOp rNe (tOp (rIxL K) (tVar 0) (tC (.int 4))) (tC (.str "-")))) (tOp (rIxL K) (tVar 0) (tC (.int 4))) (tC (.str ""))) (tCons (tSl (rSlL K) (tVar 0) (tPart (tC (.int 5))) tNoPart) tNil)))) (gTup K 3 (gCons (gName 1) (gCons (gName 2) (gCons (gName 3) gNil)))))
    (tSeq (tIfS (tOr (tTest (tOp rIsN (tVar 1) (tC .non))) (tOr (tTest (tOp rNe (tCB (rLen K) (tCons (tOp (rIxL K) (tVar 0) (tC (.int 3))) tNil)) (tC (.int 1)))) (tOr (tTest (tOp rNe (tCall (sp__law_word K) [] E0 (tCons (tOp (rIxL K) (tVar 0) (tC (.int 3))) tNil)) (tOp (rIxL K) (tVar 0) (tC (.int 3))))) (tTest (tOp rNe (tCall (sp__law_word K) [] E0 (tCons (tVar 2) tNil)) (tVar 2)))))) (tRet (tC .non)) tNext)
    (tSeq (tIfS (tTest (tOp (rNeD K) (tLc (iList K (tOp rCat (tLst (tCons (tOp (rIxL K) (tVar 0) (tC (.int 1))) tNil)) (tVar 3))) (gName 4) (tNot (tB (tCall (sp__law_is_title K) [] E0 (tCons (tVar 4) tNil)))) (tVar 4) [4]) (tLst tNil))) (tRet (tC .non)) tNext)
    (tSeq (tIfS (tTest (tOp (rNeD K) (tLc (iRng1 (tCons (tCB (rLen K) (tCons (tVar 3) tNil)) tNil)) (gName 5) (tTest (tOp (rIn K false) (tOp (rIxL K) (tVar 3) (tVar 5)) (tSl (rSlL K) (tVar 3) tNoPart (tPart (tVar 5))))) (tVar 5) [5]) (tLst tNil))) (tRet (tC .non)) tNext)
    (tRet (tTup (tCons (tOp (rIxL K) (tVar 0) (tC (.int 1))) (tCons (tVar 1) (tCons (tCB (rTupL K) (tCons (tVar 3) tNil)) (tCons (tOp (rIxL K) (tVar 0) (tC (.int 3))) (tCons (tVar 2) tNil))))))))))))
theorem d__law_kind_row {P : Program} {w : World} {K : PySem.W.Frag} {mg : Str → Option Value} {base : Heap} {f : Addr} {cdv : Value} {A : Around} {outer : List Env} {s : Shared} {H : Hp} {E : XK} (T : Txt K mg) (F__law_is_title : Fn__law_is_title P w K mg base) (F__law_number : Fn__law_number P w K mg base) (F__law_word : Fn__law_word P w K mg base)
    (hr : Room 2 (A.deeper (envOfC "_law_kind_row" (defScope s_law_kind_row) s.heap.objs.size f cdv))) : PSs (cxOf (CX0) P w K mg base N__law_kind_row "_law_kind_row" (defScope s_law_kind_row) f cdv A outer s H E).nox (defBody s_law_kind_row) (t__law_kind_row P w K) := by
  have nd := sc__law_kind_row.nd
  have hu := hu_of hr
  exact (pss_cons (ps_if (PW.pt (pw_or (pt_cmpR o_lt (pe_callB c_len (by rfl) T.len_ (by decide +kernel) (pa_cons (pv 0) pa_nil)) pe_int (nomark _)) (pw_or (pt_cmpR o_gt (pe_callB c_len (by rfl) T.len_ (by decide +kernel) (pa_cons (pv 0) pa_nil)) pe_int (nomark _)) (pw_or (pt_cmpR op_ne (pe_ix ix_list (pv 0) pe_int (fun _ _ => rfl)) pe_str (nomark _)) (pw_or1 (pt_cmpR op_eq (pe_ix ix_list (pv 0) pe_int (fun _ _ => rfl)) pe_str (nomark _))))))) (pss_one (ps_ret pe_non)) pss_nil)
    (pss_cons (ps_asg (pe_tup (pa_cons (pe_fn F__law_number hr (by decide) rfl pass0 (pa_cons (pe_ix ix_list (pv 0) pe_int (fun _ _ => rfl)) (pa_cons pe_int (pa_cons pe_int pa_nil)))) (pa_cons (pe_ifExp (pt_cmpR op_ne (pe_ix ix_list (pv 0) pe_int (fun _ _ => rfl)) pe_str (nomark _)) (pe_ix ix_list (pv 0) pe_int (fun _ _ => rfl)) pe_str) (pa_cons (pe_slice sl_list (pv 0) (po_some pe_int) po_none) pa_nil)))) (pg_tup rfl (pgs_cons (pg_name (i := 1) nd rfl (.inl rfl)) (pgs_cons (pg_name (i := 2) nd rfl (.inl rfl)) (pgs_cons (pg_name (i := 3) nd rfl (.inr rfl)) pgs_nil)))))
    (pss_cons (ps_if (PW.pt (pw_or (pt_cmpR o_isN (pv 1) pe_non (nomark _)) (pw_or (pt_cmpR op_ne (pe_callB c_len (by rfl) T.len_ (by decide +kernel) (pa_cons (pe_ix ix_list (pv 0) pe_int (fun _ _ => rfl)) pa_nil)) pe_int (nomark _)) (pw_or (pt_cmpR op_ne (pe_fn F__law_word hr (by decide) rfl pass0 (pa_cons (pe_ix ix_list (pv 0) pe_int (fun _ _ => rfl)) pa_nil)) (pe_ix ix_list (pv 0) pe_int (fun _ _ => rfl)) (nomark _)) (pw_or1 (pt_cmpR op_ne (pe_fn F__law_word hr (by decide) rfl pass0 (pa_cons (pv 2) pa_nil)) (pv 2) (nomark _))))))) (pss_one (ps_ret pe_non)) pss_nil)
    (pss_cons (ps_if (pt_cmpR (op_neD hr.units) (pe_lc (own := [("told", 4)]) (g := (gName 4)) (tt := (tNot (tB (tCall (sp__law_is_title K) [] E0 (tCons (tVar 4) tNil))))) rfl nd (pi_list (pe_op op_cat (pe_lst (pa_cons (pe_ix ix_list (pv 0) pe_int (fun _ _ => rfl)) pa_nil)) (pv 3))) (blkOk_by (own := [("told", 4)]) (N := N__law_kind_row) (sc := defScope s_law_kind_row) (by decide +kernel)) (fun _ _ _ _ _ => (pg_name (i := 4) nd rfl (.inl rfl))) (fun _ _ _ _ _ => pts_one (pt_not (pt_val (pe_fn F__law_is_title hr (by decide) rfl pass0 (pa_cons (pv 4) pa_nil))))) (fun _ _ _ _ _ => (pv 4))) (pe_lst pa_nil) (nomark _)) (pss_one (ps_ret pe_non)) pss_nil)
    (pss_cons (ps_if (pt_cmpR (op_neD hr.units) (pe_lc (own := [("k", 5)]) (g := (gName 5)) (tt := (tTest (tOp (rIn K false) (tOp (rIxL K) (tVar 3) (tVar 5)) (tSl (rSlL K) (tVar 3) tNoPart (tPart (tVar 5)))))) rfl nd (pi_range1 rfl T.range_ (pa_cons (pe_callB c_len (by rfl) T.len_ (by decide +kernel) (pa_cons (pv 3) pa_nil)) pa_nil)) (blkOk_by (own := [("k", 5)]) (N := N__law_kind_row) (sc := defScope s_law_kind_row) (by decide +kernel)) (fun _ _ _ _ _ => (pg_name (i := 5) nd rfl (.inl rfl))) (fun _ _ _ _ _ => pts_one (pt_cmpR op_in_seq (pe_ix ix_list (pv 3) (pv 5) (fun _ _ => rfl)) (pe_slice sl_list (pv 3) po_none (po_some (pv 5))) (by rfl))) (fun _ _ _ _ _ => (pv 5))) (pe_lst pa_nil) (nomark _)) (pss_one (ps_ret pe_non)) pss_nil)
    (pss_one (ps_ret (pe_tup (pa_cons (pe_ix ix_list (pv 0) pe_int (fun _ _ => rfl)) (pa_cons (pv 1) (pa_cons (pe_callTy c_tupL (by rfl) T.tuple_ (by decide +kernel) (pa_cons (pv 3) pa_nil)) (pa_cons (pe_ix ix_list (pv 0) pe_int (fun _ _ => rfl)) (pa_cons (pv 2) pa_nil)))))))))))))
abbrev N__law_part_row : List Str := ["plan", "under", "words", "numbers", "roots", "told"]
theorem sc__law_part_row : FnScope N__law_part_row ["plan", "under", "words"] (defScope s_law_part_row) := ⟨rfl, rfl, rfl, by decide +kernel, rfl, by decide +kernel, by decide +kernel⟩
def t__law_part_row (P : Program) (w : World) (K : PySem.W.Frag) : TS :=
    (tSeq (tIfS (tOr (tTest (tOp rLt (tCB (rLen K) (tCons (tVar 2) tNil)) (tC (.int 3)))) (tOr (tTest (tOp rNe (tOp (rIxL K) (tVar 2) (tC (.int 0))) (tC (.str "part")))) (tB (tDNotIn (tOp (rIxL K) (tVar 2) (tC (.int 1))) (tVar 1))))) (tRet (tC .non)) tNext)
    (tSeq (tPar 3 4 (tCons (tLc (iList K (tSl (rSlL K) (tVar 2) (tPart (tC (.int 2))) tNoPart)) (gName 5) tYes (tCall (sp__law_number K) [] E0 (tCons (tVar 5) (tCons (tC (.int 0)) (tCons (tC (.int 999999)) tNil)))) [5]) (tCons (tCall (sp__law_roots K) [] E0 (tCons (tVar 0) (tCons (tVar 1) (tCons (tOp (rIxL K) (tVar 2) (tC (.int 1))) tNil)))) tNil)))
    (tSeq (tIfS (tOr (tTest (tOp (rIn K false) (tC .non) (tVar 3))) (tTest (tOp rNe (tCB (rLen K) (tCons (tVar 3) tNil)) (tCB rMax (tCons (tC (.int 1)) (tCons (tCB (rLen K) (tCons (tVar 4) tNil)) tNil)))))) (tRet (tC .non)) tNext)
    (tRet (tTup (tCons (tOp (rIxL K) (tVar 2) (tC (.int 1))) (tCons (tIf (tTest (tOp (rNeD K) (tVar 4) (tLst tNil))) (tCB (rTupL K) (tCons (tVar 3) tNil)) (tOp (rIxL K) (tVar 3) (tC (.int 0)))) tNil)))))))
theorem d__law_part_row {P : Program} {w : World} {K : PySem.W.Frag} {mg : Str → Option Value} {base : Heap} {f : Addr} {cdv : Value} {A : Around} {outer : List Env} {s : Shared} {H : Hp} {E : XK} (T : Txt K mg) (F__law_number : Fn__law_number P w K mg base) (F__law_roots : Fn__law_roots P w K mg base)
    (hr : Room 1 (A.deeper (envOfC "_law_part_row" (defScope s_law_part_row) s.heap.objs.size f cdv))) : PSs (cxOf (CX0) P w K mg base N__law_part_row "_law_part_row" (defScope s_law_part_row) f cdv A outer s H E).nox (defBody s_law_part_row) (t__law_part_row P w K) := by
  have nd := sc__law_part_row.nd
  have hu := hu_of hr
  exact (pss_cons (ps_if (PW.pt (pw_or (pt_cmpR o_lt (pe_callB c_len (by rfl) T.len_ (by decide +kernel) (pa_cons (pv 2) pa_nil)) pe_int (nomark _)) (pw_or (pt_cmpR op_ne (pe_ix ix_list (pv 2) pe_int (fun _ _ => rfl)) pe_str (nomark _)) (pw_or1 (pt_cmp (pc_dnotin hu (pe_ix ix_list (pv 2) pe_int (fun _ _ => rfl)) (pv 1)) (by rfl)))))) (pss_one (ps_ret pe_non)) pss_nil)
    (pss_cons (ps_par (i := 3) (j := 4) rfl nd rfl rfl (by decide) rfl rfl (pa_cons (pe_lc (own := [("told", 5)]) (g := (gName 5)) (tt := tYes) rfl nd (pi_list (pe_slice sl_list (pv 2) (po_some pe_int) po_none)) (blkOk_by (own := [("told", 5)]) (N := N__law_part_row) (sc := defScope s_law_part_row) (by decide +kernel)) (fun _ _ _ _ _ => (pg_name (i := 5) nd rfl (.inl rfl))) (fun _ _ _ _ _ => pts_nil) (fun _ _ _ _ _ => (pe_fn F__law_number hr (by decide) rfl pass0 (pa_cons (pv 5) (pa_cons pe_int (pa_cons pe_int pa_nil)))))) (pa_cons (pe_fn F__law_roots hr (by decide) rfl pass0 (pa_cons (pv 0) (pa_cons (pv 1) (pa_cons (pe_ix ix_list (pv 2) pe_int (fun _ _ => rfl)) pa_nil)))) pa_nil)) rfl)
    (pss_cons (ps_if (PW.pt (pw_or (pt_cmpR op_in_seq pe_non (pv 3) (by rfl)) (pw_or1 (pt_cmpR op_ne (pe_callB c_len (by rfl) T.len_ (by decide +kernel) (pa_cons (pv 3) pa_nil)) (pe_callB (c_max rfl) (by rfl) T.max_ (by decide +kernel) (pa_cons pe_int (pa_cons (pe_callB c_len (by rfl) T.len_ (by decide +kernel) (pa_cons (pv 4) pa_nil)) pa_nil))) (nomark _))))) (pss_one (ps_ret pe_non)) pss_nil)
    (pss_one (ps_ret (pe_tup (pa_cons (pe_ix ix_list (pv 2) pe_int (fun _ _ => rfl)) (pa_cons (pe_ifExp (pt_cmpR (op_neD hr.units) (pv 4) (pe_lst pa_nil) (nomark _)) (pe_callTy c_tupL (by rfl) T.tuple_ (by decide +kernel) (pa_cons (pv 3) pa_nil)) (pe_ix ix_list (pv 3) pe_int (fun _ _ => rfl))) pa_nil))))))))
abbrev N__law_layout_place : List Str := ["rows", "titles", "last", "at", "kind", "base"]
theorem sc__law_layout_place : FnScope N__law_layout_place ["rows"] (defScope s_law_layout_place) := ⟨rfl, rfl, rfl, by decide +kernel, rfl, by decide +kernel, by decide +kernel⟩
def t__law_layout_place (P : Program) (w : World) (K : PySem.W.Frag) : TS :=
    (tSeq (tIfS (tNot (tTest (tChain rLe rLe (tC (.int 1)) (tCB (rLen K) (tCons (tVar 0) tNil)) (tC (.int 24))))) (tRet (tTup tNil)) tNext)
    (tSeq (tAsg (tTup (tCons (tLst tNil) (tCons (tC (.int 1)) tNil))) (gTup K 2 (gCons (gName 1) (gCons (gName 2) gNil))))
    (tSeq (tFor (iEnum K (tCons (tVar 0) tNil)) (gTup K 2 (gCons (gName 3) (gCons (gName 4) gNil))) (tSeq (tIfS (tOr (tTest (tOp (rIn K false) (tOp (rIxT K) (tVar 4) (tC (.int 0))) (tVar 1))) (tOr (tTest (tOp rLt (tOp (rIxT K) (tVar 4) (tC (.int 1))) (tVar 2))) (tTest (tOp (rNeD K) (tLc (iTup K (tOp (rIxT K) (tVar 4) (tC (.int 2)))) (gName 5) (tTest (tOp (rIn K true) (tVar 5) (tVar 1))) (tVar 5) [5]) (tLst tNil))))) (tRet (tTup (tCons (tVar 3) tNil))) tNext)
    (tSeq (tDrop (tBM K "list" rAppend (tVar 1) (tCons (tOp (rIxT K) (tVar 4) (tC (.int 0))) tNil)))
    (tAsg (tOp (rIxT K) (tVar 4) (tC (.int 1))) (gName 2)))))
    (tRet (tC .non)))))
theorem d__law_layout_place {P : Program} {w : World} {K : PySem.W.Frag} {mg : Str → Option Value} {base : Heap} {f : Addr} {cdv : Value} {A : Around} {outer : List Env} {s : Shared} {H : Hp} {E : XK} (T : Txt K mg)
    (hr : Room 0 (A.deeper (envOfC "_law_layout_place" (defScope s_law_layout_place) s.heap.objs.size f cdv))) : PSs (cxOf (CX0) P w K mg base N__law_layout_place "_law_layout_place" (defScope s_law_layout_place) f cdv A outer s H E).nox (defBody s_law_layout_place) (t__law_layout_place P w K) := by
  have nd := sc__law_layout_place.nd
  have hu := hu_of hr
  exact (pss_cons (ps_if (pt_not (pt_chain o_le o_le pe_int (pe_callB c_len (by rfl) T.len_ (by decide +kernel) (pa_cons (pv 0) pa_nil)) pe_int)) (pss_one (ps_ret (pe_tup pa_nil))) pss_nil)
    (pss_cons (ps_asg (pe_tup (pa_cons (pe_lst pa_nil) (pa_cons pe_int pa_nil))) (pg_tup rfl (pgs_cons (pg_name (i := 1) nd rfl (.inr rfl)) (pgs_cons (pg_name (i := 2) nd rfl (.inl rfl)) pgs_nil))))
    (pss_cons (ps_for PassesOwn.never rfl (pi_enum (by rfl) T.enumerate_ (pa_cons (pv 0) pa_nil)) (pg_tup rfl (pgs_cons (pg_name (i := 3) nd rfl (.inl rfl)) (pgs_cons (pg_name (i := 4) nd rfl (.inl rfl)) pgs_nil))) (pss_cons (ps_if (PW.pt (pw_or (pt_cmpR op_in_seq (pe_ix ix_tup (pv 4) pe_int (fun _ _ => rfl)) (pv 1) (by rfl)) (pw_or (pt_cmpR o_lt (pe_ix ix_tup (pv 4) pe_int (fun _ _ => rfl)) (pv 2) (nomark _)) (pw_or1 (pt_cmpR (op_neD hr.units) (pe_lc (own := [("base", 5)]) (g := (gName 5)) (tt := (tTest (tOp (rIn K true) (tVar 5) (tVar 1)))) rfl nd (pi_tup (pe_ix ix_tup (pv 4) pe_int (fun _ _ => rfl))) (blkOk_by (own := [("base", 5)]) (N := N__law_layout_place) (sc := defScope s_law_layout_place) (by decide +kernel)) (fun _ _ _ _ _ => (pg_name (i := 5) nd rfl (.inl rfl))) (fun _ _ _ _ _ => pts_one (pt_cmpR op_notIn_seq (pv 5) (pv 1) (by rfl))) (fun _ _ _ _ _ => (pv 5))) (pe_lst pa_nil) (nomark _)))))) (pss_one (ps_ret (pe_tup (pa_cons (pv 3) pa_nil)))) pss_nil)
    (pss_cons (ps_expr (pe_bm PySem.F.plainAttrs_list PySem.F.slot_list_append PySem.F.type_list_append mt_append (pv 1) (pa_cons (pe_ix ix_tup (pv 4) pe_int (fun _ _ => rfl)) pa_nil)))
    (pss_one (ps_set (i := 2) nd rfl (.inl rfl) (pe_ix ix_tup (pv 4) pe_int (fun _ _ => rfl)))))))
    (pss_one (ps_ret pe_non)))))
abbrev N__law_file_place : List Str := ["plan", "rows", "order", "last", "at", "part", "kind"]
theorem sc__law_file_place : FnScope N__law_file_place ["plan", "rows"] (defScope s_law_file_place) := ⟨rfl, rfl, rfl, by decide +kernel, rfl, by decide +kernel, by decide +kernel⟩
def t__law_file_place (P : Program) (w : World) (K : PySem.W.Frag) : TS :=
    (tSeq (tIfS (tTest (tOp rGt (tCB (rLen K) (tCons (tVar 1) tNil)) (tC (.int 24)))) (tRet (tTup tNil)) tNext)
    (tSeq (tPar 2 3 (tCons (tLc (iTup K (tVar 0)) (gName 6) tYes (tOp (rIxT K) (tVar 6) (tC (.int 0))) [6]) (tCons (tUn (rU fun i => .int (-i)) (tC (.int 1))) tNil)))
    (tSeq (tFor (iEnum K (tCons (tVar 1) tNil)) (gTup K 2 (gCons (gName 4) (gCons (gName 5) gNil))) (tSeq (tIfS (tTest (tOp rLe (tBM K "list" (rIndex K) (tVar 2) (tCons (tOp (rIxT K) (tVar 5) (tC (.int 0))) tNil)) (tVar 3))) (tRet (tTup (tCons (tVar 4) tNil))) tNext)
    (tAsg (tBM K "list" (rIndex K) (tVar 2) (tCons (tOp (rIxT K) (tVar 5) (tC (.int 0))) tNil)) (gName 3))))
    (tRet (tC .non)))))
theorem d__law_file_place {P : Program} {w : World} {K : PySem.W.Frag} {mg : Str → Option Value} {base : Heap} {f : Addr} {cdv : Value} {A : Around} {outer : List Env} {s : Shared} {H : Hp} {E : XK} (T : Txt K mg)
    (hr : Room 0 (A.deeper (envOfC "_law_file_place" (defScope s_law_file_place) s.heap.objs.size f cdv))) : PSs (cxOf (CX0) P w K mg base N__law_file_place "_law_file_place" (defScope s_law_file_place) f cdv A outer s H E).nox (defBody s_law_file_place) (t__law_file_place P w K) := by
  have nd := sc__law_file_place.nd
  have hu := hu_of hr
  exact (pss_cons (ps_if (pt_cmpR o_gt (pe_callB c_len (by rfl) T.len_ (by decide +kernel) (pa_cons (pv 1) pa_nil)) pe_int (nomark _)) (pss_one (ps_ret (pe_tup pa_nil))) pss_nil)
    (pss_cons (ps_par (i := 2) (j := 3) rfl nd rfl rfl (by decide) rfl rfl (pa_cons (pe_lc (own := [("kind", 6)]) (g := (gName 6)) (tt := tYes) rfl nd (pi_tup (pv 0)) (blkOk_by (own := [("kind", 6)]) (N := N__law_file_place) (sc := defScope s_law_file_place) (by decide +kernel)) (fun _ _ _ _ _ => (pg_name (i := 6) nd rfl (.inl rfl))) (fun _ _ _ _ _ => pts_nil) (fun _ _ _ _ _ => (pe_ix ix_tup (pv 6) pe_int (fun _ _ => rfl)))) (pa_cons (pe_un un_neg pe_int) pa_nil)) rfl)
    (pss_cons (ps_for PassesOwn.never rfl (pi_enum (by rfl) T.enumerate_ (pa_cons (pv 1) pa_nil)) (pg_tup rfl (pgs_cons (pg_name (i := 4) nd rfl (.inl rfl)) (pgs_cons (pg_name (i := 5) nd rfl (.inl rfl)) pgs_nil))) (pss_cons (ps_if (pt_cmpR o_le (pe_bm PySem.F.plainAttrs_list PySem.F.slot_list_index PySem.F.type_list_index mt_index (pv 2) (pa_cons (pe_ix ix_tup (pv 5) pe_int (fun _ _ => rfl)) pa_nil)) (pv 3) (nomark _)) (pss_one (ps_ret (pe_tup (pa_cons (pv 4) pa_nil)))) pss_nil)
    (pss_one (ps_set (i := 3) nd rfl (.inl rfl) (pe_bm PySem.F.plainAttrs_list PySem.F.slot_list_index PySem.F.type_list_index mt_index (pv 2) (pa_cons (pe_ix ix_tup (pv 5) pe_int (fun _ _ => rfl)) pa_nil))))))
    (pss_one (ps_ret pe_non)))))
abbrev N__law_due : List Str := ["plan", "text", "is_plan", "under", "rows", "at", "line", "words", "row", "place"]
theorem sc__law_due : FnScope N__law_due ["plan", "text", "is_plan"] (defScope s_law_due) := ⟨rfl, rfl, rfl, by decide +kernel, rfl, by decide +kernel, by decide +kernel⟩
def t__law_due (P : Program) (w : World) (K : PySem.W.Frag) : TS :=
    (tSeq (tPar 3 4 (tCons (tCall (sp__law_under K) [] E0 (tCons (tVar 0) tNil)) (tCons (tLst tNil) tNil)))
    (tSeq (tFor (iEnum K (tCons (tIf (tOr (tB (tVar 2)) (tTest (tOp rNe (tVar 1) (tC (.str ""))))) (tM1 rSplit (tVar 1) (tC (.str "\n"))) (tLst tNil)) tNil)) (gTup K 2 (gCons (gName 5) (gCons (gName 6) gNil))) (tSeq (tAsg (tM1 rSplit (tVar 6) (tC (.str " "))) (gName 7))
    (tSeq (tAsg (tIf (tB (tVar 2)) (tCall (sp__law_kind_row K) [] E0 (tCons (tVar 7) tNil)) (tCall (sp__law_part_row K) [] E0 (tCons (tVar 0) (tCons (tVar 3) (tCons (tVar 7) tNil))))) (gName 8))
    (tSeq (tIfS (tTest (tOp rIsN (tVar 8) (tC .non))) (tRet (tLst (tCons (tC (.str "text")) (tCons (tTup (tCons (tVar 5) tNil)) tNil)))) tNext)
    (tDrop (tBM K "list" rAppend (tVar 4) (tCons (tVar 8) tNil)))))))
    (tSeq (tAsg (tIf (tB (tVar 2)) (tCall (sp__law_layout_place K) [] E0 (tCons (tVar 4) tNil)) (tCall (sp__law_file_place K) [] E0 (tCons (tVar 0) (tCons (tVar 4) tNil)))) (gName 9))
    (tSeq (tIfS (tTest (tOp rIsN (tVar 9) (tC .non))) (tRet (tLst (tCons (tC (.str "told")) (tCons (tCB (rTupL K) (tCons (tVar 4) tNil)) tNil)))) tNext)
    (tRet (tLst (tCons (tIf (tB (tVar 2)) (tC (.str "layout")) (tC (.str "file"))) (tCons (tVar 9) tNil))))))))
theorem d__law_due {P : Program} {w : World} {K : PySem.W.Frag} {mg : Str → Option Value} {base : Heap} {f : Addr} {cdv : Value} {A : Around} {outer : List Env} {s : Shared} {H : Hp} {E : XK} (T : Txt K mg) (F__law_file_place : Fn__law_file_place P w K mg base) (F__law_kind_row : Fn__law_kind_row P w K mg base) (F__law_layout_place : Fn__law_layout_place P w K mg base) (F__law_part_row : Fn__law_part_row P w K mg base) (F__law_under : Fn__law_under P w K mg base)
    (hr : Room 3 (A.deeper (envOfC "_law_due" (defScope s_law_due) s.heap.objs.size f cdv))) : PSs (cxOf (CX0) P w K mg base N__law_due "_law_due" (defScope s_law_due) f cdv A outer s H E).nox (defBody s_law_due) (t__law_due P w K) := by
  have nd := sc__law_due.nd
  have hu := hu_of hr
  exact (pss_cons (ps_par (i := 3) (j := 4) rfl nd rfl rfl (by decide) rfl rfl (pa_cons (pe_fn F__law_under hr (by decide) rfl pass0 (pa_cons (pv 0) pa_nil)) (pa_cons (pe_lst pa_nil) pa_nil)) rfl)
    (pss_cons (ps_for PassesOwn.never rfl (pi_enum (by rfl) T.enumerate_ (pa_cons (pe_ifExp (PW.pt (pw_or (pt_val (pv 2)) (pw_or1 (pt_cmpR op_ne (pv 1) pe_str (nomark _))))) (pe_splitR (pv 1) pe_str) (pe_lst pa_nil)) pa_nil)) (pg_tup rfl (pgs_cons (pg_name (i := 5) nd rfl (.inl rfl)) (pgs_cons (pg_name (i := 6) nd rfl (.inl rfl)) pgs_nil))) (pss_cons (ps_set (i := 7) nd rfl (.inl rfl) (pe_splitR (pv 6) pe_str))
    (pss_cons (ps_set (i := 8) nd rfl (.inl rfl) (pe_ifExp (pt_val (pv 2)) (pe_fn F__law_kind_row hr (by decide) rfl pass0 (pa_cons (pv 7) pa_nil)) (pe_fn F__law_part_row hr (by decide) rfl pass0 (pa_cons (pv 0) (pa_cons (pv 3) (pa_cons (pv 7) pa_nil))))))
    (pss_cons (ps_if (pt_cmpR o_isN (pv 8) pe_non (nomark _)) (pss_one (ps_ret (pe_lst (pa_cons pe_str (pa_cons (pe_tup (pa_cons (pv 5) pa_nil)) pa_nil))))) pss_nil)
    (pss_one (ps_expr (pe_bm PySem.F.plainAttrs_list PySem.F.slot_list_append PySem.F.type_list_append mt_append (pv 4) (pa_cons (pv 8) pa_nil))))))))
    (pss_cons (ps_set (i := 9) nd rfl (.inl rfl) (pe_ifExp (pt_val (pv 2)) (pe_fn F__law_layout_place hr (by decide) rfl pass0 (pa_cons (pv 4) pa_nil)) (pe_fn F__law_file_place hr (by decide) rfl pass0 (pa_cons (pv 0) (pa_cons (pv 4) pa_nil)))))
    (pss_cons (ps_if (pt_cmpR o_isN (pv 9) pe_non (nomark _)) (pss_one (ps_ret (pe_lst (pa_cons pe_str (pa_cons (pe_callTy c_tupL (by rfl) T.tuple_ (by decide +kernel) (pa_cons (pv 4) pa_nil)) pa_nil))))) pss_nil)
    (pss_one (ps_ret (pe_lst (pa_cons (pe_ifExp (pt_val (pv 2)) pe_str pe_str) (pa_cons (pv 9) pa_nil)))))))))
abbrev N__law_texts : List Str := ["plan", "held", "rows", "parts", "name", "ed", "bases", "letter", "mark", "numbers", "number"]
theorem sc__law_texts : FnScope N__law_texts ["plan", "held"] (defScope s_law_texts) := ⟨rfl, rfl, rfl, by decide +kernel, rfl, by decide +kernel, by decide +kernel⟩
def t__law_texts (P : Program) (w : World) (K : PySem.W.Frag) : TS :=
    (tSeq (tPar 2 3 (tCons (tLst tNil) (tCons (tLst tNil) tNil)))
    (tSeq (tFor (iTup K (tVar 0)) (gTup K 5 (gCons (gName 4) (gCons (gName 5) (gCons (gName 6) (gCons (gName 7) (gCons (gName 8) gNil)))))) (tSeq (tDrop (tBM K "list" rAppend (tVar 2) (tCons (tM1 (rJoin K) (tC (.str " ")) (tOp rCat (tLst (tCons (tC (.str "kind")) (tCons (tVar 4) (tCons (tCB rStrI (tCons (tVar 5) tNil)) (tCons (tVar 7) (tCons (tIf (tTest (tOp rNe (tVar 8) (tC (.str "")))) (tVar 8) (tC (.str "-"))) tNil)))))) (tCB (rListT K) (tCons (tVar 6) tNil)))) tNil)))
    (tIfS (tB (tDIn (tVar 4) (tVar 1))) (tSeq (tAsg (tIf (tTest (tOp (rNeD K) (tVar 6) (tTup tNil))) (tCB (rListT K) (tCons (tDGet (tVar 1) (tVar 4)) tNil)) (tLst (tCons (tDGet (tVar 1) (tVar 4)) tNil))) (gName 9))
    (tDrop (tBM K "list" rAppend (tVar 3) (tCons (tM1 (rJoin K) (tC (.str " ")) (tOp rCat (tLst (tCons (tC (.str "part")) (tCons (tVar 4) tNil))) (tLc (iList K (tVar 9)) (gName 10) tYes (tCB rStrI (tCons (tVar 10) tNil)) [10]))) tNil)))) tNext)))
    (tRet (tLst (tCons (tM1 (rJoin K) (tC (.str "\n")) (tVar 2)) (tCons (tM1 (rJoin K) (tC (.str "\n")) (tVar 3)) tNil))))))
theorem d__law_texts {P : Program} {w : World} {K : PySem.W.Frag} {mg : Str → Option Value} {base : Heap} {f : Addr} {cdv : Value} {A : Around} {outer : List Env} {s : Shared} {H : Hp} {E : XK} (T : Txt K mg)
    (hr : Room 0 (A.deeper (envOfC "_law_texts" (defScope s_law_texts) s.heap.objs.size f cdv))) : PSs (cxOf (CX0) P w K mg base N__law_texts "_law_texts" (defScope s_law_texts) f cdv A outer s H E).nox (defBody s_law_texts) (t__law_texts P w K) := by
  have nd := sc__law_texts.nd
  have hu := hu_of hr
  exact (pss_cons (ps_par (i := 2) (j := 3) rfl nd rfl rfl (by decide) rfl rfl (pa_cons (pe_lst pa_nil) (pa_cons (pe_lst pa_nil) pa_nil)) rfl)
    (pss_cons (ps_for PassesOwn.never rfl (pi_tup (pv 0)) (pg_tup rfl (pgs_cons (pg_name (i := 4) nd rfl (.inl rfl)) (pgs_cons (pg_name (i := 5) nd rfl (.inl rfl)) (pgs_cons (pg_name (i := 6) nd rfl (.inl rfl)) (pgs_cons (pg_name (i := 7) nd rfl (.inl rfl)) (pgs_cons (pg_name (i := 8) nd rfl (.inl rfl)) pgs_nil)))))) (pss_cons (ps_expr (pe_bm PySem.F.plainAttrs_list PySem.F.slot_list_append PySem.F.type_list_append mt_append (pv 2) (pa_cons (pe_joinR pe_str (pe_op op_cat (pe_lst (pa_cons pe_str (pa_cons (pv 4) (pa_cons (pe_callTy c_strI (by rfl) T.str_ (by decide +kernel) (pa_cons (pv 5) pa_nil)) (pa_cons (pv 7) (pa_cons (pe_ifExp (pt_cmpR op_ne (pv 8) pe_str (nomark _)) (pv 8) pe_str) pa_nil)))))) (pe_callTy c_listT (by rfl) T.list_ (by decide +kernel) (pa_cons (pv 6) pa_nil)))) pa_nil)))
    (pss_one (ps_if (pt_cmp (pc_din hu (pv 4) (pv 1)) (by rfl)) (pss_cons (ps_set (i := 9) nd rfl (.inl rfl) (pe_ifExp (pt_cmpR (op_neD hr.units) (pv 6) (pe_tup pa_nil) (nomark _)) (pe_callTy c_listT (by rfl) T.list_ (by decide +kernel) (pa_cons (pe_dget hu (pv 1) (pv 4) (fun _ _ => rfl)) pa_nil)) (pe_lst (pa_cons (pe_dget hu (pv 1) (pv 4) (fun _ _ => rfl)) pa_nil))))
    (pss_one (ps_expr (pe_bm PySem.F.plainAttrs_list PySem.F.slot_list_append PySem.F.type_list_append mt_append (pv 3) (pa_cons (pe_joinR pe_str (pe_op op_cat (pe_lst (pa_cons pe_str (pa_cons (pv 4) pa_nil))) (pe_lc (own := [("number", 10)]) (g := (gName 10)) (tt := tYes) rfl nd (pi_list (pv 9)) (blkOk_by (own := [("number", 10)]) (N := N__law_texts) (sc := defScope s_law_texts) (by decide +kernel)) (fun _ _ _ _ _ => (pg_name (i := 10) nd rfl (.inl rfl))) (fun _ _ _ _ _ => pts_nil) (fun _ _ _ _ _ => (pe_callTy c_strI (by rfl) T.str_ (by decide +kernel) (pa_cons (pv 10) pa_nil)))))) pa_nil))))) pss_nil))))
    (pss_one (ps_ret (pe_lst (pa_cons (pe_joinR pe_str (pv 2)) (pa_cons (pe_joinR pe_str (pv 3)) pa_nil)))))))
abbrev N__law_any : List Str := ["draw", "plan", "some", "kind"]
theorem sc__law_any : FnScope N__law_any ["draw", "plan"] (defScope s_law_any) := ⟨rfl, rfl, rfl, by decide +kernel, rfl, by decide +kernel, by decide +kernel⟩
def t__law_any (P : Program) (w : World) (K : PySem.W.Frag) : TS :=
    (tSeq (tAsg (tOp rCat (tLc (iTup K (tVar 1)) (gName 3) tYes (tOp (rIxT K) (tVar 3) (tC (.int 0))) [3]) (tLst (tCons (tC (.str "kind")) (tCons (tC (.str "part")) (tCons (tC (.str "set")) (tCons (tC (.str "make")) (tCons (tC (.str "drop")) (tCons (tC (.str "-")) (tCons (tC (.str "a")) (tCons (tC (.str "az")) (tCons (tC (.str "za")) (tCons (tC (.str "zz")) (tCons (tC (.str "")) tNil))))))))))))) (gName 2))
    (tSeq (tAsg (tOp rCat (tVar 2) (tLst (tCons (tC (.str "0")) (tCons (tC (.str "1")) (tCons (tC (.str "2")) (tCons (tC (.str "99")) (tCons (tC (.str "100")) (tCons (tC (.str "999999")) (tCons (tC (.str "1000000")) (tCons (tC (.str "01")) (tCons (tC (.str "-1")) (tCons (tC (.str "A")) (tCons (tC (.str "7")) (tCons (tCB rStrI (tCons (tOp (rIxT K) (tOp (rIxT K) (tVar 1) (tUn (rU fun i => .int (-i)) (tC (.int 1)))) (tC (.int 1))) tNil)) tNil)))))))))))))) (gName 2))
    (tRet (tOp (rIxL K) (tVar 2) (tCall (sp__law_next K) [] E0 (tCons (tVar 0) (tCons (tCB (rLen K) (tCons (tVar 2) tNil)) tNil)))))))
theorem d__law_any {P : Program} {w : World} {K : PySem.W.Frag} {mg : Str → Option Value} {base : Heap} {f : Addr} {cdv : Value} {A : Around} {outer : List Env} {s : Shared} {H : Hp} {E : XK} (T : Txt K mg) (F__law_next : Fn__law_next P w K mg base)
    (hr : Room 1 (A.deeper (envOfC "_law_any" (defScope s_law_any) s.heap.objs.size f cdv))) : PSs (cxOf (CX0) P w K mg base N__law_any "_law_any" (defScope s_law_any) f cdv A outer s H E).nox (defBody s_law_any) (t__law_any P w K) := by
  have nd := sc__law_any.nd
  have hu := hu_of hr
  exact (pss_cons (ps_set (i := 2) nd rfl (.inl rfl) (pe_op op_cat (pe_lc (own := [("kind", 3)]) (g := (gName 3)) (tt := tYes) rfl nd (pi_tup (pv 1)) (blkOk_by (own := [("kind", 3)]) (N := N__law_any) (sc := defScope s_law_any) (by decide +kernel)) (fun _ _ _ _ _ => (pg_name (i := 3) nd rfl (.inl rfl))) (fun _ _ _ _ _ => pts_nil) (fun _ _ _ _ _ => (pe_ix ix_tup (pv 3) pe_int (fun _ _ => rfl)))) (pe_lst (pa_cons pe_str (pa_cons pe_str (pa_cons pe_str (pa_cons pe_str (pa_cons pe_str (pa_cons pe_str (pa_cons pe_str (pa_cons pe_str (pa_cons pe_str (pa_cons pe_str (pa_cons pe_str pa_nil))))))))))))))
    (pss_cons (ps_set (i := 2) nd rfl (.inl rfl) (pe_op op_cat (pv 2) (pe_lst (pa_cons pe_str (pa_cons pe_str (pa_cons pe_str (pa_cons pe_str (pa_cons pe_str (pa_cons pe_str (pa_cons pe_str (pa_cons pe_str (pa_cons pe_str (pa_cons pe_str (pa_cons pe_str (pa_cons (pe_callTy c_strI (by rfl) T.str_ (by decide +kernel) (pa_cons (pe_ix ix_tup (pe_ix ix_tup (pv 1) (pe_un un_neg pe_int) (fun _ _ => rfl)) pe_int (fun _ _ => rfl)) pa_nil)) pa_nil)))))))))))))))
    (pss_one (ps_ret (pe_ix ix_list (pv 2) (pe_fn F__law_next hr (by decide) rfl pass0 (pa_cons (pv 0) (pa_cons (pe_callB c_len (by rfl) T.len_ (by decide +kernel) (pa_cons (pv 2) pa_nil)) pa_nil))) (fun _ _ => rfl))))))
abbrev N__law_bent : List Str := ["draw", "plan", "text", "way", "at", "signs", "one", "rows", "spot", "words", "k"]
theorem sc__law_bent : FnScope N__law_bent ["draw", "plan", "text"] (defScope s_law_bent) := ⟨rfl, rfl, rfl, by decide +kernel, rfl, by decide +kernel, by decide +kernel⟩
def t__law_bent (P : Program) (w : World) (K : PySem.W.Frag) : TS :=
    (tSeq (tPar3 3 4 5 (tCons (tCall (sp__law_next K) [] E0 (tCons (tVar 0) (tCons (tC (.int 10)) tNil))) (tCons (tCall (sp__law_next K) [] E0 (tCons (tVar 0) (tCons (tOp rAdd (tCB (rLen K) (tCons (tVar 2) tNil)) (tC (.int 1))) tNil))) (tCons (tC (.str " \n-019azkx")) tNil))))
    (tSeq (tPar 6 7 (tCons (tOp rIxS (tVar 5) (tCall (sp__law_next K) [] E0 (tCons (tVar 0) (tCons (tCB (rLen K) (tCons (tVar 5) tNil)) tNil)))) (tCons (tM1 rSplit (tVar 2) (tC (.str "\n"))) tNil)))
    (tSeq (tAsg (tCall (sp__law_next K) [] E0 (tCons (tVar 0) (tCons (tCB (rLen K) (tCons (tVar 7) tNil)) tNil))) (gName 8))
    (tSeq (tIfS (tTest (tOp rLt (tVar 3) (tC (.int 3)))) (tRet (tOp rAddS (tOp rAddS (tSl rSlS (tVar 2) tNoPart (tPart (tVar 4))) (tOp (rIxL K) (tLst (tCons (tVar 6) (tCons (tC (.str "")) (tCons (tVar 6) tNil)))) (tVar 3))) (tSl rSlS (tVar 2) (tPart (tOp rAdd (tVar 4) (tOp (rIxL K) (tLst (tCons (tC (.int 0)) (tCons (tC (.int 1)) (tCons (tC (.int 1)) tNil)))) (tVar 3)))) tNoPart))) tNext)
    (tSeq (tIfS (tTest (tOp rEq (tVar 3) (tC (.int 3)))) (tAsg (tOp rCat (tOp rCat (tSl (rSlL K) (tVar 7) tNoPart (tPart (tVar 8))) (tRevL K (tSl (rSlL K) (tVar 7) (tPart (tVar 8)) (tPart (tOp rAdd (tVar 8) (tC (.int 2))))))) (tSl (rSlL K) (tVar 7) (tPart (tOp rAdd (tVar 8) (tC (.int 2)))) tNoPart)) (gName 7)) (tIfS (tTest (tOp rEq (tVar 3) (tC (.int 4)))) (tDrop (tBM K "list" rInsert (tVar 7) (tCons (tVar 8) (tCons (tOp (rIxL K) (tVar 7) (tCall (sp__law_next K) [] E0 (tCons (tVar 0) (tCons (tCB (rLen K) (tCons (tVar 7) tNil)) tNil)))) tNil)))) (tIfS (tTest (tOp rEq (tVar 3) (tC (.int 5)))) (tDrop (tBM K "list" rPopAt (tVar 7) (tCons (tVar 8) tNil))) (tIfS (tTest (tOp rEq (tVar 3) (tC (.int 6)))) (tDrop (tBM K "list" rAppend (tVar 7) (tCons (tVar 6) tNil))) (tIfS (tTest (tOp rEq (tVar 3) (tC (.int 7)))) (tAsg (tM1 (rJoin K) (tC (.str " ")) (tLc (iRng1 (tCons (tOp rAdd (tC (.int 1)) (tCall (sp__law_next K) [] E0 (tCons (tVar 0) (tCons (tC (.int 7)) tNil)))) tNil)) (gName 10) tYes (tCall (sp__law_any K) [] E0 (tCons (tVar 0) (tCons (tVar 1) tNil))) [10])) (gSub (tVar 7) (tVar 8) rSetL)) (tSeq (tAsg (tM1 rSplit (tOp (rIxL K) (tVar 7) (tVar 8)) (tC (.str " "))) (gName 9))
    (tSeq (tAsg (tCall (sp__law_any K) [] E0 (tCons (tVar 0) (tCons (tVar 1) tNil))) (gSub (tVar 9) (tCall (sp__law_next K) [] E0 (tCons (tVar 0) (tCons (tCB (rLen K) (tCons (tVar 9) tNil)) tNil))) rSetL))
    (tAsg (tM1 (rJoin K) (tC (.str " ")) (tVar 9)) (gSub (tVar 7) (tVar 8) rSetL)))))))))
    (tRet (tM1 (rJoin K) (tC (.str "\n")) (tVar 7))))))))
theorem d__law_bent {P : Program} {w : World} {K : PySem.W.Frag} {mg : Str → Option Value} {base : Heap} {f : Addr} {cdv : Value} {A : Around} {outer : List Env} {s : Shared} {H : Hp} {E : XK} (T : Txt K mg) (F__law_any : Fn__law_any P w K mg base) (F__law_next : Fn__law_next P w K mg base)
    (hr : Room 2 (A.deeper (envOfC "_law_bent" (defScope s_law_bent) s.heap.objs.size f cdv))) : PSs (cxOf (CX0) P w K mg base N__law_bent "_law_bent" (defScope s_law_bent) f cdv A outer s H E).nox (defBody s_law_bent) (t__law_bent P w K) := by
  have nd := sc__law_bent.nd
  have hu := hu_of hr
  exact (pss_cons (ps_par3 (i := 3) (j := 4) (l := 5) rfl nd rfl rfl rfl (by decide) (by decide) (by decide) rfl rfl rfl (pa_cons (pe_fn F__law_next hr (by decide) rfl pass0 (pa_cons (pv 0) (pa_cons pe_int pa_nil))) (pa_cons (pe_fn F__law_next hr (by decide) rfl pass0 (pa_cons (pv 0) (pa_cons (pe_op o_add (pe_callB c_len (by rfl) T.len_ (by decide +kernel) (pa_cons (pv 2) pa_nil)) pe_int) pa_nil))) (pa_cons pe_str pa_nil))) rfl)
    (pss_cons (ps_par (i := 6) (j := 7) rfl nd rfl rfl (by decide) rfl rfl (pa_cons (pe_ix ix_str (pv 5) (pe_fn F__law_next hr (by decide) rfl pass0 (pa_cons (pv 0) (pa_cons (pe_callB c_len (by rfl) T.len_ (by decide +kernel) (pa_cons (pv 5) pa_nil)) pa_nil))) (fun _ _ => rfl)) (pa_cons (pe_splitR (pv 2) pe_str) pa_nil)) rfl)
    (pss_cons (ps_set (i := 8) nd rfl (.inl rfl) (pe_fn F__law_next hr (by decide) rfl pass0 (pa_cons (pv 0) (pa_cons (pe_callB c_len (by rfl) T.len_ (by decide +kernel) (pa_cons (pv 7) pa_nil)) pa_nil))))
    (pss_cons (ps_if (pt_cmpR o_lt (pv 3) pe_int (nomark _)) (pss_one (ps_ret (pe_op o_addS (pe_op o_addS (pe_slice sl_str (pv 2) po_none (po_some (pv 4))) (pe_ix ix_list (pe_lst (pa_cons (pv 6) (pa_cons pe_str (pa_cons (pv 6) pa_nil)))) (pv 3) (fun _ _ => rfl))) (pe_slice sl_str (pv 2) (po_some (pe_op o_add (pv 4) (pe_ix ix_list (pe_lst (pa_cons pe_int (pa_cons pe_int (pa_cons pe_int pa_nil)))) (pv 3) (fun _ _ => rfl)))) po_none)))) pss_nil)
    (pss_cons (ps_if (pt_cmpR op_eq (pv 3) pe_int (nomark _)) (pss_one (ps_set (i := 7) nd rfl (.inl rfl) (pe_op op_cat (pe_op op_cat (pe_slice sl_list (pv 7) po_none (po_some (pv 8))) (pe_revL (pe_slice sl_list (pv 7) (po_some (pv 8)) (po_some (pe_op o_add (pv 8) pe_int))))) (pe_slice sl_list (pv 7) (po_some (pe_op o_add (pv 8) pe_int)) po_none)))) (pss_one (ps_if (pt_cmpR op_eq (pv 3) pe_int (nomark _)) (pss_one (ps_expr (pe_bm PySem.F.plainAttrs_list PySem.F.slot_list_insert PySem.F.type_list_insert mt_insertR (pv 7) (pa_cons (pv 8) (pa_cons (pe_ix ix_list (pv 7) (pe_fn F__law_next hr (by decide) rfl pass0 (pa_cons (pv 0) (pa_cons (pe_callB c_len (by rfl) T.len_ (by decide +kernel) (pa_cons (pv 7) pa_nil)) pa_nil))) (fun _ _ => rfl)) pa_nil))))) (pss_one (ps_if (pt_cmpR op_eq (pv 3) pe_int (nomark _)) (pss_one (ps_expr (pe_bm PySem.F.plainAttrs_list PySem.F.slot_list_pop PySem.F.type_list_pop mt_popAt (pv 7) (pa_cons (pv 8) pa_nil)))) (pss_one (ps_if (pt_cmpR op_eq (pv 3) pe_int (nomark _)) (pss_one (ps_expr (pe_bm PySem.F.plainAttrs_list PySem.F.slot_list_append PySem.F.type_list_append mt_append (pv 7) (pa_cons (pv 6) pa_nil)))) (pss_one (ps_if (pt_cmpR op_eq (pv 3) pe_int (nomark _)) (pss_one (ps_asg (pe_joinR pe_str (pe_lc (own := [("k", 10)]) (g := (gName 10)) (tt := tYes) rfl nd (pi_range1 rfl T.range_ (pa_cons (pe_op o_add pe_int (pe_fn F__law_next hr (by decide) rfl pass0 (pa_cons (pv 0) (pa_cons pe_int pa_nil)))) pa_nil)) (blkOk_by (own := [("k", 10)]) (N := N__law_bent) (sc := defScope s_law_bent) (by decide +kernel)) (fun _ _ _ _ _ => (pg_name (i := 10) nd rfl (.inl rfl))) (fun _ _ _ _ _ => pts_nil) (fun _ _ _ _ _ => (pe_fn F__law_any hr (by decide) rfl pass0 (pa_cons (pv 0) (pa_cons (pv 1) pa_nil)))))) (pg_sub (pv 7) (pv 8) set_list))) (pss_cons (ps_set (i := 9) nd rfl (.inl rfl) (pe_splitR (pe_ix ix_list (pv 7) (pv 8) (fun _ _ => rfl)) pe_str))
    (pss_cons (ps_asg (pe_fn F__law_any hr (by decide) rfl pass0 (pa_cons (pv 0) (pa_cons (pv 1) pa_nil))) (pg_sub (pv 9) (pe_fn F__law_next hr (by decide) rfl pass0 (pa_cons (pv 0) (pa_cons (pe_callB c_len (by rfl) T.len_ (by decide +kernel) (pa_cons (pv 9) pa_nil)) pa_nil))) set_list))
    (pss_one (ps_asg (pe_joinR pe_str (pv 9)) (pg_sub (pv 7) (pv 8) set_list))))))))))))))
    (pss_one (ps_ret (pe_joinR pe_str (pv 7)))))))))
end Cp
set_option maxHeartbeats 8000000
/-! The draws; the beginning, the next, a sign. -/
namespace Cp
open PySem L2 LamX
local macro_rules | `(tactic| walk_at "rd") => `(tactic| repeat (first
  | with_reducible apply rd_seq | with_reducible apply rd_asg | with_reducible apply rd_gname | with_reducible apply rd_if | with_reducible apply rd_ret | with_reducible apply rd_drop | with_reducible apply rd_next
  | with_reducible apply rd_op | with_reducible apply rd_cb | with_reducible apply rd_cons | with_reducible apply rd_nil | with_reducible apply rd_c | with_reducible apply rd_tb | with_reducible apply rd_test | with_reducible apply rd_not
  | with_reducible apply rd_or | with_reducible apply rd_and | with_reducible apply rd_call | with_reducible apply rd_chain | with_reducible apply rd_andV | with_reducible apply rd_notV | with_reducible apply rd_ifx
  | with_reducible apply rd_gcons | with_reducible apply rd_gnil
  | ((with_reducible apply rd_var); exact rfl) | (with_reducible apply rd_bk)))
/-! ### all but the draws -/
theorem Go.keep {d g : Addr} {H H' : Hp} (k : Keep H H') (h : DrawAt H d g) : Go d g H H' := ⟨fun b o _ _ e => k b o e, k.draw h⟩
theorem Go.refl {d g : Addr} {H : Hp} (h : DrawAt H d g) : Go d g H H := .keep (.refl H) h
theorem Go.trans {d g : Addr} {H H1 H2 : Hp} (a : Go d g H H1) (b : Go d g H1 H2) : Go d g H H2 := ⟨fun c o x y e => b.1 c o x y (a.1 c o x y e), b.2⟩
theorem Go.tkeep {d g : Addr} {H H1 H2 : Hp} (a : Go d g H H1) (k : Keep H1 H2) : Go d g H H2 := a.trans (.keep k a.2)
theorem Go.tnew {d g : Addr} {H H1 : Hp} {p : Addr} {o : HO} (a : Go d g H H1) (h : H1 p = none) : Go d g H (upd H1 p o) := a.tkeep (.new h)
theorem DrawAt.dne {H : Hp} {d g : Addr} (h : DrawAt H d g) {b : Addr} {o : HO} (e : H b = some o) (n : ∀ kvs, o ≠ .dK kvs) : b ≠ d := by
  obtain ⟨m, t, gs, hd, hg⟩ := h
  exact ne_of e hd (n _)
theorem DrawAt.gne {H : Hp} {d g : Addr} (h : DrawAt H d g) {b : Addr} {o : HO} (e : H b = some o) (n : ∀ xs, o ≠ .lst xs) : b ≠ g := by
  obtain ⟨m, t, gs, hd, hg⟩ := h
  exact ne_of e hg (n _)
theorem DrawAt.nd {H : Hp} {d g b : Addr} (h : DrawAt H d g) (e : H b = none) : b ≠ d ∧ b ≠ g := by
  obtain ⟨m, t, gs, hd, hg⟩ := h
  exact ⟨(fun z => by rw [z, hd] at e; cases e), (fun z => by rw [z, hg] at e; cases e)⟩
/-- what is no dict and no list stays -/
theorem Go.at_ {d g : Addr} {H H' : Hp} (k : Go d g H H') (h : DrawAt H d g) {b : Addr} {o : HO} (e : H b = some o) (n : ∀ kvs, o ≠ .dK kvs) (m : ∀ xs, o ≠ .lst xs) : H' b = some o := k.1 b o (h.dne e n) (h.gne e m) e
theorem Go.sqT {K : PySem.W.Frag} {d g : Addr} {H H' : Hp} {a : Addr} {xs : List V} (k : Go d g H H') (w : DrawAt H d g) (h : SqT K H a xs) : SqT K H' a xs := by
  rcases h with (h | ⟨o, h⟩) | h
  · exact .inl (.inl (k.at_ w h (fun _ z => by cases z) (fun _ z => by cases z)))
  · exact .inl (.inr ⟨o, k.at_ w h (fun _ z => by cases z) (fun _ z => by cases z)⟩)
  · exact .inr h
theorem Go.tup {d g : Addr} {H H' : Hp} {v : V} {xs : List V} (k : Go d g H H') (w : DrawAt H d g) (h : TupAt H v xs) : TupAt H' v xs := let ⟨a, e, q⟩ := h; ⟨a, e, k.at_ w q (fun _ z => by cases z) (fun _ z => by cases z)⟩
theorem Go.kd {d g : Addr} {H H' : Hp} {v : V} {x : Kd} (k : Go d g H H') (w : DrawAt H d g) (h : KdAt H v x) : KdAt H' v x := let ⟨a, b, e, q1, q2⟩ := h; ⟨a, b, e, k.at_ w q1 (fun _ z => by cases z) (fun _ z => by cases z), k.at_ w q2 (fun _ z => by cases z) (fun _ z => by cases z)⟩
theorem Go.kds {d g : Addr} {H H' : Hp} {vs : List V} {ks : List Kd} (k : Go d g H H') (w : DrawAt H d g) (h : KdsAt H vs ks) : KdsAt H' vs ks := Paired.mapP h fun _ _ q => k.kd w q
theorem Go.plan {K : PySem.W.Frag} {d g : Addr} {H H' : Hp} {v : V} {ks : List Kd} (k : Go d g H H') (w : DrawAt H d g) (h : PlanAt K H v ks) : PlanAt K H' v ks := let ⟨a, vs, e, q1, q2⟩ := h; ⟨a, vs, e, k.sqT w q1, k.kds w q2⟩
theorem UndN.und {H0 H : Hp} {d : Addr} {u : Und} (h : UndN H0 H d u) : UndL H d u := by
  obtain ⟨_, kvs, hd, pr⟩ := h
  exact ⟨kvs, hd, Paired.mapP pr fun _ _ ⟨e1, l, e2, _, e3⟩ => ⟨e1, l, e2, e3⟩⟩
theorem UndN.go {H0 H H' : Hp} {u d g : Addr} {x : Und} (h : UndN H0 H u x) (w : DrawAt H0 d g) (k : Go d g H H') : UndN H0 H' u x := by
  obtain ⟨hn, kvs, hu, pr⟩ := h
  refine ⟨hn, kvs, k.1 _ _ (w.nd hn).1 (w.nd hn).2 hu, Paired.mapP pr fun p q ⟨e1, l, e2, e3, e4⟩ => ⟨e1, l, e2, e3, k.1 _ _ (w.nd e3).1 (w.nd e3).2 e4⟩⟩
theorem UndN.keep {H0 H H' : Hp} {u : Addr} {x : Und} (h : UndN H0 H u x) (k : Keep H H') : UndN H0 H' u x := by
  obtain ⟨hn, kvs, hu, pr⟩ := h
  exact ⟨hn, kvs, k _ _ hu, Paired.mapP pr fun p q ⟨e1, l, e2, e3, e4⟩ => ⟨e1, l, e2, e3, k _ _ e4⟩⟩
theorem dget_k {H : Hp} {a : Addr} {kvs : List (Key × V)} {k : Key} {v : V} (h : H a = some (.dK kvs)) (e : valV kvs k = some v) : DGet H a (kV k) (some v) := by
  have q := DGet.k (k := k) h
  rw [e] at q
  exact q
theorem rd_set {d : Addr} {kvs : List (Key × V)} {k : Key} {v : V} {H : Hp} {Q : Hp → Prop} (h : H d = some (.dK kvs)) (c : kvs.length < sizeLine) (q : Q (upd H d (.dK (putK kvs k v)))) : rSetD (.ref d) (kV k) v H Q := ⟨d, _, rfl, .k h c, q⟩
theorem ixN_nat' {n j : Nat} (hj : j < n) : ixN n (j : Int) = some j := by
  unfold ixN
  rw [if_pos (by omega), if_pos (by omega)]
  simp
theorem rd_setL {l : Addr} {xs : List V} {j : Nat} {v : V} {H : Hp} {Q : Hp → Prop} (h : H l = some (.lst xs)) (c : j < xs.length) (q : Q (upd H l (.lst (xs.set j v)))) : rSetL (.ref l) (.int (j : Nat)) v H Q := ⟨l, xs, _, j, rfl, rfl, h, ixN_nat' c, q⟩
theorem rd_pow {i j : Int} (c : CPow i j) (q : Q (.int (i ^ j.toNat)) H) : rPow (.int i) (.int j) H Q := ⟨i, j, rfl, rfl, c, q⟩

theorem r__law_sign {P : Program} {w : World} {K : PySem.W.Frag} {vs : List V} {H : Hp} {Q : VK} {E : XK} (h : sp__law_sign K vs H Q E) : t__law_sign P w K { nx := fun _ H' => Q .non H', rt := Q } (L2.start N__law_sign vs) H := by
  obtain ⟨i, rfl, q⟩ := h
  unfold t__law_sign
  walk_at "rd"
  refine rd_intI ?_
  walk_at "rd"
  refine rd_mod (by decide) ?_
  have h0 := Int.emod_nonneg i (show (26 : Int) ≠ 0 by decide)
  have h1 := Int.emod_lt_of_pos i (show (0 : Int) < 26 by decide)
  obtain ⟨n, hn⟩ : ∃ n : Nat, i % 26 = (n : Nat) := ⟨(i % 26).toNat, by omega⟩
  have hlt : n < 26 := by omega
  have e : lett i = ⟨#[97 + n]⟩ := by
    unfold lett
    rw [show (97 + i % 26).toNat = 97 + n by omega]
  rw [e] at q
  rw [hn]
  refine rd_ixS (c := 97 + n) (by decide) (atI_nat ?_) q
  have key : ∀ n < 26, ("abcdefghijklmnopqrstuvwxyz" : Str).cps.toList[n]? = some (97 + n) := by decide
  exact key n hlt

theorem r__law_begun {P : Program} {w : World} {K : PySem.W.Frag} {vs : List V} {H : Hp} {Q : VK} {E : XK} (h : sp__law_begun K vs H Q E) : t__law_begun P w K { nx := fun _ H' => Q .non H', rt := Q } (L2.start N__law_begun vs) H := by
  obtain ⟨a, ns, rfl, sq, hl, q⟩ := h
  unfold t__law_begun
  walk_at "rd"
  refine rd_lenL sq ?_
  walk_at "rd"
  refine rd_mul (.inl ⟨by decide, by decide⟩) ?_
  walk_at "rd"
  refine rd_add ?_
  walk_at "rd"
  refine rd_for (rd_iE ?_)
  walk_at "rd"
  refine ⟨a, _, rfl, sq, ?_⟩
  refine for_enumL (xs := ns.map V.int) (fun i σ H1 => ∃ (m : Int) (x2 x3 : Option V), σ = [some (.ref a), some (.int m), x2, x3] ∧ Keep H H1) ?_ ?_ ?_ ?_
  · exact ⟨_, _, _, rfl, .refl H⟩
  · rintro i σ H1 _ ⟨m, x2, x3, rfl, k⟩
    exact k.sqL sq
  · rintro i y t2 σ H1 hy ⟨m, x2, x3, rfl, k⟩ ht2
    rw [List.getElem?_map] at hy
    obtain ⟨c, hc, rfl⟩ : ∃ c, ns[i]? = some c ∧ V.int c = y := by
      cases hq : ns[i]? with
      | none => rw [hq] at hy; cases hy
      | some b => exact ⟨b, rfl, by rw [hq] at hy; exact Option.some.inj hy⟩
    refine rd_gtup (.inl (.inl upd_same)) rfl ?_
    walk_at "rd"
    refine rd_mul (.inr ⟨by decide, by decide⟩) ?_
    walk_at "rd"
    refine rd_add ?_
    walk_at "rd"
    refine rd_mul (.inl ⟨by decide, by decide⟩) ?_
    walk_at "rd"
    refine rd_add ?_
    walk_at "rd"
    refine rd_intI ?_
    walk_at "rd"
    refine rd_mod (by decide) ?_
    walk_at "rd"
    exact ⟨_, _, _, rfl, k.tnew ht2⟩
  · rintro σ H1 ⟨m, x2, x3, rfl, k⟩
    walk_at "rd"
    intro d hd
    have k1 : Keep H (upd H1 d (.dK [])) := k.tnew hd
    refine rd_c ?_
    refine rd_var rfl ?_
    refine rd_c ?_
    refine rd_lcL (rd_var rfl ?_)
    refine fin_L (vs := ns.map V.int) (k1.sqL sq) (paired_map _ _) (by rw [List.length_map]; exact Nat.le_trans hl (by decide)) (fun c => decide ((10 : Int) ^ (18 : Int).toNat ≤ c)) V.int ⟨fun y c H2 Kt r hm k2 q2 => ?_, fun y c H2 Ke r hm hc k2 q2 => ?_⟩ fun g H2 k2 hg hg2 => ?_
    · subst r
      walk_at "rd"
      refine rd_pow ⟨by decide, by decide, by decide⟩ ?_
      walk_at "rd"
      refine rd_ge ?_
      walk_at "rd"
      exact q2 H2 (.refl H2)
    · subst r
      walk_at "rd"
      exact q2 H2 (.refl H2)
    · refine rd_c (rd_c ?_)
      have hd2 : H2 d = some (.dK []) := k2 _ _ upd_same
      refine ⟨hd2, [(.inr "mixed", .int m), (.inr "great", .ref g), (.inr "turn", .int 0)], rfl, (show 3 ≤ 15 by decide), ?_⟩
      have hgd : g ≠ d := fun z => by rw [z, upd_same] at hg; cases hg
      refine q d g _ ?_ ⟨m, 0, ns.filter fun c => decide ((10 : Int) ^ (18 : Int).toNat ≤ c), ?_, ?_⟩ (k.free hd) (k1.free hg)
      · exact (k.tnew hd |>.trans k2).at_ (k.free hd)
      · rw [upd_same]
        rfl
      · rw [upd_ne hgd]
        exact hg2
theorem fmod_pos {x b : Int} (h : 0 < b) : 0 ≤ x % b ∧ x % b < b := ⟨Int.emod_nonneg x (by omega), Int.emod_lt_of_pos x h⟩
theorem r__law_next {P : Program} {w : World} {K : PySem.W.Frag} {vs : List V} {H : Hp} {Q : VK} {E : XK} (h : sp__law_next K vs H Q E) : t__law_next P w K { nx := fun _ H' => Q .non H', rt := Q } (L2.start N__law_next vs) H := by
  obtain ⟨d, g, b, rfl, ⟨m, t, gs, hd, hg⟩, hb0, hb1, q⟩ := h
  have hdg : d ≠ g := ne_of hd hg (fun z => by cases z)
  unfold t__law_next
  walk_at "rd"
  refine rd_tup ?_
  walk_at "rd"
  refine rd_dget ?_
  walk_at "rd"
  refine ⟨d, .int t, rfl, dget_k (k := .inr "turn") hd rfl, ?_⟩
  walk_at "rd"
  refine rd_add ?_
  walk_at "rd"
  refine rd_dget ?_
  walk_at "rd"
  refine ⟨d, .ref g, rfl, dget_k (k := .inr "great") hd rfl, ?_⟩
  walk_at "rd"
  refine ⟨show 2 ≤ sizeLine by decide, fun p hp => ?_⟩
  refine rd_gtup (.inl (.inl upd_same)) rfl ?_
  have k1 : Keep H (upd H p (.tup [.int (t + 1), .ref g])) := .new hp
  generalize upd H p (.tup [.int (t + 1), .ref g]) = H1 at k1 ⊢
  walk_at "rd"
  refine rd_gsub ?_
  walk_at "rd"
  refine rd_set (k := .inr "turn") (k1 _ _ hd) (show 3 < sizeLine by decide) ?_
  have k2 : ∀ b o, b ≠ d → b ≠ g → H b = some o → upd H1 d (.dK [(.inr "mixed", .int m), (.inr "great", .ref g), (.inr "turn", .int (t + 1))]) b = some o := fun b o h1 _ e => by
    rw [upd_ne h1]
    exact k1 _ _ e
  have hd2 : upd H1 d (.dK [(.inr "mixed", .int m), (.inr "great", .ref g), (.inr "turn", .int (t + 1))]) d = some (.dK [(.inr "mixed", .int m), (.inr "great", .ref g), (.inr "turn", .int (t + 1))]) := upd_same
  have hg2 : upd H1 d (.dK [(.inr "mixed", .int m), (.inr "great", .ref g), (.inr "turn", .int (t + 1))]) g = some (.lst (gs.map V.int)) := by
    rw [upd_ne (Ne.symm hdg)]
    exact k1 _ _ hg
  have ep : putK [((.inr "mixed" : Key), V.int m), (.inr "great", .ref g), (.inr "turn", .int t)] (.inr "turn") (.int (t + 1)) = [(.inr "mixed", .int m), (.inr "great", .ref g), (.inr "turn", .int (t + 1))] := rfl
  rw [ep]
  generalize upd H1 d (.dK [(.inr "mixed", .int m), (.inr "great", .ref g), (.inr "turn", .int (t + 1))]) = H2 at k2 hd2 hg2 ⊢
  clear ep k1 hd hp
  walk_at "rd"
  refine rd_dget ?_
  walk_at "rd"
  refine ⟨d, .int (t + 1), rfl, dget_k (k := .inr "turn") hd2 rfl, ?_⟩
  walk_at "rd"
  refine rd_intI ?_
  walk_at "rd"
  have sg : SqL K H2 g (gs.map V.int) := .inl (.inl hg2)
  refine rd_lenL sg ?_
  walk_at "rd"
  refine rd_max ?_
  rw [List.length_map]
  have hM : (0 : Int) < if (gs.length : Int) > 1 then (gs.length : Int) else 1 := by split <;> omega
  walk_at "rd"
  refine rd_mod hM ?_
  walk_at "rd"
  obtain ⟨a0, a1⟩ := fmod_pos (x := t + 1) hM
  generalize ha : (t + 1) % (if (gs.length : Int) > 1 then (gs.length : Int) else 1) = at' at a0 a1 ⊢
  obtain ⟨n, rfl⟩ : ∃ n : Nat, at' = (n : Nat) := ⟨at'.toNat, by omega⟩
  have other : ∀ (x4 : Option V) H3, (∀ b o, b ≠ d → b ≠ g → H b = some o → H3 b = some o) → H3 d = some (.dK [(.inr "mixed", .int m), (.inr "great", .ref g), (.inr "turn", .int (t + 1))]) → H3 g = some (.lst (gs.map V.int)) →
      (tSeq (tAsg (tCB rIntI (tCons (tOp rAdd (tOp rAdd (tOp rMul (tDGet (tVar 0) (tC (.str "mixed"))) (tC (.int 6364136223846793))) (tOp rMul (tC (.int 1442695040888963)) (tDGet (tVar 0) (tC (.str "turn"))))) (tC (.int 11))) tNil)) (gName 5))
    (tSeq (tAsg (tOp rMod (tCB rIntI (tCons (tVar 5) tNil)) (tC (.int 2305843009213693951))) (gSub (tVar 0) (tC (.str "mixed")) rSetD))
    (tRet (tOp rMod (tCB rIntI (tCons (tOp rFdiv (tDGet (tVar 0) (tC (.str "mixed"))) (tC (.int 32749))) tNil)) (tVar 1))))) { nx := fun _ H' => Q .non H', rt := Q } [some (.ref d), some (.int b), some (.ref g), some (.int (n : Nat)), x4, none] H3 := by
    intro x4 H3 k3 hd3 hg3
    walk_at "rd"
    refine rd_dget ?_
    walk_at "rd"
    refine ⟨d, .int m, rfl, dget_k (k := .inr "mixed") hd3 rfl, ?_⟩
    walk_at "rd"
    refine rd_mul (.inr ⟨by decide, by decide⟩) ?_
    walk_at "rd"
    refine rd_dget ?_
    walk_at "rd"
    refine ⟨d, .int (t + 1), rfl, dget_k (k := .inr "turn") hd3 rfl, ?_⟩
    walk_at "rd"
    refine rd_mul (.inl ⟨by decide, by decide⟩) ?_
    walk_at "rd"
    refine rd_add ?_
    walk_at "rd"
    refine rd_add ?_
    walk_at "rd"
    refine rd_intI ?_
    walk_at "rd"
    refine rd_intI ?_
    walk_at "rd"
    refine rd_mod (by decide) ?_
    generalize (m * 6364136223846793 + 1442695040888963 * (t + 1) + 11) % 2305843009213693951 = m2
    refine rd_gsub ?_
    walk_at "rd"
    refine rd_set (k := .inr "mixed") hd3 (show 3 < sizeLine by decide) ?_
    have ep : putK [((.inr "mixed" : Key), V.int m), (.inr "great", .ref g), (.inr "turn", .int (t + 1))] (.inr "mixed") (.int m2) = [(.inr "mixed", .int m2), (.inr "great", .ref g), (.inr "turn", .int (t + 1))] := rfl
    rw [ep]
    walk_at "rd"
    refine rd_dget ?_
    walk_at "rd"
    refine ⟨d, .int m2, rfl, dget_k (k := .inr "mixed") upd_same rfl, ?_⟩
    walk_at "rd"
    refine rd_fdiv ⟨by decide, by decide⟩ ?_
    walk_at "rd"
    refine rd_intI ?_
    walk_at "rd"
    refine rd_mod hb0 ?_
    obtain ⟨r0, r1⟩ := fmod_pos (x := m2 / 32749) hb0
    refine q _ _ r0 r1 ⟨fun b o h1 h2 e => ?_, m2, t + 1, gs, upd_same, ?_⟩
    · rw [upd_ne h1]
      exact k3 b o h1 h2 e
    · rw [upd_ne (Ne.symm hdg)]
      exact hg3
  refine rd_lst ?_
  walk_at "rd"
  refine ⟨Nat.zero_le _, fun l hl => ?_⟩
  have k3 : ∀ b o, b ≠ d → b ≠ g → H b = some o → upd H2 l (.lst []) b = some o := fun b o h1 h2 e => by
    rw [upd_ne (ne_of_none (k2 b o h1 h2 e) hl)]
    exact k2 b o h1 h2 e
  have hd3 : upd H2 l (.lst []) d = some (.dK [(.inr "mixed", .int m), (.inr "great", .ref g), (.inr "turn", .int (t + 1))]) := by rw [upd_ne (ne_of_none hd2 hl)]; exact hd2
  have hg3 : upd H2 l (.lst []) g = some (.lst (gs.map V.int)) := by rw [upd_ne (ne_of_none hg2 hl)]; exact hg2
  refine rd_neI0 (.inl (.inl hg3)) (.inl (.inl upd_same)) ?_
  generalize upd H2 l (.lst []) = H3 at k3 hd3 hg3 ⊢
  walk_at "rd"
  refine iteB (fun h => ?_) (fun h => ?_)
  · have hgs : gs ≠ [] := fun z => by rw [z] at h; cases h
    have hn : n < gs.length := by
      have : 0 < gs.length := List.length_pos_iff.mpr hgs
      split at a1 <;> omega
    walk_at "rd"
    have e1 : atI (gs.map V.int) ((n : Nat) : Int) = some (.int gs[n]) := atI_nat (by rw [List.getElem?_map, List.getElem?_eq_getElem hn]; rfl)
    refine rd_ixL (.inl (.inl hg3)) e1 ?_
    walk_at "rd"
    refine rd_gt ?_
    walk_at "rd"
    refine iteB (fun h2 => ?_) (fun h2 => ?_)
    · walk_at "rd"
      refine rd_ixL (.inl (.inl hg3)) e1 ?_
      walk_at "rd"
      refine rd_intI ?_
      walk_at "rd"
      refine rd_mod hb0 ?_
      walk_at "rd"
      refine rd_ixL (.inl (.inl hg3)) e1 ?_
      walk_at "rd"
      refine rd_fdiv ⟨hb0, hb1⟩ ?_
      refine rd_gsub ?_
      walk_at "rd"
      refine rd_setL hg3 (by rw [List.length_map]; exact hn) ?_
      walk_at "rd"
      obtain ⟨r0, r1⟩ := fmod_pos (x := gs[n]) hb0
      refine q _ _ r0 r1 ⟨fun b o h1 h2 e => ?_, m, t + 1, gs.set n (gs[n] / b), ?_, ?_⟩
      · rw [upd_ne h2]
        exact k3 b o h1 h2 e
      · rw [upd_ne hdg]
        exact hd3
      · rw [upd_same, List.map_set]
    · walk_at "rd"
      exact other _ H3 k3 hd3 hg3
  · walk_at "rd"
    exact other _ H3 k3 hd3 hg3
end Cp
set_option maxHeartbeats 8000000
/-! Titles. -/
namespace Cp
open PySem L2 LamX
local macro_rules | `(tactic| walk_at "rd") => `(tactic| repeat (first
  | with_reducible apply rd_seq | with_reducible apply rd_asg | with_reducible apply rd_gname | with_reducible apply rd_if | with_reducible apply rd_ret | with_reducible apply rd_drop | with_reducible apply rd_next
  | with_reducible apply rd_op | with_reducible apply rd_cb | with_reducible apply rd_cons | with_reducible apply rd_nil | with_reducible apply rd_c | with_reducible apply rd_tb | with_reducible apply rd_test | with_reducible apply rd_not
  | with_reducible apply rd_or | with_reducible apply rd_and | with_reducible apply rd_call | with_reducible apply rd_chain | with_reducible apply rd_andV | with_reducible apply rd_notV | with_reducible apply rd_ifx
  | with_reducible apply rd_gcons | with_reducible apply rd_gnil
  | ((with_reducible apply rd_var); exact rfl) | (with_reducible apply rd_bk)))
theorem str_ext {a b : Str} (h : a.cps.toList = b.cps.toList) : a = b := by
  obtain ⟨x⟩ := a
  obtain ⟨y⟩ := b
  have h : x.toList = y.toList := h
  rw [Array.toList_inj.mp h]
/-- the letters from s on, seven steps each -/
def ring (s : Nat) : List Str := (List.range 24).map fun k => ⟨#[97 + (s + 7 * k) % 26]⟩
theorem ring_nodup {s : Nat} (h : s < 26) : (ring s).Nodup := by
  have key : ∀ s < 26, ((List.range 24).map fun k => (s + 7 * k) % 26).Nodup := by decide +kernel
  have e : ring s = ((List.range 24).map fun k => (s + 7 * k) % 26).map fun n => (⟨#[97 + n]⟩ : Str) := by
    unfold ring
    rw [List.map_map]
    rfl
  rw [e]
  refine (key s h).map _ fun a b hne hab => hne ?_
  have : (#[97 + a] : Array Nat) = #[97 + b] := congrArg Str.cps hab
  have := congrArg Array.toList this
  simp at this
  exact this
theorem ring_mem {s : Nat} {z : Str} (h : z ∈ ring s) : z.length = 1 ∧ allOf lows z = true := by
  obtain ⟨k, _, rfl⟩ := List.mem_map.mp h
  refine ⟨rfl, ?_⟩
  have key : ∀ n < 26, allOf lows ⟨#[97 + n]⟩ = true := by decide +kernel
  exact key _ (Nat.mod_lt _ (by decide))
theorem allOf_app {t a b : Str} : allOf t (a ++ b) = (allOf t a && allOf t b) := by
  unfold allOf
  rw [app_cps, List.all_append]
theorem stem_ok {a b : Str} (ha : allOf lows a = true) (hb : allOf lows b = true) (h : 1 ≤ a.length + b.length) (h2 : a.length + b.length ≤ 8) : nameOk (a ++ b) = true := by
  unfold nameOk
  rw [app_len, decide_eq_true h, decide_eq_true h2, allOf_app, ha, hb]
  rfl
/-- the reserved words -/
def resWords : List Str := ["set", "make", "drop", "kind", "part", "file", "undo", "redo", "gaps", "wastes", "letters", "stale", "lost", "done", "no", "none", "empty", "nothing", "mark", "base", "one", "other", "layout", "edition"]
theorem rot_ok (n : Nat) : (resWords.drop n ++ resWords.take n).length = 24 ∧ (resWords.drop n ++ resWords.take n).Nodup ∧ ∀ t ∈ resWords.drop n ++ resWords.take n, nameOk t = true := by
  have hp : (resWords.drop n ++ resWords.take n).Perm resWords := by
    refine List.perm_append_comm.trans ?_
    rw [List.take_append_drop]
  have h1 : resWords.Nodup := by decide +kernel
  have h2 : resWords.all nameOk = true := by decide +kernel
  exact ⟨hp.length_eq, hp.nodup_iff.mpr h1, fun t ht => List.all_eq_true.mp h2 t (hp.mem_iff.mp ht)⟩
theorem rd_nopart {σ : St} {H : Hp} {Q : Option Int → Hp → Prop} (q : Q none H) : tNoPart σ H Q := q
theorem rd_part {t : TE} {σ : St} {H : Hp} {Q : Option Int → Hp → Prop} (q : t σ H fun x H1 => ∃ i, x = .int i ∧ Q (some i) H1) : tPart t σ H Q := q
theorem fin_to {K : PySem.W.Frag} {H : Hp} {Q : VK} {l : Addr} {xs : List V} (n : Nat) (h : SqL K H l xs) (q : ∀ p, H p = none → Q (.ref p) (upd H p (.lst (xs.take n)))) : rSlL K (.ref l) none (some (n : Nat)) H Q := ⟨l, xs, rfl, h, fun p hp => by rw [cut_to]; exact q p hp⟩
theorem fin_fr {K : PySem.W.Frag} {H : Hp} {Q : VK} {l : Addr} {xs : List V} (n : Nat) (h : SqL K H l xs) (q : ∀ p, H p = none → Q (.ref p) (upd H p (.lst (xs.drop n)))) : rSlL K (.ref l) (some (n : Nat)) none H Q := ⟨l, xs, rfl, h, fun p hp => by rw [cut_from]; exact q p hp⟩
theorem Go.free {d g : Addr} {H H' : Hp} (k : Go d g H H') {b : Addr} (h : H' b = none) : H b = none := by
  cases q : H b with
  | none => rfl
  | some o =>
    have hd := k.2.nd h
    rw [k.1 b o hd.1 hd.2 q] at h
    cases h
theorem abc_at : ∀ n < 26, ("abcdefghijklmnopqrstuvwxyz" : Str).cps.toList[n]? = some (97 + n) := by decide
theorem r__law_titles {P : Program} {w : World} {K : PySem.W.Frag} {vs : List V} {H : Hp} {Q : VK} {E : XK} (h : sp__law_titles K vs H Q E) : t__law_titles P w K { nx := fun _ H' => Q .non H', rt := Q } (L2.start N__law_titles vs) H := by
  obtain ⟨d, g, rfl, hdr, q⟩ := h
  have hn := hdr
  unfold t__law_titles
  walk_at "rd"
  refine rd_tup ?_
  walk_at "rd"
  refine ⟨d, g, 26, rfl, hdr, by decide, by decide, fun st H1 s0 s1 k1 => ?_⟩
  walk_at "rd"
  refine ⟨show 2 ≤ sizeLine by decide, fun p hp => ?_⟩
  refine rd_gtup (.inl (.inl upd_same)) rfl ?_
  have k2 := k1.tnew (o := .tup [.str "abcdefghijklmnopqrstuvwxyz", .int st]) hp
  generalize upd H1 p (.tup [.str "abcdefghijklmnopqrstuvwxyz", .int st]) = H2 at k2 ⊢
  clear k1 hp
  obtain ⟨s, rfl⟩ : ∃ s : Nat, st = (s : Nat) := ⟨st.toNat, by omega⟩
  have hs : s < 26 := by omega
  walk_at "rd"
  refine ⟨d, g, 4, rfl, k2.2, by decide, by decide, fun wy H3 w0 w1 k3 => ?_⟩
  have k3 := k2.trans k3
  walk_at "rd"
  refine rd_eq rfl ?_
  walk_at "rd"
  have fin : ∀ (l : Addr) (ts : List Str) (H4 : Hp), Go d g H H4 → H l = none → H4 l = some (.lst (ts.map V.str)) → (ts.length = 24 ∧ ts.Nodup ∧ ∀ t ∈ ts, nameOk t = true) → Q (.ref l) H4 := fun l ts H4 k hl e ⟨a, b, c⟩ => q l ts H4 k e (hn.nd hl).1 (hn.nd hl).2 a b c
  refine iteB (fun h => ?_) (fun h => ?_)
  · walk_at "rd"
    refine rd_lst ?_
    walk_at "rd"
    refine ⟨show 10 ≤ sizeLine by decide, fun l1 hl1 => ?_⟩
    have c1 := k3.tnew (o := .lst ((resWords.take 10).map V.str)) hl1
    have e1 : upd H3 l1 (.lst ((resWords.take 10).map V.str)) l1 = some (.lst ((resWords.take 10).map V.str)) := upd_same
    show gName 4 (.ref l1) _ (upd H3 l1 (.lst ((resWords.take 10).map V.str))) _
    generalize upd H3 l1 (.lst ((resWords.take 10).map V.str)) = H4 at c1 e1 ⊢
    walk_at "rd"
    refine rd_lst ?_
    walk_at "rd"
    refine ⟨show 8 ≤ sizeLine by decide, fun l2 hl2 => ?_⟩
    refine rd_cat (xs := (resWords.take 10).map V.str) (zs := ((resWords.drop 10).take 8).map V.str) (by rw [upd_ne (ne_of_none e1 hl2)]; exact e1) upd_same (by decide) fun l3 hl3 => ?_
    have c2 := (c1.tnew (o := .lst (((resWords.drop 10).take 8).map V.str)) hl2).tnew (o := .lst ((resWords.take 18).map V.str)) hl3
    have e2 : upd (upd H4 l2 (.lst (((resWords.drop 10).take 8).map V.str))) l3 (.lst ((resWords.take 18).map V.str)) l3 = some (.lst ((resWords.take 18).map V.str)) := upd_same
    show gName 4 (.ref l3) _ (upd (upd H4 l2 (.lst (((resWords.drop 10).take 8).map V.str))) l3 (.lst ((resWords.take 18).map V.str))) _
    generalize upd (upd H4 l2 (.lst (((resWords.drop 10).take 8).map V.str))) l3 (.lst ((resWords.take 18).map V.str)) = H5 at c2 e2 ⊢
    walk_at "rd"
    refine rd_lst ?_
    walk_at "rd"
    refine ⟨show 6 ≤ sizeLine by decide, fun l4 hl4 => ?_⟩
    refine rd_cat (xs := (resWords.take 18).map V.str) (zs := (resWords.drop 18).map V.str) (by rw [upd_ne (ne_of_none e2 hl4)]; exact e2) upd_same (by decide) fun l5 hl5 => ?_
    have c3 := (c2.tnew (o := .lst ((resWords.drop 18).map V.str)) hl4).tnew (o := .lst (resWords.map V.str)) hl5
    have e3 : upd (upd H5 l4 (.lst ((resWords.drop 18).map V.str))) l5 (.lst (resWords.map V.str)) l5 = some (.lst (resWords.map V.str)) := upd_same
    show gName 4 (.ref l5) _ (upd (upd H5 l4 (.lst ((resWords.drop 18).map V.str))) l5 (.lst (resWords.map V.str))) _
    generalize upd (upd H5 l4 (.lst ((resWords.drop 18).map V.str))) l5 (.lst (resWords.map V.str)) = H6 at c3 e3 ⊢
    walk_at "rd"
    refine rd_sl (rd_var rfl (rd_part ?_))
    walk_at "rd"
    refine rd_mod (by decide) ⟨_, rfl, ?_⟩
    have en : (s : Int) % 24 = ((s % 24 : Nat) : Int) := by omega
    generalize s % 24 = n at en
    rw [en]
    refine rd_nopart ?_
    refine fin_fr n (.inl (.inl e3)) fun l6 hl6 => ?_
    refine rd_sl (rd_var rfl (rd_nopart (rd_part ?_)))
    walk_at "rd"
    refine rd_mod (by decide) ⟨_, rfl, ?_⟩
    rw [en]
    refine fin_to (xs := resWords.map V.str) n (.inl (.inl (by rw [upd_ne (ne_of_none e3 hl6)]; exact e3))) fun l7 hl7 => ?_
    have c4 := (c3.tnew (o := .lst ((resWords.map V.str).drop n)) hl6).tnew (o := .lst ((resWords.map V.str).take n)) hl7
    have hl67 : l6 ≠ l7 := ne_of_none upd_same hl7
    refine rd_cat (xs := (resWords.map V.str).drop n) (zs := (resWords.map V.str).take n) (by rw [upd_ne hl67, upd_same]) upd_same ?_ fun l8 hl8 => ?_
    · rw [List.length_drop, List.length_take]
      have : (resWords.map V.str).length = 24 := by decide
      have hz : sizeLine = 16777216 := by decide
      omega
    · walk_at "rd"
      refine fin l8 (resWords.drop n ++ resWords.take n) _ (c4.tnew hl8) (c4.free hl8) ?_ (rot_ok n)
      rw [upd_same, List.map_append, List.map_drop, List.map_take]
  · walk_at "rd"
    refine rd_lcR ?_
    walk_at "rd"
    refine fin_R (i := 24) (by decide) (by decide) (fun _ => true) (fun k => V.str ⟨#[97 + (s + 7 * k) % 26]⟩) (.all fun x k H4 Ke r _ _ q4 => ?_) fun row H4 k4 hrn hrow => ?_
    · subst r
      walk_at "rd"
      refine rd_mul (.inl ⟨by decide, by decide⟩) ?_
      walk_at "rd"
      refine rd_add ?_
      walk_at "rd"
      refine rd_intI ?_
      walk_at "rd"
      refine rd_mod (by decide) ?_
      have e : ((s : Int) + 7 * (k : Int)) % 26 = (((s + 7 * k) % 26 : Nat) : Int) := by omega
      rw [e]
      refine rd_ixS (c := 97 + (s + 7 * k) % 26) (by decide) (atI_nat (abc_at _ (Nat.mod_lt _ (by decide)))) (q4 H4 (.refl H4))
    · rw [filt_all] at hrow
      have hrow : H4 row = some (.lst ((ring s).map V.str)) := by
        rw [hrow]
        unfold ring
        rw [List.map_map]
        rfl
      have c4 := k3.tkeep k4
      have hr0 := k3.free hrn
      walk_at "rd"
      refine rd_for (rd_iR ?_)
      walk_at "rd"
      refine ⟨d, g, 8, rfl, c4.2, by decide, by decide, fun nt H5 n0 n1 k5 => ⟨nt, rfl, by omega, by omega, ?_⟩⟩
      have hr5 := k5.1 _ _ (hn.nd hr0).1 (hn.nd hr0).2 hrow
      refine for_range (n := nt.toNat) (fun i σ H6 => ∃ (stem : Str) (x7 : Option V), σ = [some (.ref d), some (.str "abcdefghijklmnopqrstuvwxyz"), some (.int s), some (.int wy), none, some (.ref row), some (.str stem), x7, none, none] ∧ Go d g H H6 ∧ stem.length ≤ i ∧ allOf lows stem = true ∧ H6 row = some (.lst ((ring s).map V.str))) ?_ ?_ ?_
      · exact ⟨"", none, rfl, c4.trans k5, Nat.le_refl _, rfl, hr5⟩
      · rintro i σ H6 hi ⟨stem, x7, rfl, k6, hl, ho, hr6⟩
        walk_at "rd"
        refine ⟨d, g, 26, rfl, k6.2, by decide, by decide, fun r H7 r0 r1 k7 => ?_⟩
        obtain ⟨m, rfl⟩ : ∃ m : Nat, r = (m : Nat) := ⟨r.toNat, by omega⟩
        have hm : m < 26 := by omega
        refine rd_ixS (c := 97 + m) (by decide) (atI_nat (abc_at _ hm)) ?_
        have hz : sizeLine = 16777216 := by decide
        refine rd_addS (show stem.length + 1 ≤ sizeLine by omega) ?_
        walk_at "rd"
        refine ⟨stem ++ ⟨#[97 + m]⟩, _, rfl, k6.trans k7, ?_, ?_, k7.1 _ _ (hn.nd hr0).1 (hn.nd hr0).2 hr6⟩
        · rw [app_len]
          exact Nat.succ_le_succ hl
        · rw [allOf_app, ho]
          have key : ∀ n < 26, allOf lows ⟨#[97 + n]⟩ = true := by decide +kernel
          exact key m hm
      · rintro σ H6 ⟨stem, x7, rfl, k6, hl, ho, hr6⟩
        have h7 : stem.length ≤ 7 := by omega
        walk_at "rd"
        refine rd_eq rfl ?_
        walk_at "rd"
        refine iteB (fun h0 => ?_) (fun h0 => ?_)
        · walk_at "rd"
          refine fin row (ring s) H6 k6 hr0 hr6 ⟨by unfold ring; simp, ring_nodup hs, fun t ht => ?_⟩
          obtain ⟨a, b⟩ := ring_mem ht
          have e : t = "" ++ t := str_ext (by rw [app_cps]; rfl)
          rw [e]
          refine stem_ok (by decide) b ?_ ?_
          · rw [a]; decide
          · rw [a]; decide
        · walk_at "rd"
          refine rd_lcL ?_
          walk_at "rd"
          refine fin_L (.inl (.inl hr6)) (paired_map _ _) (show _ ≤ sizeLine by unfold ring; simp; decide) (fun _ => true) (fun t => V.str (if wy = 1 then stem ++ t else t ++ stem)) (.all fun x t H7 Ke r hm _ q7 => ?_) fun l H7 k7 hln hl7 => ?_
          · subst r
            obtain ⟨a, b⟩ := ring_mem hm
            have hz : sizeLine = 16777216 := by decide
            walk_at "rd"
            refine rd_eq rfl ?_
            walk_at "rd"
            have e1 : decide (V.int wy = V.int 1) = decide (wy = 1) := by simp only [V.int.injEq]
            rw [e1]
            have q8 := q7 H7 (.refl H7)
            refine iteB (fun h1 => ?_) (fun h1 => ?_)
            · rw [if_pos (of_decide_eq_true h1)] at q8
              walk_at "rd"
              exact rd_addS (by omega) q8
            · rw [if_neg (of_decide_eq_false h1)] at q8
              walk_at "rd"
              exact rd_addS (by omega) q8
          · rw [filt_all] at hl7
            refine fin l ((ring s).map fun t => if wy = 1 then stem ++ t else t ++ stem) H7 (k6.tkeep k7) (k6.free hln) ?_ ⟨?_, ?_, ?_⟩
            · rw [hl7, List.map_map]
              rfl
            · rw [List.length_map]
              unfold ring
              simp
            · refine (ring_nodup hs).map _ fun x y hne hxy => hne ?_
              have hxy : (if wy = 1 then stem ++ x else x ++ stem) = (if wy = 1 then stem ++ y else y ++ stem) := hxy
              split at hxy
              · have := congrArg (fun z : Str => z.cps.toList) hxy
                simp only [app_cps] at this
                exact str_ext (List.append_cancel_left this)
              · have := congrArg (fun z : Str => z.cps.toList) hxy
                simp only [app_cps] at this
                exact str_ext (List.append_cancel_right this)
            · intro t ht
              obtain ⟨x, hx, rfl⟩ := List.mem_map.mp ht
              obtain ⟨a, b⟩ := ring_mem hx
              split
              · exact stem_ok ho b (by omega) (by omega)
              · exact stem_ok b ho (by omega) (by omega)
end Cp
set_option maxHeartbeats 8000000
/-! A frame. -/
namespace Cp
open PySem L2 LamX
local macro_rules | `(tactic| walk_at "rd") => `(tactic| repeat (first
  | with_reducible apply rd_seq | with_reducible apply rd_asg | with_reducible apply rd_gname | with_reducible apply rd_if | with_reducible apply rd_ret | with_reducible apply rd_drop | with_reducible apply rd_next
  | with_reducible apply rd_op | with_reducible apply rd_cb | with_reducible apply rd_cons | with_reducible apply rd_nil | with_reducible apply rd_c | with_reducible apply rd_tb | with_reducible apply rd_test | with_reducible apply rd_not
  | with_reducible apply rd_or | with_reducible apply rd_and | with_reducible apply rd_call | with_reducible apply rd_chain | with_reducible apply rd_andV | with_reducible apply rd_notV | with_reducible apply rd_ifx
  | with_reducible apply rd_gcons | with_reducible apply rd_gnil
  | ((with_reducible apply rd_var); exact rfl) | (with_reducible apply rd_bk)))
def lastEd (last : Int) : List Kd → Int
  | [] => last
  | k :: r => lastEd k.ed r
theorem last_snoc : ∀ (ks : List Kd) (last : Int) (k : Kd), lastEd last (ks ++ [k]) = k.ed
  | [], _, _ => rfl
  | x :: r, _, k => last_snoc r x.ed k
theorem lay_snoc : ∀ (ks : List Kd) (ts : List Str) (last : Int) (i : Nat) (k : Kd), layGo ts last i ks = none → k.name ∉ ts ++ nms ks → lastEd last ks ≤ k.ed → (∀ b ∈ k.bases, b ∈ ts ++ nms ks) → layGo ts last i (ks ++ [k]) = none
  | [], ts, last, i, k, _, h1, h2, h3 => by
    unfold nms at h1 h3
    rw [List.map_nil, List.append_nil] at h1 h3
    have h2 : last ≤ k.ed := h2
    show (if _ then _ else _) = none
    rw [if_neg ?_]
    · rfl
    · rw [decide_eq_false h1, decide_eq_false (show ¬ k.ed < last by omega), List.all_eq_true.mpr fun b hb => decide_eq_true (h3 b hb)]
      simp
  | x :: r, ts, last, i, k, h0, h1, h2, h3 => by
    have h0 : (if (decide (x.name ∈ ts) || decide (x.ed < last) || !(x.bases.all fun b => decide (b ∈ ts))) = true then some i else layGo (ts ++ [x.name]) x.ed (i + 1) r) = none := h0
    show (if (decide (x.name ∈ ts) || decide (x.ed < last) || !(x.bases.all fun b => decide (b ∈ ts))) = true then some i else layGo (ts ++ [x.name]) x.ed (i + 1) (r ++ [k])) = none
    split at h0
    · cases h0
    · rename_i hc
      rw [if_neg hc]
      have e : (ts ++ [x.name]) ++ nms r = ts ++ nms (x :: r) := by
        unfold nms
        rw [List.map_cons, List.append_assoc]
        rfl
      exact lay_snoc r _ _ _ k h0 (by rw [e]; exact h1) h2 (by rw [e]; exact h3)
theorem lay_of {ks : List Kd} (h0 : layGo [] 1 0 ks = none) (h1 : 1 ≤ ks.length) (h2 : ks.length ≤ 24) (h3 : ∀ k ∈ ks, k.ok = true) : Lay ks := by
  refine ⟨?_, h3⟩
  unfold layRes
  rw [decide_eq_true h1, decide_eq_true h2, h0]
  rfl
theorem ix_in {xs : List Int} {n : Nat} (h : n < xs.length) : ∃ e ∈ xs, atI (xs.map V.int) (n : Int) = some (.int e) :=
  ⟨xs[n], List.getElem_mem h, atI_nat (by rw [List.getElem?_map, List.getElem?_eq_getElem h]; rfl)⟩
theorem nat_of {r : Int} {b : Nat} (h0 : 0 ≤ r) (h1 : r < b) : ∃ n : Nat, r = n ∧ n < b := ⟨r.toNat, by omega, by omega⟩
theorem lett_ok (i : Int) : (markOk (lett i) && decide ((lett i).length = 1)) = true := by
  unfold lett
  have h0 := Int.emod_nonneg i (show (26 : Int) ≠ 0 by decide)
  have h1 := Int.emod_lt_of_pos i (show (0 : Int) < 26 by decide)
  obtain ⟨n, e, hn⟩ := nat_of (b := 26) h0 (by omega)
  rw [e]
  have key : ∀ n < 26, (markOk ⟨#[(97 + ((n : Nat) : Int)).toNat]⟩ && decide ((⟨#[(97 + ((n : Nat) : Int)).toNat]⟩ : Str).length = 1)) = true := by decide +kernel
  exact key n hn
theorem r__law_frame {P : Program} {w : World} {K : PySem.W.Frag} {vs : List V} {H : Hp} {Q : VK} {E : XK} (h : sp__law_frame K vs H Q E) : t__law_frame P w K { nx := fun _ H' => Q .non H', rt := Q } (L2.start N__law_frame vs) H := by
  obtain ⟨d, g, m, rfl, hdr, hm1, hm2, q⟩ := h
  have hn := hdr
  unfold t__law_frame
  walk_at "rd"
  show tCons _ _ _ _ _
  walk_at "rd"
  refine ⟨d, g, rfl, hdr, fun tl ts H1 k1 ht1 htd htg hl24 hnd hok => ?_⟩
  walk_at "rd"
  refine ⟨d, g, m, rfl, k1.2, by omega, by omega, fun mr H2 m0 m1 k2 => ?_⟩
  refine rd_add ?_
  walk_at "rd"
  refine rd_lst ?_
  walk_at "rd"
  refine ⟨Nat.zero_le _, fun rl hrl => ⟨_, _, _, rfl, ?_⟩⟩
  have ht2 := k2.1 _ _ htd htg ht1
  have k2 := k1.trans k2
  have ht3 : upd H2 rl (.lst []) tl = some (.lst (ts.map V.str)) := by rw [upd_ne (ne_of_none ht2 hrl)]; exact ht2
  have hr3 : upd H2 rl (.lst []) rl = some (.lst []) := upd_same
  have k3 := k2.tnew (o := .lst []) hrl
  have hrt : rl ≠ tl := Ne.symm (ne_of_none ht2 hrl)
  have hr0 := k2.free hrl
  generalize upd H2 rl (.lst []) = H3 at ht3 hr3 k3 ⊢
  clear ht2 hrl
  walk_at "rd"
  show tCons _ _ _ _ _
  walk_at "rd"
  refine rd_lst ?_
  walk_at "rd"
  refine ⟨show 3 ≤ sizeLine by decide, fun pl hpl => ?_⟩
  walk_at "rd"
  have k4 := k3.tnew (o := .lst (([2, 4, 26] : List Int).map V.int)) hpl
  refine ⟨d, g, 3, rfl, k4.2, by decide, by decide, fun r H4 r0 r1 k5 => ?_⟩
  obtain ⟨n, rfl, hnr⟩ := nat_of (b := 3) r0 r1
  obtain ⟨pool, hpm, hpe⟩ := ix_in (xs := [2, 4, 26]) hnr
  have hp4 := k5.1 _ _ (k3.2.nd hpl).1 (k3.2.nd hpl).2 (show upd H3 pl (.lst (([2, 4, 26] : List Int).map V.int)) pl = _ from upd_same)
  have ht4 := k5.1 _ _ htd htg (show upd H3 pl (.lst (([2, 4, 26] : List Int).map V.int)) tl = some (.lst (ts.map V.str)) by rw [upd_ne (ne_of_none ht3 hpl)]; exact ht3)
  have hr4 := k5.1 _ _ (hn.nd hr0).1 (hn.nd hr0).2 (show upd H3 pl (.lst (([2, 4, 26] : List Int).map V.int)) rl = some (.lst []) by rw [upd_ne (ne_of_none hr3 hpl)]; exact hr3)
  have k5 := k4.trans k5
  refine rd_ixL (.inl (.inl hp4)) hpe ?_
  walk_at "rd"
  refine ⟨d, g, 26, rfl, k5.2, by decide, by decide, fun start H5 s0 s1 k6 => ?_⟩
  have ht5 := k6.1 _ _ htd htg ht4
  have hr5 := k6.1 _ _ (hn.nd hr0).1 (hn.nd hr0).2 hr4
  have k6 := k5.trans k6
  clear ht4 hr4 hp4 hpl
  walk_at "rd"
  refine ⟨_, _, _, rfl, ?_⟩
  walk_at "rd"
  refine rd_for (rd_iR ?_)
  walk_at "rd"
  refine ⟨1 + mr, rfl, by omega, by omega, ?_⟩
  have hpool : pool = 2 ∨ pool = 4 ∨ pool = 26 := by simpa using hpm
  have hz : sizeLine = 16777216 := by decide
  refine for_range (n := (1 + mr).toNat) (fun i σ H6 => ∃ (ed : Int) (vs : List V) (ks : List Kd) (x8 x9 x10 x11 x12 : Option V), σ = [some (.ref d), some (.int m), some (.ref tl), some (.int (1 + mr)), some (.ref rl), some (.int pool), some (.int start), some (.int ed), x8, x9, x10, x11, x12] ∧ Go d g H H6 ∧
    H6 tl = some (.lst (ts.map V.str)) ∧ H6 rl = some (.lst vs) ∧ KdsAt H6 vs ks ∧ nms ks = ts.take i ∧ layGo [] 1 0 ks = none ∧ lastEd 1 ks = ed ∧ 1 ≤ ed ∧ ed ≤ 99 ∧ ∀ k ∈ ks, k.ok = true) ?_ ?_ ?_
  · exact ⟨1, [], [], _, _, _, _, _, rfl, k6, ht5, hr5, .nil, rfl, rfl, rfl, by decide, by decide, fun k hk => by cases hk⟩
  · rintro i σ H6 hi ⟨ed, vs, ks, x8, x9, x10, x11, x12, rfl, k, ht, hr, hks, hnm, hlay, hlast, he1, he2, hoks⟩
    have hi24 : i < 24 := by omega
    have hti : i < ts.length := by omega
    have e8 : atI (ts.map V.str) (0 + (i : Int)) = some (.str ts[i]) := by
      rw [Int.zero_add]
      exact atI_nat (by rw [List.getElem?_map, List.getElem?_eq_getElem hti]; rfl)
    walk_at "rd"
    refine rd_lst ?_
    walk_at "rd"
    refine ⟨show 8 ≤ sizeLine by decide, fun l hl => ?_⟩
    walk_at "rd"
    have c1 := k.tnew (o := .lst (([0, 1, 0, 1, 2, 1, 0, 40] : List Int).map V.int)) hl
    refine ⟨d, g, 8, rfl, c1.2, by decide, by decide, fun r H7 r0 r1 c2 => ?_⟩
    obtain ⟨n, rfl, hnr⟩ := nat_of (b := 8) r0 r1
    obtain ⟨inc, him, hie⟩ := ix_in (xs := [0, 1, 0, 1, 2, 1, 0, 40]) hnr
    have hinc : 0 ≤ inc := (by decide : ∀ x ∈ ([0, 1, 0, 1, 2, 1, 0, 40] : List Int), 0 ≤ x) inc him
    have hl7 := c2.1 _ _ (k.2.nd hl).1 (k.2.nd hl).2 (show upd H6 l (.lst (([0, 1, 0, 1, 2, 1, 0, 40] : List Int).map V.int)) l = _ from upd_same)
    have kk : Go d g H6 H7 := (Go.keep (.new hl) k.2).trans c2
    clear c1 c2
    refine rd_ixL (.inl (.inl hl7)) hie ?_
    refine rd_add ?_
    walk_at "rd"
    refine rd_min ?_
    walk_at "rd"
    clear hl7 hl
    obtain ⟨ed2, ee, he3, he4, he5⟩ : ∃ e2 : Int, (if ed + inc < 99 then ed + inc else 99) = e2 ∧ ed ≤ e2 ∧ 1 ≤ e2 ∧ e2 ≤ 99 := ⟨_, rfl, by split <;> omega, by split <;> omega, by split <;> omega⟩
    rw [ee]
    clear ee
    refine rd_lst ?_
    walk_at "rd"
    refine ⟨Nat.zero_le _, fun bl hbl => ?_⟩
    have kb : Go d g H6 (upd H7 bl (.lst [])) := kk.tnew hbl
    have hb8 : upd H7 bl (.lst []) bl = some (.lst []) := upd_same
    have hb6 := kk.free hbl
    generalize upd H7 bl (.lst []) = H8 at kb hb8 ⊢
    clear hbl kk
    walk_at "rd"
    refine rd_for (rd_iR ?_)
    walk_at "rd"
    refine rd_lst ?_
    walk_at "rd"
    refine ⟨show 8 ≤ sizeLine by decide, fun l hl => ?_⟩
    walk_at "rd"
    have c1 := kb.tnew (o := .lst (([0, 1, 2, 1, 3, 2, 0, 9] : List Int).map V.int)) hl
    refine ⟨d, g, 8, rfl, c1.2, by decide, by decide, fun r H9 r0 r1 c2 => ?_⟩
    obtain ⟨n, rfl, hnr⟩ := nat_of (b := 8) r0 r1
    obtain ⟨cnt, hcm, hce⟩ := ix_in (xs := [0, 1, 2, 1, 3, 2, 0, 9]) hnr
    have hcnt : 0 ≤ cnt ∧ cnt ≤ 9 := (by decide : ∀ x ∈ ([0, 1, 2, 1, 3, 2, 0, 9] : List Int), 0 ≤ x ∧ x ≤ 9) cnt hcm
    have hl9 := c2.1 _ _ (kb.2.nd hl).1 (kb.2.nd hl).2 (show upd H8 l (.lst (([0, 1, 2, 1, 3, 2, 0, 9] : List Int).map V.int)) l = _ from upd_same)
    have hb9 := c2.1 _ _ (k.2.nd hb6).1 (k.2.nd hb6).2 (show upd H8 l (.lst (([0, 1, 2, 1, 3, 2, 0, 9] : List Int).map V.int)) bl = some (.lst []) by rw [upd_ne (ne_of_none hb8 hl)]; exact hb8)
    have k9 : Go d g H6 H9 := (kb.tnew hl).trans c2
    clear c1 c2 kb hb8 hl
    refine rd_ixL (.inl (.inl hl9)) hce ⟨cnt, rfl, by omega, by omega, ?_⟩
    clear hl9
    refine for_range (n := cnt.toNat) (fun j σ H10 => ∃ (bs : List Str) (y10 y11 : Option V), σ = [some (.ref d), some (.int m), some (.ref tl), some (.int (1 + mr)), some (.ref rl), some (.int pool), some (.int start), some (.int ed2), some (.int (0 + (i : Int))), some (.ref bl), y10, y11, x12] ∧ Go d g H6 H10 ∧
      H10 bl = some (.lst (bs.map V.str)) ∧ bs.length ≤ 6 ∧ bs.Nodup ∧ ∀ b ∈ bs, b ∈ ts.take i) ?_ ?_ ?_
    · exact ⟨[], _, _, rfl, k9, hb9, by decide, List.nodup_nil, fun b hb => by cases hb⟩
    · rintro j σ H10 hj ⟨bs, y10, y11, rfl, k10, hb10, hbl6, hbn, hbm⟩
      have ht10 := k10.1 _ _ htd htg ht
      walk_at "rd"
      refine rd_add ?_
      walk_at "rd"
      refine ⟨d, g, 0 + (i : Int) + 1, rfl, k10.2, by omega, by omega, fun r H11 r0 r1 k11 => ?_⟩
      obtain ⟨n, rfl, hnr⟩ := nat_of (b := i + 1) r0 (by omega)
      have ht11 := k11.1 _ _ htd htg ht10
      have hb11 := k11.1 _ _ (k.2.nd hb6).1 (k.2.nd hb6).2 hb10
      have k11 := k10.trans k11
      have hnt : n < ts.length := by omega
      refine rd_ixL (v := .str ts[n]) (.inl (.inl ht11)) (atI_nat (by rw [List.getElem?_map, List.getElem?_eq_getElem hnt]; rfl)) ?_
      walk_at "rd"
      refine rd_ixL (.inl (.inl ht11)) e8 ?_
      refine rd_ne rfl ?_
      walk_at "rd"
      have e0 : decide (V.str ts[n] = V.str ts[i]) = decide (ts[n] = ts[i]) := by simp only [V.str.injEq]
      rw [e0]
      have out : (∃ (bs : List Str) (y10 y11 : Option V), [some (V.ref d), some (.int m), some (.ref tl), some (.int (1 + mr)), some (.ref rl), some (.int pool), some (.int start), some (.int ed2), some (.int (0 + (i : Int))), some (.ref bl), some (.int (0 + (j : Int))), some (.str ts[n]), x12] = [some (.ref d), some (.int m), some (.ref tl), some (.int (1 + mr)), some (.ref rl), some (.int pool), some (.int start), some (.int ed2), some (.int (0 + (i : Int))), some (.ref bl), y10, y11, x12] ∧ Go d g H6 H11 ∧
        H11 bl = some (.lst (bs.map V.str)) ∧ bs.length ≤ 6 ∧ bs.Nodup ∧ ∀ b ∈ bs, b ∈ ts.take i) := ⟨bs, _, _, rfl, k11, hb11, hbl6, hbn, hbm⟩
      refine iteB (fun h => ?_) (fun h => ?_)
      · have hne : ts[n] ≠ ts[i] := of_decide_eq_false (nt h)
        walk_at "rd"
        refine rd_ninL (.inl (.inl hb11)) ?_
        walk_at "rd"
        refine iteB (fun h2 => ?_) (fun h2 => ?_)
        · have hni : ts[n] ∉ bs := of_decide_eq_false (nt h2)
          walk_at "rd"
          refine rd_lenL (.inl (.inl hb11)) ?_
          walk_at "rd"
          rw [List.length_map]
          refine rd_lt ?_
          walk_at "rd"
          refine iteB (fun h3 => ?_) (fun h3 => ?_)
          · have hlt := of_decide_eq_true h3
            walk_at "rd"
            refine rd_bm ?_
            walk_at "rd"
            refine ⟨ty_lst (.inl (.inl hb11)), ?_⟩
            walk_at "rd"
            refine rd_app hb11 (by rw [List.length_map]; omega) ?_
            refine ⟨bs ++ [ts[n]], _, _, rfl, ⟨fun b o h1 h2 e => ?_, ?_⟩, ?_, ?_, ?_, ?_⟩
            · rw [upd_ne (ne_of_none e hb6)]
              exact k11.1 b o h1 h2 e
            · obtain ⟨mm, tt, gs, q1, q2⟩ := k11.2
              have hd := k.2.nd hb6
              exact ⟨mm, tt, gs, by rw [upd_ne (Ne.symm hd.1)]; exact q1, by rw [upd_ne (Ne.symm hd.2)]; exact q2⟩
            · rw [upd_same, List.map_append]
              rfl
            · rw [List.length_append]
              show bs.length + 1 ≤ 6
              omega
            · rw [List.nodup_append]
              exact ⟨hbn, by simp, fun a ha b hb e => by
                rw [List.mem_singleton] at hb
                rw [e, hb] at ha
                exact hni ha⟩
            · intro b hb
              rcases List.mem_append.mp hb with hb | hb
              · exact hbm b hb
              · rw [List.mem_singleton.mp hb]
                have hlt2 : n < i := by
                  rcases Nat.lt_or_ge n i with h | h
                  · exact h
                  · have e : n = i := by omega
                    subst e
                    exact absurd rfl hne
                refine List.mem_of_getElem? (i := n) ?_
                rw [List.getElem?_take, if_pos hlt2, List.getElem?_eq_getElem hnt]
          · walk_at "rd"
            exact out
        · walk_at "rd"
          exact out
      · walk_at "rd"
        exact out
    · rintro σ H10 ⟨bs, y10, y11, rfl, k10, hb10, hbl6, hbn, hbm⟩
      walk_at "rd"
      refine rd_mul (.inl ⟨by decide, by decide⟩) ?_
      refine rd_add ?_
      walk_at "rd"
      refine ⟨d, g, 2, rfl, k10.2, by decide, by decide, fun ar H11 a0 a1 k11 => ?_⟩
      have hb11 := k11.1 _ _ (k.2.nd hb6).1 (k.2.nd hb6).2 hb10
      have k11 := k10.trans k11
      refine rd_add ?_
      walk_at "rd"
      refine rd_lt ?_
      walk_at "rd"
      have fin : ∀ (at' : Int) (H12 : Hp), Go d g H6 H12 → H12 bl = some (.lst (bs.map V.str)) →
          (tDrop (tBM K "list" rAppend (tVar 4) (tCons (tTup (tCons (tOp (rIxL K) (tVar 2) (tVar 8)) (tCons (tVar 7) (tCons (tCB (rTupL K) (tCons (tVar 9) tNil)) (tCons (tCall (sp__law_sign K) [] E0 (tCons (tVar 12) tNil)) (tCons (tC (.str "")) tNil)))))) tNil))) { nx := fun σ' H13 => ∃ (ed : Int) (vs : List V) (ks : List Kd) (x8 x9 x10 x11 x12 : Option V), σ' = [some (.ref d), some (.int m), some (.ref tl), some (.int (1 + mr)), some (.ref rl), some (.int pool), some (.int start), some (.int ed), x8, x9, x10, x11, x12] ∧ Go d g H H13 ∧ H13 tl = some (.lst (ts.map V.str)) ∧ H13 rl = some (.lst vs) ∧ KdsAt H13 vs ks ∧ nms ks = ts.take (i + 1) ∧ layGo [] 1 0 ks = none ∧ lastEd 1 ks = ed ∧ 1 ≤ ed ∧ ed ≤ 99 ∧ ∀ k ∈ ks, k.ok = true, rt := Q }
          [some (.ref d), some (.int m), some (.ref tl), some (.int (1 + mr)), some (.ref rl), some (.int pool), some (.int start), some (.int ed2), some (.int (0 + (i : Int))), some (.ref bl), y10, y11, some (.int at')] H12 := by
        intro at' H12 k12 hb12
        have ht12 := k12.1 _ _ htd htg ht
        have hr12 := k12.1 _ _ (hn.nd hr0).1 (hn.nd hr0).2 hr
        have hks12 := k12.kds k.2 hks
        walk_at "rd"
        refine rd_bm ?_
        walk_at "rd"
        refine ⟨ty_lst (.inl (.inl hr12)), ?_⟩
        walk_at "rd"
        refine rd_tup ?_
        walk_at "rd"
        refine rd_ixL (.inl (.inl ht12)) e8 ?_
        walk_at "rd"
        refine rd_tupL (.inl (.inl hb12)) fun tb htb => ?_
        walk_at "rd"
        refine ⟨at', rfl, ?_⟩
        walk_at "rd"
        refine ⟨show 5 ≤ sizeLine by decide, fun p hp => ?_⟩
        have kw : Go d g H12 (upd (upd H12 tb (.tup (bs.map V.str))) p (.tup [.str ts[i], .int ed2, .ref tb, .str (lett at'), .str ""])) := (Go.keep (.new htb) k12.2).tnew hp
        have hkd : KdAt (upd (upd H12 tb (.tup (bs.map V.str))) p (.tup [.str ts[i], .int ed2, .ref tb, .str (lett at'), .str ""])) (.ref p) ⟨ts[i], ed2, bs, lett at', ""⟩ :=
          ⟨p, tb, rfl, upd_same, by rw [upd_ne (ne_of_none upd_same hp)]; exact upd_same⟩
        generalize upd (upd H12 tb (.tup (bs.map V.str))) p (.tup [.str ts[i], .int ed2, .ref tb, .str (lett at'), .str ""]) = H13 at kw hkd ⊢
        have hr13 := kw.1 _ _ (hn.nd hr0).1 (hn.nd hr0).2 hr12
        have ht13 := kw.1 _ _ htd htg ht12
        have hks13 := kw.kds k12.2 hks12
        have hlen := Paired.length hks
        have hkl : ks.length = i := by
          have := congrArg List.length hnm
          unfold nms at this
          rw [List.length_map, List.length_take] at this
          omega
        walk_at "rd"
        refine rd_app hr13 (by omega) ?_
        have hnew : ts[i] ∉ ts.take i := by
          intro hm
          obtain ⟨j, hj⟩ := List.mem_iff_getElem?.mp hm
          rw [List.getElem?_take] at hj
          split at hj
          · rename_i hji
            obtain ⟨hjl, e⟩ := List.getElem?_eq_some_iff.mp hj
            exact (List.pairwise_iff_getElem.mp hnd) j i hjl hti hji e
          · cases hj
        refine ⟨ed2, vs ++ [.ref p], ks ++ [⟨ts[i], ed2, bs, lett at', ""⟩], _, _, _, _, _, rfl, ⟨fun b o h1 h2 e => ?_, ?_⟩, ?_, upd_same, ?_, ?_, ?_, ?_, he4, he5, ?_⟩
        · rw [upd_ne (ne_of_none e hr0)]
          exact (k.trans (k12.trans kw)).1 b o h1 h2 e
        · obtain ⟨mm, tt, gs, q1, q2⟩ := kw.2
          have hd := hn.nd hr0
          exact ⟨mm, tt, gs, by rw [upd_ne (Ne.symm hd.1)]; exact q1, by rw [upd_ne (Ne.symm hd.2)]; exact q2⟩
        · rw [upd_ne (Ne.symm hrt)]
          exact ht13
        · exact paired_snoc (Paired.mapP hks13 fun v a r => r.lst hr13) (hkd.lst hr13)
        · unfold nms at hnm ⊢
          rw [List.map_append, hnm, List.take_add_one, List.getElem?_eq_getElem hti]
          rfl
        · refine lay_snoc ks [] 1 0 _ hlay ?_ ?_ ?_
          · rw [List.nil_append, hnm]
            exact hnew
          · rw [hlast]
            exact he3
          · rw [List.nil_append, hnm]
            exact hbm
        · exact last_snoc _ _ _
        · intro x hx
          rcases List.mem_append.mp hx with hx | hx
          · exact hoks x hx
          · rw [List.mem_singleton.mp hx]
            unfold Kd.ok kindOk edOk basesOk
            show (nameOk ts[i] && (decide (1 ≤ ed2) && decide (ed2 ≤ 99)) && (decide (bs.length ≤ 6) && bs.all nameOk && decide bs.Nodup) && (markOk (lett at') && decide ((lett at').length = 1) && markOk "")) = true
            have hb : bs.all nameOk = true := List.all_eq_true.mpr fun b hb => hok b (List.mem_of_mem_take (hbm b hb))
            have he : markOk "" = true := by decide +kernel
            rw [hok _ (List.getElem_mem hti), decide_eq_true he4, decide_eq_true he5, decide_eq_true hbl6, hb, decide_eq_true hbn, lett_ok, he]
            rfl
      refine iteB (fun h => ?_) (fun h => ?_)
      · walk_at "rd"
        refine ⟨d, g, pool, rfl, k11.2, by omega, by omega, fun br H12 b0 b1 k12 => ?_⟩
        have hb12 := k12.1 _ _ (k.2.nd hb6).1 (k.2.nd hb6).2 hb11
        refine rd_mul (.inl ⟨by decide, by decide⟩) ?_
        refine rd_add ?_
        walk_at "rd"
        exact fin _ H12 (k11.trans k12) hb12
      · walk_at "rd"
        exact fin _ H11 k11 hb11
  · rintro σ H6 ⟨ed, vs, ks, x8, x9, x10, x11, x12, rfl, k, ht, hr, hks, hnm, hlay, hlast, he1, he2, hoks⟩
    walk_at "rd"
    have hlen : ks.length = (1 + mr).toNat := by
      have := congrArg List.length hnm
      unfold nms at this
      rw [List.length_map, List.length_take] at this
      omega
    exact q rl vs ks H6 k hr hks (hn.nd hr0).1 (hn.nd hr0).2 (lay_of hlay (by omega) (by omega) hoks) (by omega)
end Cp
set_option maxHeartbeats 8000000
/-! Under. -/
namespace Cp
open PySem L2 LamX
local macro_rules | `(tactic| walk_at "rd") => `(tactic| repeat (first
  | with_reducible apply rd_seq | with_reducible apply rd_asg | with_reducible apply rd_gname | with_reducible apply rd_if | with_reducible apply rd_ret | with_reducible apply rd_drop | with_reducible apply rd_next
  | with_reducible apply rd_op | with_reducible apply rd_cb | with_reducible apply rd_cons | with_reducible apply rd_nil | with_reducible apply rd_c | with_reducible apply rd_tb | with_reducible apply rd_test | with_reducible apply rd_not
  | with_reducible apply rd_or | with_reducible apply rd_and | with_reducible apply rd_call | with_reducible apply rd_chain | with_reducible apply rd_andV | with_reducible apply rd_notV | with_reducible apply rd_ifx
  | with_reducible apply rd_gcons | with_reducible apply rd_gnil
  | ((with_reducible apply rd_var); exact rfl) | (with_reducible apply rd_bk)))
theorem kd_parts {k : Kd} (h : k.ok = true) : nameOk k.name = true ∧ 1 ≤ k.ed ∧ k.ed ≤ 99 ∧ k.bases.length ≤ 6 ∧ (∀ b ∈ k.bases, nameOk b = true) ∧ k.bases.Nodup ∧ markOk k.letter = true ∧ k.letter.length = 1 ∧ markOk k.mark = true := by
  unfold Kd.ok kindOk edOk basesOk at h
  simp only [Bool.and_eq_true, decide_eq_true_eq, List.all_eq_true] at h
  obtain ⟨⟨⟨h1, h2, h3⟩, ⟨h4, h5⟩, h6⟩, ⟨h7, h8⟩, h9⟩ := h
  exact ⟨h1, h2, h3, h4, h5, h6, h7, h8, h9⟩
theorem for_seq {K : PySem.W.Frag} {a : Addr} {xs : List V} {g : TG} {tb : TS} {D : Ends} {σ : L2.St} {Hb H : Hp} (hq : SqL K Hb a xs ∨ SqT K Hb a xs) (Pv : Nat → L2.St → Hp → Prop) (h0 : Pv 0 σ H) (hk : ∀ i σ H', i ≤ xs.length → Pv i σ H' → Keep Hb H')
    (hs : ∀ i x σ H, xs[i]? = some x → Pv i σ H → g x σ H fun σ2 H2 => tb { D with nx := Pv (i + 1), ct := Pv (i + 1), bk := D.nx } σ2 H2) (hd : ∀ σ H, Pv xs.length σ H → D.nx σ H) :
    ∃ a', V.ref a = .ref a' ∧ (((∃ xs, SqL K H a' xs) ∧ ∃ W : Nat → Nat → L2.St → Hp → Prop, (∃ m, W 0 m σ H) ∧ ∀ i m σ H, W i m σ H →
      ((Itl K a').stop i H ∧ D.nx σ H) ∨ ((Itl K a').go i H ∧ ∃ N : L2.St → Hp → Prop, (∀ σ' H', N σ' H' → ∃ m', m' < m ∧ W (i + 1) m' σ' H') ∧ ∀ x H', (Itl K a').yld i H x H' → g x σ H' fun σ2 H2 => tb { D with nx := N, ct := N, bk := D.nx } σ2 H2)) ∨
      ((∃ xs, SqT K H a' xs) ∧ ∃ W : Nat → Nat → L2.St → Hp → Prop, (∃ m, W 0 m σ H) ∧ ∀ i m σ H, W i m σ H →
      ((Itt K a').stop i H ∧ D.nx σ H) ∨ ((Itt K a').go i H ∧ ∃ N : L2.St → Hp → Prop, (∀ σ' H', N σ' H' → ∃ m', m' < m ∧ W (i + 1) m' σ' H') ∧ ∀ x H', (Itt K a').yld i H x H' → g x σ H' fun σ2 H2 => tb { D with nx := N, ct := N, bk := D.nx } σ2 H2))) := by
  refine ⟨a, rfl, ?_⟩
  rcases hq with hq | hq
  · exact .inl ⟨⟨xs, (hk 0 σ H (Nat.zero_le _) h0).sqL hq⟩, for_list Pv h0 (fun i σ H' hi p => (hk i σ H' hi p).sqL hq) hs hd⟩
  · exact .inr ⟨⟨xs, (hk 0 σ H (Nat.zero_le _) h0).sqT hq⟩, for_tup Pv h0 (fun i σ H' hi p => (hk i σ H' hi p).sqT hq) hs hd⟩
theorem UndN.put {H0 H : Hp} {d l : Addr} {u : Und} {n : Str} {zs : List Str} (h : UndN H0 H d u) (hn : n ∉ u.map (·.1)) (hl : H l = some (.lst (zs.map V.str))) (h0 : H0 l = none) :
    ∃ kvs, H d = some (.dK kvs) ∧ kvs.length = u.length ∧ UndN H0 (upd H d (.dK (putK kvs (.inr n) (.ref l)))) d (u ++ [(n, zs)]) := by
  obtain ⟨hd0, kvs, hd, pr⟩ := h
  have hv : valV kvs (.inr n : Key) = none := by
    have e := valV_paired pr (·.1) (fun p q r => r.1) n
    rw [decide_eq_false hn] at e
    cases q : valV kvs (.inr n : Key) with
    | none => rfl
    | some v => rw [q] at e; cases e
  refine ⟨kvs, hd, paired_len pr, hd0, kvs ++ [(.inr n, .ref l)], by rw [upd_same, putK_new _ hv], paired_snoc (Paired.mapP pr fun a b ⟨h1, l', h2, h2', h3⟩ => ⟨h1, l', h2, h2', ?_⟩) ⟨rfl, l, rfl, h0, ?_⟩⟩
  · rw [upd_ne (ne_of hl hd (fun z => by cases z))]
    exact hl
  · rw [upd_ne (ne_of h3 hd (fun z => by cases z))]
    exact h3
/-- what a walk over the bases gathers -/
def ownL (u : Und) (bs : List Str) : List Str := bs.flatMap fun b => look u b ++ [b]
theorem ownL_mem (u : Und) (bs : List Str) (o : Str) : decide (o ∈ ownL u bs) = ownIn u bs o := by
  unfold ownL ownIn
  rw [Bool.eq_iff_iff]
  simp only [decide_eq_true_eq, List.mem_flatMap, List.mem_append, List.mem_singleton, Bool.or_eq_true, List.any_eq_true]
  constructor
  · rintro ⟨b, hb, h | h⟩
    · exact .inr ⟨b, hb, h⟩
    · exact .inl (h ▸ hb)
  · rintro (h | ⟨b, hb, h⟩)
    · exact ⟨o, h, .inr rfl⟩
    · exact ⟨b, hb, .inl h⟩
theorem ownL_succ (u : Und) {bs : List Str} {j : Nat} {b : Str} (h : bs[j]? = some b) : ownL u (bs.take (j + 1)) = ownL u (bs.take j) ++ look u b ++ [b] := by
  unfold ownL
  rw [List.take_add_one, h, List.flatMap_append, List.append_assoc]
  simp
theorem und_len {ks : List Kd} (S : Std ks) (h : ks.length ≤ 24) {i : Nat} {b : Str} (hb : b ∈ nms (ks.take i)) : (look (undI ks i) b).length ≤ 24 := by
  rw [← look_pre hb]
  obtain ⟨j, k, _, hj, rfl⟩ := mem_take hb
  exact Nat.le_trans (look_len S (List.mem_of_getElem? hj)) h
theorem ownL_len {ks : List Kd} (S : Std ks) (h : ks.length ≤ 24) {i : Nat} : ∀ {bs : List Str}, (∀ b ∈ bs, b ∈ nms (ks.take i)) → (ownL (undI ks i) bs).length ≤ 25 * bs.length
  | [], _ => Nat.le_refl _
  | b :: r, hb => by
    have e : ownL (undI ks i) (b :: r) = (look (undI ks i) b ++ [b]) ++ ownL (undI ks i) r := rfl
    have h1 := und_len S h (hb b List.mem_cons_self)
    have h2 := ownL_len S h (bs := r) fun x hx => hb x (List.mem_cons_of_mem _ hx)
    rw [e]
    simp only [List.length_append, List.length_cons, List.length_nil]
    omega
theorem r__law_under {P : Program} {w : World} {K : PySem.W.Frag} {vs : List V} {H : Hp} {Q : VK} {E : XK} (h : sp__law_under K vs H Q E) : t__law_under P w K { nx := fun _ H' => Q .non H', rt := Q } (L2.start N__law_under vs) H := by
  obtain ⟨v, ks, rfl, ⟨a, xs, rfl, hq, hks⟩, lay, q⟩ := h
  have S := lay.std
  obtain ⟨l1, l2⟩ := lay.len
  have hxl : xs.length = ks.length := Paired.length hks
  unfold t__law_under
  walk_at "rd"
  refine rd_dnew fun fd hfd => ?_
  walk_at "rd"
  have k0 : Keep H (upd H fd (.dK [])) := .new hfd
  have u0 : UndN H (upd H fd (.dK [])) fd (undI ks 0) := ⟨hfd, [], upd_same, .nil⟩
  generalize upd H fd (.dK []) = H0 at k0 u0 ⊢
  refine rd_for (rd_iQ ?_)
  walk_at "rd"
  refine for_seq hq (fun i σ H1 => ∃ (x2 x3 x4 x5 x6 x7 x8 x9 : Option V), σ = [some (.ref a), some (.ref fd), x2, x3, x4, x5, x6, x7, x8, x9] ∧ Keep H H1 ∧ UndN H H1 fd (undI ks i)) ?_ ?_ ?_ ?_
  · exact ⟨_, _, _, _, _, _, _, _, rfl, k0, u0⟩
  · rintro i σ H1 _ ⟨x2, x3, x4, x5, x6, x7, x8, x9, rfl, k, u⟩
    exact k
  · rintro i y σ H1 hy ⟨x2, x3, x4, x5, x6, x7, x8, x9, rfl, k, u⟩
    obtain ⟨kd, hkd, hkt⟩ := Paired.at_ hks hy
    have hm : kd ∈ ks := List.mem_of_getElem? hkd
    have hi : i < ks.length := (List.getElem?_eq_some_iff.mp hkd).1
    obtain ⟨pa, pb, rfl, hpa, hpb⟩ := k.kd hkt
    have ahd := S.ahd i kd hkd
    have hb6 : kd.bases.length ≤ 6 := (kd_parts (lay.2 kd hm)).2.2.2.1
    refine rd_gtup (.inl (.inl hpa)) rfl ?_
    walk_at "rd"
    refine rd_lst ?_
    walk_at "rd"
    refine ⟨Nat.zero_le _, fun ol hol => ?_⟩
    walk_at "rd"
    have k1 : Keep H1 (upd H1 ol (.lst [])) := .new hol
    refine rd_for (rd_iT ?_)
    walk_at "rd"
    refine ⟨pb, rfl, ⟨_, .inl (.inl (k1 _ _ hpb))⟩, ?_⟩
    have hz : sizeLine = 16777216 := by decide
    refine for_tup (xs := kd.bases.map V.str) (fun j σ H2 => ∃ (l : Addr) (y8 : Option V), σ = [some (.ref a), some (.ref fd), some (.str kd.name), some (.int kd.ed), some (.ref pb), some (.str kd.letter), some (.str kd.mark), some (.ref l), y8, x9] ∧ Keep H1 H2 ∧
      H2 l = some (.lst ((ownL (undI ks i) (kd.bases.take j)).map V.str))) ?_ ?_ ?_ ?_
    · exact ⟨ol, _, rfl, k1, upd_same⟩
    · rintro j σ H2 _ ⟨l, y8, rfl, k2, hl⟩
      exact .inl (.inl (k2 _ _ hpb))
    · rintro j z σ H2 hzz ⟨l, y8, rfl, k2, hl⟩
      rw [List.getElem?_map] at hzz
      obtain ⟨b, hb, rfl⟩ : ∃ b, kd.bases[j]? = some b ∧ V.str b = z := by
        cases hq : kd.bases[j]? with
        | none => rw [hq] at hzz; cases hzz
        | some b => exact ⟨b, rfl, by rw [hq] at hzz; exact Option.some.inj hzz⟩
      have hbn := ahd b (List.mem_of_getElem? hb)
      have hlen1 : (ownL (undI ks i) (kd.bases.take j)).length ≤ 25 * 6 := by
        refine Nat.le_trans (ownL_len S l2 fun b hb => ahd b (List.mem_of_mem_take hb)) ?_
        rw [List.length_take]
        omega
      have hlen2 := und_len S l2 hbn
      walk_at "rd"
      refine rd_dget ?_
      walk_at "rd"
      obtain ⟨ul, hg, hul⟩ := (u.keep k2).und.get (b := b) (by rw [undI_keys]; exact hbn)
      refine ⟨fd, _, rfl, hg, ?_⟩
      refine rd_cat hl hul (by rw [List.length_map, List.length_map]; omega) fun c1 hc1 => ?_
      walk_at "rd"
      refine rd_lst ?_
      walk_at "rd"
      refine ⟨by show 1 ≤ sizeLine; decide, fun c2 hc2 => ?_⟩
      have hc12 : upd (upd H2 c1 (.lst (List.map V.str (ownL (undI ks i) (kd.bases.take j)) ++ List.map V.str (look (undI ks i) b)))) c2 (.lst [.str b]) c1 = some (.lst (List.map V.str (ownL (undI ks i) (kd.bases.take j)) ++ List.map V.str (look (undI ks i) b))) := by
        rw [upd_ne (ne_of_none upd_same hc2)]
        exact upd_same
      refine rd_cat hc12 upd_same ?_ fun c3 hc3 => ?_
      · rw [List.length_append, List.length_map, List.length_map]
        show _ + 1 ≤ _
        omega
      · walk_at "rd"
        refine ⟨c3, _, rfl, ((k2.tnew hc1).tnew hc2).tnew hc3, ?_⟩
        rw [upd_same, ownL_succ _ hb, List.map_append, List.map_append]
        rfl
    · rintro σ H2 ⟨l, y8, rfl, k2, hl⟩
      rw [List.length_map, List.take_length] at hl
      have u2 := u.keep k2
      have k02 := k.trans k2
      clear hpa hpb hkt
      walk_at "rd"
      refine rd_lcQ ?_
      walk_at "rd"
      refine fin_Q (hq.imp k02.sqL k02.sqT) (k02.kds hks) (by rw [hxl]; omega) (fun o => ownIn (undI ks i) kd.bases o.name) (fun o => V.str o.name) ⟨fun y o H3 Kt r hm3 k3 q3 => ?_, fun y o H3 Ke r hm3 hc k3 q3 => ?_⟩ fun dl H3 k3 hdl hdl3 => ?_
      · obtain ⟨qa, qb, rfl, hqa, hqb⟩ := k3.kd r
        walk_at "rd"
        refine rd_ixT (.inl (.inl hqa)) (atI_nat (j := 0) rfl) ?_
        walk_at "rd"
        refine rd_inL (.inl (.inl (k3 _ _ hl))) ?_
        rw [ownL_mem]
        walk_at "rd"
        exact q3 H3 (.refl H3)
      · obtain ⟨qa, qb, rfl, hqa, hqb⟩ := k3.kd r
        walk_at "rd"
        refine rd_ixT (.inl (.inl hqa)) (atI_nat (j := 0) rfl) ?_
        exact q3 H3 (.refl H3)
      · have hdl3 : H3 dl = some (.lst (((nms ks).filter (ownIn (undI ks i) kd.bases)).map V.str)) := by
          rw [hdl3]
          unfold nms
          rw [List.filter_map, List.map_map]
          rfl
        refine rd_gsub ?_
        walk_at "rd"
        obtain ⟨kvs, e1, e2, u4⟩ := (u2.keep k3).put (n := kd.name) (by rw [undI_keys]; exact S.new i kd hkd) hdl3 (k02.free hdl)
        refine rd_set (k := .inr kd.name) e1 (by rw [e2]; have := congrArg List.length (undI_keys ks i); rw [List.length_map] at this; unfold nms at this; rw [List.length_map, List.length_take] at this; omega) ?_
        refine ⟨_, _, _, _, _, _, _, _, rfl, (k02.trans k3).at_ u.1, ?_⟩
        rw [undI_succ hkd]
        exact u4
  · rintro σ H1 ⟨x2, x3, x4, x5, x6, x7, x8, x9, rfl, k, u⟩
    walk_at "rd"
    rw [hxl, undI_all] at u
    exact q fd H1 k u
end Cp
set_option maxHeartbeats 8000000
/-! A word. -/
namespace Cp
open PySem L2 LamX
local macro_rules | `(tactic| walk_at "rd") => `(tactic| repeat (first
  | with_reducible apply rd_seq | with_reducible apply rd_asg | with_reducible apply rd_gname | with_reducible apply rd_if | with_reducible apply rd_ret | with_reducible apply rd_drop | with_reducible apply rd_next
  | with_reducible apply rd_op | with_reducible apply rd_cb | with_reducible apply rd_cons | with_reducible apply rd_nil | with_reducible apply rd_c | with_reducible apply rd_tb | with_reducible apply rd_test | with_reducible apply rd_not
  | with_reducible apply rd_or | with_reducible apply rd_and | with_reducible apply rd_call | with_reducible apply rd_chain | with_reducible apply rd_andV | with_reducible apply rd_notV | with_reducible apply rd_ifx
  | with_reducible apply rd_gcons | with_reducible apply rd_gnil
  | ((with_reducible apply rd_var); exact rfl) | (with_reducible apply rd_bk)))
theorem join_flat : ∀ l : List Str, (Str.join "" l).cps.toList = l.flatMap fun z => z.cps.toList
  | [] => rfl
  | [x] => by
    show x.cps.toList = _
    simp
  | x :: y :: r => by
    show (x ++ "" ++ Str.join "" (y :: r)).cps.toList = _
    rw [app_cps, app_cps, join_flat (y :: r)]
    simp only [List.flatMap_cons]
    show x.cps.toList ++ [] ++ _ = _
    rw [List.append_nil]
theorem join_sings (l : List Nat) : Txt.join "" (l.map fun c => (⟨#[c]⟩ : Str)) = ⟨l.toArray⟩ := by
  rw [tj]
  refine str_ext ?_
  rw [join_flat]
  show _ = l
  induction l with
  | nil => rfl
  | cons x r ih =>
    rw [List.map_cons, List.flatMap_cons, ih]
    rfl
theorem sum_ones : ∀ l : List Nat, ((l.map fun c => (⟨#[c]⟩ : Str)).map (·.length)).sum = l.length
  | [] => rfl
  | x :: r => by
    rw [List.map_cons, List.map_cons, List.sum_cons, sum_ones r, List.length_cons]
    show 1 + _ = _
    omega
theorem lett_nat {n : Nat} (h : n < 26) : lett (n : Int) = ⟨#[97 + n]⟩ := by
  unfold lett
  rw [show (97 + (n : Int) % 26).toNat = 97 + n by omega]
theorem r__law_word {P : Program} {w : World} {K : PySem.W.Frag} {vs : List V} {H : Hp} {Q : VK} {E : XK} (h : sp__law_word K vs H Q E) : t__law_word P w K { nx := fun _ H' => Q .non H', rt := Q } (L2.start N__law_word vs) H := by
  obtain ⟨v, cs, rfl, hv, q⟩ := h
  unfold t__law_word
  walk_at "rd"
  refine rd_m1 ?_
  walk_at "rd"
  refine ⟨⟨_, rfl⟩, ?_⟩
  refine rd_lcR ?_
  walk_at "rd"
  refine fin_R (i := 26) (by decide) (by decide) (fun n => decide (97 + n ∈ cs)) (fun n => V.str ⟨#[97 + n]⟩) ⟨fun x n H1 Kt r hm k q1 => ?_, fun x n H1 Ke r hm hc k q1 => ?_⟩ fun D H1 k hD0 hD => ?_
  · subst r
    have hn : n < 26 := by simpa using hm
    walk_at "rd"
    refine ⟨n, rfl, ?_⟩
    rw [lett_nat hn]
    walk_at "rd"
    rcases hv with rfl | ⟨l, rfl, hl⟩
    · refine .inl (rd_inS ?_)
      walk_at "rd"
      exact q1 H1 (.refl H1)
    · refine .inr ?_
      have hl1 : SqL K H1 l ((cs.map fun c => (⟨#[c]⟩ : Str)).map V.str) := by
        rw [List.map_map]
        exact k.sqL hl
      refine rd_inL hl1 ?_
      have e : decide ((⟨#[97 + n]⟩ : Str) ∈ cs.map fun c => (⟨#[c]⟩ : Str)) = decide (97 + n ∈ cs) := by
        refine decide_eq_decide.mpr ⟨fun h => ?_, fun h => List.mem_map.mpr ⟨_, h, rfl⟩⟩
        obtain ⟨c, hc, e⟩ := List.mem_map.mp h
        have := congrArg (fun z : Str => z.cps.toList) e
        simp at this
        exact this ▸ hc
      rw [e]
      walk_at "rd"
      exact q1 H1 (.refl H1)
  · subst r
    have hn : n < 26 := by simpa using hm
    walk_at "rd"
    refine ⟨n, rfl, ?_⟩
    rw [lett_nat hn]
    exact q1 H1 (.refl H1)
  · have hD : H1 D = some (.lst ((((((List.range 26).map (97 + ·)).filter fun c => decide (c ∈ cs)).map fun c => (⟨#[c]⟩ : Str))).map V.str)) := by
      rw [hD, List.filter_map, List.map_map, List.map_map]
      rfl
    refine ⟨"", D, _, rfl, rfl, .inl (.inl (.inl hD)), ?_, ?_⟩
    · have h1 : ((((((List.range 26).map (97 + ·)).filter fun c => decide (c ∈ cs)).map fun c => (⟨#[c]⟩ : Str))).map (·.length)).sum = (((List.range 26).map (97 + ·)).filter fun c => decide (c ∈ cs)).length := sum_ones _
      have h2 := List.length_filter_le (fun c => decide (c ∈ cs)) ((List.range 26).map (97 + ·))
      rw [List.length_map, List.length_range] at h2
      rw [h1]
      show _ + _ * 0 ≤ _
      omega
    · rw [join_sings]
      exact q H1 k
end Cp
set_option maxHeartbeats 8000000
/-! Marks. -/
namespace Cp
open PySem L2 LamX
local macro_rules | `(tactic| walk_at "rd") => `(tactic| repeat (first
  | with_reducible apply rd_seq | with_reducible apply rd_asg | with_reducible apply rd_gname | with_reducible apply rd_if | with_reducible apply rd_ret | with_reducible apply rd_drop | with_reducible apply rd_next
  | with_reducible apply rd_op | with_reducible apply rd_cb | with_reducible apply rd_cons | with_reducible apply rd_nil | with_reducible apply rd_c | with_reducible apply rd_tb | with_reducible apply rd_test | with_reducible apply rd_not
  | with_reducible apply rd_or | with_reducible apply rd_and | with_reducible apply rd_call | with_reducible apply rd_chain | with_reducible apply rd_andV | with_reducible apply rd_notV | with_reducible apply rd_ifx
  | with_reducible apply rd_gcons | with_reducible apply rd_gnil
  | ((with_reducible apply rd_var); exact rfl) | (with_reducible apply rd_bk)))
/-- a change at what is new -/
theorem Go.fresh {d g : Addr} {H H' : Hp} (k : Go d g H H') (w : DrawAt H d g) {p : Addr} {o : HO} (h : H p = none) : Go d g H (upd H' p o) := by
  refine ⟨fun b u h1 h2 e => ?_, ?_⟩
  · rw [upd_ne (ne_of_none e h)]
    exact k.1 b u h1 h2 e
  · obtain ⟨m, t, gs, q1, q2⟩ := k.2
    have hd := w.nd h
    exact ⟨m, t, gs, by rw [upd_ne (Ne.symm hd.1)]; exact q1, by rw [upd_ne (Ne.symm hd.2)]; exact q2⟩
theorem UndN.chg {H0 H : Hp} {d p : Addr} {u : Und} {kvs : List (Key × V)} {o : HO} (h : UndN H0 H d u) (hp : H p = some (.dK kvs)) (hne : d ≠ p) : UndN H0 (upd H p o) d u := by
  obtain ⟨h0, kv, hd, pr⟩ := h
  refine ⟨h0, kv, by rw [upd_ne hne]; exact hd, Paired.mapP pr fun a b ⟨h1, l, h2, h2', h3⟩ => ⟨h1, l, h2, h2', ?_⟩⟩
  rw [upd_ne (ne_of h3 hp (fun z => by cases z))]
  exact h3
/-- what stands under a kind stands ahead of it -/
theorem look_in {ks : List Kd} (S : Std ks) : ∀ (i : Nat) (k : Kd), ks[i]? = some k → ∀ o ∈ look (undr ks) k.name, o ∈ nms (ks.take i) := by
  intro i
  induction i using Nat.strongRecOn with
  | _ i ih =>
    intro k hk o ho
    have q := ((look_mem S hk).mp ho).2
    unfold ownIn at q
    rw [Bool.or_eq_true] at q
    rcases q with q | q
    · exact S.ahd i k hk o (of_decide_eq_true q)
    · obtain ⟨b, hb, q⟩ := List.any_eq_true.mp q
      have q := of_decide_eq_true q
      have hbn := S.ahd i k hk b hb
      rw [← look_pre hbn] at q
      obtain ⟨j, l, hj, hl, rfl⟩ := mem_take hbn
      obtain ⟨j2, l2, hj2, hl2, rfl⟩ := mem_take (ih j hj l hl o q)
      exact take_mem hl2 (by omega)
theorem MarksAt.get {H : Hp} {d : Addr} {ks : List Kd} (h : MarksAt H d ks) {b : Str} (hb : b ∈ nms ks) : ∃ cs, DGet H d (.str b) (some (.str (word cs))) := by
  obtain ⟨kvs, hd, pr⟩ := h
  obtain ⟨p, k, h1, ⟨h2, cs, h3⟩, h5⟩ := valV_get pr (·.name) (fun p q r => r.1) hb
  exact ⟨cs, by have e := DGet.k (k := .inr b) hd; rw [h5, h3] at e; exact e⟩
theorem MarksAt.put {H : Hp} {d : Addr} {ks : List Kd} {k : Kd} {cs : List Nat} (h : MarksAt H d ks) (hn : k.name ∉ nms ks) : ∃ kvs, H d = some (.dK kvs) ∧ kvs.length = ks.length ∧ MarksAt (upd H d (.dK (putK kvs (.inr k.name) (.str (word cs))))) d (ks ++ [k]) := by
  obtain ⟨kvs, hd, pr⟩ := h
  have hv : valV kvs (.inr k.name : Key) = none := by
    have e := valV_paired pr (·.name) (fun p q r => r.1) k.name
    rw [decide_eq_false (show k.name ∉ ks.map (·.name) from hn)] at e
    cases q : valV kvs (.inr k.name : Key) with
    | none => rfl
    | some v => rw [q] at e; cases e
  exact ⟨kvs, hd, Paired.length pr, kvs ++ [(.inr k.name, .str (word cs))], by rw [upd_same, putK_new _ hv], paired_snoc pr ⟨rfl, cs, rfl⟩⟩
theorem word_len (cs : List Nat) : (word cs).length ≤ 26 := by
  show (((List.range 26).map (97 + ·)).filter fun c => decide (c ∈ cs)).toArray.size ≤ 26
  have h := List.length_filter_le (fun c => decide (c ∈ cs)) ((List.range 26).map (97 + ·))
  rw [List.length_map, List.length_range] at h
  simpa using h
theorem one_sing {z : Str} (h : z.length = 1) : ∃ c, z = ⟨#[c]⟩ := by
  have e := len_cps z
  rw [h] at e
  obtain ⟨c, hc⟩ := List.length_eq_one_iff.mp e
  exact ⟨c, str_ext (by rw [hc])⟩
theorem rd_listS {z : Str} {H : Hp} {Q : VK} (h : z.length ≤ sizeLine) (q : ∀ l, H l = none → Q (.ref l) (upd H l (.lst ((z.cps.toList.map fun c => (⟨#[c]⟩ : Str)).map V.str)))) : rListS [.str z] H Q := ⟨z, rfl, h, q⟩
theorem Go.lst {d g : Addr} {H H' : Hp} (k : Go d g H H') {l : Addr} {xs : List V} (h1 : l ≠ d) (h2 : l ≠ g) (h : H l = some (.lst xs)) : H' l = some (.lst xs) := k.1 _ _ h1 h2 h
theorem r__law_marks {P : Program} {w : World} {K : PySem.W.Frag} {vs : List V} {H : Hp} {Q : VK} {E : XK} (h : sp__law_marks K vs H Q E) : t__law_marks P w K { nx := fun _ H' => Q .non H', rt := Q } (L2.start N__law_marks vs) H := by
  obtain ⟨d, g, l, xs, ks, wy, rfl, hdr, hl, hks, lay, hld, hlg, q⟩ := h
  have S := lay.std
  obtain ⟨l1, l2⟩ := lay.len
  have hxl : xs.length = ks.length := Paired.length hks
  have hz : sizeLine = 16777216 := by decide
  unfold t__law_marks
  walk_at "rd"
  show tCons _ _ _ _ _
  walk_at "rd"
  refine ⟨.ref l, ks, rfl, ⟨l, xs, rfl, .inl (.inl (.inl hl)), hks⟩, lay, fun u H1 k1 hu => ?_⟩
  walk_at "rd"
  refine rd_dnew fun md hmd => ?_
  refine ⟨_, _, rfl, ?_⟩
  have k2 : Keep H (upd H1 md (.dK [])) := k1.tnew hmd
  have hu2 := hu.keep (.new hmd (o := .dK []))
  have hm2 : MarksAt (upd H1 md (.dK [])) md (ks.take 0) := ⟨[], upd_same, .nil⟩
  have hmu : u ≠ md := by
    obtain ⟨_, kvs, e, _⟩ := hu
    exact ne_of_none e hmd
  have hm0 := k1.free hmd
  have hmd' := hdr.nd hm0
  generalize upd H1 md (.dK []) = H2 at k2 hu2 hm2 ⊢
  clear hmd k1 hu
  walk_at "rd"
  refine rd_for (rd_iL ?_)
  walk_at "rd"
  refine ⟨l, rfl, ⟨xs, .inl (.inl (k2 _ _ hl))⟩, ?_⟩
  refine for_list (xs := xs) (fun i σ H3 => ∃ (x5 x6 x7 x8 x9 x10 x11 x12 : Option V), σ = [some (.ref d), some (.ref l), some (.int wy), some (.ref u), some (.ref md), x5, x6, x7, x8, x9, x10, x11, x12] ∧ Go d g H H3 ∧ UndN H H3 u (undr ks) ∧ MarksAt H3 md (ks.take i)) ?_ ?_ ?_ ?_
  · exact ⟨_, _, _, _, _, _, _, _, rfl, .keep k2 hdr, hu2, hm2⟩
  · rintro i σ H3 _ ⟨x5, x6, x7, x8, x9, x10, x11, x12, rfl, k, hu, hm⟩
    exact .inl (.inl (k.lst hld hlg hl))
  · rintro i y σ H3 hy ⟨x5, x6, x7, x8, x9, x10, x11, x12, rfl, k, hu, hm⟩
    obtain ⟨kd, hkd, hkt⟩ := Paired.at_ hks hy
    have hkm : kd ∈ ks := List.mem_of_getElem? hkd
    have hi : i < ks.length := (List.getElem?_eq_some_iff.mp hkd).1
    obtain ⟨pa, pb, rfl, hpa, hpb⟩ := k.kd hdr hkt
    refine rd_gtup (.inl (.inl hpa)) rfl ?_
    walk_at "rd"
    refine rd_lst ?_
    walk_at "rd"
    refine ⟨Nat.zero_le _, fun ol hol => ?_⟩
    have kw : Keep H3 (upd H3 ol (.lst [])) := .new hol
    walk_at "rd"
    refine rd_for (rd_iL ?_)
    walk_at "rd"
    refine ⟨l, rfl, ⟨xs, .inl (.inl (kw _ _ (k.lst hld hlg hl)))⟩, ?_⟩
    -- what own holds
    refine for_list (xs := xs) (fun j σ H4 => ∃ (ol : Addr) (cs : List Nat) (y11 : Option V), σ = [some (.ref d), some (.ref l), some (.int wy), some (.ref u), some (.ref md), some (.str kd.name), some (.int kd.ed), some (.ref pb), some (.str kd.letter), some (.str kd.mark), some (.ref ol), y11, x12] ∧ Keep H3 H4 ∧
      H3 ol = none ∧ H4 ol = some (.lst (cs.map fun c => V.str ⟨#[c]⟩)) ∧ cs.length ≤ 27 * j) ?_ ?_ ?_ ?_
    · exact ⟨ol, [], _, rfl, kw, hol, upd_same, Nat.le_refl _⟩
    · rintro j σ H4 _ ⟨ol, cs, y11, rfl, k4, ho0, ho, hcl⟩
      exact .inl (.inl (k4 _ _ (k.lst hld hlg hl)))
    · rintro j z σ H4 hzz ⟨ol, cs, y11, rfl, k4, ho0, ho, hcl⟩
      obtain ⟨o, hoj, hot⟩ := Paired.at_ hks hzz
      have hj : j < ks.length := (List.getElem?_eq_some_iff.mp hoj).1
      obtain ⟨qa, qb, rfl, hqa, hqb⟩ := k4.kd (k.kd hdr hot)
      have hq4 : ∀ (i : Nat) (v : V), [V.str o.name, .int o.ed, .ref qb, .str o.letter, .str o.mark][i]? = some v → ∀ (H5 : Hp) (Q : VK), Keep H4 H5 → Q v H5 → rIxT K (.ref qa) (.int (i : Nat)) H5 Q := fun i v e H5 Q k5 q => rd_ixT (.inl (.inl (k5 _ _ hqa))) (atI_nat e) q
      walk_at "rd"
      refine hq4 0 _ rfl H4 _ (.refl H4) ?_
      walk_at "rd"
      refine rd_dget ?_
      walk_at "rd"
      obtain ⟨ul, hg, hul⟩ := (hu.keep k4).und.get (b := kd.name) (by unfold undr; rw [undGo_keys]; exact nms_mem.mpr ⟨kd, hkm, rfl⟩)
      refine ⟨u, _, rfl, hg, ?_⟩
      refine rd_inL (.inl (.inl hul)) ?_
      walk_at "rd"
      refine iteB (fun h => ?_) (fun h => ?_)
      · have hin := look_in S i kd hkd _ (of_decide_eq_true h)
        obtain ⟨kvs, hmd3, mpr⟩ := id hm
        obtain ⟨c2, hg2⟩ := MarksAt.get (⟨kvs, k4 _ _ hmd3, mpr⟩ : MarksAt H4 md (ks.take i)) hin
        walk_at "rd"
        refine rd_dget ?_
        walk_at "rd"
        refine hq4 0 _ rfl H4 _ (.refl H4) ?_
        refine ⟨md, _, rfl, hg2, ?_⟩
        walk_at "rd"
        have hwl := word_len c2
        have hwc : (word c2).cps.toList.length ≤ 26 := by rw [len_cps]; exact hwl
        refine rd_listS (by omega) fun wl hwl' => ?_
        have ho5 : upd H4 wl (.lst (((word c2).cps.toList.map fun c => (⟨#[c]⟩ : Str)).map V.str)) ol = some (.lst (cs.map fun c => V.str ⟨#[c]⟩)) := by
          rw [upd_ne (ne_of_none ho hwl')]
          exact ho
        refine rd_cat ho5 upd_same (by simp only [List.length_map]; omega) fun nl hnl => ?_
        have k6 : Keep H4 (upd (upd H4 wl (.lst (((word c2).cps.toList.map fun c => (⟨#[c]⟩ : Str)).map V.str))) nl (.lst ((cs.map fun c => V.str ⟨#[c]⟩) ++ ((word c2).cps.toList.map fun c => (⟨#[c]⟩ : Str)).map V.str))) := (Keep.new hwl').tnew hnl
        have hn6 : upd (upd H4 wl (.lst (((word c2).cps.toList.map fun c => (⟨#[c]⟩ : Str)).map V.str))) nl (.lst ((cs.map fun c => V.str ⟨#[c]⟩) ++ ((word c2).cps.toList.map fun c => (⟨#[c]⟩ : Str)).map V.str)) nl = some (.lst ((cs ++ (word c2).cps.toList).map fun c => V.str ⟨#[c]⟩)) := by
          rw [upd_same, List.map_append, List.map_map]
          rfl
        have hn0 : H3 nl = none := k4.free ((Keep.new hwl').free hnl)
        generalize upd (upd H4 wl (.lst (((word c2).cps.toList.map fun c => (⟨#[c]⟩ : Str)).map V.str))) nl (.lst ((cs.map fun c => V.str ⟨#[c]⟩) ++ ((word c2).cps.toList.map fun c => (⟨#[c]⟩ : Str)).map V.str)) = H5 at k6 hn6 ⊢
        clear hnl ho5 hwl'
        walk_at "rd"
        obtain ⟨lc, hlc⟩ := one_sing (kd_parts (lay.2 o (List.mem_of_getElem? hoj))).2.2.2.2.2.2.2.1
        have app : (tDrop (tBM K "list" rAppend (tVar 10) (tCons (tOp (rIxT K) (tVar 11) (tC (.int 3))) tNil))) { nx := fun σ' H6 => ∃ (ol : Addr) (cs : List Nat) (y11 : Option V), σ' = [some (.ref d), some (.ref l), some (.int wy), some (.ref u), some (.ref md), some (.str kd.name), some (.int kd.ed), some (.ref pb), some (.str kd.letter), some (.str kd.mark), some (.ref ol), y11, x12] ∧ Keep H3 H6 ∧ H3 ol = none ∧ H6 ol = some (.lst (cs.map fun c => V.str ⟨#[c]⟩)) ∧ cs.length ≤ 27 * (j + 1), rt := Q } [some (.ref d), some (.ref l), some (.int wy), some (.ref u), some (.ref md), some (.str kd.name), some (.int kd.ed), some (.ref pb), some (.str kd.letter), some (.str kd.mark), some (.ref nl), some (.ref qa), x12] H5 := by
          walk_at "rd"
          refine rd_bm ?_
          walk_at "rd"
          refine ⟨ty_lst (.inl (.inl hn6)), ?_⟩
          walk_at "rd"
          refine hq4 3 _ rfl H5 _ k6 ?_
          walk_at "rd"
          refine rd_app hn6 (by rw [List.length_map, List.length_append]; omega) ?_
          refine ⟨nl, cs ++ (word c2).cps.toList ++ [lc], _, rfl, (k4.trans k6).at_ hn0, hn0, ?_, ?_⟩
          · rw [upd_same, hlc]
            simp only [List.map_append]
            rfl
          · rw [List.length_append, List.length_append, List.length_singleton]
            omega
        refine rd_eq rfl ?_
        walk_at "rd"
        refine iteB (fun h => ?_) (fun h => ?_)
        · exact iteT app
        · walk_at "rd"
          refine hq4 1 _ rfl H5 _ k6 ?_
          walk_at "rd"
          refine rd_lt ?_
          walk_at "rd"
          refine iteB (fun h => ?_) (fun h => ?_)
          · exact app
          · walk_at "rd"
            exact ⟨nl, cs ++ (word c2).cps.toList, _, rfl, k4.trans k6, hn0, hn6, by rw [List.length_append]; omega⟩
      · walk_at "rd"
        exact ⟨ol, cs, _, rfl, k4, ho0, ho, by omega⟩
    · rintro σ H4 ⟨ol, cs, y11, rfl, k4, ho0, ho, hcl⟩
      have fin : ∀ (ol : Addr) (cs : List Nat) (y12 : Option V) (H5 : Hp), Go d g H3 H5 → H5 ol = some (.lst (cs.map fun c => V.str ⟨#[c]⟩)) → (tAsg (tCall (sp__law_word K) [] E0 (tCons (tVar 10) tNil)) (gSub (tVar 4) (tVar 5) rSetD)) { nx := fun σ' H6 => ∃ (x5 x6 x7 x8 x9 x10 x11 x12 : Option V), σ' = [some (.ref d), some (.ref l), some (.int wy), some (.ref u), some (.ref md), x5, x6, x7, x8, x9, x10, x11, x12] ∧ Go d g H H6 ∧ UndN H H6 u (undr ks) ∧ MarksAt H6 md (ks.take (i + 1)), rt := Q }
          [some (.ref d), some (.ref l), some (.int wy), some (.ref u), some (.ref md), some (.str kd.name), some (.int kd.ed), some (.ref pb), some (.str kd.letter), some (.str kd.mark), some (.ref ol), y11, y12] H5 := by
        intro ol cs y12 H5 k5 ho5
        walk_at "rd"
        refine ⟨.ref ol, cs, rfl, .inr ⟨ol, rfl, .inl (.inl ho5)⟩, fun H6 k6 => ?_⟩
        have k56 := k5.tkeep k6
        refine rd_gsub ?_
        walk_at "rd"
        have hm6 : MarksAt H6 md (ks.take i) := by
          obtain ⟨kvs, e1, e2⟩ := hm
          exact ⟨kvs, k56.1 _ _ hmd'.1 hmd'.2 e1, e2⟩
        have hk56 := k.trans k56
        have hu6 : UndN H H6 u (undr ks) := by
          obtain ⟨h0, kvs, hd, pr⟩ := hu
          have nd : ∀ b, H b = none → b ≠ d ∧ b ≠ g := fun b e => hdr.nd e
          exact ⟨h0, kvs, k56.1 _ _ (nd _ h0).1 (nd _ h0).2 hd, Paired.mapP pr fun p q ⟨e1, l, e2, e3, e4⟩ => ⟨e1, l, e2, e3, k56.1 _ _ (nd _ e3).1 (nd _ e3).2 e4⟩⟩
        obtain ⟨kvs, e1, e2, m7⟩ := hm6.put (cs := cs) (S.new i kd hkd)
        refine rd_set (k := .inr kd.name) e1 (by rw [e2, List.length_take]; omega) ?_
        refine ⟨_, _, _, _, _, _, _, _, rfl, hk56.fresh hdr hm0, hu6.chg e1 hmu, ?_⟩
        rw [List.take_add_one, hkd]
        exact m7
      walk_at "rd"
      refine rd_eq rfl ?_
      walk_at "rd"
      refine iteB (fun h => ?_) (fun h => ?_)
      · walk_at "rd"
        refine rd_lst ?_
        walk_at "rd"
        refine ⟨Nat.zero_le _, fun ol hol => ?_⟩
        have c5 : Go d g H3 (upd H4 ol (.lst [])) := .keep (k4.tnew hol) k.2
        have o5 : upd H4 ol (.lst []) ol = some (.lst []) := upd_same
        have o3 := k4.free hol
        generalize upd H4 ol (.lst []) = H5 at c5 o5 ⊢
        refine rd_gname ?_
        dsimp only
        refine rd_for (rd_iR ?_)
        walk_at "rd"
        refine ⟨d, g, 4, rfl, c5.2, by decide, by decide, fun nt H6 n0 n1 k6 => ⟨nt, rfl, by omega, by omega, ?_⟩⟩
        have hod := k.2.nd o3
        refine for_range (n := nt.toNat) (fun j σ H7 => ∃ (cs : List Nat) (y12 : Option V), σ = [some (.ref d), some (.ref l), some (.int wy), some (.ref u), some (.ref md), some (.str kd.name), some (.int kd.ed), some (.ref pb), some (.str kd.letter), some (.str kd.mark), some (.ref ol), y11, y12] ∧ Go d g H3 H7 ∧
          H7 ol = some (.lst (cs.map fun c => V.str ⟨#[c]⟩)) ∧ cs.length ≤ j) ?_ ?_ ?_
        · exact ⟨[], _, rfl, c5.trans k6, k6.1 _ _ hod.1 hod.2 o5, Nat.le_refl _⟩
        · rintro j σ H7 hj ⟨cs, y12, rfl, k7, ho7, hc7⟩
          walk_at "rd"
          refine rd_bm ?_
          walk_at "rd"
          refine ⟨ty_lst (.inl (.inl ho7)), ?_⟩
          walk_at "rd"
          have hl7 := (k.trans k7).lst hld hlg hl
          refine rd_lenL (.inl (.inl hl7)) ?_
          walk_at "rd"
          refine ⟨d, g, _, rfl, k7.2, by omega, by omega, fun r H8 r0 r1 k8 => ?_⟩
          obtain ⟨n, rfl, hnr⟩ := nat_of r0 r1
          obtain ⟨o, hoj, hot⟩ := Paired.at_ hks (List.getElem?_eq_getElem hnr)
          obtain ⟨qa, qb, eqa, hqa, hqb⟩ := ((k.trans k7).trans k8).kd hdr hot
          refine rd_ixL (v := .ref qa) (.inl (.inl (k8.lst hld hlg hl7))) (atI_nat (by rw [List.getElem?_eq_getElem hnr, eqa])) ?_
          walk_at "rd"
          refine rd_ixT (.inl (.inl hqa)) (atI_nat (j := 3) rfl) ?_
          walk_at "rd"
          obtain ⟨lc, hlc⟩ := one_sing (kd_parts (lay.2 o (List.mem_of_getElem? hoj))).2.2.2.2.2.2.2.1
          have ho8 := k8.lst hod.1 hod.2 ho7
          refine rd_app ho8 (by rw [List.length_map]; omega) ?_
          refine ⟨cs ++ [lc], _, rfl, (k7.trans k8).fresh k.2 o3, ?_, ?_⟩
          · rw [upd_same, List.map_append, hlc]
            rfl
          · rw [List.length_append, List.length_singleton]
            omega
        · rintro σ H7 ⟨cs, y12, rfl, k7, ho7, hc7⟩
          exact fin ol cs y12 H7 k7 ho7
      · refine rd_next ?_
        exact fin ol cs x12 H4 (.keep k4 k.2) ho
  · rintro σ H3 ⟨x5, x6, x7, x8, x9, x10, x11, x12, rfl, k, hu, hm⟩
    walk_at "rd"
    rw [hxl, List.take_length] at hm
    exact q md H3 k hm0 hm
end Cp
set_option maxHeartbeats 8000000
/-! Marked; a layout; roots. -/
namespace Cp
open PySem L2 LamX
local macro_rules | `(tactic| walk_at "rd") => `(tactic| repeat (first
  | with_reducible apply rd_seq | with_reducible apply rd_asg | with_reducible apply rd_gname | with_reducible apply rd_if | with_reducible apply rd_ret | with_reducible apply rd_drop | with_reducible apply rd_next
  | with_reducible apply rd_op | with_reducible apply rd_cb | with_reducible apply rd_cons | with_reducible apply rd_nil | with_reducible apply rd_c | with_reducible apply rd_tb | with_reducible apply rd_test | with_reducible apply rd_not
  | with_reducible apply rd_or | with_reducible apply rd_and | with_reducible apply rd_call | with_reducible apply rd_chain | with_reducible apply rd_andV | with_reducible apply rd_notV | with_reducible apply rd_ifx
  | with_reducible apply rd_gcons | with_reducible apply rd_gnil
  | ((with_reducible apply rd_var); exact rfl) | (with_reducible apply rd_bk)))
theorem word_ok (cs : List Nat) : markOk (word cs) = true := by
  unfold markOk
  rw [decide_eq_true_eq]
  unfold word
  congr 2
  refine List.filter_congr fun c hc => ?_
  refine decide_eq_decide.mpr ⟨fun h => ?_, fun h => ?_⟩
  · have h : c ∈ (((List.range 26).map (97 + ·)).filter fun c => decide (c ∈ cs)) := by simpa using h
    exact of_decide_eq_true (List.mem_filter.mp h).2
  · have h : c ∈ (((List.range 26).map (97 + ·)).filter fun c => decide (c ∈ cs)) := List.mem_filter.mpr ⟨hc, decide_eq_true h⟩
    simpa using h
/-- the same kind but for its mark -/
def Sm (k k' : Kd) : Prop := k'.name = k.name ∧ k'.ed = k.ed ∧ k'.bases = k.bases ∧ k'.letter = k.letter ∧ markOk k'.mark = true
theorem sm_go {ks ks' : List Kd} (h : Paired Sm ks ks') : ∀ ts last i, layGo ts last i ks' = layGo ts last i ks := by
  induction h with
  | nil => intro _ _ _; rfl
  | @cons k k' r r' s t ih =>
    intro ts last i
    obtain ⟨e1, e2, e3, _, _⟩ := s
    show (if (decide (k'.name ∈ ts) || decide (k'.ed < last) || !(k'.bases.all fun b => decide (b ∈ ts))) = true then some i else layGo (ts ++ [k'.name]) k'.ed (i + 1) r') = (if (decide (k.name ∈ ts) || decide (k.ed < last) || !(k.bases.all fun b => decide (b ∈ ts))) = true then some i else layGo (ts ++ [k.name]) k.ed (i + 1) r)
    rw [e1, e2, e3, ih]
theorem sm_lay {ks ks' : List Kd} (h : Paired Sm ks ks') (lay : Lay ks) : Lay ks' := by
  have hl := Paired.length h
  obtain ⟨l1, l2⟩ := lay.len
  refine lay_of (by rw [sm_go h]; exact lay.go) (by omega) (by omega) fun k' hk' => ?_
  have key : ∀ {ks ks' : List Kd}, Paired Sm ks ks' → ∀ k' ∈ ks', ∃ k ∈ ks, Sm k k' := by
    intro ks ks' h
    induction h with
    | nil => intro k hk; cases hk
    | @cons a b l m r t ih =>
      intro k hk
      rcases List.mem_cons.mp hk with rfl | hk
      · exact ⟨a, List.mem_cons_self, r⟩
      · obtain ⟨x, h1, h2⟩ := ih k hk
        exact ⟨x, List.mem_cons_of_mem _ h1, h2⟩
  obtain ⟨k, hk, e1, e2, e3, e4, e5⟩ := key h k' hk'
  have q := lay.2 k hk
  unfold Kd.ok kindOk at q ⊢
  simp only [Bool.and_eq_true] at q ⊢
  rw [e1, e2, e3, e4]
  exact ⟨q.1, q.2.1, e5⟩
theorem r__law_marked {P : Program} {w : World} {K : PySem.W.Frag} {vs : List V} {H : Hp} {Q : VK} {E : XK} (h : sp__law_marked K vs H Q E) : t__law_marked P w K { nx := fun _ H' => Q .non H', rt := Q } (L2.start N__law_marked vs) H := by
  obtain ⟨d, g, l, xs, ks, wy, rfl, hdr, hl, hks, lay, hld, hlg, q⟩ := h
  have S := lay.std
  obtain ⟨l1, l2⟩ := lay.len
  have hxl : xs.length = ks.length := Paired.length hks
  have hz : sizeLine = 16777216 := by decide
  unfold t__law_marked
  walk_at "rd"
  show tCons _ _ _ _ _
  walk_at "rd"
  refine ⟨d, g, l, xs, ks, wy, rfl, hdr, hl, hks, lay, hld, hlg, fun md H1 k1 hm0 hm1 => ?_⟩
  walk_at "rd"
  refine rd_lst ?_
  walk_at "rd"
  refine ⟨Nat.zero_le _, fun fl hfl => ⟨_, _, rfl, ?_⟩⟩
  have k2 : Go d g H (upd H1 fl (.lst [])) := k1.tnew hfl
  have hm2 : MarksAt (upd H1 fl (.lst [])) md ks := by
    obtain ⟨kvs, e1, e2⟩ := hm1
    exact ⟨kvs, (Keep.new hfl) _ _ e1, e2⟩
  have hf2 : upd H1 fl (.lst []) fl = some (.lst []) := upd_same
  have hf0 := k1.free hfl
  have hmf : md ≠ fl := by
    obtain ⟨kvs, e1, e2⟩ := hm1
    exact ne_of_none e1 hfl
  have hmd := hdr.nd hm0
  have hfd := hdr.nd hf0
  generalize upd H1 fl (.lst []) = H2 at k2 hm2 hf2 ⊢
  clear hfl k1 hm1
  walk_at "rd"
  refine rd_for (rd_iL ?_)
  walk_at "rd"
  refine ⟨l, rfl, ⟨xs, .inl (.inl (k2.lst hld hlg hl))⟩, ?_⟩
  refine for_list (xs := xs) (fun i σ H3 => ∃ (x5 x6 x7 x8 x9 x10 x11 x12 x13 x14 x15 : Option V) (vs : List V) (ks' : List Kd), σ = [some (.ref d), some (.ref l), some (.int wy), some (.ref md), some (.ref fl), x5, x6, x7, x8, x9, x10, x11, x12, x13, x14, x15] ∧ Go d g H H3 ∧ MarksAt H3 md ks ∧
    H3 fl = some (.lst vs) ∧ KdsAt H3 vs ks' ∧ Paired Sm (ks.take i) ks') ?_ ?_ ?_ ?_
  · exact ⟨_, _, _, _, _, _, _, _, _, _, _, [], [], rfl, k2, hm2, hf2, .nil, .nil⟩
  · rintro i σ H3 _ ⟨x5, x6, x7, x8, x9, x10, x11, x12, x13, x14, x15, vs, ks', rfl, k, hm, hf, hks', sm⟩
    exact .inl (.inl (k.lst hld hlg hl))
  · rintro i y σ H3 hy ⟨x5, x6, x7, x8, x9, x10, x11, x12, x13, x14, x15, vs, ks', rfl, k, hm, hf, hks', sm⟩
    obtain ⟨kd, hkd, hkt⟩ := Paired.at_ hks hy
    have hkm : kd ∈ ks := List.mem_of_getElem? hkd
    have hi : i < ks.length := (List.getElem?_eq_some_iff.mp hkd).1
    obtain ⟨pa, pb, rfl, hpa, hpb⟩ := k.kd hdr hkt
    refine rd_gtup (.inl (.inl hpa)) rfl ?_
    walk_at "rd"
    refine rd_dget ?_
    walk_at "rd"
    obtain ⟨cs, hcs⟩ := hm.get (b := kd.name) (nms_mem.mpr ⟨kd, hkm, rfl⟩)
    refine ⟨md, _, rfl, hcs, ?_⟩
    have fin : ∀ (cs : List Nat) (y11 y12 y13 y14 y15 : Option V) (H4 : Hp), Go d g H3 H4 →
        (tDrop (tBM K "list" rAppend (tVar 4) (tCons (tTup (tCons (tVar 5) (tCons (tVar 6) (tCons (tVar 7) (tCons (tVar 8) (tCons (tVar 10) tNil)))))) tNil))) { nx := fun σ' H5 => ∃ (x5 x6 x7 x8 x9 x10 x11 x12 x13 x14 x15 : Option V) (vs : List V) (ks' : List Kd), σ' = [some (.ref d), some (.ref l), some (.int wy), some (.ref md), some (.ref fl), x5, x6, x7, x8, x9, x10, x11, x12, x13, x14, x15] ∧ Go d g H H5 ∧ MarksAt H5 md ks ∧ H5 fl = some (.lst vs) ∧ KdsAt H5 vs ks' ∧ Paired Sm (ks.take (i + 1)) ks', rt := Q }
        [some (.ref d), some (.ref l), some (.int wy), some (.ref md), some (.ref fl), some (.str kd.name), some (.int kd.ed), some (.ref pb), some (.str kd.letter), some (.str kd.mark), some (.str (word cs)), y11, y12, y13, y14, y15] H4 := by
      intro cs y11 y12 y13 y14 y15 H4 k4
      have hf4 := k4.lst hfd.1 hfd.2 hf
      walk_at "rd"
      refine rd_bm ?_
      walk_at "rd"
      refine ⟨ty_lst (.inl (.inl hf4)), ?_⟩
      walk_at "rd"
      refine rd_tup ?_
      walk_at "rd"
      refine ⟨show 5 ≤ sizeLine by decide, fun p hp => ?_⟩
      have hpb4 := k4.at_ k.2 hpb (fun _ z => by cases z) (fun _ z => by cases z)
      have kp : Keep H4 (upd H4 p (.tup [.str kd.name, .int kd.ed, .ref pb, .str kd.letter, .str (word cs)])) := .new hp
      have hkd5 : KdAt (upd H4 p (.tup [.str kd.name, .int kd.ed, .ref pb, .str kd.letter, .str (word cs)])) (.ref p) ⟨kd.name, kd.ed, kd.bases, kd.letter, word cs⟩ := ⟨p, pb, rfl, upd_same, kp _ _ hpb4⟩
      generalize upd H4 p (.tup [.str kd.name, .int kd.ed, .ref pb, .str kd.letter, .str (word cs)]) = H5 at kp hkd5 ⊢
      have k5 := k4.tkeep kp
      have hf5 := kp _ _ hf4
      have hlen := Paired.length hks'
      have hlen2 := Paired.length sm
      rw [List.length_take] at hlen2
      walk_at "rd"
      refine rd_app hf5 (by omega) ?_
      refine ⟨_, _, _, _, _, _, _, _, _, _, _, vs ++ [.ref p], ks' ++ [⟨kd.name, kd.ed, kd.bases, kd.letter, word cs⟩], rfl, (k.trans k5).fresh hdr hf0, ?_, upd_same, ?_, ?_⟩
      · obtain ⟨kvs, e1, e2⟩ := hm
        exact ⟨kvs, by rw [upd_ne hmf]; exact k5.1 _ _ hmd.1 hmd.2 e1, e2⟩
      · exact paired_snoc (Paired.mapP (k5.kds k.2 hks') fun v a r => r.lst hf5) (hkd5.lst hf5)
      · rw [List.take_add_one, hkd]
        exact paired_snoc sm ⟨rfl, rfl, rfl, rfl, word_ok cs⟩
    walk_at "rd"
    refine rd_eq rfl ?_
    walk_at "rd"
    refine iteB (fun h => ?_) (fun h => ?_)
    · walk_at "rd"
      refine ⟨d, g, 3, rfl, k.2, by decide, by decide, fun r H4 r0 r1 k4 => ?_⟩
      walk_at "rd"
      refine rd_eq rfl ?_
      walk_at "rd"
      refine iteB (fun h => ?_) (fun h => ?_)
      · have hl4 := (k.trans k4).lst hld hlg hl
        have hk4 : KdsAt H4 xs ks := (k.trans k4).kds hdr hks
        walk_at "rd"
        refine rd_lcL ?_
        walk_at "rd"
        refine fin_L (.inl (.inl hl4)) hk4 (by omega) (fun o => decide (o.ed < kd.ed)) (fun o => V.str o.letter) ⟨fun y o H5 Kt r hm5 k5 q5 => ?_, fun y o H5 Ke r hm5 hc k5 q5 => ?_⟩ fun sl H5 k5 hs0 hs5 => ?_
        · obtain ⟨qa, qb, rfl, hqa, hqb⟩ := k5.kd r
          walk_at "rd"
          refine rd_ixT (.inl (.inl hqa)) (atI_nat (j := 1) rfl) ?_
          walk_at "rd"
          refine rd_lt ?_
          walk_at "rd"
          exact q5 H5 (.refl H5)
        · obtain ⟨qa, qb, rfl, hqa, hqb⟩ := k5.kd r
          walk_at "rd"
          refine rd_ixT (.inl (.inl hqa)) (atI_nat (j := 3) rfl) ?_
          exact q5 H5 (.refl H5)
        · have hs5 : H5 sl = some (.lst ((((ks.filter fun o => decide (o.ed < kd.ed)).map (·.letter))).map V.str)) := by
            rw [hs5, List.map_map]
            rfl
          have hone : ∀ z ∈ (ks.filter fun o => decide (o.ed < kd.ed)).map (·.letter), z.length = 1 := by
            intro z hz'
            obtain ⟨o, ho, rfl⟩ := List.mem_map.mp hz'
            exact (kd_parts (lay.2 o (List.mem_filter.mp ho).1)).2.2.2.2.2.2.2.1
          have hsl : ((ks.filter fun o => decide (o.ed < kd.ed)).map (·.letter)).length ≤ 24 := by
            rw [List.length_map]
            exact Nat.le_trans (List.length_filter_le _ _) l2
          generalize (ks.filter fun o => decide (o.ed < kd.ed)).map (·.letter) = zs at hs5 hone hsl
          have k35 := k4.tkeep k5
          have hsd := k4.2.nd hs0
          walk_at "rd"
          refine rd_bm ?_
          walk_at "rd"
          refine ⟨ty_lst (.inl (.inl hs5)), ?_⟩
          walk_at "rd"
          refine ⟨d, g, 26, rfl, k35.2, by decide, by decide, fun lr H6 lr0 lr1 k6 => ?_⟩
          walk_at "rd"
          refine ⟨lr, rfl, ?_⟩
          walk_at "rd"
          have hs6 := k6.lst hsd.1 hsd.2 hs5
          refine rd_app hs6 (by rw [List.length_map]; omega) ?_
          have hs7 : upd H6 sl (.lst (zs.map V.str ++ [.str (lett lr)])) sl = some (.lst ((zs ++ [lett lr]).map V.str)) := by
            rw [upd_same, List.map_append]
            rfl
          have k7 : Go d g H4 (upd H6 sl (.lst (zs.map V.str ++ [.str (lett lr)]))) := ((Go.keep k5 k4.2).trans k6).fresh k4.2 hs0
          have hone7 : ∀ z ∈ zs ++ [lett lr], z.length = 1 := by
            intro z hz'
            rcases List.mem_append.mp hz' with hz' | hz'
            · exact hone z hz'
            · rw [List.mem_singleton.mp hz']
              rfl
          have hlen7 : (zs ++ [lett lr]).length ≤ 25 ∧ 0 < (zs ++ [lett lr]).length := by
            rw [List.length_append, List.length_singleton]
            omega
          generalize upd H6 sl (.lst (zs.map V.str ++ [.str (lett lr)])) = H7 at hs7 k7 ⊢
          generalize zs ++ [lett lr] = ws at hs7 hone7 hlen7
          have k37 := k4.trans k7
          walk_at "rd"
          refine rd_lenL (.inl (.inl hs7)) ?_
          rw [List.length_map]
          walk_at "rd"
          refine ⟨d, g, _, rfl, k7.2, by omega, by omega, fun wr H8 wr0 wr1 k8 => ?_⟩
          obtain ⟨n, rfl, hn⟩ := nat_of wr0 wr1
          have hs8 := k8.lst hsd.1 hsd.2 hs7
          have k38 := k37.trans k8
          obtain ⟨sc, hsc⟩ := one_sing (hone7 ws[n] (List.getElem_mem hn))
          refine rd_ixL (v := .str ⟨#[sc]⟩) (.inl (.inl hs8)) (atI_nat (by rw [List.getElem?_map, List.getElem?_eq_getElem hn, hsc]; rfl)) ?_
          walk_at "rd"
          refine rd_inS ?_
          walk_at "rd"
          have fin2 : ∀ (ml : Addr) (mc : List Nat) (H9 : Hp), Keep H8 H9 → H9 ml = some (.lst (mc.map fun c => V.str ⟨#[c]⟩)) → mc.length ≤ 1 →
              (tSeq (tAsg (tCall (sp__law_word K) [] E0 (tCons (tOp rCat (tLc (iStr (tVar 10)) (gName 15) (tTest (tOp rNe (tVar 15) (tVar 12))) (tVar 15) [15]) (tVar 13)) tNil)) (gName 10)) (fun D σ H => D.nx σ H)) { nx := fun σ' H' => (tDrop (tBM K "list" rAppend (tVar 4) (tCons (tTup (tCons (tVar 5) (tCons (tVar 6) (tCons (tVar 7) (tCons (tVar 8) (tCons (tVar 10) tNil)))))) tNil))) { nx := fun σ' H5 => ∃ (x5 x6 x7 x8 x9 x10 x11 x12 x13 x14 x15 : Option V) (vs : List V) (ks' : List Kd), σ' = [some (.ref d), some (.ref l), some (.int wy), some (.ref md), some (.ref fl), x5, x6, x7, x8, x9, x10, x11, x12, x13, x14, x15] ∧ Go d g H H5 ∧ MarksAt H5 md ks ∧ H5 fl = some (.lst vs) ∧ KdsAt H5 vs ks' ∧ Paired Sm (ks.take (i + 1)) ks', rt := Q } σ' H', rt := Q }
              [some (.ref d), some (.ref l), some (.int wy), some (.ref md), some (.ref fl), some (.str kd.name), some (.int kd.ed), some (.ref pb), some (.str kd.letter), some (.str kd.mark), some (.str (word cs)), some (.ref sl), some (.str ⟨#[sc]⟩), some (.ref ml), x14, x15] H9 := by
            intro ml mc H9 k9 hml hmc
            have hwl := word_len cs
            have hwc : (word cs).cps.toList.length ≤ 26 := by rw [len_cps]; exact hwl
            walk_at "rd"
            refine rd_lcS ?_
            walk_at "rd"
            refine fin_S (by omega) (fun c => !decide (c = sc)) (fun c => V.str ⟨#[c]⟩) ⟨fun y c H10 Kt r hm10 k10 q10 => ?_, fun y c H10 Ke r hm10 hc k10 q10 => ?_⟩ fun cl H10 k10 hc0 hc10 => ?_
            · subst r
              walk_at "rd"
              refine rd_ne rfl ?_
              walk_at "rd"
              have e : decide (V.str ⟨#[c]⟩ = V.str ⟨#[sc]⟩) = decide (c = sc) := by
                refine decide_eq_decide.mpr ⟨fun h => ?_, fun h => by rw [h]⟩
                simpa using h
              rw [e]
              exact q10 H10 (.refl H10)
            · subst r
              walk_at "rd"
              exact q10 H10 (.refl H10)
            · walk_at "rd"
              refine rd_cat hc10 (k10 _ _ hml) ?_ fun nl hnl => ?_
              · have := List.length_filter_le (fun c => !decide (c = sc)) (word cs).cps.toList
                simp only [List.length_map]
                omega
              · walk_at "rd"
                refine ⟨.ref nl, ((word cs).cps.toList.filter fun c => !decide (c = sc)) ++ mc, rfl, .inr ⟨nl, rfl, .inl (.inl (by rw [upd_same, List.map_append]))⟩, fun H11 k11 => ?_⟩
                walk_at "rd"
                exact fin _ _ _ _ _ _ H11 (((k38.tkeep k9).tkeep k10).tkeep ((Keep.new hnl).trans k11))
          refine iteB (fun h => ?_) (fun h => ?_)
          · refine rd_lst ?_
            walk_at "rd"
            refine ⟨Nat.zero_le _, fun ml hml => ?_⟩
            exact fin2 ml [] _ (.new hml) upd_same (by decide)
          · refine rd_lst ?_
            walk_at "rd"
            refine ⟨show 1 ≤ sizeLine by decide, fun ml hml => ?_⟩
            exact fin2 ml [sc] _ (.new hml) upd_same (show 1 ≤ 1 by decide)
      · refine rd_next ?_
        exact fin cs _ _ _ _ _ H4 k4
    · exact fin cs _ _ _ _ _ H3 (.refl k.2)
  · rintro σ H3 ⟨x5, x6, x7, x8, x9, x10, x11, x12, x13, x14, x15, vs, ks', rfl, k, hm, hf, hks', sm⟩
    walk_at "rd"
    rw [hxl, List.take_length] at sm
    refine rd_tupL (.inl (.inl hf)) fun t ht => ?_
    refine q (.ref t) ks' _ (k.tnew ht) ⟨t, vs, rfl, .inl (.inl upd_same), (Keep.new ht).kds hks'⟩ (sm_lay sm lay) (Paired.length sm).symm
theorem r__law_layout {P : Program} {w : World} {K : PySem.W.Frag} {vs : List V} {H : Hp} {Q : VK} {E : XK} (h : sp__law_layout K vs H Q E) : t__law_layout P w K { nx := fun _ H' => Q .non H', rt := Q } (L2.start N__law_layout vs) H := by
  obtain ⟨d, g, m, rfl, hdr, m1, m2, q⟩ := h
  unfold t__law_layout
  walk_at "rd"
  refine ⟨d, g, m, rfl, hdr, m1, m2, fun l xs ks H1 k1 hl hks hld hlg lay hlen => ?_⟩
  walk_at "rd"
  refine ⟨d, g, 4, rfl, k1.2, by decide, by decide, fun r H2 r0 r1 k2 => ?_⟩
  walk_at "rd"
  refine ⟨d, g, l, xs, ks, r, rfl, k2.2, k2.lst hld hlg hl, k2.kds k1.2 hks, lay, hld, hlg, fun v ks' H3 k3 hp lay' hl' => ?_⟩
  exact q v ks' H3 ((k1.trans k2).trans k3) hp lay' (by omega)
theorem r__law_roots {P : Program} {w : World} {K : PySem.W.Frag} {vs : List V} {H : Hp} {Q : VK} {E : XK} (h : sp__law_roots K vs H Q E) : t__law_roots P w K { nx := fun _ H' => Q .non H', rt := Q } (L2.start N__law_roots vs) H := by
  obtain ⟨v, ks, u, nm, rfl, ⟨a, xs, rfl, sq, hks⟩, lay, hu, hnm, q⟩ := h
  have hxl : xs.length = ks.length := Paired.length hks
  have hz : sizeLine = 16777216 := by decide
  obtain ⟨l1, l2⟩ := lay.len
  unfold t__law_roots
  walk_at "rd"
  refine rd_lcT ?_
  walk_at "rd"
  refine fin_T sq hks (by omega) (fun k => decide (k.name ∈ look (undr ks) nm) && k.bases.isEmpty) (fun k => V.str k.name) ⟨fun y o H1 Kt r hm k1 q1 => ?_, fun y o H1 Ke r hm hc k1 q1 => ?_⟩ fun l H1 k1 hl0 hl1 => ?_
  · obtain ⟨qa, qb, rfl, hqa, hqb⟩ := k1.kd r
    walk_at "rd"
    refine rd_ixT (.inl (.inl hqa)) (atI_nat (j := 0) rfl) ?_
    refine rd_dget ?_
    walk_at "rd"
    obtain ⟨ul, hg, hul⟩ := (k1.undL hu).get (b := nm) (by unfold undr; rw [undGo_keys]; exact hnm)
    refine ⟨u, _, rfl, hg, ?_⟩
    refine rd_inL (.inl (.inl hul)) ?_
    walk_at "rd"
    refine iteB (fun h => ?_) (fun h => ?_)
    · rw [h, Bool.true_and] at q1
      walk_at "rd"
      refine rd_ixT (.inl (.inl hqa)) (atI_nat (j := 2) rfl) ?_
      refine rd_tup ?_
      walk_at "rd"
      refine ⟨Nat.zero_le _, fun p hp => ?_⟩
      refine rd_eqT0 (.inl (.inl ((Keep.new hp) _ _ hqb))) (.inl (.inl upd_same)) (kd_asc (lay.2 o hm)).2.1 ?_
      walk_at "rd"
      exact q1 _ (.new hp)
    · rw [h, Bool.false_and] at q1
      exact q1 H1 (.refl H1)
  · obtain ⟨qa, qb, rfl, hqa, hqb⟩ := k1.kd r
    walk_at "rd"
    refine rd_ixT (.inl (.inl hqa)) (atI_nat (j := 0) rfl) ?_
    exact q1 H1 (.refl H1)
  · refine q l H1 k1 hl0 ?_
    rw [hl1, rts_eq, List.map_map]
    rfl
end Cp
set_option maxHeartbeats 8000000
/-! Held. -/
namespace Cp
open PySem L2 LamX
local macro_rules | `(tactic| walk_at "rd") => `(tactic| repeat (first
  | with_reducible apply rd_seq | with_reducible apply rd_asg | with_reducible apply rd_gname | with_reducible apply rd_if | with_reducible apply rd_ret | with_reducible apply rd_drop | with_reducible apply rd_next
  | with_reducible apply rd_op | with_reducible apply rd_cb | with_reducible apply rd_cons | with_reducible apply rd_nil | with_reducible apply rd_c | with_reducible apply rd_tb | with_reducible apply rd_test | with_reducible apply rd_not
  | with_reducible apply rd_or | with_reducible apply rd_and | with_reducible apply rd_call | with_reducible apply rd_chain | with_reducible apply rd_andV | with_reducible apply rd_notV | with_reducible apply rd_ifx
  | with_reducible apply rd_gcons | with_reducible apply rd_gnil
  | ((with_reducible apply rd_var); exact rfl) | (with_reducible apply rd_bk)))
def numOf : Option V → Int
  | some (.int n) => n
  | _ => 7
def HeldK (H : Hp) (kvs : List (Key × V)) (ks : List Kd) : Prop := ∀ k ∈ ks, ∀ v, valV kvs (.inr k.name : Key) = some v → if k.bases = [] then ∃ n : Int, v = .int n ∧ 0 ≤ n ∧ n ≤ 999999 else ∃ ns : List Int, TupAt H v (ns.map V.int) ∧ ns.length ≤ 24 ∧ ∀ n ∈ ns, 0 ≤ n ∧ n ≤ 999999
theorem HeldK.mono {H H' : Hp} {kvs : List (Key × V)} {ks : List Kd} (h : HeldK H kvs ks) (k : ∀ v xs, TupAt H v xs → TupAt H' v xs) : HeldK H' kvs ks := by
  intro kd hk v hv
  have q := h kd hk v hv
  split at q
  · rename_i e
    rw [if_pos e]
    exact q
  · rename_i e
    rw [if_neg e]
    obtain ⟨ns, h1, h2⟩ := q
    exact ⟨ns, k _ _ h1, h2⟩
theorem HeldK.put {H : Hp} {kvs : List (Key × V)} {ks : List Kd} {kd : Kd} {x : V} (S : Std ks) (hm : kd ∈ ks) (h : HeldK H kvs ks) (hx : if kd.bases = [] then ∃ n : Int, x = .int n ∧ 0 ≤ n ∧ n ≤ 999999 else ∃ ns : List Int, TupAt H x (ns.map V.int) ∧ ns.length ≤ 24 ∧ ∀ n ∈ ns, 0 ≤ n ∧ n ≤ 999999) : HeldK H (putK kvs (.inr kd.name) x) ks := by
  intro k hk v hv
  rw [valV_put] at hv
  split at hv
  · rename_i e
    have e : k.name = kd.name := by simpa using e
    obtain ⟨i, hi⟩ := List.mem_iff_getElem?.mp hk
    obtain ⟨j, hj⟩ := List.mem_iff_getElem?.mp hm
    have := S.inj hi hj e
    subst this
    rw [hi] at hj
    cases hj
    cases hv
    exact hx
  · exact h k hk v hv
theorem r__law_held {P : Program} {w : World} {K : PySem.W.Frag} {vs : List V} {H : Hp} {Q : VK} {E : XK} (h : sp__law_held K vs H Q E) : t__law_held P w K { nx := fun _ H' => Q .non H', rt := Q } (L2.start N__law_held vs) H := by
  obtain ⟨d, g, v, ks, u, rfl, hdr, hp, lay, hu, q⟩ := h
  obtain ⟨a, xs, rfl, sq, hks⟩ := id hp
  have S := lay.std
  obtain ⟨l1, l2⟩ := lay.len
  have hxl : xs.length = ks.length := Paired.length hks
  have hz : sizeLine = 16777216 := by decide
  unfold t__law_held
  walk_at "rd"
  refine rd_tup ?_
  walk_at "rd"
  refine rd_dnew fun hd hhd => ?_
  walk_at "rd"
  refine rd_lst ?_
  walk_at "rd"
  have k1 : Keep H (upd H hd (.dK [])) := .new hhd
  have hh1 : upd H hd (.dK []) hd = some (.dK []) := upd_same
  generalize upd H hd (.dK []) = H1 at k1 hh1 ⊢
  have hdd := hdr.nd hhd
  refine ⟨d, g, 1000000, rfl, k1.draw hdr, by decide, by decide, fun r H2 r0 r1 k2 => ?_⟩
  have hh2 := k2.1 _ _ hdd.1 hdd.2 hh1
  have k2 : Go d g H H2 := (Go.keep k1 hdr).trans k2
  walk_at "rd"
  refine ⟨show 5 ≤ sizeLine by decide, fun sl hsl => ?_⟩
  walk_at "rd"
  refine ⟨show 2 ≤ sizeLine by decide, fun tp htp => ?_⟩
  refine rd_gtup (.inl (.inl upd_same)) rfl ?_
  have k3 := (k2.tnew (o := .lst [.int 0, .int 1, .int 2, .int 999999, .int r]) hsl).tnew (o := .tup [.ref hd, .ref sl]) htp
  have hs3 : upd (upd H2 sl (.lst [.int 0, .int 1, .int 2, .int 999999, .int r])) tp (.tup [.ref hd, .ref sl]) sl = some (.lst (([0, 1, 2, 999999, r] : List Int).map V.int)) := by
    rw [upd_ne (ne_of_none upd_same htp), upd_same]
    rfl
  have hh3 : upd (upd H2 sl (.lst [.int 0, .int 1, .int 2, .int 999999, .int r])) tp (.tup [.ref hd, .ref sl]) hd = some (.dK []) := ((Keep.new hsl).tnew htp) _ _ hh2
  have hs0 := k2.free hsl
  have hsd := hdr.nd hs0
  have hsh : sl ≠ hd := fun z => by rw [z, hh2] at hsl; cases hsl
  generalize upd (upd H2 sl (.lst [.int 0, .int 1, .int 2, .int 999999, .int r])) tp (.tup [.ref hd, .ref sl]) = H3 at k3 hs3 hh3 ⊢
  clear htp hsl hh1 hh2 k1
  have h5 : ∀ n ∈ ([0, 1, 2, 999999, r] : List Int), 0 ≤ n ∧ n ≤ 999999 := by
    intro n hn
    simp only [List.mem_cons, List.not_mem_nil, or_false] at hn
    omega
  have hl5 : ([0, 1, 2, 999999, r] : List Int).length = 5 := rfl
  generalize ([0, 1, 2, 999999, r] : List Int) = n5 at hs3 h5 hl5
  walk_at "rd"
  refine ⟨d, g, 4, rfl, k3.2, by decide, by decide, fun sr H4 s0 s1 k4 => ?_⟩
  have hs4 := k4.lst hsd.1 hsd.2 hs3
  have hh4 := k4.1 _ _ hdd.1 hdd.2 hh3
  have k4 := k3.trans k4
  refine rd_add ?_
  walk_at "rd"
  refine rd_for (rd_iT ?_)
  walk_at "rd"
  refine ⟨a, rfl, ⟨xs, k4.sqT hdr sq⟩, ?_⟩
  refine for_tup (xs := xs) (fun i σ H5 => ∃ (x6 x7 x8 x9 x10 x11 x12 : Option V) (kvs : List (Key × V)), σ = [some (.ref d), some (.ref a), some (.ref u), some (.ref hd), some (.ref sl), some (.int (1 + sr)), x6, x7, x8, x9, x10, x11, x12] ∧ Go d g H H5 ∧ H5 sl = some (.lst (n5.map V.int)) ∧
    H5 hd = some (.dK kvs) ∧ kvs.length ≤ i ∧ HeldK H5 kvs ks) ?_ ?_ ?_ ?_
  · exact ⟨_, _, _, _, _, _, _, [], rfl, k4, hs4, hh4, Nat.le_refl _, fun k _ v hv => by cases hv⟩
  · rintro i σ H5 _ ⟨x6, x7, x8, x9, x10, x11, x12, kvs, rfl, k, _⟩
    exact k.sqT hdr sq
  · rintro i y σ H5 hy ⟨x6, x7, x8, x9, x10, x11, x12, kvs, rfl, k, hs, hh, hkl, hk⟩
    obtain ⟨kd, hkd, hkt⟩ := Paired.at_ hks hy
    have hkm : kd ∈ ks := List.mem_of_getElem? hkd
    have hi : i < ks.length := (List.getElem?_eq_some_iff.mp hkd).1
    obtain ⟨pa, pb, rfl, hpa, hpb⟩ := k.kd hdr hkt
    refine rd_gtup (.inl (.inl hpa)) rfl ?_
    walk_at "rd"
    refine ⟨d, g, 5, rfl, k.2, by decide, by decide, fun r H6 r0 r1 k6 => ?_⟩
    walk_at "rd"
    refine rd_lt ?_
    walk_at "rd"
    have hs6 := k6.lst hsd.1 hsd.2 hs
    have hh6 := k6.1 _ _ hdd.1 hdd.2 hh
    have hpb6 := k6.at_ k.2 hpb (fun _ z => by cases z) (fun _ z => by cases z)
    have hk6 : HeldK H6 kvs ks := hk.mono fun v xs h => k6.tup k.2 h
    have k6 := k.trans k6
    -- a value is put
    have fin : ∀ (x : V) (y11 y12 : Option V) (H7 : Hp), Go d g H H7 → H7 sl = some (.lst (n5.map V.int)) → H7 hd = some (.dK kvs) → HeldK H7 kvs ks → (if kd.bases = [] then ∃ n : Int, x = .int n ∧ 0 ≤ n ∧ n ≤ 999999 else ∃ ns : List Int, TupAt H7 x (ns.map V.int) ∧ ns.length ≤ 24 ∧ ∀ n ∈ ns, 0 ≤ n ∧ n ≤ 999999) →
        gSub (tVar 3) (tVar 6) rSetD x [some (.ref d), some (.ref a), some (.ref u), some (.ref hd), some (.ref sl), some (.int (1 + sr)), some (.str kd.name), some (.int kd.ed), some (.ref pb), some (.str kd.letter), some (.str kd.mark), y11, y12] H7 fun σ H5 => ∃ (x6 x7 x8 x9 x10 x11 x12 : Option V) (kvs : List (Key × V)), σ = [some (.ref d), some (.ref a), some (.ref u), some (.ref hd), some (.ref sl), some (.int (1 + sr)), x6, x7, x8, x9, x10, x11, x12] ∧ Go d g H H5 ∧ H5 sl = some (.lst (n5.map V.int)) ∧
          H5 hd = some (.dK kvs) ∧ kvs.length ≤ i + 1 ∧ HeldK H5 kvs ks := by
      intro x y11 y12 H7 k7 hs7 hh7 hk7 hx
      refine rd_gsub ?_
      walk_at "rd"
      refine rd_set (k := .inr kd.name) hh7 (by omega) ?_
      refine ⟨_, _, _, _, _, _, _, putK kvs (.inr kd.name) x, rfl, k7.fresh hdr hhd, by rw [upd_ne hsh]; exact hs7, upd_same, Nat.le_trans (length_putK _ _ _) (by omega), ?_⟩
      exact (hk7.put S hkm hx).mono fun v xs ⟨b, e1, e2⟩ => ⟨b, e1, by rw [upd_ne (ne_of e2 hh7 (fun z => by cases z))]; exact e2⟩
    -- one of the five
    have five : ∀ (H7 : Hp) (Q' : VK) (σ : St), σ[0]? = some (some (.ref d)) → σ[4]? = some (some (.ref sl)) → DrawAt H7 d g → H7 sl = some (.lst (n5.map V.int)) → (∀ n H8, Go d g H7 H8 → 0 ≤ n → n ≤ 999999 → Q' (.int n) H8) → tOp (rIxL K) (tVar 4) (tCall (sp__law_next K) [] E0 (tCons (tVar 0) (tCons (tC (.int 5)) tNil))) σ H7 Q' := by
      intro H7 Q' σ e0 e4 hdr7 hs7 q7
      refine rd_op (rd_var e4 (rd_call (rd_cons (rd_var e0 (rd_cons (rd_c (rd_nil ?_)))))))
      refine ⟨d, g, 5, rfl, hdr7, by decide, by decide, fun r H8 r0 r1 k8 => ?_⟩
      obtain ⟨n, rfl, hn⟩ := nat_of (b := 5) r0 r1
      have hn5 : n < n5.length := by omega
      obtain ⟨b0, b1⟩ := h5 n5[n] (List.getElem_mem hn5)
      exact rd_ixL (v := .int n5[n]) (.inl (.inl (k8.lst hsd.1 hsd.2 hs7))) (atI_nat (by rw [List.getElem?_map, List.getElem?_eq_getElem hn5]; rfl)) (q7 _ H8 k8 b0 b1)
    refine iteB (fun h => ?_) (fun h => ?_)
    · walk_at "rd"
      refine rd_tup ?_
      walk_at "rd"
      refine ⟨Nat.zero_le _, fun p hpp => ?_⟩
      have kp : Keep H6 (upd H6 p (.tup [])) := .new hpp
      refine rd_eqT0 (.inl (.inl (kp _ _ hpb6))) (.inl (.inl upd_same)) (kd_asc (lay.2 kd hkm)).2.1 ?_
      have hs7 := kp _ _ hs6
      have hh7 := kp _ _ hh6
      have hk7 : HeldK (upd H6 p (.tup [])) kvs ks := hk6.mono fun v xs h => kp.tup h
      have k7 := k6.tkeep kp
      generalize upd H6 p (.tup []) = H7 at hs7 hh7 hk7 k7 ⊢
      walk_at "rd"
      refine iteB (fun h => ?_) (fun h => ?_)
      · refine rd_asg ?_
        refine five H7 _ _ rfl rfl k7.2 hs7 fun n H8 k8 n0 n1 => ?_
        refine fin (.int n) _ _ H8 (k7.trans k8) (k8.lst hsd.1 hsd.2 hs7) (k8.1 _ _ hdd.1 hdd.2 hh7) (hk7.mono fun v xs h => k8.tup k7.2 h) ?_
        rw [if_pos (List.isEmpty_iff.mp h)]
        exact ⟨n, rfl, n0, n1⟩
      · have hbs : kd.bases ≠ [] := fun e => by rw [e] at h; cases h
        walk_at "rd"
        refine rd_lcL ?_
        walk_at "rd"
        refine ⟨.ref a, ks, u, kd.name, rfl, k7.plan hdr hp, lay, hu H7 k7, nms_mem.mpr ⟨kd, hkm, rfl⟩, fun rl H8 k8 hr0 hr8 => ?_⟩
        have hh8 := k8 _ _ hh7
        have hrl : (rts ks kd.name).length ≤ 24 := Nat.le_trans (rts_len _) l2
        have hrp : rts ks kd.name ≠ [] := fun e => hbs ((rts_nil S hkm).mp e)
        refine fin_L (.inl (.inl hr8)) (paired_map _ _) (by rw [List.length_map]; omega) (fun _ => true) (fun o => V.int (numOf (valV kvs (.inr o : Key)))) (.all fun y o H9 Ke r hm9 k9 q9 => ?_) fun tl H9 k9 ht0 ht9 => ?_
        · subst r
          refine rd_var rfl ⟨hd, rfl, .inl ⟨kvs, .inl (k9 _ _ hh8)⟩, rd_var rfl (rd_c ⟨_, DGet.k (k := .inr o) (k9 _ _ hh8), ?_⟩)⟩
          have hbase : ∃ k ∈ ks, k.name = o ∧ k.bases = [] := by
            rw [rts_eq] at hm9
            obtain ⟨k, hkf, e⟩ := List.mem_map.mp hm9
            obtain ⟨h1, h2⟩ := List.mem_filter.mp hkf
            rw [Bool.and_eq_true] at h2
            exact ⟨k, h1, e, List.isEmpty_iff.mp h2.2⟩
          obtain ⟨k, hkk, rfl, hkb⟩ := hbase
          have q10 := q9 H9 (.refl H9)
          cases hv : valV kvs (.inr k.name : Key) with
          | none => rw [hv] at q10; exact q10
          | some v =>
            have e := hk7 k hkk v hv
            rw [if_pos hkb] at e
            obtain ⟨n, rfl, _⟩ := e
            rw [hv] at q10
            exact q10
        · rw [filt_all] at ht9
          have ht9 : H9 tl = some (.lst (((rts ks kd.name).map fun o => numOf (valV kvs (.inr o : Key))).map V.int)) := by
            rw [ht9, List.map_map]
            rfl
          have hrng : ∀ n ∈ (rts ks kd.name).map fun o => numOf (valV kvs (.inr o : Key)), 0 ≤ n ∧ n ≤ 999999 := by
            intro n hn
            obtain ⟨o, ho, rfl⟩ := List.mem_map.mp hn
            rw [rts_eq] at ho
            obtain ⟨k, hkf, rfl⟩ := List.mem_map.mp ho
            obtain ⟨h1, h2⟩ := List.mem_filter.mp hkf
            rw [Bool.and_eq_true] at h2
            cases hv : valV kvs (.inr k.name : Key) with
            | none => exact ⟨by decide, by decide⟩
            | some v =>
              have e := hk7 k h1 v hv
              rw [if_pos (List.isEmpty_iff.mp h2.2)] at e
              obtain ⟨n, rfl, e0, e1⟩ := e
              exact ⟨e0, e1⟩
          have hnl : ((rts ks kd.name).map fun o => numOf (valV kvs (.inr o : Key))).length ≤ 24 ∧ 0 < ((rts ks kd.name).map fun o => numOf (valV kvs (.inr o : Key))).length := by
            rw [List.length_map]
            exact ⟨hrl, List.length_pos_iff.mpr hrp⟩
          generalize (rts ks kd.name).map (fun o => numOf (valV kvs (.inr o : Key))) = ns at ht9 hrng hnl
          have k79 := k8.trans k9
          have ht7 := k8.free ht0
          have htd := k7.2.nd ht7
          have fin2 : ∀ (ns : List Int) (H10 : Hp), Go d g H7 H10 → H10 tl = some (.lst (ns.map V.int)) → ns.length ≤ 24 → (∀ n ∈ ns, 0 ≤ n ∧ n ≤ 999999) → (tAsg (tCB (rTupL K) (tCons (tVar 11) tNil)) (gSub (tVar 3) (tVar 6) rSetD)) { nx := fun σ H5 => ∃ (x6 x7 x8 x9 x10 x11 x12 : Option V) (kvs : List (Key × V)), σ = [some (.ref d), some (.ref a), some (.ref u), some (.ref hd), some (.ref sl), some (.int (1 + sr)), x6, x7, x8, x9, x10, x11, x12] ∧ Go d g H H5 ∧ H5 sl = some (.lst (n5.map V.int)) ∧ H5 hd = some (.dK kvs) ∧ kvs.length ≤ i + 1 ∧ HeldK H5 kvs ks, rt := Q }
              [some (.ref d), some (.ref a), some (.ref u), some (.ref hd), some (.ref sl), some (.int (1 + sr)), some (.str kd.name), some (.int kd.ed), some (.ref pb), some (.str kd.letter), some (.str kd.mark), some (.ref tl), x12] H10 := by
            intro ns H10 k10 ht10 hl10 hr10
            walk_at "rd"
            refine rd_tupL (.inl (.inl ht10)) fun tp htp => ?_
            have kt : Keep H10 (upd H10 tp (.tup (ns.map V.int))) := .new htp
            have hh10 := k10.1 _ _ hdd.1 hdd.2 hh7
            refine fin (.ref tp) _ _ _ ((k7.trans k10).tkeep kt) (kt _ _ (k10.lst hsd.1 hsd.2 hs7)) (kt _ _ hh10) ((hk7.mono fun v xs h => k10.tup k7.2 h).mono fun v xs h => kt.tup h) ?_
            rw [if_neg hbs]
            exact ⟨ns, ⟨tp, rfl, upd_same⟩, hl10, hr10⟩
          walk_at "rd"
          refine ⟨d, g, 4, rfl, (k7.tkeep k79).2, by decide, by decide, fun r H10 r0 r1 k10 => ?_⟩
          have ht10 := k10.lst htd.1 htd.2 ht9
          have k10 : Go d g H7 H10 := (Go.keep k79 k7.2).trans k10
          walk_at "rd"
          refine rd_eq rfl ?_
          walk_at "rd"
          refine iteB (fun h => ?_) (fun h => ?_)
          · refine rd_asg ?_
            refine five H10 _ _ rfl rfl k10.2 (k10.lst hsd.1 hsd.2 hs7) fun n H11 k11 n0 n1 => ?_
            have ht11 := k11.lst htd.1 htd.2 ht10
            refine rd_gsub ?_
            walk_at "rd"
            refine rd_lenL (.inl (.inl ht11)) ?_
            walk_at "rd"
            rw [List.length_map]
            refine ⟨d, g, _, rfl, k11.2, by omega, by omega, fun wr H12 w0 w1 k12 => ?_⟩
            obtain ⟨m, rfl, hm⟩ := nat_of w0 w1
            have ht12 := k12.lst htd.1 htd.2 ht11
            refine rd_setL ht12 (by rw [List.length_map]; exact hm) ?_
            rw [← List.map_set]
            refine fin2 (ns.set m n) _ (((k10.trans k11).trans k12).fresh k7.2 ht7) upd_same (by rw [List.length_set]; exact hnl.1) fun x hx => ?_
            rcases List.mem_or_eq_of_mem_set hx with hx | rfl
            · exact hrng x hx
            · exact ⟨n0, n1⟩
          · refine rd_next ?_
            exact fin2 ns H10 k10 ht10 hnl.1 hrng
    · walk_at "rd"
      exact ⟨_, _, _, _, _, _, _, kvs, rfl, k6, hs6, hh6, by omega, hk6⟩
  · rintro σ H5 ⟨x6, x7, x8, x9, x10, x11, x12, kvs, rfl, k, hs, hh, hkl, hk⟩
    walk_at "rd"
    exact q hd H5 k ⟨kvs, hh, hk⟩
end Cp
set_option maxHeartbeats 8000000
/-! The law's readers. -/
namespace Cp
open PySem L2 LamX
local macro_rules | `(tactic| walk_at "rd") => `(tactic| repeat (first
  | with_reducible apply rd_seq | with_reducible apply rd_asg | with_reducible apply rd_gname | with_reducible apply rd_if | with_reducible apply rd_ret | with_reducible apply rd_drop | with_reducible apply rd_next
  | with_reducible apply rd_op | with_reducible apply rd_cb | with_reducible apply rd_cons | with_reducible apply rd_nil | with_reducible apply rd_c | with_reducible apply rd_tb | with_reducible apply rd_test | with_reducible apply rd_not
  | with_reducible apply rd_or | with_reducible apply rd_and | with_reducible apply rd_call | with_reducible apply rd_chain | with_reducible apply rd_andV | with_reducible apply rd_notV | with_reducible apply rd_ifx
  | with_reducible apply rd_gcons | with_reducible apply rd_gnil
  | ((with_reducible apply rd_var); exact rfl) | (with_reducible apply rd_bk)))
/-! ### readers of the law -/
def badIn (t z : Str) : List Nat := z.cps.toList.filter fun c => !decide (c ∈ t.cps.toList)
theorem bad_empty (t z : Str) : ((badIn t z).map fun c => (⟨#[c]⟩ : Str)).isEmpty = allOf t z := by
  unfold badIn allOf
  rw [Bool.eq_iff_iff, List.isEmpty_iff, List.map_eq_nil_iff, List.filter_eq_nil_iff, List.all_eq_true]
  refine forall_congr' fun c => forall_congr' fun _ => ?_
  cases decide (c ∈ t.cps.toList) <;> simp
theorem bad_asc {t z : Str} (h : Asc z) : ∀ x ∈ (badIn t z).map fun c => (⟨#[c]⟩ : Str), Asc x := by
  intro x hx
  obtain ⟨c, hc, rfl⟩ := List.mem_map.mp hx
  intro e he
  have : e = c := by simpa using he
  rw [this]
  exact h c (List.mem_filter.mp hc).1
theorem fin_nin {σ : St} {j : Nat} {t z : Str} {H1 : Hp} {Q : VK} (hz : z.length ≤ sizeLine) (hj : ∀ (σ' : St) (v : V) (P : VK) (H : Hp), P v H → tVar j ((wipe σ [j]).set j (some v)) H P)
    (q : ∀ D H', Keep H1 H' → H' D = some (.lst (((badIn t z).map fun c => (⟨#[c]⟩ : Str)).map V.str)) → Q (.ref D) H') : ∃ x, V.str z = .str x ∧ LcK (Its x) j (tTest (tOp rNinS (tVar j) (tC (.str t)))) (tVar j) σ Q H1 :=
  fin_S hz (fun c => !decide (c ∈ t.cps.toList)) (fun c => V.str ⟨#[c]⟩) ⟨fun x c H Kt r _ _ q => by
      subst r
      refine rd_test (rd_op ?_)
      refine hj σ _ _ _ ?_
      refine rd_c (rd_ninS ?_)
      exact ⟨_, rfl, q H (.refl H)⟩, fun x c H Ke r _ _ _ q => by
      subst r
      exact hj σ _ _ _ (q H (.refl H))⟩ fun D H' k _ hD => by
    refine q D H' k ?_
    rw [hD, List.map_map]
    rfl
theorem r__law_is_title {P : Program} {w : World} {K : PySem.W.Frag} {vs : List V} {H : Hp} {Q : VK} {E : XK} (h : sp__law_is_title K vs H Q E) : t__law_is_title P w K { nx := fun _ H' => Q .non H', rt := Q } (L2.start N__law_is_title vs) H := by
  obtain ⟨z, rfl, hz, q⟩ := h
  unfold t__law_is_title
  walk_at "rd"
  refine rd_lenS hz.le ?_
  refine chain_lt (fun P p => p) ?_
  have e : (decide ((0 : Int) < z.length) && decide ((z.length : Int) < 9)) = (decide (1 ≤ z.length) && decide (z.length ≤ 8)) := by
    congr 1 <;> simp only [decide_eq_decide] <;> omega
  rw [e]
  refine ⟨_, rfl, ?_⟩
  unfold nameOk at q
  refine iteB (fun h => ?_) (fun h => ?_)
  · rw [h, Bool.true_and] at q
    walk_at "rd"
    refine rd_lcS ?_
    walk_at "rd"
    refine fin_nin hz.le (var_set (show 1 < 2 by decide)) fun D H1 k1 hD => ?_
    walk_at "rd"
    refine rd_lst ?_
    walk_at "rd"
    refine ⟨Nat.zero_le _, fun l hl => ?_⟩
    refine rd_eqS0 (.inl (.inl ((Keep.new hl) _ _ hD))) (.inl (.inl upd_same)) (bad_asc hz.2) ?_
    rw [bad_empty]
    exact q _ (k1.tnew hl)
  · rw [h, Bool.false_and] at q
    exact q H (.refl H)
theorem r__law_number {P : Program} {w : World} {K : PySem.W.Frag} {vs : List V} {H : Hp} {Q : VK} {E : XK} (h : sp__law_number K vs H Q E) : t__law_number P w K { nx := fun _ H' => Q .non H', rt := Q } (L2.start N__law_number vs) H := by
  obtain ⟨z, a, b, rfl, hz, q⟩ := h
  have hle := hz.le
  unfold t__law_number
  walk_at "rd"
  refine rd_eq rfl ?_
  walk_at "rd"
  have e0 : decide (V.str z = V.str "") = decide (z = "") := by simp only [V.str.injEq]
  rw [e0]
  have none_ : numb z = none → ∀ H', Keep H H' → Q .non H' := fun e H' k => by
    have q := q H' k
    rw [e] at q
    exact q
  refine iteB (fun h => ?_) (fun h => ?_)
  · refine iteT ?_
    walk_at "rd"
    refine none_ ?_ H (.refl H)
    rw [of_decide_eq_true h]
    decide
  have hne : z ≠ "" := of_decide_eq_false h
  have l1 : 1 ≤ z.length := by
    rcases Nat.eq_zero_or_pos z.length with e | e
    · have e2 := len_cps z
      rw [e] at e2
      exact absurd (str_ext (by rw [List.length_eq_zero_iff.mp e2]; rfl)) hne
    · exact e
  walk_at "rd"
  refine rd_lenS hle ?_
  walk_at "rd"
  refine rd_gt ?_
  walk_at "rd"
  refine iteB (fun h => ?_) (fun h => ?_)
  · refine iteT ?_
    walk_at "rd"
    refine none_ ?_ H (.refl H)
    have h6 := of_decide_eq_true h
    unfold numb
    rw [decide_eq_false (show ¬ z.length ≤ 6 by omega), Bool.and_false]
    rfl
  have l2 : z.length ≤ 6 := by
    have := of_decide_eq_false h
    omega
  walk_at "rd"
  refine rd_lcS ?_
  walk_at "rd"
  refine fin_nin (t := figs) hle (var_set (show 3 < 4 by decide)) fun D H1 k1 hD => ?_
  walk_at "rd"
  refine rd_lst ?_
  walk_at "rd"
  refine ⟨Nat.zero_le _, fun l hl => ?_⟩
  have k2 := k1.tnew (o := .lst []) hl
  refine rd_neS0 (.inl (.inl ((Keep.new hl) _ _ hD))) (.inl (.inl upd_same)) (bad_asc hz.2) ?_
  rw [bad_empty]
  generalize upd H1 l (.lst []) = H2 at k2 ⊢
  refine ⟨_, rfl, ?_⟩
  refine iteB (fun h => ?_) (fun h => ?_)
  · walk_at "rd"
    refine none_ ?_ H2 k2
    unfold numb
    rw [nt h, Bool.and_false]
    rfl
  have hf := nf h
  have hl : (decide (1 ≤ z.length) && decide (z.length ≤ 6)) = true := by rw [decide_eq_true l1, decide_eq_true l2]; rfl
  obtain ⟨c, r, hc⟩ : ∃ c r, z.cps.toList = c :: r := by
    cases hq : z.cps.toList with
    | nil =>
      have := len_cps z
      rw [hq] at this
      simp at this
      omega
    | cons c r => exact ⟨c, r, rfl⟩
  have h0 : decide (V.str ⟨#[c]⟩ = V.str "0") = decide (z.cps.toList.head? = some 48) := by
    rw [hc]
    simp only [V.str.injEq, decide_eq_decide, List.head?_cons, Option.some.injEq]
    constructor
    · intro e
      have e2 : (#[c] : Array Nat) = #[48] := congrArg Str.cps e
      simpa using e2
    · intro e
      rw [e]
      rfl
  have en : numb z = if (decide (z.cps.toList.head? = some 48) && !decide (z = "0")) = true then none else some ((NumText.digitsVal z.cps.toList : Nat) : Int) := by
    unfold numb
    rw [hl, hf, Bool.true_and, Bool.true_and]
    cases decide (z.cps.toList.head? = some 48) && !decide (z = "0") <;> rfl
  have hz0 : decide (V.str z = V.str "0") = decide (z = "0") := by simp only [V.str.injEq]
  generalize hn : ((NumText.digitsVal z.cps.toList : Nat) : Int) = n at en
  have hand : ∀ (Q' : Bool → Hp → Prop), Q' (decide (z.cps.toList.head? = some 48) && !decide (z = "0")) H2 → (tAnd (tTest (tOp rEq (tOp rIxS (tVar 0) (tC (.int 0))) (tC (.str "0")))) (tTest (tOp rNe (tVar 0) (tC (.str "0"))))) [some (.str z), some (.int a), some (.int b), none] H2 Q' := by
    intro Q' q'
    walk_at "rd"
    refine rd_ixS (c := c) hle (atI_nat (j := 0) (by rw [hc]; rfl)) ?_
    walk_at "rd"
    refine rd_eq rfl ?_
    rw [h0]
    walk_at "rd"
    refine iteB (fun h => ?_) (fun h => ?_)
    · rw [h, Bool.true_and] at q'
      walk_at "rd"
      refine rd_ne rfl ?_
      rw [hz0]
      exact ⟨_, rfl, q'⟩
    · rw [h, Bool.false_and] at q'
      exact q'
  have rest : ∀ (Q' : Bool → Hp → Prop), Q' (!(decide (a ≤ n) && decide (n ≤ b))) H2 → (tNot (tTest (tChain rLe rLe (tVar 1) (tCB rIntS (tCons (tVar 0) tNil)) (tVar 2)))) [some (.str z), some (.int a), some (.int b), none] H2 Q' := by
    intro Q' q'
    walk_at "rd"
    refine ⟨z, _, rfl, numb_text hf l1 l2, by omega, ?_⟩
    rw [hn]
    refine chain_le (fun P p => rd_var rfl p) ?_
    exact ⟨_, rfl, q'⟩
  refine rd_next ?_
  refine rd_seq (rd_if (rd_or (hand _ ?_)))
  refine iteB (fun h => ?_) (fun h => ?_)
  · refine iteT ?_
    walk_at "rd"
    rw [h] at en
    exact none_ en H2 k2
  · refine rest _ ?_
    rw [h] at en
    have q := q H2 k2
    rw [en] at q
    have q : Q (numV (if (decide (a ≤ n) && decide (n ≤ b)) = true then some n else none)) H2 := q
    refine iteB (fun h => ?_) (fun h => ?_)
    · rw [nt h] at q
      walk_at "rd"
      exact q
    · rw [nf h] at q
      walk_at "rd"
      refine ⟨z, _, rfl, numb_text hf l1 l2, by omega, ?_⟩
      rw [hn]
      exact q
end Cp
set_option maxHeartbeats 8000000
/-! A kind's row. -/
namespace Cp
open PySem L2 LamX
local macro_rules | `(tactic| walk_at "rd") => `(tactic| repeat (first
  | with_reducible apply rd_seq | with_reducible apply rd_asg | with_reducible apply rd_gname | with_reducible apply rd_if | with_reducible apply rd_ret | with_reducible apply rd_drop | with_reducible apply rd_next
  | with_reducible apply rd_op | with_reducible apply rd_cb | with_reducible apply rd_cons | with_reducible apply rd_nil | with_reducible apply rd_c | with_reducible apply rd_tb | with_reducible apply rd_test | with_reducible apply rd_not
  | with_reducible apply rd_or | with_reducible apply rd_and | with_reducible apply rd_call | with_reducible apply rd_chain | with_reducible apply rd_andV | with_reducible apply rd_notV | with_reducible apply rd_ifx
  | with_reducible apply rd_gcons | with_reducible apply rd_gnil
  | ((with_reducible apply rd_var); exact rfl) | (with_reducible apply rd_bk)))
structure KR (ws : List Str) : Prop where
  c1 : 5 ≤ ws.length
  c2 : at' ws 0 = "kind"
  c3 : at' ws 4 ≠ ""
  c4 : nameOk (at' ws 1) = true
  c5 : edOk (numb (at' ws 2)) = true
  c6 : (ws.drop 5).length ≤ 6
  c7 : (ws.drop 5).all nameOk = true
  c8 : (ws.drop 5).Nodup
  c9 : markOk (at' ws 3) = true
  c10 : (at' ws 3).length = 1
  c11 : markOk (markOf ws) = true
theorem kr_iff (ws : List Str) : (decide (5 ≤ ws.length) && decide (at' ws 0 = "kind") && !decide (at' ws 4 = "") && kindOk (at' ws 1) (numb (at' ws 2)) (ws.drop 5) (at' ws 3) (markOf ws)) = true ↔ KR ws := by
  unfold kindOk basesOk
  simp only [Bool.and_eq_true, decide_eq_true_eq, Bool.not_eq_true', decide_eq_false_iff_not]
  constructor
  · rintro ⟨⟨⟨h1, h2⟩, h3⟩, ⟨⟨h4, h5⟩, ⟨h6, h7⟩, h8⟩, ⟨h9, h10⟩, h11⟩
    exact ⟨h1, h2, h3, h4, h5, h6, h7, h8, h9, h10, h11⟩
  · rintro ⟨h1, h2, h3, h4, h5, h6, h7, h8, h9, h10, h11⟩
    exact ⟨⟨⟨h1, h2⟩, h3⟩, ⟨⟨h4, h5⟩, ⟨h6, h7⟩, h8⟩, ⟨h9, h10⟩, h11⟩
theorem kr_none {ws : List Str} (h : ¬ KR ws) : kindRow ws = none := by
  unfold kindRow
  rw [if_neg (fun q => h ((kr_iff ws).mp q))]
theorem kr_some {ws : List Str} (h : KR ws) : kindRow ws = some ⟨at' ws 1, (numb (at' ws 2)).getD 0, ws.drop 5, at' ws 3, markOf ws⟩ := by
  unfold kindRow
  rw [if_pos ((kr_iff ws).mpr h)]
theorem nodup_by (bs : List Str) : ((List.range bs.length).filter fun k => decide (at' bs k ∈ bs.take k)).isEmpty = decide bs.Nodup := by
  rw [Bool.eq_iff_iff, List.isEmpty_iff, List.filter_eq_nil_iff, decide_eq_true_eq]
  constructor
  · intro h
    unfold List.Nodup
    rw [List.pairwise_iff_getElem]
    intro i j hi hj hij e
    have q := h j (List.mem_range.mpr hj)
    refine q (decide_eq_true ?_)
    have ej : at' bs j = bs[j] := by rw [at', List.getD_eq_getElem?_getD, List.getElem?_eq_getElem hj]; rfl
    rw [ej, ← e]
    refine List.mem_of_getElem? (i := i) ?_
    rw [List.getElem?_take, if_pos hij, List.getElem?_eq_getElem hi]
  · intro h k hk q
    have hk := List.mem_range.mp hk
    have q := of_decide_eq_true q
    have ej : at' bs k = bs[k] := by rw [at', List.getD_eq_getElem?_getD, List.getElem?_eq_getElem hk]; rfl
    rw [ej] at q
    obtain ⟨i, hi⟩ := List.mem_iff_getElem?.mp q
    rw [List.getElem?_take] at hi
    split at hi
    · rename_i hik
      obtain ⟨hil, e⟩ := List.getElem?_eq_some_iff.mp hi
      exact (List.pairwise_iff_getElem.mp h) i k hil hk hik e
    · cases hi
theorem r__law_kind_row {P : Program} {w : World} {K : PySem.W.Frag} {vs : List V} {H : Hp} {Q : VK} {E : XK} (h : sp__law_kind_row K vs H Q E) : t__law_kind_row P w K { nx := fun _ H' => Q .non H', rt := Q } (L2.start N__law_kind_row vs) H := by
  obtain ⟨v, ws, rfl, ⟨l, rfl, hl, hs, hwn⟩, q0, q1⟩ := h
  have sq : SqL K H l (ws.map V.str) := .inl (.inl hl)
  have hz : sizeLine = 16777216 := by decide
  have no : ¬ KR ws → ∀ H', Keep H H' → Q .non H' := fun h H' k => q0 (kr_none h) H' k
  have sh : ∀ i, i < ws.length → Short (at' ws i) := fun i hi => hs _ (at_mem hi)
  have ix : ∀ {H' : Hp} {Q' : VK} (i : Nat), i < ws.length → Keep H H' → Q' (.str (at' ws i)) H' → rIxL K (.ref l) (.int (i : Nat)) H' Q' := fun i hi k q => rd_ixL (k.sqL sq) (at_ws hi) q
  unfold t__law_kind_row
  walk_at "rd"
  refine rd_lenL sq ?_
  walk_at "rd"
  rw [List.length_map]
  refine rd_lt ?_
  walk_at "rd"
  refine iteB (fun h => ?_) (fun h => ?_)
  · refine iteT ?_
    walk_at "rd"
    refine no (fun r => ?_) H (.refl H)
    have := r.c1
    have := of_decide_eq_true h
    omega
  have h5 : 5 ≤ ws.length := by
    have := of_decide_eq_false h
    omega
  walk_at "rd"
  refine rd_lenL sq ?_
  walk_at "rd"
  rw [List.length_map]
  refine rd_gt ?_
  walk_at "rd"
  refine iteB (fun h => ?_) (fun h => ?_)
  · refine iteT ?_
    walk_at "rd"
    refine no (fun r => ?_) H (.refl H)
    have := r.c6
    rw [List.length_drop] at this
    have := of_decide_eq_true h
    omega
  have h11 : ws.length ≤ 11 := by
    have := of_decide_eq_false h
    omega
  walk_at "rd"
  refine ix 0 (by omega) (.refl H) ?_
  walk_at "rd"
  refine rd_ne rfl ?_
  walk_at "rd"
  have e0 : decide (V.str (at' ws 0) = V.str "kind") = decide (at' ws 0 = "kind") := by simp only [V.str.injEq]
  rw [e0]
  refine iteB (fun h => ?_) (fun h => ?_)
  · refine iteT ?_
    walk_at "rd"
    exact no (fun r => of_decide_eq_false (nt h) r.c2) H (.refl H)
  have c2 := of_decide_eq_true (nf h)
  walk_at "rd"
  refine ix 4 (by omega) (.refl H) ?_
  walk_at "rd"
  refine rd_eq rfl ?_
  walk_at "rd"
  have e4 : decide (V.str (at' ws 4) = V.str "") = decide (at' ws 4 = "") := by simp only [V.str.injEq]
  rw [e4]
  refine iteB (fun h => ?_) (fun h => ?_)
  · walk_at "rd"
    exact no (fun r => r.c3 (of_decide_eq_true h)) H (.refl H)
  have c3 := of_decide_eq_false h
  have sm : Short (markOf ws) := by
    unfold markOf
    split
    · exact ⟨by decide, asc_by (by decide)⟩
    · exact sh 4 (by omega)
  have hm : ∀ (H1 : Hp) (Q' : VK), Keep H H1 → Q' (.str (markOf ws)) H1 → (tIf (tTest (tOp rNe (tOp (rIxL K) (tVar 0) (tC (.int 4))) (tC (.str "-")))) (tOp (rIxL K) (tVar 0) (tC (.int 4))) (tC (.str ""))) [some (.ref l), none, none, none, none, none] H1 Q' := by
    intro H1 Q' k1 q'
    walk_at "rd"
    refine ix 4 (by omega) k1 ?_
    walk_at "rd"
    refine rd_ne rfl ?_
    walk_at "rd"
    have em : decide (V.str (at' ws 4) = V.str "-") = decide (at' ws 4 = "-") := by simp only [V.str.injEq]
    rw [em]
    unfold markOf at q'
    refine iteB (fun h => ?_) (fun h => ?_)
    · rw [if_neg (of_decide_eq_false (nt h))] at q'
      walk_at "rd"
      exact ix 4 (by omega) k1 q'
    · rw [if_pos (of_decide_eq_true (nf h))] at q'
      exact q'
  with_reducible apply rd_next
  with_reducible apply rd_seq
  with_reducible apply rd_asg
  refine rd_tup ?_
  with_reducible apply rd_cons
  walk_at "rd"
  refine ix 2 (by omega) (.refl H) ?_
  walk_at "rd"
  refine ⟨_, _, _, rfl, sh 2 (by omega), fun H1 k1 => ?_⟩
  with_reducible apply rd_cons
  refine hm H1 _ k1 ?_
  with_reducible apply rd_cons
  refine rd_sl ?_
  walk_at "rd"
  refine fin_from 5 (k1.sqL sq) fun bl hbl => ?_
  rw [← List.map_drop]
  walk_at "rd"
  refine ⟨show 3 ≤ sizeLine by decide, fun tp htp => ?_⟩
  refine rd_gtup (.inl (.inl upd_same)) rfl ?_
  generalize hed : ((numb (at' ws 2)).bind fun n => if inR 1 99 (some n) = true then some n else none) = ed
  have k2 : Keep H (upd (upd H1 bl (.lst ((ws.drop 5).map V.str))) tp (.tup [numV ed, .str (markOf ws), .ref bl])) := (k1.tnew hbl).tnew htp
  have hb2 : upd (upd H1 bl (.lst ((ws.drop 5).map V.str))) tp (.tup [numV ed, .str (markOf ws), .ref bl]) bl = some (.lst ((ws.drop 5).map V.str)) := (Keep.new htp) _ _ upd_same
  generalize upd (upd H1 bl (.lst ((ws.drop 5).map V.str))) tp (.tup [numV ed, .str (markOf ws), .ref bl]) = H2 at k2 hb2 ⊢
  clear k1 hbl htp
  walk_at "rd"
  refine rd_isN ?_
  walk_at "rd"
  cases hn : numb (at' ws 2) with
  | none =>
    rw [hn] at hed
    subst hed
    refine iteT (iteT ?_)
    walk_at "rd"
    refine no (fun r => ?_) H2 k2
    have := r.c5
    rw [hn] at this
    cases this
  | some n =>
  rw [hn] at hed
  have hed : (if inR 1 99 (some n) = true then some n else none) = ed := hed
  by_cases hin : inR 1 99 (some n) = true
  · rw [if_pos hin] at hed
    subst hed
    have c5 : edOk (numb (at' ws 2)) = true := by rw [hn]; exact hin
    refine iteF ?_
    walk_at "rd"
    refine ix 3 (by omega) k2 ?_
    walk_at "rd"
    refine rd_lenS (sh 3 (by omega)).le ?_
    walk_at "rd"
    refine rd_ne rfl ?_
    walk_at "rd"
    have e3 : decide (V.int ((at' ws 3).length : Nat) = V.int 1) = decide ((at' ws 3).length = 1) := by
      simp only [V.int.injEq, decide_eq_decide]
      omega
    rw [e3]
    refine iteB (fun h => ?_) (fun h => ?_)
    · refine iteT ?_
      walk_at "rd"
      exact no (fun r => of_decide_eq_false (nt h) r.c10) H2 k2
    have c10 := of_decide_eq_true (nf h)
    walk_at "rd"
    refine ix 3 (by omega) k2 ?_
    walk_at "rd"
    refine ⟨_, (at' ws 3).cps.toList, rfl, .inl (by simp), fun H3 k3 => ?_⟩
    walk_at "rd"
    refine ix 3 (by omega) (k2.trans k3) ?_
    refine rd_ne rfl ?_
    walk_at "rd"
    have e9 : decide (V.str (word (at' ws 3).cps.toList) = V.str (at' ws 3)) = markOk (at' ws 3) := by unfold markOk; simp only [V.str.injEq]
    rw [e9]
    refine iteB (fun h => ?_) (fun h => ?_)
    · refine iteT ?_
      walk_at "rd"
      refine no (fun r => ?_) H3 (k2.trans k3)
      rw [r.c9] at h
      cases h
    have c9 := nf h
    walk_at "rd"
    refine ⟨_, (markOf ws).cps.toList, rfl, .inl (by simp), fun H4 k4 => ?_⟩
    walk_at "rd"
    refine rd_ne rfl ?_
    walk_at "rd"
    have e11 : decide (V.str (word (markOf ws).cps.toList) = V.str (markOf ws)) = markOk (markOf ws) := by unfold markOk; simp only [V.str.injEq]
    rw [e11]
    have k04 := (k2.trans k3).trans k4
    have hb4 := k4 _ _ (k3 _ _ hb2)
    refine iteB (fun h => ?_) (fun h => ?_)
    · walk_at "rd"
      refine no (fun r => ?_) H4 k04
      rw [r.c11] at h
      cases h
    have c11 := nf h
    clear k3 k4 hb2 k2
    walk_at "rd"
    refine rd_lcL ?_
    walk_at "rd"
    refine rd_lst ?_
    walk_at "rd"
    refine ix 1 (by omega) k04 ?_
    walk_at "rd"
    refine ⟨show 1 ≤ sizeLine by decide, fun al hal => ?_⟩
    have hb5 : upd H4 al (.lst [.str (at' ws 1)]) bl = some (.lst ((ws.drop 5).map V.str)) := (Keep.new hal) _ _ hb4
    walk_at "rd"
    refine rd_cat upd_same hb5 (by simp only [List.length_map, List.length_drop, List.length_cons, List.length_nil]; omega) fun cl hcl => ?_
    have k06 := (k04.tnew (o := .lst [.str (at' ws 1)]) hal).tnew (o := .lst ([.str (at' ws 1)] ++ (ws.drop 5).map V.str)) hcl
    have hb6 := (Keep.new (o := .lst ([.str (at' ws 1)] ++ (ws.drop 5).map V.str)) hcl) _ _ hb5
    have hc6 : upd (upd H4 al (.lst [.str (at' ws 1)])) cl (.lst ([.str (at' ws 1)] ++ (ws.drop 5).map V.str)) cl = some (.lst ((at' ws 1 :: ws.drop 5).map V.str)) := upd_same
    generalize upd (upd H4 al (.lst [.str (at' ws 1)])) cl (.lst ([.str (at' ws 1)] ++ (ws.drop 5).map V.str)) = H6 at k06 hb6 hc6 ⊢
    have hall : ∀ z ∈ at' ws 1 :: ws.drop 5, Short z := fun z hzz => by
      rcases List.mem_cons.mp hzz with rfl | hzz
      · exact sh 1 (by omega)
      · exact hs z (List.mem_of_mem_drop hzz)
    refine fin_L (.inl (.inl hc6)) (paired_map _ _) (by simp only [List.length_map, List.length_drop, List.length_cons]; omega) (fun z => !nameOk z) V.str ⟨fun y z H7 Kt r hm7 k7 q7 => ?_, fun y z H7 Ke r hm7 hc k7 q7 => ?_⟩ fun D H7 k7 hD0 hD => ?_
    · subst r
      walk_at "rd"
      refine ⟨z, rfl, hall z hm7, fun H8 k8 => ?_⟩
      walk_at "rd"
      exact q7 H8 k8
    · subst r
      walk_at "rd"
      exact q7 H7 (.refl H7)
    have hb7 := k7 _ _ hb6
    have k07 := k06.trans k7
    walk_at "rd"
    refine rd_lst ?_
    walk_at "rd"
    refine ⟨Nat.zero_le _, fun el hel => ?_⟩
    refine rd_neS0 (.inl (.inl ((Keep.new hel) _ _ hD))) (.inl (.inl upd_same)) (fun x hx => (hall x (List.mem_filter.mp hx).1).2) ?_
    have e4 : ((at' ws 1 :: ws.drop 5).filter fun z => !nameOk z).isEmpty = (nameOk (at' ws 1) && (ws.drop 5).all nameOk) := by
      rw [Bool.eq_iff_iff, List.isEmpty_iff, List.filter_eq_nil_iff, ← List.all_cons, List.all_eq_true]
      refine forall_congr' fun z => forall_congr' fun _ => ?_
      cases nameOk z <;> simp
    rw [e4]
    have hb8 := (Keep.new (o := .lst []) hel) _ _ hb7
    have k08 := k07.tnew (o := .lst []) hel
    generalize upd H7 el (.lst []) = H8 at hb8 k08 ⊢
    clear hD0 hD hel hb7 k07 k7 hb6 hc6 k06
    walk_at "rd"
    refine iteB (fun h => ?_) (fun h => ?_)
    · walk_at "rd"
      refine no (fun r => ?_) H8 k08
      rw [r.c4, r.c7] at h
      cases h
    obtain ⟨c4, c7⟩ := Bool.and_eq_true_iff.mp (nf h)
    have hdl : (ws.drop 5).length ≤ 6 := by rw [List.length_drop]; omega
    have sb8 : SqL K H8 bl ((ws.drop 5).map V.str) := .inl (.inl hb8)
    walk_at "rd"
    refine rd_lcR ?_
    walk_at "rd"
    refine rd_lenL sb8 ?_
    rw [List.length_map]
    have er : (((ws.drop 5).length : Nat) : Int).toNat = (ws.drop 5).length := by omega
    refine fin_R (i := ((ws.drop 5).length : Nat)) (by omega) (by omega) (fun k => decide (at' (ws.drop 5) k ∈ (ws.drop 5).take k)) (fun k => V.int (k : Nat)) ⟨fun y k H9 Kt r hm9 k9 q9 => ?_, fun y k H9 Ke r hm9 hc k9 q9 => ?_⟩ fun D H9 k9 hD0 hD => ?_
    · subst r
      rw [er] at hm9
      have hk := List.mem_range.mp hm9
      walk_at "rd"
      refine rd_ixL (k9.sqL sb8) (at_ws hk) ?_
      refine rd_sl (rd_var rfl (rd_nopart (rd_part (rd_var rfl ⟨_, rfl, ?_⟩))))
      refine fin_to k (k9.sqL sb8) fun p hp => ?_
      rw [← List.map_take]
      refine rd_inL (.inl (.inl upd_same)) ?_
      exact ⟨_, rfl, q9 _ (.new hp)⟩
    · subst r
      walk_at "rd"
      exact q9 H9 (.refl H9)
    have hb9 := k9 _ _ hb8
    have k09 := k08.trans k9
    walk_at "rd"
    refine rd_lst ?_
    walk_at "rd"
    refine ⟨Nat.zero_le _, fun el hel => ?_⟩
    have hD2 : H9 D = some (.lst ((((List.range (ws.drop 5).length).filter fun k => decide (at' (ws.drop 5) k ∈ (ws.drop 5).take k)).map fun k : Nat => (k : Int)).map V.int)) := by
      rw [hD, er, List.map_map]
      rfl
    refine rd_neI0 (.inl (.inl ((Keep.new hel) _ _ hD2))) (.inl (.inl upd_same)) ?_
    have e8 : (((List.range (ws.drop 5).length).filter fun k => decide (at' (ws.drop 5) k ∈ (ws.drop 5).take k)).map fun k : Nat => (k : Int)).isEmpty = decide (ws.drop 5).Nodup := by
      rw [← nodup_by, Bool.eq_iff_iff, List.isEmpty_iff, List.isEmpty_iff, List.map_eq_nil_iff]
    rw [e8]
    have hb10 := (Keep.new (o := .lst []) hel) _ _ hb9
    have k10 := k09.tnew (o := .lst []) hel
    generalize upd H9 el (.lst []) = H10 at hb10 k10 ⊢
    clear hD0 hD hD2 hel hb9 k09 k9
    walk_at "rd"
    refine iteB (fun h => ?_) (fun h => ?_)
    · walk_at "rd"
      exact no (fun r => of_decide_eq_false (nt h) r.c8) H10 k10
    have c8 := of_decide_eq_true (nf h)
    walk_at "rd"
    refine rd_tup ?_
    walk_at "rd"
    refine ix 1 (by omega) k10 ?_
    walk_at "rd"
    refine rd_tupL (.inl (.inl hb10)) fun tb htb => ?_
    walk_at "rd"
    refine ix 3 (by omega) (k10.tnew htb) ?_
    walk_at "rd"
    refine ⟨show 5 ≤ sizeLine by decide, fun p hp => ?_⟩
    refine q1 _ (kr_some ⟨h5, c2, c3, c4, c5, hdl, c7, c8, c9, c10, c11⟩) _ _ ((k10.tnew htb).tnew hp) ⟨p, tb, rfl, ?_, (Keep.new hp) _ _ upd_same⟩
    rw [upd_same, hn]
    rfl
  · rw [if_neg hin] at hed
    subst hed
    refine iteT (iteT ?_)
    walk_at "rd"
    refine no (fun r => hin ?_) H2 k2
    have := r.c5
    rw [hn] at this
    exact this
end Cp
set_option maxHeartbeats 8000000
/-! A part's row. -/
namespace Cp
open PySem L2 LamX
local macro_rules | `(tactic| walk_at "rd") => `(tactic| repeat (first
  | with_reducible apply rd_seq | with_reducible apply rd_asg | with_reducible apply rd_gname | with_reducible apply rd_if | with_reducible apply rd_ret | with_reducible apply rd_drop | with_reducible apply rd_next
  | with_reducible apply rd_op | with_reducible apply rd_cb | with_reducible apply rd_cons | with_reducible apply rd_nil | with_reducible apply rd_c | with_reducible apply rd_tb | with_reducible apply rd_test | with_reducible apply rd_not
  | with_reducible apply rd_or | with_reducible apply rd_and | with_reducible apply rd_call | with_reducible apply rd_chain | with_reducible apply rd_andV | with_reducible apply rd_notV | with_reducible apply rd_ifx
  | with_reducible apply rd_gcons | with_reducible apply rd_gnil
  | ((with_reducible apply rd_var); exact rfl) | (with_reducible apply rd_bk)))
theorem inV_non : ∀ os : List (Option Int), inV .non (os.map numV) = !(os.all Option.isSome)
  | [] => rfl
  | none :: r => by
    unfold inV
    rw [List.map_cons, List.any_cons, List.all_cons]
    rfl
  | some n :: r => by
    have ih := inV_non r
    unfold inV at ih ⊢
    rw [List.map_cons, List.any_cons, List.all_cons, ih]
    rfl
theorem flat_nums : ∀ os : List (Option Int), (os.map numV).all flatV = true
  | [] => rfl
  | none :: r => by rw [List.map_cons, List.all_cons, flat_nums r]; rfl
  | some n :: r => by rw [List.map_cons, List.all_cons, flat_nums r]; rfl
theorem numb_bind (z : Str) : ((numb z).bind fun n => if inR 0 999999 (some n) = true then some n else none) = numb z := by
  cases h : numb z with
  | none => rfl
  | some n =>
    obtain ⟨a, b⟩ := numb_range h
    show (if (decide (0 ≤ n) && decide (n ≤ 999999)) = true then some n else none) = some n
    rw [decide_eq_true a, decide_eq_true b]
    rfl
theorem nm_asc {ks : List Kd} (lay : Lay ks) {x : Str} (h : x ∈ nms ks) : Asc x := by
  obtain ⟨k, hk, rfl⟩ := nms_mem.mp h
  exact (kd_asc (lay.2 k hk)).1
theorem rts_mem {ks : List Kd} {nm x : Str} (h : x ∈ rts ks nm) : x ∈ nms ks := by
  rw [rts_eq] at h
  obtain ⟨k, hk, rfl⟩ := List.mem_map.mp h
  exact nms_mem.mpr ⟨k, (List.mem_filter.mp hk).1, rfl⟩
theorem r__law_part_row {P : Program} {w : World} {K : PySem.W.Frag} {vs : List V} {H : Hp} {Q : VK} {E : XK} (h : sp__law_part_row K vs H Q E) : t__law_part_row P w K { nx := fun _ H' => Q .non H', rt := Q } (L2.start N__law_part_row vs) H := by
  obtain ⟨p, ks, u, v, ws, rfl, hp, lay, hu, ⟨l, rfl, hl, hs, hwn⟩, q0, q1⟩ := h
  have sq : SqL K H l (ws.map V.str) := .inl (.inl hl)
  have hz : sizeLine = 16777216 := by decide
  have ek := partRow_eq ks ws
  have ix : ∀ {H' : Hp} {Q' : VK} (i : Nat), i < ws.length → Keep H H' → Q' (.str (at' ws i)) H' → rIxL K (.ref l) (.int (i : Nat)) H' Q' := fun i hi k q => rd_ixL (k.sqL sq) (at_ws hi) q
  unfold t__law_part_row
  walk_at "rd"
  refine rd_lenL sq ?_
  walk_at "rd"
  rw [List.length_map]
  refine rd_lt ?_
  walk_at "rd"
  refine iteB (fun h => ?_) (fun h => ?_)
  · refine iteT ?_
    walk_at "rd"
    have h3 : decide (3 ≤ ws.length) = false := by
      have := of_decide_eq_true h
      simp only [decide_eq_false_iff_not]
      omega
    rw [h3] at ek
    exact q0 ek H (.refl H)
  have h3 : 3 ≤ ws.length := by
    have := of_decide_eq_false h
    omega
  rw [decide_eq_true h3] at ek
  walk_at "rd"
  refine ix 0 (by omega) (.refl H) ?_
  walk_at "rd"
  refine rd_ne rfl ?_
  walk_at "rd"
  have e0 : decide (V.str (at' ws 0) = V.str "part") = decide (at' ws 0 = "part") := by simp only [V.str.injEq]
  rw [e0]
  refine iteB (fun h => ?_) (fun h => ?_)
  · refine iteT ?_
    walk_at "rd"
    rw [nt h] at ek
    exact q0 ek H (.refl H)
  rw [nf h] at ek
  walk_at "rd"
  refine rd_dnotin ?_
  walk_at "rd"
  refine ix 1 (by omega) (.refl H) ?_
  walk_at "rd"
  obtain ⟨o, hg, ho⟩ := hu.has (at' ws 1)
  have hkeys : (undr ks).map (·.1) = nms ks := by unfold undr; rw [undGo_keys]; rfl
  rw [hkeys] at ho
  refine ⟨u, o, rfl, hg, _, rfl, ?_⟩
  rw [ho]
  refine iteB (fun h => ?_) (fun h => ?_)
  · walk_at "rd"
    rw [nt h] at ek
    exact q0 ek H (.refl H)
  rw [nf h] at ek
  have hn := of_decide_eq_true (nf h)
  have ek : partRow ks ws = (if (((ws.drop 2).map numb).all Option.isSome) = true then
      (if (rts ks (at' ws 1)).isEmpty = true then (if ((ws.drop 2).map fun w => (numb w).getD 0).length = 1 then some (at' ws 1, .one (((ws.drop 2).map fun w => (numb w).getD 0).getD 0 0)) else none)
        else if ((ws.drop 2).map fun w => (numb w).getD 0).length = (rts ks (at' ws 1)).length then some (at' ws 1, .many ((ws.drop 2).map fun w => (numb w).getD 0)) else none) else none) := ek
  walk_at "rd"
  show tCons _ _ _ _ _
  with_reducible apply rd_cons
  refine rd_lcL ?_
  refine rd_sl ?_
  walk_at "rd"
  refine fin_from 2 sq fun dl hdl => ?_
  rw [← List.map_drop]
  have kd : Keep H (upd H dl (.lst ((ws.drop 2).map V.str))) := .new hdl
  refine fin_L (vs := (ws.drop 2).map V.str) (.inl (.inl upd_same)) (paired_map _ _) (by rw [List.length_map, List.length_drop]; omega) (fun _ => true) (fun z => numV (numb z)) (.all fun y z H1 Ke r hm k1 q => ?_) fun D H1 k1 hnD hD => ?_
  · subst r
    walk_at "rd"
    refine ⟨z, _, _, rfl, hs z (List.mem_of_mem_drop hm), fun H2 k2 => ?_⟩
    rw [numb_bind]
    exact q H2 k2
  rw [filt_all] at hD
  have hD : H1 D = some (.lst (((ws.drop 2).map numb).map numV)) := by
    rw [hD, List.map_map]
    rfl
  have k01 : Keep H H1 := kd.trans k1
  clear kd k1 hdl
  walk_at "rd"
  refine ix 1 (by omega) k01 ?_
  walk_at "rd"
  refine ⟨p, ks, u, at' ws 1, rfl, k01.plan hp, lay, k01.undL hu, hn, fun rl H2 k2 hr0 hr2 => ?_⟩
  have k02 := k01.trans k2
  have hD2 := k2 _ _ hD
  have hlen : (((ws.drop 2).map numb).map numV).length = (ws.drop 2).length := by rw [List.length_map, List.length_map]
  have hws : (ws.drop 2).length ≤ 1000001 := by rw [List.length_drop]; omega
  refine ⟨_, _, rfl, ?_⟩
  walk_at "rd"
  refine ⟨D, _, rfl, .inl (.inl (.inl hD2)), rfl, flat_nums _, ?_⟩
  rw [if_neg (by decide), inV_non]
  walk_at "rd"
  refine iteB (fun h => ?_) (fun h => ?_)
  · refine iteT ?_
    walk_at "rd"
    rw [nt h] at ek
    exact q0 ek H2 k02
  have hall := nf h
  rw [hall, if_pos rfl] at ek
  have em := some_map hall
  rw [em] at hD2
  have hD2L : SqL K H2 D (((ws.drop 2).map fun w => (numb w).getD 0).map V.int) := .inl (.inl hD2)
  have hnl : ((ws.drop 2).map fun w => (numb w).getD 0).length = (ws.drop 2).length := List.length_map _
  generalize (ws.drop 2).map (fun w => (numb w).getD 0) = ns at ek hD2 hD2L hnl
  walk_at "rd"
  refine rd_lenL hD2L ?_
  walk_at "rd"
  refine rd_lenL (.inl (.inl hr2)) ?_
  walk_at "rd"
  refine rd_max ?_
  rw [List.length_map, List.length_map]
  refine rd_ne rfl ?_
  walk_at "rd"
  have ecmp : decide (V.int (ns.length : Nat) = V.int (if ((rts ks (at' ws 1)).length : Int) > 1 then ((rts ks (at' ws 1)).length : Int) else 1)) = if (rts ks (at' ws 1)).isEmpty = true then decide (ns.length = 1) else decide (ns.length = (rts ks (at' ws 1)).length) := by
    simp only [V.int.injEq]
    cases hr : rts ks (at' ws 1) with
    | nil =>
      show decide ((ns.length : Int) = 1) = decide (ns.length = 1)
      rw [decide_eq_decide]
      omega
    | cons x r =>
      show decide ((ns.length : Int) = _) = decide (ns.length = (x :: r).length)
      rw [decide_eq_decide]
      have : 1 ≤ (x :: r).length := Nat.succ_le_succ (Nat.zero_le _)
      split <;> omega
  rw [ecmp]
  refine iteB (fun h => ?_) (fun h => ?_)
  · walk_at "rd"
    have h := nt h
    refine q0 ?_ H2 k02
    rw [ek]
    split
    · rename_i hr
      rw [if_pos hr] at h
      rw [if_neg (of_decide_eq_false h)]
    · rename_i hr
      rw [if_neg hr] at h
      rw [if_neg (of_decide_eq_false h)]
  have h := nf h
  walk_at "rd"
  refine rd_tup ?_
  walk_at "rd"
  refine ix 1 (by omega) k02 ?_
  walk_at "rd"
  refine rd_lst ?_
  walk_at "rd"
  refine ⟨Nat.zero_le _, fun el hel => ?_⟩
  have hr3 := (Keep.new (o := .lst []) hel) _ _ hr2
  have hD3 := (Keep.new (o := .lst []) hel) _ _ hD2
  have k03 := k02.tnew (o := .lst []) hel
  refine rd_neS0 (.inl (.inl hr3)) (.inl (.inl upd_same)) (fun x hx => nm_asc lay (rts_mem hx)) ?_
  generalize upd H2 el (.lst []) = H3 at hr3 hD3 k03 ⊢
  walk_at "rd"
  refine iteB (fun hr => ?_) (fun hr => ?_)
  · have hr := nt hr
    rw [if_neg (by rw [hr]; decide), if_pos (of_decide_eq_true (by rw [if_neg (by rw [hr]; decide)] at h; exact h))] at ek
    walk_at "rd"
    refine rd_tupL (.inl (.inl hD3)) fun tn htn => ?_
    walk_at "rd"
    refine ⟨show 2 ≤ sizeLine by decide, fun tp htp => ?_⟩
    exact q1 _ ek _ _ ((k03.tnew htn).tnew htp) ⟨tp, .ref tn, rfl, upd_same, tn, rfl, (Keep.new htp) _ _ upd_same⟩
  · have hr := nf hr
    have h1 : ns.length = 1 := of_decide_eq_true (by rw [if_pos hr] at h; exact h)
    rw [if_pos hr, if_pos h1] at ek
    walk_at "rd"
    refine rd_ixL (v := .int (ns.getD 0 0)) (.inl (.inl hD3)) (atI_nat (j := 0) ?_) ?_
    · obtain ⟨n, rfl⟩ := List.length_eq_one_iff.mp h1
      rfl
    · walk_at "rd"
      refine ⟨show 2 ≤ sizeLine by decide, fun tp htp => ?_⟩
      exact q1 _ ek _ _ (k03.tnew htp) ⟨tp, _, rfl, upd_same, rfl⟩
end Cp
set_option maxHeartbeats 8000000
/-! Places. -/
namespace Cp
open PySem L2 LamX
local macro_rules | `(tactic| walk_at "rd") => `(tactic| repeat (first
  | with_reducible apply rd_seq | with_reducible apply rd_asg | with_reducible apply rd_gname | with_reducible apply rd_if | with_reducible apply rd_ret | with_reducible apply rd_drop | with_reducible apply rd_next
  | with_reducible apply rd_op | with_reducible apply rd_cb | with_reducible apply rd_cons | with_reducible apply rd_nil | with_reducible apply rd_c | with_reducible apply rd_tb | with_reducible apply rd_test | with_reducible apply rd_not
  | with_reducible apply rd_or | with_reducible apply rd_and | with_reducible apply rd_call | with_reducible apply rd_chain | with_reducible apply rd_andV | with_reducible apply rd_notV | with_reducible apply rd_ifx
  | with_reducible apply rd_gcons | with_reducible apply rd_gnil
  | ((with_reducible apply rd_var); exact rfl) | (with_reducible apply rd_bk)))
theorem r__law_layout_place {P : Program} {w : World} {K : PySem.W.Frag} {vs : List V} {H : Hp} {Q : VK} {E : XK} (h : sp__law_layout_place K vs H Q E) : t__law_layout_place P w K { nx := fun _ H' => Q .non H', rt := Q } (L2.start N__law_layout_place vs) H := by
  obtain ⟨l, xs, ks, rfl, hl, hks, hok, q⟩ := h
  have hxl : xs.length = ks.length := Paired.length hks
  have sq : SqL K H l xs := .inl (.inl hl)
  unfold t__law_layout_place
  walk_at "rd"
  refine rd_lenL sq ?_
  refine chain_le (fun P p => p) ?_
  have e : (decide ((1 : Int) ≤ xs.length) && decide ((xs.length : Int) ≤ 24)) = (decide (1 ≤ ks.length) && decide (ks.length ≤ 24)) := by
    rw [hxl]
    congr 1 <;> simp only [decide_eq_decide] <;> omega
  rw [e]
  walk_at "rd"
  refine iteB (fun h => ?_) (fun h => ?_)
  · walk_at "rd"
    refine rd_tup ?_
    walk_at "rd"
    refine ⟨Nat.zero_le _, fun p hp => q _ _ (.new hp) ?_⟩
    unfold layRes
    rw [nt h]
    exact ⟨p, rfl, upd_same⟩
  have hb := nf h
  have hl24 : ks.length ≤ 24 := of_decide_eq_true (Bool.and_eq_true_iff.mp hb).2
  have er : layRes ks = (layGo [] 1 0 ks).map (fun i => [(i : Int)]) := by
    unfold layRes
    rw [if_pos hb]
  walk_at "rd"
  refine rd_tup ?_
  walk_at "rd"
  refine rd_lst ?_
  walk_at "rd"
  refine ⟨Nat.zero_le _, fun tl htl => ?_⟩
  walk_at "rd"
  refine ⟨show 2 ≤ sizeLine by decide, fun tp htp => ?_⟩
  refine rd_gtup (.inl (.inl upd_same)) rfl ?_
  have k1 : Keep H (upd (upd H tl (.lst [])) tp (.tup [.ref tl, .int 1])) := (Keep.new htl).tnew htp
  have ht1 : upd (upd H tl (.lst [])) tp (.tup [.ref tl, .int 1]) tl = some (.lst []) := (Keep.new htp) _ _ upd_same
  generalize upd (upd H tl (.lst [])) tp (.tup [.ref tl, .int 1]) = H1 at k1 ht1 ⊢
  clear htp
  walk_at "rd"
  refine rd_for (rd_iE ?_)
  walk_at "rd"
  refine ⟨l, xs, rfl, k1.sqL sq, ?_⟩
  refine for_enumL (xs := xs) (fun i σ H2 => ∃ (last : Int) (x3 x4 x5 : Option V), σ = [some (.ref l), some (.ref tl), some (.int last), x3, x4, x5] ∧ Keep H H2 ∧ H2 tl = some (.lst ((nms (ks.take i)).map V.str)) ∧ layGo [] 1 0 ks = layGo (nms (ks.take i)) last i (ks.drop i)) ?_ ?_ ?_ ?_
  · exact ⟨1, _, _, _, rfl, k1, ht1, rfl⟩
  · rintro i σ H2 _ ⟨last, x3, x4, x5, rfl, k, _⟩
    exact k.sqL sq
  · rintro i y t2 σ H2 hy ⟨last, x3, x4, x5, rfl, k, ht, hg⟩ ht2
    obtain ⟨kd, hkd, hkt⟩ := Paired.at_ hks hy
    have hkm : kd ∈ ks := List.mem_of_getElem? hkd
    have hi : i < ks.length := (List.getElem?_eq_some_iff.mp hkd).1
    obtain ⟨pa, pb, rfl, hpa, hpb⟩ := k.kd hkt
    refine rd_gtup (.inl (.inl upd_same)) rfl ?_
    have k3 := k.tnew (o := .tup [.int (i : Nat), .ref pa]) ht2
    have ht3 := (Keep.new (o := .tup [.int (i : Nat), .ref pa]) ht2) _ _ ht
    have hpa := (Keep.new (o := .tup [.int (i : Nat), .ref pa]) ht2) _ _ hpa
    have hpb := (Keep.new (o := .tup [.int (i : Nat), .ref pa]) ht2) _ _ hpb
    generalize upd H2 t2 (.tup [.int (i : Nat), .ref pa]) = H3 at k3 ht3 hpa hpb ⊢
    clear ht2
    have ixp : ∀ {H' : Hp} {Q' : VK} (j : Nat) (v : V), [V.str kd.name, .int kd.ed, .ref pb, .str kd.letter, .str kd.mark][j]? = some v → Keep H3 H' → Q' v H' → rIxT K (.ref pa) (.int (j : Nat)) H' Q' := fun j v e k q => rd_ixT (.inl (.inl (k _ _ hpa))) (atI_nat e) q
    have e0 := layGo_drop hkd (nms (ks.take i)) last
    rw [← hg] at e0
    have bad : ∀ H4, Keep H3 H4 → (decide (kd.name ∈ nms (ks.take i)) || decide (kd.ed < last) || !(kd.bases.all fun b => decide (b ∈ nms (ks.take i)))) = true → (tRet (tTup (tCons (tVar 3) tNil))) { nx := fun _ H' => Q .non H', rt := Q } [some (.ref l), some (.ref tl), some (.int last), some (.int (i : Nat)), some (.ref pa), x5] H4 := by
      intro H4 k4 hb
      walk_at "rd"
      refine rd_tup ?_
      walk_at "rd"
      refine ⟨show 1 ≤ sizeLine by decide, fun p hp => q _ _ ((k3.trans k4).tnew hp) ?_⟩
      rw [er, e0, if_pos hb]
      exact ⟨p, rfl, upd_same⟩
    walk_at "rd"
    refine ixp 0 _ rfl (.refl H3) ?_
    walk_at "rd"
    refine rd_inL (.inl (.inl ht3)) ?_
    walk_at "rd"
    refine iteB (fun h => ?_) (fun h => ?_)
    · refine iteT ?_
      exact bad H3 (.refl H3) (by rw [h]; rfl)
    rw [h] at e0 bad
    walk_at "rd"
    refine ixp 1 _ rfl (.refl H3) ?_
    walk_at "rd"
    refine rd_lt ?_
    walk_at "rd"
    refine iteB (fun h => ?_) (fun h => ?_)
    · refine iteT ?_
      exact bad H3 (.refl H3) (by rw [h]; rfl)
    rw [h, Bool.false_or] at e0 bad
    walk_at "rd"
    refine rd_lcT ?_
    walk_at "rd"
    refine ixp 2 _ rfl (.refl H3) ?_
    refine fin_T (vs := kd.bases.map V.str) (.inl (.inl hpb)) (paired_map _ _) (by rw [List.length_map]; have := (kd_parts (hok kd hkm)).2.2.2.1; have hz : sizeLine = 16777216 := (by decide); omega) (fun b => !decide (b ∈ nms (ks.take i))) V.str ⟨fun y b H4 Kt r hm4 k4 q4 => ?_, fun y b H4 Ke r hm4 hc k4 q4 => ?_⟩ fun D H4 k4 hD0 hD => ?_
    · subst r
      walk_at "rd"
      refine rd_ninL (.inl (.inl (k4 _ _ ht3))) ?_
      exact ⟨_, rfl, q4 H4 (.refl H4)⟩
    · subst r
      walk_at "rd"
      exact q4 H4 (.refl H4)
    walk_at "rd"
    refine rd_lst ?_
    walk_at "rd"
    refine ⟨Nat.zero_le _, fun el hel => ?_⟩
    refine rd_neS0 (.inl (.inl ((Keep.new hel) _ _ hD))) (.inl (.inl upd_same)) (fun x hx => (kd_asc (hok kd hkm)).2.1 x (List.mem_filter.mp hx).1) ?_
    have e4 : (kd.bases.filter fun b => !decide (b ∈ nms (ks.take i))).isEmpty = kd.bases.all fun b => decide (b ∈ nms (ks.take i)) := by
      rw [Bool.eq_iff_iff, List.isEmpty_iff, List.filter_eq_nil_iff, List.all_eq_true]
      refine forall_congr' fun z => forall_congr' fun _ => ?_
      cases decide (z ∈ nms (ks.take i)) <;> simp
    rw [e4]
    have k5 := k4.tnew (o := .lst []) hel
    generalize upd H4 el (.lst []) = H5 at k5 ⊢
    walk_at "rd"
    refine iteB (fun h => ?_) (fun h => ?_)
    · exact bad H5 k5 h
    rw [h] at e0
    have k35 := k3.trans k5
    have ht5 := k5 _ _ ht3
    walk_at "rd"
    refine rd_bm ?_
    walk_at "rd"
    refine ⟨ty_lst (.inl (.inl ht5)), ?_⟩
    walk_at "rd"
    refine ixp 0 _ rfl k5 ?_
    walk_at "rd"
    have hnl : (nms (ks.take i)).length ≤ 24 := by unfold nms; rw [List.length_map, List.length_take]; omega
    refine rd_app ht5 (by rw [List.length_map]; have hz : sizeLine = 16777216 := (by decide); omega) ?_
    walk_at "rd"
    have hpa5 := k5 _ _ hpa
    refine rd_ixT (v := .int kd.ed) (.inl (.inl (by rw [upd_ne (ne_of hpa5 ht5 (fun z => by cases z))]; exact hpa5))) (atI_nat (j := 1) rfl) ?_
    refine ⟨kd.ed, _, _, _, rfl, k35.at_ htl, ?_, ?_⟩
    · rw [upd_same, take_names hkd, List.map_append]
      rfl
    · rw [e0, take_names hkd]
      rfl
  · rintro σ H2 ⟨last, x3, x4, x5, rfl, k, ht, hg⟩
    walk_at "rd"
    refine q _ _ k ?_
    rw [er, hg, hxl, List.drop_length]
    rfl
theorem r__law_file_place {P : Program} {w : World} {K : PySem.W.Frag} {vs : List V} {H : Hp} {Q : VK} {E : XK} (h : sp__law_file_place K vs H Q E) : t__law_file_place P w K { nx := fun _ H' => Q .non H', rt := Q } (L2.start N__law_file_place vs) H := by
  obtain ⟨p, ks, l, xs, ps, rfl, ⟨a, ys, rfl, sqp, hks⟩, lay, hl, hps, hin, q⟩ := h
  have hxl : xs.length = ps.length := Paired.length hps
  have hyl : ys.length = ks.length := Paired.length hks
  have sq : SqL K H l xs := .inl (.inl hl)
  unfold t__law_file_place
  walk_at "rd"
  refine rd_lenL sq ?_
  walk_at "rd"
  refine rd_gt ?_
  walk_at "rd"
  have e : decide ((24 : Int) < xs.length) = !decide ((ps.map (·.1)).length ≤ 24) := by
    rw [hxl, List.length_map]
    by_cases h : ps.length ≤ 24
    · rw [decide_eq_true h]
      simp only [Bool.not_true, decide_eq_false_iff_not]
      omega
    · rw [decide_eq_false h]
      simp only [Bool.not_false, decide_eq_true_eq]
      omega
  rw [e]
  refine iteB (fun h => ?_) (fun h => ?_)
  · walk_at "rd"
    refine rd_tup ?_
    walk_at "rd"
    refine ⟨Nat.zero_le _, fun p hp => q _ _ (.new hp) ?_⟩
    unfold fileRes
    rw [nt h]
    exact ⟨p, rfl, upd_same⟩
  have hb := nf h
  have er : fileRes (nms ks) (ps.map (·.1)) = (fileGo (nms ks) (-1) 0 (ps.map (·.1))).map (fun i => [(i : Int)]) := by
    unfold fileRes
    rw [hb]
    rfl
  walk_at "rd"
  show tCons _ _ _ _ _
  with_reducible apply rd_cons
  refine rd_lcT ?_
  walk_at "rd"
  refine fin_T sqp hks ?_ (fun _ => true) (fun k => V.str k.name) (.all fun y k H1 Ke r hm k1 q1 => ?_) fun D H1 k1 hD0 hD => ?_
  · have hz : sizeLine = 16777216 := by decide
    have := lay.len
    omega
  · obtain ⟨qa, qb, rfl, hqa, hqb⟩ := k1.kd r
    walk_at "rd"
    refine rd_ixT (.inl (.inl hqa)) (atI_nat (j := 0) rfl) ?_
    exact q1 H1 (.refl H1)
  rw [filt_all] at hD
  have hD : H1 D = some (.lst ((nms ks).map V.str)) := by
    rw [hD]
    unfold nms
    rw [List.map_map]
    rfl
  walk_at "rd"
  refine rd_un (rd_c (rd_u ?_))
  walk_at "rd"
  refine ⟨_, _, rfl, ?_⟩
  walk_at "rd"
  refine rd_for (rd_iE ?_)
  walk_at "rd"
  refine ⟨l, xs, rfl, k1.sqL sq, ?_⟩
  refine for_enumL (xs := xs) (fun i σ H2 => ∃ (last : Int) (x4 x5 x6 : Option V), σ = [some (.ref a), some (.ref l), some (.ref D), some (.int last), x4, x5, x6] ∧ Keep H H2 ∧ H2 D = some (.lst ((nms ks).map V.str)) ∧ fileGo (nms ks) (-1) 0 (ps.map (·.1)) = fileGo (nms ks) last i ((ps.map (·.1)).drop i)) ?_ ?_ ?_ ?_
  · exact ⟨-1, _, _, _, rfl, k1, hD, rfl⟩
  · rintro i σ H2 _ ⟨last, x4, x5, x6, rfl, k, _⟩
    exact k.sqL sq
  · rintro i y t2 σ H2 hy ⟨last, x4, x5, x6, rfl, k, hD2, hg⟩ ht2
    obtain ⟨pt, hp, hpt⟩ := Paired.at_ hps hy
    have hm : pt ∈ ps := List.mem_of_getElem? hp
    have hpn : (ps.map (·.1))[i]? = some pt.1 := by rw [List.getElem?_map, hp]; rfl
    obtain ⟨pa, c, rfl, hpa, hc⟩ := k.pt hpt
    refine rd_gtup (.inl (.inl upd_same)) rfl ?_
    have k3 := k.tnew (o := .tup [.int (i : Nat), .ref pa]) ht2
    have hD3 := (Keep.new (o := .tup [.int (i : Nat), .ref pa]) ht2) _ _ hD2
    have hpa := (Keep.new (o := .tup [.int (i : Nat), .ref pa]) ht2) _ _ hpa
    generalize upd H2 t2 (.tup [.int (i : Nat), .ref pa]) = H3 at k3 hD3 hpa ⊢
    have so : SqL K H3 D ((nms ks).map V.str) := .inl (.inl hD3)
    walk_at "rd"
    refine rd_bm ?_
    walk_at "rd"
    refine ⟨ty_lst so, ?_⟩
    walk_at "rd"
    refine rd_ixT (.inl (.inl hpa)) (atI_nat (j := 0) rfl) ?_
    walk_at "rd"
    refine rd_index so (hin pt hm) ?_
    walk_at "rd"
    refine rd_le ?_
    walk_at "rd"
    refine iteB (fun h => ?_) (fun h => ?_)
    · walk_at "rd"
      refine rd_tup ?_
      walk_at "rd"
      refine ⟨show 1 ≤ sizeLine by decide, fun p hp => q _ _ (k3.tnew hp) ?_⟩
      rw [er, hg, fileGo_drop hpn, if_pos h]
      exact ⟨p, rfl, upd_same⟩
    · walk_at "rd"
      refine rd_bm ?_
      walk_at "rd"
      refine ⟨ty_lst so, ?_⟩
      walk_at "rd"
      refine rd_ixT (.inl (.inl hpa)) (atI_nat (j := 0) rfl) ?_
      walk_at "rd"
      refine rd_index so (hin pt hm) ?_
      walk_at "rd"
      refine ⟨_, _, _, _, rfl, k3, hD3, ?_⟩
      rw [hg, fileGo_drop hpn, h]
      rfl
  · rintro σ H2 ⟨last, x4, x5, x6, rfl, k, hD2, hg⟩
    walk_at "rd"
    refine q _ _ k ?_
    rw [er, hg, hxl, List.drop_of_length_le (by rw [List.length_map]; exact Nat.le_refl _)]
    rfl
end Cp
set_option maxHeartbeats 8000000
/-! What is due. -/
namespace Cp
open PySem L2 LamX
local macro_rules | `(tactic| walk_at "rd") => `(tactic| repeat (first
  | with_reducible apply rd_seq | with_reducible apply rd_asg | with_reducible apply rd_gname | with_reducible apply rd_if | with_reducible apply rd_ret | with_reducible apply rd_drop | with_reducible apply rd_next
  | with_reducible apply rd_op | with_reducible apply rd_cb | with_reducible apply rd_cons | with_reducible apply rd_nil | with_reducible apply rd_c | with_reducible apply rd_tb | with_reducible apply rd_test | with_reducible apply rd_not
  | with_reducible apply rd_or | with_reducible apply rd_and | with_reducible apply rd_call | with_reducible apply rd_chain | with_reducible apply rd_andV | with_reducible apply rd_notV | with_reducible apply rd_ifx
  | with_reducible apply rd_gcons | with_reducible apply rd_gnil
  | ((with_reducible apply rd_var); exact rfl) | (with_reducible apply rd_bk)))
theorem dts_of {α : Type} {K : PySem.W.Frag} {H : Hp} {R : V → α → Prop} {f : α → PyData} {vs : List V} {as : List α} (h : Paired R vs as) (q : ∀ v a, R v a → Dt K H v (f a)) : Dts K H vs (as.map f) := by
  induction h with
  | nil => exact .nil
  | cons r t ih => exact .cons (q _ _ r) ih
theorem dt_str {K : PySem.W.Frag} {H : Hp} : ∀ bs : List Str, Dts K H (bs.map V.str) (bs.map PyData.str)
  | [] => .nil
  | b :: r => .cons (.str b) (dt_str r)
theorem dt_int {K : PySem.W.Frag} {H : Hp} : ∀ bs : List Int, Dts K H (bs.map V.int) (bs.map PyData.int)
  | [] => .nil
  | b :: r => .cons (.int b) (dt_int r)
theorem dt_kd {K : PySem.W.Frag} {H : Hp} {v : V} {k : Kd} (h : KdAt H v k) : Dt K H v k.dat := by
  obtain ⟨a, b, rfl, h1, h2⟩ := h
  exact .tup (.inl (.inl h1)) (.cons (.str _) (.cons (.int _) (.cons (.tup (.inl (.inl h2)) (dt_str _)) (.cons (.str _) (.cons (.str _) .nil)))))
theorem dt_pt {K : PySem.W.Frag} {H : Hp} {v : V} {p : Str × Cn} (h : PtAt H v p) : Dt K H v (ptDat p) := by
  obtain ⟨a, c, rfl, h1, h2⟩ := h
  obtain ⟨nm, cn⟩ := p
  refine .tup (.inl (.inl h1)) (.cons (.str _) (.cons ?_ .nil))
  cases cn with
  | one n =>
    cases (show c = V.int n from h2)
    exact .int n
  | many ns =>
    obtain ⟨b, rfl, h3⟩ := h2
    exact .tup (.inl (.inl h3)) (dt_int ns)
theorem dt_tup {K : PySem.W.Frag} {H : Hp} {v : V} {ns : List Int} (h : TupAt H v (ns.map V.int)) : Dt K H v (.tuple (ns.map .int)) := by
  obtain ⟨a, rfl, h1⟩ := h
  exact .tup (.inl (.inl h1)) (dt_int ns)
/-- what is due, by the rows and what is made of them -/
def dueDat {α : Type} (F : List Str → Option α) (R : List α → Option (List Int)) (f : α → PyData) (say : Str) (rows : List (List Str)) : PyData := match tellGo F 0 rows with
  | .inr i => .list [.str "text", .tuple [.int (i : Int)]]
  | .inl as => match R as with
    | none => .list [.str "told", .tuple (as.map f)]
    | some pl => .list [.str say, .tuple (pl.map .int)]
/-- the body of the loop of _law_due and what follows it, by what the two choices answer -/
theorem due_core {α : Type} {K : PySem.W.Frag} {H0 : Hp} {Q : VK} {v : V} {t : Str} {b : Bool} {u : Addr} {F : List Str → Option α} {R : List α → Option (List Int)} {f : α → PyData} {Rep : Hp → V → α → Prop} {say : Str} (ht : Short t) (hsay : say = if b = true then "layout" else "file")
    (hst : ∀ H1 H2 v a, Keep H1 H2 → Rep H1 v a → Rep H2 v a) (hne : ∀ H1 v a, Rep H1 v a → v ≠ .non) (hls : ∀ H1 v a l xs ys, H1 l = some (.lst xs) → Rep H1 v a → Rep (upd H1 l (.lst ys)) v a) (hdt : ∀ H1 v a, Rep H1 v a → Dt K H1 v (f a))
    (hrow : ∀ rl x5 x6 wl x8 x9 H1 ws (Q' : VK), Keep H0 H1 → WordsAt H1 (.ref wl) ws → (F ws = none → ∀ H', Keep H1 H' → Q' .non H') → (∀ a, F ws = some a → ∀ y H', Keep H1 H' → Rep H' y a → Q' y H') →
      (tIf (tB (tVar 2)) (tCall (sp__law_kind_row K) [] E0 (tCons (tVar 7) tNil)) (tCall (sp__law_part_row K) [] E0 (tCons (tVar 0) (tCons (tVar 3) (tCons (tVar 7) tNil))))) [some v, some (.str t), some (.bl b), some (.ref u), some (.ref rl), x5, x6, some (.ref wl), x8, x9] H1 Q')
    (hplace : ∀ rl x5 x6 x7 x8 x9 H1 vs as (Q' : VK), Keep H0 H1 → H1 rl = some (.lst vs) → Paired (Rep H1) vs as → (∀ a ∈ as, ∃ ws, F ws = some a) → (∀ y H', Keep H1 H' → plV H' y (R as) → Q' y H') →
      (tIf (tB (tVar 2)) (tCall (sp__law_layout_place K) [] E0 (tCons (tVar 4) tNil)) (tCall (sp__law_file_place K) [] E0 (tCons (tVar 0) (tCons (tVar 4) tNil)))) [some v, some (.str t), some (.bl b), some (.ref u), some (.ref rl), x5, x6, x7, x8, x9] H1 Q')
    (q : ∀ y H', Keep H0 H' → Dt K H' y (dueDat F R f say (if (b || !decide (t = "")) = true then rowsOf t else [])) → Q y H')
    {rl : Addr} {x5 x6 x7 x8 x9 : Option V} {H1 : Hp} (k1 : Keep H0 H1) (hr0 : H0 rl = none) (hr1 : H1 rl = some (.lst [])) :
    (tSeq (tFor (iEnum K (tCons (tIf (tOr (tB (tVar 2)) (tTest (tOp rNe (tVar 1) (tC (.str ""))))) (tM1 rSplit (tVar 1) (tC (.str "\n"))) (tLst tNil)) tNil)) (gTup K 2 (gCons (gName 5) (gCons (gName 6) gNil))) (tSeq (tAsg (tM1 rSplit (tVar 6) (tC (.str " "))) (gName 7))
    (tSeq (tAsg (tIf (tB (tVar 2)) (tCall (sp__law_kind_row K) [] E0 (tCons (tVar 7) tNil)) (tCall (sp__law_part_row K) [] E0 (tCons (tVar 0) (tCons (tVar 3) (tCons (tVar 7) tNil))))) (gName 8))
    (tSeq (tIfS (tTest (tOp rIsN (tVar 8) (tC .non))) (tRet (tLst (tCons (tC (.str "text")) (tCons (tTup (tCons (tVar 5) tNil)) tNil)))) tNext)
    (tDrop (tBM K "list" rAppend (tVar 4) (tCons (tVar 8) tNil)))))))
    (tSeq (tAsg (tIf (tB (tVar 2)) (tCall (sp__law_layout_place K) [] E0 (tCons (tVar 4) tNil)) (tCall (sp__law_file_place K) [] E0 (tCons (tVar 0) (tCons (tVar 4) tNil)))) (gName 9))
    (tSeq (tIfS (tTest (tOp rIsN (tVar 9) (tC .non))) (tRet (tLst (tCons (tC (.str "told")) (tCons (tCB (rTupL K) (tCons (tVar 4) tNil)) tNil)))) tNext)
    (tRet (tLst (tCons (tIf (tB (tVar 2)) (tC (.str "layout")) (tC (.str "file"))) (tCons (tVar 9) tNil))))))) { nx := fun _ H' => Q .non H', rt := Q } [some v, some (.str t), some (.bl b), some (.ref u), some (.ref rl), x5, x6, x7, x8, x9] H1 := by
  have hline : sizeLine = 16777216 := by decide
  have hsp : ∀ z, Short z → z.length + 2 ≤ sizeLine := fun z h => by have := h.1; omega
  -- what is walked
  have walked : ∀ (Q' : VK), (∀ al H2, Keep H1 H2 → H2 al = some (.lst ((if (b || !decide (t = "")) = true then Txt.split t "\n" else []).map V.str)) → al ≠ rl → Q' (.ref al) H2) →
      (tIf (tOr (tB (tVar 2)) (tTest (tOp rNe (tVar 1) (tC (.str ""))))) (tM1 rSplit (tVar 1) (tC (.str "\n"))) (tLst tNil)) [some v, some (.str t), some (.bl b), some (.ref u), some (.ref rl), x5, x6, x7, x8, x9] H1 Q' := by
    intro Q' q'
    have sp : (b || !decide (t = "")) = true → (tM1 rSplit (tVar 1) (tC (.str "\n"))) [some v, some (.str t), some (.bl b), some (.ref u), some (.ref rl), x5, x6, x7, x8, x9] H1 Q' := by
      intro h
      refine rd_m1 ?_
      walk_at "rd"
      refine ⟨⟨_, rfl⟩, ?_⟩
      walk_at "rd"
      refine ⟨_, _, rfl, rfl, by decide, hsp t ht, fun al hal => ?_⟩
      refine q' al _ (.new hal) (by rw [upd_same, if_pos h]) (fun e => by rw [e, hr1] at hal; cases hal)
    walk_at "rd"
    refine iteB (fun h => ?_) (fun h => ?_)
    · refine iteT (sp ?_)
      rw [h]
      rfl
    · walk_at "rd"
      refine rd_ne rfl ?_
      walk_at "rd"
      have e0 : decide (V.str t = V.str "") = decide (t = "") := by simp only [V.str.injEq]
      rw [e0]
      refine iteB (fun h2 => ?_) (fun h2 => ?_)
      · exact sp (by rw [h2, Bool.or_true])
      · refine rd_lst ?_
        walk_at "rd"
        refine ⟨Nat.zero_le _, fun al hal => ?_⟩
        refine q' al _ (.new hal) (by rw [upd_same, h, h2]; rfl) (fun e => by rw [e, hr1] at hal; cases hal)
  with_reducible apply rd_seq
  refine rd_for (rd_iE ?_)
  with_reducible apply rd_cons
  refine walked _ fun al H2 k2 ha hne2 => ?_
  refine rd_nil ?_
  refine ⟨al, _, rfl, .inl (.inl ha), ?_⟩
  have hlines : ∀ z ∈ (if (b || !decide (t = "")) = true then Txt.split t "\n" else []), Short z := by
    intro z hz
    split at hz
    · exact split_short ht hz
    · cases hz
  have hln : (if (b || !decide (t = "")) = true then Txt.split t "\n" else []).length ≤ 1000001 := by
    split
    · have := split_n (x := t) (y := "\n") (by decide)
      have := ht.1
      omega
    · exact Nat.zero_le _
  have hlw : (if (b || !decide (t = "")) = true then rowsOf t else []) = (if (b || !decide (t = "")) = true then Txt.split t "\n" else []).map fun r => Txt.split r " " := by
    split <;> rfl
  rw [hlw] at q
  generalize (if (b || !decide (t = "")) = true then Txt.split t "\n" else []) = lines at ha hlines hln q
  refine for_enumL (xs := lines.map V.str) (fun i σ H3 => ∃ (y5 y6 y7 y8 y9 : Option V) (vs : List V) (as : List α), σ = [some v, some (.str t), some (.bl b), some (.ref u), some (.ref rl), y5, y6, y7, y8, y9] ∧ Keep H0 H3 ∧ H3 al = some (.lst (lines.map V.str)) ∧ H3 rl = some (.lst vs) ∧ vs.length = i ∧ Paired (Rep H3) vs as ∧ (∀ a ∈ as, ∃ ws, F ws = some a) ∧
    tellGo F 0 (lines.map fun r => Txt.split r " ") = addTo as (tellGo F i ((lines.map fun r => Txt.split r " ").drop i))) ?_ ?_ ?_ ?_
  · refine ⟨_, _, _, _, _, [], [], rfl, k1.trans k2, ha, k2 _ _ hr1, rfl, .nil, fun a ha => (by cases ha), ?_⟩
    rw [List.drop_zero]
    cases tellGo F 0 (lines.map fun r => Txt.split r " ") <;> rfl
  · rintro i σ H3 _ ⟨y5, y6, y7, y8, y9, vs, as, rfl, k, ha, _⟩
    exact .inl (.inl ha)
  · rintro i y t2 σ H3 hy ⟨y5, y6, y7, y8, y9, vs, as, rfl, k, ha, hr, hvl, pr, hF, hg⟩ ht2
    rw [List.getElem?_map] at hy
    obtain ⟨row, hrow', rfl⟩ : ∃ row, lines[i]? = some row ∧ V.str row = y := by
      cases hq : lines[i]? with
      | none => rw [hq] at hy; cases hy
      | some b => exact ⟨b, rfl, by rw [hq] at hy; exact Option.some.inj hy⟩
    have srow : Short row := hlines row (List.mem_of_getElem? hrow')
    have hi : i < lines.length := (List.getElem?_eq_some_iff.mp hrow').1
    have hrs : (lines.map fun r => Txt.split r " ")[i]? = some (Txt.split row " ") := by
      rw [List.getElem?_map, hrow']
      rfl
    have kt : Keep H3 (upd H3 t2 (.tup [.int (i : Nat), .str row])) := .new ht2
    refine rd_gtup (.inl (.inl upd_same)) rfl ?_
    generalize upd H3 t2 (.tup [.int (i : Nat), .str row]) = H4 at kt ⊢
    walk_at "rd"
    refine rd_m1 ?_
    walk_at "rd"
    refine ⟨⟨_, rfl⟩, ?_⟩
    walk_at "rd"
    refine ⟨_, _, rfl, rfl, by decide, hsp row srow, fun wl hwl => ?_⟩
    have k5 : Keep H3 (upd H4 wl (.lst ((Txt.split row " ").map V.str))) := kt.tnew hwl
    have hw5 : upd H4 wl (.lst ((Txt.split row " ").map V.str)) wl = some (.lst ((Txt.split row " ").map V.str)) := upd_same
    generalize upd H4 wl (.lst ((Txt.split row " ").map V.str)) = H5 at k5 hw5 ⊢
    clear hwl kt ht2
    with_reducible apply rd_gname
    with_reducible apply rd_seq
    with_reducible apply rd_asg
    have hn1 : (Txt.split row " ").length ≤ 1000001 := Nat.le_trans (split_n (by decide)) (by have := srow.1; omega)
    refine hrow rl _ _ wl _ _ H5 (Txt.split row " ") _ (k.trans k5) ⟨wl, rfl, hw5, fun z hz => split_short srow hz, hn1⟩ (fun e H6 k6 => ?_) (fun a e y H6 k6 hy6 => ?_)
    · walk_at "rd"
      refine rd_isN ?_
      walk_at "rd"
      refine iteT ?_
      walk_at "rd"
      refine rd_lst ?_
      walk_at "rd"
      refine rd_tup ?_
      walk_at "rd"
      refine ⟨show 1 ≤ sizeLine by decide, fun p hp => ?_⟩
      walk_at "rd"
      refine ⟨show 2 ≤ sizeLine by decide, fun dl hdl => ?_⟩
      refine q _ _ ((((k.trans k5).trans k6).tnew hp).tnew hdl) ?_
      have et : tellGo F 0 (lines.map fun r => Txt.split r " ") = .inr i := by
        rw [hg, tell_drop hrs, e]
        rfl
      unfold dueDat
      rw [et]
      exact .lst (.inl (.inl upd_same)) (.cons (.str _) (.cons (.tup (.inl (.inl ((Keep.new hdl) _ _ upd_same))) (.cons (.int _) .nil)) .nil))
    · walk_at "rd"
      refine rd_isN ?_
      walk_at "rd"
      rw [decide_eq_false (hne _ _ _ hy6)]
      refine iteF ?_
      walk_at "rd"
      have kk : Keep H3 H6 := k5.trans k6
      have hr6 := kk _ _ hr
      refine rd_bm ?_
      walk_at "rd"
      refine ⟨ty_lst (.inl (.inl hr6)), ?_⟩
      walk_at "rd"
      refine rd_app hr6 (by omega) ?_
      refine ⟨_, _, _, _, _, vs ++ [y], as ++ [a], rfl, (k.trans kk).at_ hr0, ?_, upd_same, by rw [List.length_append, hvl]; rfl, ?_, ?_, ?_⟩
      · rw [upd_ne hne2]
        exact kk _ _ ha
      · exact paired_snoc (Paired.mapP pr fun v a r => hls _ _ _ _ _ _ hr6 (hst _ _ _ _ kk r)) (hls _ _ _ _ _ _ hr6 hy6)
      · intro x hx
        rcases List.mem_append.mp hx with hx | hx
        · exact hF x hx
        · rw [List.mem_singleton.mp hx]
          exact ⟨_, e⟩
      · rw [hg, tell_drop hrs, e, addTo_app]
  · rintro σ H3 ⟨y5, y6, y7, y8, y9, vs, as, rfl, k, ha, hr, hvl, pr, hF, hg⟩
    have et : tellGo F 0 (lines.map fun r => Txt.split r " ") = .inl as := by
      rw [hg, List.length_map, List.drop_of_length_le (by rw [List.length_map]; exact Nat.le_refl _)]
      show Sum.inl (as ++ []) = _
      rw [List.append_nil]
    unfold dueDat at q
    rw [et] at q
    have q : ∀ y H', Keep H0 H' → Dt K H' y (match R as with | none => .list [.str "told", .tuple (as.map f)] | some pl => .list [.str say, .tuple (pl.map .int)]) → Q y H' := q
    with_reducible apply rd_seq
    with_reducible apply rd_asg
    refine hplace rl _ _ _ _ _ H3 vs as _ k hr pr hF fun y H4 k4 hy => ?_
    walk_at "rd"
    refine rd_isN ?_
    walk_at "rd"
    have hr4 := k4 _ _ hr
    have pr4 := Paired.mapP pr fun v a r => hst _ _ _ _ k4 r
    cases hR : R as with
    | none =>
      rw [hR] at hy q
      cases (show y = .non from hy)
      refine iteT ?_
      walk_at "rd"
      refine rd_lst ?_
      walk_at "rd"
      refine rd_tupL (.inl (.inl hr4)) fun tp htp => ?_
      walk_at "rd"
      refine ⟨show 2 ≤ sizeLine by decide, fun dl hdl => ?_⟩
      refine q _ _ (((k.trans k4).tnew htp).tnew hdl) ?_
      exact .lst (.inl (.inl upd_same)) (.cons (.str _) (.cons (.tup (.inl (.inl ((Keep.new hdl) _ _ upd_same))) (dts_of pr4 fun v a r => hdt _ _ _ (hst _ _ _ _ ((Keep.new htp).tnew hdl) r))) .nil))
    | some pl =>
      rw [hR] at hy q
      obtain ⟨pa, rfl, hpa⟩ := (show TupAt H4 y (pl.map V.int) from hy)
      rw [decide_eq_false (fun z => by cases z)]
      refine iteF ?_
      walk_at "rd"
      refine rd_lst ?_
      have fin : ∀ (s : Str), s = say → ∀ H5, Keep H4 H5 → 2 ≤ sizeLine ∧ ∀ p, H5 p = none → Q (.ref p) (upd H5 p (.lst [.str s, .ref pa])) := fun s e H5 k5 => ⟨by decide, fun p hp => q _ _ (((k.trans k4).trans k5).tnew hp) (by
        subst e
        exact .lst (.inl (.inl upd_same)) (.cons (.str _) (.cons (.tup (.inl (.inl ((Keep.new hp) _ _ (k5 _ _ hpa)))) (dt_int pl)) .nil)))⟩
      walk_at "rd"
      refine iteB (fun h => ?_) (fun h => ?_)
      · walk_at "rd"
        exact fin "layout" (by rw [hsay, if_pos h]) H4 (.refl H4)
      · walk_at "rd"
        exact fin "file" (by rw [hsay, h]; rfl) H4 (.refl H4)
theorem r__law_due {P : Program} {w : World} {K : PySem.W.Frag} {vs : List V} {H : Hp} {Q : VK} {E : XK} (h : sp__law_due K vs H Q E) : t__law_due P w K { nx := fun _ H' => Q .non H', rt := Q } (L2.start N__law_due vs) H := by
  obtain ⟨v, ks, t, b, rfl, hp, lay, ht, q⟩ := h
  obtain ⟨a, xs, rfl, sq, hks⟩ := id hp
  unfold t__law_due
  walk_at "rd"
  show tCons _ _ _ _ _
  walk_at "rd"
  refine ⟨.ref a, ks, rfl, ⟨a, xs, rfl, .inr sq, hks⟩, lay, fun u H1 k1 hu => ?_⟩
  walk_at "rd"
  refine rd_lst ?_
  walk_at "rd"
  refine ⟨Nat.zero_le _, fun rl hrl => ⟨_, _, rfl, ?_⟩⟩
  have hu1 := hu.und
  cases b with
  | true =>
    refine due_core (b := true) (H0 := H1) (F := kindRow) (R := layRes) (f := Kd.dat) (Rep := KdAt) (say := "layout") ht rfl (fun _ _ _ _ k h => k.kd h) (fun _ _ _ h => by obtain ⟨_, _, rfl, _⟩ := h; exact fun z => by cases z) (fun _ _ _ _ _ _ hl h => h.lst hl) (fun _ _ _ h => dt_kd h) ?_ ?_ ?_ (.new hrl) hrl upd_same
    · intro rl x5 x6 wl x8 x9 H2 ws Q' k2 hw n0 n1
      walk_at "rd"
      refine iteT ?_
      walk_at "rd"
      exact ⟨_, ws, rfl, hw, n0, n1⟩
    · intro rl x5 x6 x7 x8 x9 H2 vs as Q' k2 hr pr hF q'
      walk_at "rd"
      refine iteT ?_
      walk_at "rd"
      refine ⟨rl, vs, as, rfl, hr, pr, fun k hk => ?_, q'⟩
      obtain ⟨ws, hw⟩ := hF k hk
      exact kindRow_ok hw
    · intro y H2 k2 hd
      refine q y H2 (k1.trans k2) ?_
      rw [if_pos rfl]
      have e : dueDat kindRow layRes Kd.dat "layout" (if (true || !decide (t = "")) = true then rowsOf t else []) = (ansL t).dat Kd.dat := by
        rw [if_pos (by rfl)]
        unfold dueDat ansL
        cases tellGo kindRow 0 (rowsOf t) with
        | inr i => rfl
        | inl as =>
          show (match layRes as with | none => _ | some pl => _) = Ans.dat Kd.dat (match layRes as with | none => _ | some pl => _)
          cases layRes as <;> rfl
      rw [← e]
      exact hd
  | false =>
    refine due_core (b := false) (H0 := H1) (F := partRow ks) (R := fun ps => fileRes (nms ks) (ps.map (·.1))) (f := ptDat) (Rep := PtAt) (say := "file") ht rfl (fun _ _ _ _ k h => k.pt h) (fun _ _ _ h => h.nn) (fun _ _ _ _ _ _ hl h => h.lst hl) (fun _ _ _ h => dt_pt h) ?_ ?_ ?_ (.new hrl) hrl upd_same
    · intro rl x5 x6 wl x8 x9 H2 ws Q' k2 hw n0 n1
      walk_at "rd"
      refine iteF ?_
      walk_at "rd"
      exact ⟨_, ks, u, _, ws, rfl, (k1.trans k2).plan hp, lay, k2.undL hu1, hw, n0, n1⟩
    · intro rl x5 x6 x7 x8 x9 H2 vs as Q' k2 hr pr hF q'
      walk_at "rd"
      refine iteF ?_
      walk_at "rd"
      refine ⟨_, ks, rl, vs, as, rfl, (k1.trans k2).plan hp, lay, hr, pr, fun p hp => ?_, q'⟩
      obtain ⟨ws, hw⟩ := hF p hp
      exact (partRow_ok hw).1
    · intro y H2 k2 hd
      refine q y H2 (k1.trans k2) ?_
      rw [if_neg (by decide)]
      have e : dueDat (partRow ks) (fun ps => fileRes (nms ks) (ps.map (·.1))) ptDat "file" (if (false || !decide (t = "")) = true then rowsOf t else []) = (ansF ks t).dat ptDat := by
        have er : (if (false || !decide (t = "")) = true then rowsOf t else []) = (if t = "" then [] else rowsOf t) := by
          by_cases h : t = ""
          · rw [if_pos h, if_neg (by rw [decide_eq_true h]; decide)]
          · rw [if_neg h, if_pos (by rw [decide_eq_false h]; decide)]
        rw [er]
        unfold dueDat ansF
        cases tellGo (partRow ks) 0 (if t = "" then [] else rowsOf t) with
        | inr i => rfl
        | inl as =>
          show (match fileRes (nms ks) (as.map (·.1)) with | none => _ | some pl => _) = Ans.dat ptDat (match fileRes (nms ks) (as.map (·.1)) with | none => _ | some pl => _)
          cases fileRes (nms ks) (as.map (·.1)) <;> rfl
      rw [← e]
      exact hd
end Cp
set_option maxHeartbeats 8000000
/-! Texts. -/
namespace Cp
open PySem L2 LamX
local macro_rules | `(tactic| walk_at "rd") => `(tactic| repeat (first
  | with_reducible apply rd_seq | with_reducible apply rd_asg | with_reducible apply rd_gname | with_reducible apply rd_if | with_reducible apply rd_ret | with_reducible apply rd_drop | with_reducible apply rd_next
  | with_reducible apply rd_op | with_reducible apply rd_cb | with_reducible apply rd_cons | with_reducible apply rd_nil | with_reducible apply rd_c | with_reducible apply rd_tb | with_reducible apply rd_test | with_reducible apply rd_not
  | with_reducible apply rd_or | with_reducible apply rd_and | with_reducible apply rd_call | with_reducible apply rd_chain | with_reducible apply rd_andV | with_reducible apply rd_notV | with_reducible apply rd_ifx
  | with_reducible apply rd_gcons | with_reducible apply rd_gnil
  | ((with_reducible apply rd_var); exact rfl) | (with_reducible apply rd_bk)))
theorem num_asc (n : Int) : Asc (Str.ofString (toString n)) := fun c hc => by
  rcases Nat.lt_or_ge c 128 with h | h
  · exact h
  · exact absurd hc (PyProof.Rows.int_text_free' c ⟨by omega, by omega⟩ n)
theorem num_len {n : Int} (h0 : 0 ≤ n) (h1 : n ≤ 999999) : (Str.ofString (toString n)).length ≤ 10 := PyProof.Rows.toString_length_le h0 (by decide) (show n < 10 ^ 10 by omega)
theorem num_log {n : Int} (h0 : 0 ≤ n) (h1 : n ≤ 999999) : n.natAbs.log2 < 1920 := by
  rcases Nat.eq_zero_or_pos n.natAbs with e | e
  · rw [e]
    decide
  · have h2 : n.natAbs < 2 ^ 20 := Nat.lt_of_lt_of_le (show n.natAbs < 1000000 by omega) (by decide)
    exact Nat.lt_of_lt_of_le ((Nat.log2_lt (by omega)).mpr h2) (by decide)
theorem sum_le {B : Nat} : ∀ {l : List Str}, (∀ z ∈ l, z.length ≤ B) → (l.map (·.length)).sum ≤ l.length * B
  | [], _ => Nat.zero_le _
  | x :: r, h => by
    have h1 := h x List.mem_cons_self
    have h2 := sum_le (l := r) fun z hz => h z (List.mem_cons_of_mem _ hz)
    rw [List.map_cons, List.sum_cons, List.length_cons, Nat.add_mul]
    omega
theorem join_le {B n : Nat} {sep : Str} {l : List Str} (h : ∀ z ∈ l, z.length ≤ B) (hn : l.length ≤ n) (hs : sep.length = 1) : (Txt.join sep l).length ≤ n * B + n := by
  have h1 := sum_le h
  have h2 := Nat.mul_le_mul_right B hn
  rw [join_len, hs]
  omega
/-- sep.join of some texts -/
theorem rd_join {K : PySem.W.Frag} {H : Hp} {Q : VK} {sep : Str} {p : Addr} {l : List Str} {B n : Nat} (hp : SqL K H p (l.map V.str)) (hs : sep.length = 1) (h : ∀ z ∈ l, z.length ≤ B) (hn : l.length ≤ n) (c : n * B + n ≤ 16777216) (q : Q (.str (Txt.join sep l)) H) : rJoin K (.str sep) [.ref p] H Q := by
  refine ⟨sep, p, l, rfl, rfl, .inl hp, ?_, q⟩
  have h1 := sum_le h
  have h2 := Nat.mul_le_mul_right B hn
  rw [hs]
  omega
theorem tjoin_asc {sep : Str} {l : List Str} (hs : Asc sep) (h : ∀ p ∈ l, Asc p) : Asc (Txt.join sep l) := by
  rw [tj]
  exact join_asc hs h
theorem name_ok {z : Str} (h : nameOk z = true) : z.length ≤ 8 ∧ Asc z := by
  unfold nameOk at h
  simp only [Bool.and_eq_true, decide_eq_true_eq] at h
  refine ⟨h.1.2, fun c hc => ?_⟩
  have q := of_decide_eq_true (List.all_eq_true.mp h.2 c hc)
  rw [lows_cps] at q
  obtain ⟨n, hn, rfl⟩ := List.mem_map.mp q
  have := List.mem_range.mp hn
  omega
theorem mark_len {z : Str} (h : markOk z = true) : z.length ≤ 26 := by
  have e : word z.cps.toList = z := of_decide_eq_true h
  rw [← e]
  exact word_len _
/-- short enough for a line -/
def Fit (B : Nat) (z : Str) : Prop := z.length ≤ B ∧ Asc z
theorem r__law_texts {P : Program} {w : World} {K : PySem.W.Frag} {vs : List V} {H : Hp} {Q : VK} {E : XK} (h : sp__law_texts K vs H Q E) : t__law_texts P w K { nx := fun _ H' => Q .non H', rt := Q } (L2.start N__law_texts vs) H := by
  obtain ⟨p, ks, hd, rfl, ⟨a, xs, rfl, sq, hks⟩, lay, h12, ⟨kvs, hkv, hheld⟩, q⟩ := h
  have hxl : xs.length = ks.length := Paired.length hks
  have hz : sizeLine = 16777216 := by decide
  unfold t__law_texts
  walk_at "rd"
  show tCons _ _ _ _ _
  walk_at "rd"
  refine rd_lst ?_
  walk_at "rd"
  refine ⟨Nat.zero_le _, fun rl hrl => ?_⟩
  walk_at "rd"
  refine rd_lst ?_
  walk_at "rd"
  refine ⟨Nat.zero_le _, fun pl hpl => ⟨_, _, rfl, ?_⟩⟩
  have k1 : Keep H (upd (upd H rl (.lst [])) pl (.lst [])) := (Keep.new hrl).tnew hpl
  have hr1 : upd (upd H rl (.lst [])) pl (.lst []) rl = some (.lst []) := (Keep.new hpl) _ _ upd_same
  have hp1 : upd (upd H rl (.lst [])) pl (.lst []) pl = some (.lst []) := upd_same
  have hrp : rl ≠ pl := ne_of_none upd_same hpl
  have hp0 : H pl = none := (Keep.new hrl).free hpl
  generalize upd (upd H rl (.lst [])) pl (.lst []) = H1 at k1 hr1 hp1 ⊢
  clear hpl
  walk_at "rd"
  refine rd_for (rd_iT ?_)
  walk_at "rd"
  refine ⟨a, rfl, ⟨xs, k1.sqT sq⟩, ?_⟩
  refine for_tup (xs := xs) (fun i σ H2 => ∃ (x4 x5 x6 x7 x8 x9 x10 : Option V) (rs ps : List Str), σ = [some (.ref a), some (.ref hd), some (.ref rl), some (.ref pl), x4, x5, x6, x7, x8, x9, x10] ∧ Keep H H2 ∧ H2 rl = some (.lst (rs.map V.str)) ∧ H2 pl = some (.lst (ps.map V.str)) ∧ rs.length ≤ i ∧ ps.length ≤ i ∧
    (∀ z ∈ rs, Fit 400 z) ∧ ∀ z ∈ ps, Fit 400 z) ?_ ?_ ?_ ?_
  · exact ⟨_, _, _, _, _, _, _, [], [], rfl, k1, hr1, hp1, Nat.le_refl _, Nat.le_refl _, (fun z h => by cases h), (fun z h => by cases h)⟩
  · rintro i σ H2 _ ⟨x4, x5, x6, x7, x8, x9, x10, rs, ps, rfl, k, _⟩
    exact k.sqT sq
  · rintro i y σ H2 hy ⟨x4, x5, x6, x7, x8, x9, x10, rs, ps, rfl, k, hr, hp, hrl', hpl', hrs, hps⟩
    obtain ⟨kd, hkd, hkt⟩ := Paired.at_ hks hy
    have hkm : kd ∈ ks := List.mem_of_getElem? hkd
    have hi : i < ks.length := (List.getElem?_eq_some_iff.mp hkd).1
    obtain ⟨pa, pb, rfl, hpa, hpb⟩ := k.kd hkt
    obtain ⟨o1, o2, o3, o4, o5, o6, o7, o8, o9⟩ := kd_parts (lay.2 kd hkm)
    refine rd_gtup (.inl (.inl hpa)) rfl ?_
    walk_at "rd"
    refine rd_bm ?_
    walk_at "rd"
    refine ⟨ty_lst (.inl (.inl hr)), ?_⟩
    with_reducible apply rd_cons
    refine rd_m1 ?_
    walk_at "rd"
    refine ⟨⟨_, rfl⟩, ?_⟩
    walk_at "rd"
    refine rd_lst ?_
    walk_at "rd"
    refine rd_strI (num_log (by omega) (by omega)) ?_
    obtain ⟨mk, emk, hmk⟩ : ∃ mk : Str, mk = (if kd.mark = "" then ("-" : Str) else kd.mark) ∧ Fit 26 mk := by
      refine ⟨_, rfl, ?_⟩
      split
      · exact ⟨by decide, asc_by (by decide)⟩
      · exact ⟨mark_len o9, (kd_asc (lay.2 kd hkm)).2.2.2.1⟩
    have hm : ∀ (H' : Hp) (Q' : VK) (x9 x10 : Option V), Q' (.str mk) H' → (tIf (tTest (tOp rNe (tVar 8) (tC (.str "")))) (tVar 8) (tC (.str "-"))) [some (.ref a), some (.ref hd), some (.ref rl), some (.ref pl), some (.str kd.name), some (.int kd.ed), some (.ref pb), some (.str kd.letter), some (.str kd.mark), x9, x10] H' Q' := by
      intro H' Q' x9 x10 q'
      walk_at "rd"
      refine rd_ne rfl ?_
      walk_at "rd"
      have em : decide (V.str kd.mark = V.str "") = decide (kd.mark = "") := by simp only [V.str.injEq]
      rw [em]
      subst emk
      refine iteB (fun h => ?_) (fun h => ?_)
      · rw [if_neg (of_decide_eq_false (nt h))] at q'
        walk_at "rd"
        exact q'
      · rw [if_pos (of_decide_eq_true (nf h))] at q'
        exact q'
    with_reducible apply rd_cons
    refine rd_var rfl ?_
    with_reducible apply rd_cons
    refine hm _ _ _ _ ?_
    walk_at "rd"
    refine ⟨show 5 ≤ sizeLine by decide, fun al hal => ?_⟩
    walk_at "rd"
    refine rd_listT (.inl (.inl ((Keep.new hal) _ _ hpb))) fun bl hbl => ?_
    have hal2 := (Keep.new (o := .lst (kd.bases.map V.str)) hbl) _ _ (show upd H2 al (.lst [.str "kind", .str kd.name, .str (Str.ofString (toString kd.ed)), .str kd.letter, .str mk]) al = _ from upd_same)
    refine rd_cat hal2 upd_same (by rw [List.length_map]; show 5 + _ ≤ _; omega) fun cl hcl => ?_
    have k3 : Keep H2 (upd (upd (upd H2 al (.lst [.str "kind", .str kd.name, .str (Str.ofString (toString kd.ed)), .str kd.letter, .str mk])) bl (.lst (kd.bases.map V.str))) cl (.lst ([.str "kind", .str kd.name, .str (Str.ofString (toString kd.ed)), .str kd.letter, .str mk] ++ kd.bases.map V.str))) := ((Keep.new hal).tnew hbl).tnew hcl
    have hc3 : upd (upd (upd H2 al (.lst [.str "kind", .str kd.name, .str (Str.ofString (toString kd.ed)), .str kd.letter, .str mk])) bl (.lst (kd.bases.map V.str))) cl (.lst ([.str "kind", .str kd.name, .str (Str.ofString (toString kd.ed)), .str kd.letter, .str mk] ++ kd.bases.map V.str)) cl = some (.lst (([("kind" : Str), kd.name, Str.ofString (toString kd.ed), kd.letter, mk] ++ kd.bases).map V.str)) := by
      rw [upd_same, List.map_append]
      rfl
    generalize upd (upd (upd H2 al (.lst [.str "kind", .str kd.name, .str (Str.ofString (toString kd.ed)), .str kd.letter, .str mk])) bl (.lst (kd.bases.map V.str))) cl (.lst ([.str "kind", .str kd.name, .str (Str.ofString (toString kd.ed)), .str kd.letter, .str mk] ++ kd.bases.map V.str)) = H3 at k3 hc3 ⊢
    clear hal2 hcl hbl hal
    have hitems : ∀ z ∈ [("kind" : Str), kd.name, Str.ofString (toString kd.ed), kd.letter, mk] ++ kd.bases, Fit 26 z := by
      intro z hz
      have n1 := name_ok o1
      rcases List.mem_append.mp hz with hz | hz
      · simp only [List.mem_cons, List.not_mem_nil, or_false] at hz
        rcases hz with rfl | rfl | rfl | rfl | rfl
        · exact ⟨by decide, asc_by (by decide)⟩
        · exact ⟨by omega, n1.2⟩
        · exact ⟨Nat.le_trans (num_len (by omega) (by omega)) (by decide), num_asc _⟩
        · exact ⟨by omega, (kd_asc (lay.2 kd hkm)).2.2.1⟩
        · exact hmk
      · have n2 := name_ok (o5 z hz)
        exact ⟨by omega, n2.2⟩
    have hil : ([("kind" : Str), kd.name, Str.ofString (toString kd.ed), kd.letter, mk] ++ kd.bases).length ≤ 11 := by
      rw [List.length_append]
      show 5 + _ ≤ _
      omega
    generalize [("kind" : Str), kd.name, Str.ofString (toString kd.ed), kd.letter, mk] ++ kd.bases = items at hc3 hitems hil
    have hitl : ∀ z ∈ items, z.length ≤ 26 := fun z h => (hitems z h).1
    refine rd_join (n := 11) (.inl (.inl hc3)) (by decide) hitl hil (by decide) ?_
    walk_at "rd"
    have hr3 := k3 _ _ hr
    have hp3 := k3 _ _ hp
    have hpb3 := k3 _ _ hpb
    refine rd_app hr3 (by rw [List.length_map]; omega) ?_
    have bl := join_le (sep := " ") (n := 11) hitl hil (by decide)
    have hrow : Fit 400 (Txt.join " " items) := ⟨by omega, tjoin_asc (asc_by (by decide)) fun z h => (hitems z h).2⟩
    have hr4 : upd H3 rl (.lst (rs.map V.str ++ [.str (Txt.join " " items)])) rl = some (.lst ((rs ++ [Txt.join " " items]).map V.str)) := by
      rw [upd_same, List.map_append]
      rfl
    have k4 : Keep H (upd H3 rl (.lst (rs.map V.str ++ [.str (Txt.join " " items)]))) := (k.trans k3).at_ hrl
    have hp4 : upd H3 rl (.lst (rs.map V.str ++ [.str (Txt.join " " items)])) pl = some (.lst (ps.map V.str)) := by
      rw [upd_ne (Ne.symm hrp)]
      exact hp3
    have hpb4 : upd H3 rl (.lst (rs.map V.str ++ [.str (Txt.join " " items)])) pb = some (.tup (kd.bases.map V.str)) := by
      rw [upd_ne (ne_of hpb3 hr3 (fun z => by cases z))]
      exact hpb3
    generalize upd H3 rl (.lst (rs.map V.str ++ [.str (Txt.join " " items)])) = H4 at hr4 k4 hp4 hpb4 ⊢
    have hrs4 : ∀ z ∈ rs ++ [Txt.join " " items], Fit 400 z := by
      intro z hz
      rcases List.mem_append.mp hz with hz | hz
      · exact hrs z hz
      · rw [List.mem_singleton.mp hz]
        exact hrow
    have hrl4 : (rs ++ [Txt.join " " items]).length ≤ i + 1 := by
      rw [List.length_append, List.length_singleton]
      omega
    generalize rs ++ [Txt.join " " items] = rs2 at hr4 hrs4 hrl4
    clear k3 hc3 hr3 hp3 hpb3 hrow hitems hitl
    walk_at "rd"
    refine rd_din ?_
    walk_at "rd"
    refine ⟨hd, _, rfl, DGet.k (k := .inr kd.name) (k4 _ _ hkv), _, rfl, ?_⟩
    cases hv : valV kvs (.inr kd.name : Key) with
    | none =>
      refine iteF ?_
      exact ⟨_, _, _, _, _, _, _, rs2, ps, rfl, k4, hr4, hp4, hrl4, by omega, hrs4, hps⟩
    | some v =>
      refine iteT ?_
      have e := hheld kd hkm v hv
      have hnum : ∀ (Q' : VK), (∀ nl (ns : List Int) H5, Keep H4 H5 → H5 nl = some (.lst (ns.map V.int)) → ns.length ≤ 24 → (∀ n ∈ ns, 0 ≤ n ∧ n ≤ 999999) → Q' (.ref nl) H5) →
          (tIf (tTest (tOp (rNeD K) (tVar 6) (tTup tNil))) (tCB (rListT K) (tCons (tDGet (tVar 1) (tVar 4)) tNil)) (tLst (tCons (tDGet (tVar 1) (tVar 4)) tNil))) [some (.ref a), some (.ref hd), some (.ref rl), some (.ref pl), some (.str kd.name), some (.int kd.ed), some (.ref pb), some (.str kd.letter), some (.str kd.mark), x9, x10] H4 Q' := by
        intro Q' q'
        walk_at "rd"
        refine rd_tup ?_
        walk_at "rd"
        refine ⟨Nat.zero_le _, fun tp htp => ?_⟩
        have k5 : Keep H4 (upd H4 tp (.tup [])) := .new htp
        refine rd_neT0 (.inl (.inl (k5 _ _ hpb4))) (.inl (.inl upd_same)) (kd_asc (lay.2 kd hkm)).2.1 ?_
        generalize upd H4 tp (.tup []) = H5 at k5 ⊢
        have hg : DGet H5 hd (.str kd.name) (some v) := dget_k (k := .inr kd.name) (k5 _ _ (k4 _ _ hkv)) hv
        walk_at "rd"
        refine iteB (fun h => ?_) (fun h => ?_)
        · rw [if_neg (fun z : kd.bases = [] => by rw [z] at h; cases h)] at e
          obtain ⟨ns, ⟨tn, rfl, htn⟩, hl, hr⟩ := e
          walk_at "rd"
          refine rd_dget ?_
          walk_at "rd"
          refine ⟨hd, _, rfl, hg, ?_⟩
          refine rd_listT (.inl (.inl (k5 _ _ (k4 _ _ htn)))) fun nl hnl => ?_
          exact q' nl ns _ (k5.tnew hnl) upd_same hl hr
        · rw [if_pos (List.isEmpty_iff.mp (nf h))] at e
          obtain ⟨n, rfl, n0, n1⟩ := e
          refine rd_lst ?_
          walk_at "rd"
          refine rd_dget ?_
          walk_at "rd"
          refine ⟨hd, _, rfl, hg, ?_⟩
          walk_at "rd"
          refine ⟨show 1 ≤ sizeLine by decide, fun nl hnl => ?_⟩
          refine q' nl [n] _ (k5.tnew hnl) upd_same (show 1 ≤ 24 by decide) fun m hm => ?_
          rw [List.mem_singleton.mp hm]
          exact ⟨n0, n1⟩
      with_reducible apply rd_seq
      with_reducible apply rd_asg
      refine hnum _ fun nl ns H5 k5 hn5 hnl hnr => ?_
      walk_at "rd"
      refine rd_bm ?_
      walk_at "rd"
      have hp5 := k5 _ _ hp4
      refine ⟨ty_lst (.inl (.inl hp5)), ?_⟩
      with_reducible apply rd_cons
      refine rd_m1 ?_
      walk_at "rd"
      refine ⟨⟨_, rfl⟩, ?_⟩
      walk_at "rd"
      refine rd_lst ?_
      walk_at "rd"
      refine ⟨show 2 ≤ sizeLine by decide, fun bl2 hbl2 => ?_⟩
      refine rd_lcL ?_
      walk_at "rd"
      refine fin_L (.inl (.inl ((Keep.new hbl2) _ _ hn5))) (paired_map _ _) (by rw [List.length_map]; omega) (fun _ => true) (fun n : Int => V.str (Str.ofString (toString n))) (.all fun y n H6 Ke r hm6 k6 q6 => ?_) fun sl H6 k6 hs0 hs6 => ?_
      · subst r
        walk_at "rd"
        refine rd_strI (num_log (hnr n hm6).1 (hnr n hm6).2) (q6 H6 (.refl H6))
      rw [filt_all] at hs6
      have hs6 : H6 sl = some (.lst ((ns.map fun n => Str.ofString (toString n)).map V.str)) := by
        rw [hs6, List.map_map]
        rfl
      have hb6 := k6 _ _ (show upd H5 bl2 (.lst [.str "part", .str kd.name]) bl2 = _ from upd_same)
      refine rd_cat hb6 hs6 (by rw [List.length_map, List.length_map]; show 2 + _ ≤ _; omega) fun cl hcl => ?_
      have k7 : Keep H4 (upd H6 cl (.lst ([.str "part", .str kd.name] ++ (ns.map fun n => Str.ofString (toString n)).map V.str))) := ((k5.tnew hbl2).trans k6).tnew hcl
      have hc7 : upd H6 cl (.lst ([.str "part", .str kd.name] ++ (ns.map fun n => Str.ofString (toString n)).map V.str)) cl = some (.lst (([("part" : Str), kd.name] ++ ns.map fun n => Str.ofString (toString n)).map V.str)) := by
        rw [upd_same, List.map_append]
        rfl
      generalize upd H6 cl (.lst ([.str "part", .str kd.name] ++ (ns.map fun n => Str.ofString (toString n)).map V.str)) = H7 at k7 hc7 ⊢
      have hit2 : ∀ z ∈ [("part" : Str), kd.name] ++ ns.map fun n => Str.ofString (toString n), Fit 10 z := by
        intro z hz
        have n1 := name_ok o1
        rcases List.mem_append.mp hz with hz | hz
        · simp only [List.mem_cons, List.not_mem_nil, or_false] at hz
          rcases hz with rfl | rfl
          · exact ⟨by decide, asc_by (by decide)⟩
          · exact ⟨by omega, n1.2⟩
        · obtain ⟨n, hn, rfl⟩ := List.mem_map.mp hz
          exact ⟨num_len (hnr n hn).1 (hnr n hn).2, num_asc _⟩
      have hil2 : ([("part" : Str), kd.name] ++ ns.map fun n => Str.ofString (toString n)).length ≤ 26 := by
        rw [List.length_append, List.length_map]
        show 2 + _ ≤ _
        omega
      generalize [("part" : Str), kd.name] ++ ns.map (fun n => Str.ofString (toString n)) = items2 at hc7 hit2 hil2
      have hitl2 : ∀ z ∈ items2, z.length ≤ 10 := fun z h => (hit2 z h).1
      refine rd_join (n := 26) (.inl (.inl hc7)) (by decide) hitl2 hil2 (by decide) ?_
      walk_at "rd"
      have hp7 := k7 _ _ hp4
      refine rd_app hp7 (by rw [List.length_map]; omega) ?_
      have bl2' := join_le (sep := " ") (n := 26) hitl2 hil2 (by decide)
      refine ⟨_, _, _, _, _, _, _, rs2, ps ++ [Txt.join " " items2], rfl, (k4.trans k7).at_ hp0, ?_, ?_, hrl4, ?_, hrs4, ?_⟩
      · rw [upd_ne hrp]
        exact k7 _ _ hr4
      · rw [upd_same, List.map_append]
        rfl
      · rw [List.length_append, List.length_singleton]
        omega
      · intro z hz
        rcases List.mem_append.mp hz with hz | hz
        · exact hps z hz
        · rw [List.mem_singleton.mp hz]
          exact ⟨by omega, tjoin_asc (asc_by (by decide)) fun z h => (hit2 z h).2⟩
  · rintro σ H2 ⟨x4, x5, x6, x7, x8, x9, x10, rs, ps, rfl, k, hr, hp, hrl', hpl', hrs, hps⟩
    walk_at "rd"
    refine rd_lst ?_
    have hj1 : ∀ z ∈ rs, z.length ≤ 400 := fun z h => (hrs z h).1
    have hj2 : ∀ z ∈ ps, z.length ≤ 400 := fun z h => (hps z h).1
    with_reducible apply rd_cons
    refine rd_m1 ?_
    walk_at "rd"
    refine ⟨⟨_, rfl⟩, ?_⟩
    walk_at "rd"
    refine rd_join (n := 12) (.inl (.inl hr)) (by decide) hj1 (by omega) (by decide) ?_
    with_reducible apply rd_cons
    refine rd_m1 ?_
    walk_at "rd"
    refine ⟨⟨_, rfl⟩, ?_⟩
    walk_at "rd"
    refine rd_join (n := 12) (.inl (.inl hp)) (by decide) hj2 (by omega) (by decide) ?_
    walk_at "rd"
    refine ⟨show 2 ≤ sizeLine by decide, fun l hl => ?_⟩
    have b1 := join_le (sep := "\n") (n := 12) hj1 (by omega) (by decide)
    have b2 := join_le (sep := "\n") (n := 12) hj2 (by omega) (by decide)
    exact q l _ _ _ (k.tnew hl) (k.free hl) upd_same (by omega) (by omega) (tjoin_asc (asc_by (by decide)) fun z h => (hrs z h).2) (tjoin_asc (asc_by (by decide)) fun z h => (hps z h).2)
end Cp
set_option maxHeartbeats 8000000
/-! Any word; a bent text. -/
namespace Cp
open PySem L2 LamX
local macro_rules | `(tactic| walk_at "rd") => `(tactic| repeat (first
  | with_reducible apply rd_seq | with_reducible apply rd_asg | with_reducible apply rd_gname | with_reducible apply rd_if | with_reducible apply rd_ret | with_reducible apply rd_drop | with_reducible apply rd_next
  | with_reducible apply rd_op | with_reducible apply rd_cb | with_reducible apply rd_cons | with_reducible apply rd_nil | with_reducible apply rd_c | with_reducible apply rd_tb | with_reducible apply rd_test | with_reducible apply rd_not
  | with_reducible apply rd_or | with_reducible apply rd_and | with_reducible apply rd_call | with_reducible apply rd_chain | with_reducible apply rd_andV | with_reducible apply rd_notV | with_reducible apply rd_ifx
  | with_reducible apply rd_gcons | with_reducible apply rd_gnil
  | ((with_reducible apply rd_var); exact rfl) | (with_reducible apply rd_bk)))
theorem lcK_go {d g : Addr} {j n B : Nat} {te : TE} {σ : St} {H1 : Hp} {Q : VK} (hdr : DrawAt H1 d g) (hn : n ≤ 1000)
    (he : ∀ x H (Ke : VK), Go d g H1 H → (∀ z H4, Go d g H H4 → Fit B z → Ke (.str z) H4) → te ((wipe σ [j]).set j (some x)) H Ke)
    (q : ∀ D H' (zs : List Str), Go d g H1 H' → H1 D = none → H' D = some (.lst (zs.map V.str)) → zs.length = n → (∀ z ∈ zs, Fit B z) → Q (.ref D) H') : LcK (Itr 0 n) j tYes te σ Q H1 := by
  intro D hD
  have hd := hdr.nd hD
  refine lc_it (walk_range (lo := 0) (n := n)) (fun i H => Go d g H1 H ∧ ∃ zs : List Str, H D = some (.lst (zs.map V.str)) ∧ zs.length = i ∧ ∀ z ∈ zs, Fit B z) ⟨.keep (.new hD) hdr, [], upd_same, rfl, fun z hz => by cases hz⟩ (fun i H _ p => trivial) (fun i x H H' hi p y => ?_) fun H p => ?_
  · obtain ⟨k, zs, hz, hl, hf⟩ := p
    obtain ⟨rfl, hx⟩ := y
    refine rd_gname ⟨?_, ?_⟩
    · show ((wipe σ [j]).set j (some x)).set j none = _
      exact wipe1 x
    · refine rd_yes (iteT ?_)
      refine he x _ _ k fun z H4 k4 fz => ⟨zs.map V.str, k4.lst hd.1 hd.2 hz, ?_, (k.trans k4).fresh hdr hD, zs ++ [z], ?_, ?_, ?_⟩
      · rw [List.length_map]
        have hzz : sizeLine = 16777216 := by decide
        omega
      · rw [upd_same, List.map_append]
        rfl
      · rw [List.length_append, hl]
        rfl
      · intro y hy
        rcases List.mem_append.mp hy with hy | hy
        · exact hf y hy
        · rw [List.mem_singleton.mp hy]
          exact fz
  · obtain ⟨k, zs, hz, hl, hf⟩ := p
    exact q D H zs k hD hz hl hf
theorem fit_all {B : Nat} {l : List Str} (h : (l.all fun z => decide (z.length ≤ B) && z.cps.toList.all fun c => decide (c < 128)) = true) : ∀ z ∈ l, Fit B z := fun z hz => by
  have q := List.all_eq_true.mp h z hz
  rw [Bool.and_eq_true] at q
  exact ⟨of_decide_eq_true q.1, fun c hc => of_decide_eq_true (List.all_eq_true.mp q.2 c hc)⟩
theorem fit_app {B : Nat} {l m : List Str} (h1 : ∀ z ∈ l, Fit B z) (h2 : ∀ z ∈ m, Fit B z) : ∀ z ∈ l ++ m, Fit B z := fun z hz => by
  rcases List.mem_append.mp hz with hz | hz
  · exact h1 z hz
  · exact h2 z hz
theorem atI_neg {α : Type} {xs : List α} {v : α} (h : xs[xs.length - 1]? = some v) : atI xs (-1) = some v := by
  have hl : 0 < xs.length := by
    rcases Nat.eq_zero_or_pos xs.length with e | e
    · rw [List.length_eq_zero_iff.mp e] at h
      cases h
    · exact e
  have e : ixN xs.length (-1) = some (xs.length - 1) := by
    unfold ixN
    rw [if_neg (by decide), if_pos (by omega)]
    congr 1
    omega
  unfold atI
  rw [e]
  exact h
def lits1 : List Str := ["kind", "part", "set", "make", "drop", "-", "a", "az", "za", "zz", ""]
def lits2 : List Str := ["0", "1", "2", "99", "100", "999999", "1000000", "01", "-1", "A", "7"]
theorem r__law_any {P : Program} {w : World} {K : PySem.W.Frag} {vs : List V} {H : Hp} {Q : VK} {E : XK} (h : sp__law_any K vs H Q E) : t__law_any P w K { nx := fun _ H' => Q .non H', rt := Q } (L2.start N__law_any vs) H := by
  obtain ⟨d, g, p, ks, rfl, hdr, ⟨a, xs, rfl, sq, hks⟩, lay, q⟩ := h
  have hxl : xs.length = ks.length := Paired.length hks
  obtain ⟨l1, l2⟩ := lay.len
  have hz : sizeLine = 16777216 := by decide
  unfold t__law_any
  walk_at "rd"
  refine rd_lcT ?_
  walk_at "rd"
  refine fin_T sq hks (by omega) (fun _ => true) (fun k => V.str k.name) (.all fun y k H1 Ke r hm k1 q1 => ?_) fun D H1 k1 hD0 hD => ?_
  · obtain ⟨qa, qb, rfl, hqa, hqb⟩ := k1.kd r
    walk_at "rd"
    refine rd_ixT (.inl (.inl hqa)) (atI_nat (j := 0) rfl) ?_
    exact q1 H1 (.refl H1)
  rw [filt_all] at hD
  have hD : H1 D = some (.lst ((nms ks).map V.str)) := by
    rw [hD]
    unfold nms
    rw [List.map_map]
    rfl
  have hnl : (nms ks).length ≤ 24 := by unfold nms; rw [List.length_map]; omega
  have hfn : ∀ z ∈ nms ks, Fit 30 z := fun z hz => by
    obtain ⟨k, hk, rfl⟩ := nms_mem.mp hz
    have n1 := name_ok (kd_parts (lay.2 k hk)).1
    exact ⟨by omega, n1.2⟩
  walk_at "rd"
  refine rd_lst ?_
  walk_at "rd"
  refine ⟨show 11 ≤ sizeLine by decide, fun al hal => ?_⟩
  refine rd_cat (zs := lits1.map V.str) ((Keep.new hal) _ _ hD) upd_same (by rw [List.length_map, List.length_map]; show _ + 11 ≤ _; omega) fun bl hbl => ?_
  have k2 : Keep H1 (upd (upd H1 al (.lst (lits1.map V.str))) bl (.lst ((nms ks).map V.str ++ lits1.map V.str))) := (Keep.new hal).tnew hbl
  have hb2 : upd (upd H1 al (.lst (lits1.map V.str))) bl (.lst ((nms ks).map V.str ++ lits1.map V.str)) bl = some (.lst ((nms ks ++ lits1).map V.str)) := by
    rw [upd_same, List.map_append]
  have k02 := k1.trans k2
  show gName 2 (.ref bl) _ (upd (upd H1 al (.lst (lits1.map V.str))) bl (.lst ((nms ks).map V.str ++ lits1.map V.str))) _
  generalize upd (upd H1 al (.lst (lits1.map V.str))) bl (.lst ((nms ks).map V.str ++ lits1.map V.str)) = H2 at hb2 k02 ⊢
  clear hbl hal k2 hD hD0
  walk_at "rd"
  refine rd_lst ?_
  walk_at "rd"
  refine rd_un (rd_c (rd_u ?_))
  obtain ⟨kl, hkl⟩ : ∃ kl, ks[ks.length - 1]? = some kl := ⟨_, List.getElem?_eq_getElem (by omega)⟩
  obtain ⟨y, hy⟩ : ∃ y, xs[xs.length - 1]? = some y := ⟨_, List.getElem?_eq_getElem (by omega)⟩
  obtain ⟨kl', hkl', hkt⟩ := Paired.at_ hks hy
  obtain ⟨qa, qb, rfl, hqa, hqb⟩ := k02.kd hkt
  have hok := kd_parts (lay.2 kl' (List.mem_of_getElem? hkl'))
  refine rd_ixT (k02.sqT sq) (atI_neg hy) ?_
  walk_at "rd"
  refine rd_ixT (.inl (.inl hqa)) (atI_nat (j := 1) rfl) ?_
  walk_at "rd"
  refine rd_strI (num_log (by omega) (by omega)) ?_
  walk_at "rd"
  refine ⟨show 12 ≤ sizeLine by decide, fun al hal => ?_⟩
  refine rd_cat (zs := (lits2 ++ [Str.ofString (toString kl'.ed)]).map V.str) ((Keep.new hal) _ _ hb2) upd_same (by simp only [List.length_map, List.length_append]; show _ + 11 + 12 ≤ _; omega) fun bl hbl => ?_
  have k3 : Keep H2 (upd (upd H2 al (.lst ((lits2 ++ [Str.ofString (toString kl'.ed)]).map V.str))) bl (.lst ((nms ks ++ lits1).map V.str ++ (lits2 ++ [Str.ofString (toString kl'.ed)]).map V.str))) := (Keep.new hal).tnew hbl
  have hb3 : upd (upd H2 al (.lst ((lits2 ++ [Str.ofString (toString kl'.ed)]).map V.str))) bl (.lst ((nms ks ++ lits1).map V.str ++ (lits2 ++ [Str.ofString (toString kl'.ed)]).map V.str)) bl = some (.lst ((nms ks ++ lits1 ++ (lits2 ++ [Str.ofString (toString kl'.ed)])).map V.str)) := by
    rw [upd_same, List.map_append (l₁ := nms ks ++ lits1)]
  have k03 := k02.trans k3
  have hbl0 := k02.free ((Keep.new hal).free hbl)
  show gName 2 (.ref bl) _ (upd (upd H2 al (.lst ((lits2 ++ [Str.ofString (toString kl'.ed)]).map V.str))) bl (.lst ((nms ks ++ lits1).map V.str ++ (lits2 ++ [Str.ofString (toString kl'.ed)]).map V.str))) _
  generalize upd (upd H2 al (.lst ((lits2 ++ [Str.ofString (toString kl'.ed)]).map V.str))) bl (.lst ((nms ks ++ lits1).map V.str ++ (lits2 ++ [Str.ofString (toString kl'.ed)]).map V.str)) = H3 at hb3 k03 ⊢
  have hfit : ∀ z ∈ nms ks ++ lits1 ++ (lits2 ++ [Str.ofString (toString kl'.ed)]), Fit 30 z :=
    fit_app (fit_app hfn (fit_all (by decide +kernel))) (fit_app (fit_all (by decide +kernel)) fun z hz => by
      rw [List.mem_singleton.mp hz]
      exact ⟨Nat.le_trans (num_len (by omega) (by omega)) (by decide), num_asc _⟩)
  have hzl : (nms ks ++ lits1 ++ (lits2 ++ [Str.ofString (toString kl'.ed)])).length ≤ 60 ∧ 0 < (nms ks ++ lits1 ++ (lits2 ++ [Str.ofString (toString kl'.ed)])).length := by
    simp only [List.length_append, List.length_singleton]
    show _ + 11 + (11 + 1) ≤ 60 ∧ 0 < _ + 11 + (11 + 1)
    omega
  generalize nms ks ++ lits1 ++ (lits2 ++ [Str.ofString (toString kl'.ed)]) = zs at hb3 hfit hzl
  walk_at "rd"
  refine rd_lenL (.inl (.inl hb3)) ?_
  rw [List.length_map]
  walk_at "rd"
  refine ⟨d, g, _, rfl, k03.draw hdr, by omega, by omega, fun r H4 r0 r1 k4 => ?_⟩
  obtain ⟨n, rfl, hn⟩ := nat_of r0 r1
  have hbd := hdr.nd hbl0
  refine rd_ixL (v := .str zs[n]) (.inl (.inl (k4.lst hbd.1 hbd.2 hb3))) (atI_nat (by rw [List.getElem?_map, List.getElem?_eq_getElem hn]; rfl)) ?_
  obtain ⟨f1, f2⟩ := hfit zs[n] (List.getElem_mem hn)
  exact q _ H4 ((Go.keep k03 hdr).trans k4) f1 f2
end Cp
set_option maxHeartbeats 8000000
/-! A bent text. -/
namespace Cp
open PySem L2 LamX
local macro_rules | `(tactic| walk_at "rd") => `(tactic| repeat (first
  | with_reducible apply rd_seq | with_reducible apply rd_asg | with_reducible apply rd_gname | with_reducible apply rd_if | with_reducible apply rd_ret | with_reducible apply rd_drop | with_reducible apply rd_next
  | with_reducible apply rd_op | with_reducible apply rd_cb | with_reducible apply rd_cons | with_reducible apply rd_nil | with_reducible apply rd_c | with_reducible apply rd_tb | with_reducible apply rd_test | with_reducible apply rd_not
  | with_reducible apply rd_or | with_reducible apply rd_and | with_reducible apply rd_call | with_reducible apply rd_chain | with_reducible apply rd_andV | with_reducible apply rd_notV | with_reducible apply rd_ifx
  | with_reducible apply rd_gcons | with_reducible apply rd_gnil
  | ((with_reducible apply rd_var); exact rfl) | (with_reducible apply rd_bk)))
/-- lines and what parts them -/
def wt (zs : List Str) : Nat := (zs.map (·.length)).sum + zs.length
theorem wt_app (a b : List Str) : wt (a ++ b) = wt a + wt b := by
  unfold wt
  rw [List.map_append, List.sum_append, List.length_append]
  omega
theorem wt_one (z : Str) : wt [z] = z.length + 1 := rfl
theorem wt_rev (a : List Str) : wt a.reverse = wt a := by
  induction a with
  | nil => rfl
  | cons x r ih =>
    rw [List.reverse_cons, wt_app, ih, wt_one]
    unfold wt
    rw [List.map_cons, List.sum_cons, List.length_cons]
    omega
theorem wt_mem {a : List Str} {z : Str} (h : z ∈ a) : z.length + 1 ≤ wt a := by
  have h1 := sum_mem h
  have h2 : 0 < a.length := List.length_pos_of_mem h
  unfold wt
  omega
theorem wt_set {z : Str} : ∀ (a : List Str) (i : Nat), wt (a.set i z) ≤ wt a + z.length
  | [], _ => by simp [wt]
  | x :: r, 0 => by
    unfold wt
    simp only [List.set_cons_zero, List.map_cons, List.sum_cons, List.length_cons]
    omega
  | x :: r, i + 1 => by
    have ih := wt_set (z := z) r i
    unfold wt at ih ⊢
    simp only [List.set_cons_succ, List.map_cons, List.sum_cons, List.length_cons]
    omega
theorem wt_erase : ∀ (a : List Str) (i : Nat), wt (a.eraseIdx i) ≤ wt a
  | [], _ => by simp [wt]
  | x :: r, 0 => by
    unfold wt
    simp only [List.eraseIdx_cons_zero, List.map_cons, List.sum_cons, List.length_cons]
    omega
  | x :: r, i + 1 => by
    have ih := wt_erase r i
    unfold wt at ih ⊢
    simp only [List.eraseIdx_cons_succ, List.map_cons, List.sum_cons, List.length_cons]
    omega
theorem wt_split (x y : Str) (hy : y.length = 1) : wt (Txt.split x y) = x.length + 1 := by
  have h1 := split_sum x y
  have h2 := split_pos x y
  rw [hy] at h1
  unfold wt
  omega
theorem erase_map {α β : Type} (f : α → β) : ∀ (l : List α) (i : Nat), (l.map f).eraseIdx i = (l.eraseIdx i).map f
  | [], _ => rfl
  | x :: r, 0 => rfl
  | x :: r, i + 1 => by
    rw [List.map_cons, List.eraseIdx_cons_succ, List.eraseIdx_cons_succ, List.map_cons, erase_map f r i]
theorem wt_len (a : List Str) : a.length ≤ wt a := by unfold wt; omega
theorem cut_mid (xs : List V) (a b : Nat) (h : a ≤ b) : cutV xs (some (a : Int)) (some (b : Int)) = (xs.drop a).take (b - a) := by
  have e1 : HT.sIx xs.length xs.length (some (b : Int)) = min b xs.length := by
    simp only [HT.sIx]
    split <;> omega
  have e2 : HT.sIx xs.length 0 (some (a : Int)) = min a xs.length := by
    simp only [HT.sIx]
    split <;> omega
  unfold cutV
  rw [e1, e2]
  by_cases h1 : a ≤ xs.length
  · rw [Nat.min_eq_left h1]
    by_cases h2 : b ≤ xs.length
    · rw [Nat.min_eq_left h2]
    · rw [Nat.min_eq_right (by omega), List.take_of_length_le (by rw [List.length_drop]; omega), List.take_of_length_le (by rw [List.length_drop]; omega)]
  · rw [List.drop_of_length_le (show xs.length ≤ min a xs.length by omega), List.drop_of_length_le (show xs.length ≤ a by omega), List.take_nil, List.take_nil]
theorem cutS_fit {z : Str} (lo hi : Option Int) : (cutS z lo hi).length ≤ z.length ∧ (Asc z → Asc (cutS z lo hi)) := by
  have e : (cutS z lo hi).cps.toList = (z.cps.toList.drop (HT.sIx z.length 0 lo)).take (HT.sIx z.length z.length hi - HT.sIx z.length 0 lo) := rfl
  refine ⟨?_, fun h c hc => ?_⟩
  · rw [← len_cps, e, List.length_take, List.length_drop, len_cps]
    omega
  · rw [e] at hc
    exact h c (List.mem_of_mem_drop (List.mem_of_mem_take hc))
theorem rd_slS {z : Str} {lo hi : Option Int} {H : Hp} {Q : VK} (hz : z.length ≤ sizeLine) (q : Q (.str (cutS z lo hi)) H) : rSlS (.str z) lo hi H Q := ⟨z, rfl, hz, q⟩
theorem fin_mid {K : PySem.W.Frag} {H : Hp} {Q : VK} {l : Addr} {xs : List V} (a b : Nat) (hab : a ≤ b) (h : SqL K H l xs) (q : ∀ p, H p = none → Q (.ref p) (upd H p (.lst ((xs.drop a).take (b - a))))) : rSlL K (.ref l) (some (a : Nat)) (some (b : Nat)) H Q := ⟨l, xs, rfl, h, fun p hp => by rw [cut_mid _ _ _ hab]; exact q p hp⟩
theorem rd_rev {K : PySem.W.Frag} {te : TE} {σ : St} {H : Hp} {Q : VK} (q : te σ H fun x H1 => ∃ a xs, x = .ref a ∧ SqL K H1 a xs ∧ ∀ p, H1 p = none → Q (.ref p) (upd H1 p (.lst xs.reverse))) : tRevL K te σ H Q := q
theorem r__law_bent {P : Program} {w : World} {K : PySem.W.Frag} {vs : List V} {H : Hp} {Q : VK} {E : XK} (h : sp__law_bent K vs H Q E) : t__law_bent P w K { nx := fun _ H' => Q .non H', rt := Q } (L2.start N__law_bent vs) H := by
  obtain ⟨d, g, p, ks, t, rfl, hdr, hp, lay, ht, q⟩ := h
  have hz : sizeLine = 16777216 := by decide
  have ht1 := ht.1
  unfold t__law_bent
  walk_at "rd"
  show tCons _ _ _ _ _
  walk_at "rd"
  refine ⟨d, g, 10, rfl, hdr, by decide, by decide, fun wy H1 w0 w1 k1 => ?_⟩
  walk_at "rd"
  refine rd_lenS ht.le ?_
  walk_at "rd"
  refine rd_add ?_
  walk_at "rd"
  refine ⟨d, g, _, rfl, k1.2, by omega, by omega, fun a_ H2 a0 a1 k2 => ?_⟩
  obtain ⟨a, rfl, ha⟩ := nat_of (b := t.length + 1) a0 (by omega)
  have k2 := k1.trans k2
  walk_at "rd"
  refine ⟨_, _, _, rfl, ?_⟩
  walk_at "rd"
  show tCons _ _ _ _ _
  walk_at "rd"
  refine rd_lenS (by decide) ?_
  walk_at "rd"
  refine ⟨d, g, _, rfl, k2.2, by decide, by decide, fun s_ H3 s0 s1 k3 => ?_⟩
  obtain ⟨s, rfl, hs⟩ := nat_of (b := 10) s0 s1
  have k3 := k2.trans k3
  obtain ⟨c, hc, hc128⟩ : ∃ c, (" \n-019azkx" : Str).cps.toList[s]? = some c ∧ c < 128 := by
    have key : ∀ s < 10, ∃ c, (" \n-019azkx" : Str).cps.toList[s]? = some c ∧ c < 128 := by
      intro s hs
      have hl : s < (" \n-019azkx" : Str).cps.toList.length := hs
      refine ⟨_, List.getElem?_eq_getElem hl, ?_⟩
      have ha : (" \n-019azkx" : Str).cps.toList.all (fun c => decide (c < 128)) = true := by decide +kernel
      exact of_decide_eq_true (List.all_eq_true.mp ha _ (List.getElem_mem hl))
    exact key s hs
  have oneF : Fit 1 (⟨#[c]⟩ : Str) := ⟨Nat.le_refl _, fun e he => by
    have : e = c := by simpa using he
    omega⟩
  refine rd_ixS (by decide) (atI_nat hc) ?_
  with_reducible apply rd_cons
  refine rd_m1 ?_
  walk_at "rd"
  refine ⟨⟨_, rfl⟩, ?_⟩
  walk_at "rd"
  refine ⟨_, _, rfl, rfl, by decide, by omega, fun rl hrl => ?_⟩
  walk_at "rd"
  refine ⟨_, _, rfl, ?_⟩
  have hr4 : upd H3 rl (.lst ((Txt.split t "\n").map V.str)) rl = some (.lst ((Txt.split t "\n").map V.str)) := upd_same
  have k4 := k3.tnew (o := .lst ((Txt.split t "\n").map V.str)) hrl
  have hr0 := k3.free hrl
  have hrd := hdr.nd hr0
  generalize upd H3 rl (.lst ((Txt.split t "\n").map V.str)) = H4 at hr4 k4 ⊢
  have hwt := wt_split t "\n" (by decide)
  have hsp := split_pos t "\n"
  have hfr : ∀ z ∈ Txt.split t "\n", Asc z := fun z hz => split_asc ht.2 hz
  generalize Txt.split t "\n" = rs at hr4 hwt hsp hfr
  have hrl := wt_len rs
  walk_at "rd"
  refine rd_lenL (.inl (.inl hr4)) ?_
  rw [List.length_map]
  walk_at "rd"
  refine ⟨d, g, _, rfl, k4.2, by omega, by omega, fun o_ H5 o0 o1 k5 => ?_⟩
  obtain ⟨o, rfl, ho⟩ := nat_of o0 o1
  have hr5 := k5.lst hrd.1 hrd.2 hr4
  have k5 := k4.trans k5
  -- the end
  have fin : ∀ (x9 x10 : Option V) (y6 y8 : Option V) (l : Addr) (zs : List Str) (H6 : Hp), Go d g H H6 → H6 l = some (.lst (zs.map V.str)) → wt zs ≤ 2 * t.length + 1000 → (∀ z ∈ zs, Asc z) →
      (tRet (tM1 (rJoin K) (tC (.str "\n")) (tVar 7))) { nx := fun _ H' => Q .non H', rt := Q } [some (.ref d), some p, some (.str t), some (.int wy), some (.int (a : Nat)), some (.str " \n-019azkx"), y6, some (.ref l), y8, x9, x10] H6 := by
    intro x9 x10 y6 y8 l zs H6 k6 hl6 hw hasc
    with_reducible apply rd_ret
    refine rd_m1 ?_
    walk_at "rd"
    refine ⟨⟨_, rfl⟩, ?_⟩
    walk_at "rd"
    refine ⟨"\n", l, zs, rfl, rfl, .inl (.inl (.inl hl6)), ?_, ?_⟩
    · show _ + _ * 1 ≤ _
      unfold wt at hw
      omega
    · refine q _ H6 k6 ?_ (tjoin_asc (asc_by (by decide)) hasc)
      rw [join_len]
      show _ + (_ - 1) * 1 ≤ _
      unfold wt at hw
      omega
  walk_at "rd"
  refine rd_lt ?_
  walk_at "rd"
  refine iteB (fun h => ?_) (fun h => ?_)
  · -- a sign taken out, put in, changed
    obtain ⟨w_, rfl, hw⟩ := nat_of (b := 3) w0 (of_decide_eq_true h)
    walk_at "rd"
    refine rd_sl (rd_var rfl (rd_nopart (rd_part (rd_var rfl ⟨_, rfl, ?_⟩))))
    refine rd_slS ht.le ?_
    walk_at "rd"
    refine rd_lst ?_
    walk_at "rd"
    refine ⟨show 3 ≤ sizeLine by decide, fun al hal => ?_⟩
    walk_at "rd"
    obtain ⟨m, hm1, hm2⟩ : ∃ m : Str, ([(⟨#[c]⟩ : Str), "", ⟨#[c]⟩].map V.str)[w_]? = some (.str m) ∧ Fit 1 m := by
      rcases (show w_ = 0 ∨ w_ = 1 ∨ w_ = 2 by omega) with rfl | rfl | rfl
      · exact ⟨_, rfl, oneF⟩
      · exact ⟨"", rfl, by decide, asc_by (by decide)⟩
      · exact ⟨_, rfl, oneF⟩
    refine rd_ixL (.inl (.inl (show upd H5 al _ al = some (.lst ([(⟨#[c]⟩ : Str), "", ⟨#[c]⟩].map V.str)) from upd_same))) (atI_nat hm1) ?_
    have c1 := cutS_fit (z := t) none (some ((a : Nat) : Int))
    refine rd_addS (by have := hm2.1; have := c1.1; omega) ?_
    have k6 := k5.tnew (o := .lst [V.str ⟨#[c]⟩, .str "", .str ⟨#[c]⟩]) hal
    generalize upd H5 al (.lst [V.str ⟨#[c]⟩, .str "", .str ⟨#[c]⟩]) = H6 at k6 ⊢
    refine rd_sl (rd_var rfl (rd_part ?_))
    walk_at "rd"
    refine rd_lst ?_
    walk_at "rd"
    refine ⟨show 3 ≤ sizeLine by decide, fun bl hbl => ?_⟩
    walk_at "rd"
    obtain ⟨m2, _, hm3⟩ := ix_in (xs := [0, 1, 1]) (n := w_) hw
    refine rd_ixL (.inl (.inl (show upd H6 bl _ bl = some (.lst (([0, 1, 1] : List Int).map V.int)) from upd_same))) hm3 ?_
    refine rd_add ⟨_, rfl, rd_nopart ?_⟩
    have c2 := cutS_fit (z := t) (some ((a : Int) + m2)) none
    refine rd_slS ht.le ?_
    refine rd_addS (by rw [app_len]; have := hm2.1; have := c1.1; have := c2.1; omega) ?_
    refine q _ _ (k6.tnew hbl) ?_ (asc_app (asc_app (c1.2 ht.2) hm2.2) (c2.2 ht.2))
    rw [app_len, app_len]
    have := hm2.1
    have := c1.1
    have := c2.1
    omega
  walk_at "rd"
  refine rd_eq rfl ?_
  walk_at "rd"
  refine iteB (fun h => ?_) (fun h => ?_)
  · -- two lines change places
    walk_at "rd"
    have sr5 : SqL K H5 rl (rs.map V.str) := .inl (.inl hr5)
    refine rd_sl (rd_var rfl (rd_nopart (rd_part (rd_var rfl ⟨_, rfl, ?_⟩))))
    refine fin_to o sr5 fun p1 hp1 => ?_
    rw [← List.map_take]
    refine rd_rev ?_
    have kk1 : Keep H5 (upd H5 p1 (.lst ((rs.take o).map V.str))) := .new hp1
    refine rd_sl (rd_var rfl (rd_part (rd_var rfl ⟨_, rfl, rd_part ?_⟩)))
    walk_at "rd"
    refine rd_add ⟨_, rfl, ?_⟩
    have e2 : ((o : Int) + 2) = ((o + 2 : Nat) : Int) := by omega
    rw [e2]
    refine fin_mid o (o + 2) (by omega) (kk1.sqL sr5) fun p2 hp2 => ?_
    refine ⟨p2, _, rfl, .inl (.inl upd_same), fun p3 hp3 => ?_⟩
    have kk3 : Keep H5 (upd (upd (upd H5 p1 (.lst ((rs.take o).map V.str))) p2 (.lst (((rs.map V.str).drop o).take (o + 2 - o)))) p3 (.lst (((rs.map V.str).drop o).take (o + 2 - o)).reverse)) := (kk1.tnew hp2).tnew hp3
    have h13 : upd (upd (upd H5 p1 (.lst ((rs.take o).map V.str))) p2 (.lst (((rs.map V.str).drop o).take (o + 2 - o)))) p3 (.lst (((rs.map V.str).drop o).take (o + 2 - o)).reverse) p1 = some (.lst ((rs.take o).map V.str)) := ((Keep.new hp2).tnew hp3) _ _ upd_same
    have h33 : upd (upd (upd H5 p1 (.lst ((rs.take o).map V.str))) p2 (.lst (((rs.map V.str).drop o).take (o + 2 - o)))) p3 (.lst (((rs.map V.str).drop o).take (o + 2 - o)).reverse) p3 = some (.lst ((((rs.drop o).take 2).reverse).map V.str)) := by
      rw [upd_same, ← List.map_drop, ← List.map_take, ← List.map_reverse, show o + 2 - o = 2 by omega]
    generalize upd (upd (upd H5 p1 (.lst ((rs.take o).map V.str))) p2 (.lst (((rs.map V.str).drop o).take (o + 2 - o)))) p3 (.lst (((rs.map V.str).drop o).take (o + 2 - o)).reverse) = H6 at kk3 h13 h33 ⊢
    refine rd_cat h13 h33 (by simp only [List.length_map, List.length_take, List.length_reverse, List.length_drop]; omega) fun p4 hp4 => ?_
    rw [← List.map_append]
    refine rd_sl (rd_var rfl (rd_part ?_))
    walk_at "rd"
    refine rd_add ⟨_, rfl, rd_nopart ?_⟩
    rw [e2]
    refine fin_fr (o + 2) ((kk3.tnew hp4).sqL sr5) fun p5 hp5 => ?_
    rw [← List.map_drop]
    refine rd_cat ((Keep.new hp5) _ _ upd_same) upd_same (by simp only [List.length_map, List.length_take, List.length_reverse, List.length_drop, List.length_append]; omega) fun p6 hp6 => ?_
    rw [← List.map_append]
    with_reducible apply rd_gname
    refine fin _ _ _ _ p6 (rs.take o ++ ((rs.drop o).take 2).reverse ++ rs.drop (o + 2)) _ (k5.tkeep (((kk3.tnew hp4).tnew hp5).tnew hp6)) upd_same ?_ fun z hz => ?_
    · have e : wt rs = wt (rs.take o) + (wt ((rs.drop o).take 2) + wt (rs.drop (o + 2))) := by
        rw [← wt_app, ← List.drop_drop, List.take_append_drop, ← wt_app, List.take_append_drop]
      rw [wt_app, wt_app, wt_rev]
      omega
    · refine hfr z ?_
      rcases List.mem_append.mp hz with hz | hz
      · rcases List.mem_append.mp hz with hz | hz
        · exact List.mem_of_mem_take hz
        · exact List.mem_of_mem_drop (List.mem_of_mem_take (List.mem_reverse.mp hz))
      · exact List.mem_of_mem_drop hz
  walk_at "rd"
  refine rd_eq rfl ?_
  walk_at "rd"
  refine iteB (fun h => ?_) (fun h => ?_)
  · -- a line twice
    walk_at "rd"
    refine rd_bm ?_
    walk_at "rd"
    refine ⟨ty_lst (.inl (.inl hr5)), ?_⟩
    walk_at "rd"
    refine rd_lenL (.inl (.inl hr5)) ?_
    rw [List.length_map]
    walk_at "rd"
    refine ⟨d, g, _, rfl, k5.2, by omega, by omega, fun n_ H6 n0 n1 k6 => ?_⟩
    obtain ⟨n, rfl, hn⟩ := nat_of n0 n1
    have hr6 := k6.lst hrd.1 hrd.2 hr5
    refine rd_ixL (v := .str rs[n]) (.inl (.inl hr6)) (atI_nat (by rw [List.getElem?_map, List.getElem?_eq_getElem hn]; rfl)) ?_
    walk_at "rd"
    refine ⟨rl, rs.map V.str, _, _, rfl, rfl, hr6, by rw [List.length_map]; omega, by omega, by omega, ?_⟩
    have hm := List.getElem_mem hn
    refine fin _ _ _ _ rl (rs.take o ++ [rs[n]] ++ rs.drop o) _ ((k5.trans k6).fresh hdr hr0) ?_ ?_ fun z hz => ?_
    · rw [upd_same, List.map_append, List.map_append, List.map_take, List.map_drop]
      rfl
    · have e : wt rs = wt (rs.take o) + wt (rs.drop o) := by rw [← wt_app, List.take_append_drop]
      have := wt_mem hm
      rw [wt_app, wt_app, wt_one]
      omega
    · refine hfr z ?_
      rcases List.mem_append.mp hz with hz | hz
      · rcases List.mem_append.mp hz with hz | hz
        · exact List.mem_of_mem_take hz
        · rw [List.mem_singleton.mp hz]
          exact hm
      · exact List.mem_of_mem_drop hz
  walk_at "rd"
  refine rd_eq rfl ?_
  walk_at "rd"
  refine iteB (fun h => ?_) (fun h => ?_)
  · -- a line gone
    walk_at "rd"
    refine rd_bm ?_
    walk_at "rd"
    refine ⟨ty_lst (.inl (.inl hr5)), ?_⟩
    walk_at "rd"
    have hix : ixN (rs.map V.str).length (o : Int) = some o := ixN_nat' (by rw [List.length_map]; exact ho)
    refine ⟨rl, rs.map V.str, _, o, .str rs[o], rfl, rfl, hr5, by omega, by omega, (ixN_seq hix).1, by rw [List.getElem?_map, List.getElem?_eq_getElem ho]; rfl, ?_⟩
    refine fin _ _ _ _ rl (rs.eraseIdx o) _ (k5.fresh hdr hr0) ?_ ?_ fun z hz => hfr z (List.mem_of_mem_eraseIdx hz)
    · rw [upd_same, erase_map]
    · have := wt_erase rs o
      omega
  walk_at "rd"
  refine rd_eq rfl ?_
  walk_at "rd"
  refine iteB (fun h => ?_) (fun h => ?_)
  · -- a line of one sign
    walk_at "rd"
    refine rd_bm ?_
    walk_at "rd"
    refine ⟨ty_lst (.inl (.inl hr5)), ?_⟩
    walk_at "rd"
    refine rd_app hr5 (by rw [List.length_map]; omega) ?_
    refine fin _ _ _ _ rl (rs ++ [⟨#[c]⟩]) _ (k5.fresh hdr hr0) ?_ ?_ fun z hz => ?_
    · rw [upd_same, List.map_append]
      rfl
    · rw [wt_app, wt_one]
      have := oneF.1
      omega
    · rcases List.mem_append.mp hz with hz | hz
      · exact hfr z hz
      · rw [List.mem_singleton.mp hz]
        exact oneF.2
  walk_at "rd"
  refine rd_eq rfl ?_
  walk_at "rd"
  have set : ∀ (z : Str) (x9 x10 : Option V) (H6 : Hp) (D : St → Hp → Prop), z.length ≤ t.length + 300 → Asc z → Go d g H H6 → H6 rl = some (.lst (rs.map V.str)) →
      (∀ H7 zs, Go d g H H7 → H7 rl = some (.lst (zs.map V.str)) → wt zs ≤ 2 * t.length + 1000 → (∀ z ∈ zs, Asc z) → D [some (.ref d), some p, some (.str t), some (.int wy), some (.int (a : Nat)), some (.str " \n-019azkx"), some (.str ⟨#[c]⟩), some (.ref rl), some (.int (o : Nat)), x9, x10] H7) →
      gSub (tVar 7) (tVar 8) rSetL (.str z) [some (.ref d), some p, some (.str t), some (.int wy), some (.int (a : Nat)), some (.str " \n-019azkx"), some (.str ⟨#[c]⟩), some (.ref rl), some (.int (o : Nat)), x9, x10] H6 D := by
    intro z x9 x10 H6 D hzl hza k6 hr6 q6
    refine rd_gsub ?_
    walk_at "rd"
    refine rd_setL hr6 (by rw [List.length_map]; exact ho) ?_
    have hm : (rs.map V.str).set o (.str z) = (rs.set o z).map V.str := (List.map_set ..).symm
    rw [hm]
    refine q6 _ (rs.set o z) (k6.fresh hdr hr0) upd_same ?_ fun y hy => ?_
    · have := wt_set (z := z) rs o
      omega
    · rcases List.mem_or_eq_of_mem_set hy with hy | rfl
      · exact hfr y hy
      · exact hza
  refine iteB (fun h => ?_) (fun h => ?_)
  · -- a line of any words
    walk_at "rd"
    refine rd_m1 ?_
    walk_at "rd"
    refine ⟨⟨_, rfl⟩, ?_⟩
    refine rd_lcR ?_
    walk_at "rd"
    refine ⟨d, g, 7, rfl, k5.2, by decide, by decide, fun n_ H6 n0 n1 k6 => ?_⟩
    have hr6 := k6.lst hrd.1 hrd.2 hr5
    have k6 := k5.trans k6
    refine rd_add ?_
    refine ⟨1 + n_, rfl, by omega, by omega, ?_⟩
    refine lcK_go (B := 30) k6.2 (by omega) (fun x H7 Ke k7 q7 => ?_) fun D H7 zs k7 hD0 hD hl hf => ?_
    · walk_at "rd"
      exact ⟨d, g, p, ks, rfl, k7.2, (k6.trans k7).plan hdr hp, lay, fun z H8 k8 z1 z2 => q7 z H8 k8 ⟨z1, z2⟩⟩
    · have hfl : ∀ z ∈ zs, z.length ≤ 30 := fun z h => (hf z h).1
      refine rd_join (n := 7) (.inl (.inl hD)) (by decide) hfl (by omega) (by decide) ?_
      have hj := join_le (sep := " ") (n := 7) hfl (by omega) (by decide)
      refine set _ _ _ H7 _ (by omega) (tjoin_asc (asc_by (by decide)) fun z h => (hf z h).2) (k6.trans k7) (k7.lst hrd.1 hrd.2 hr6) fun H8 zs k8 h8 w8 a8 => ?_
      exact fin _ _ _ _ rl zs H8 k8 h8 w8 a8
  · -- one word another
    walk_at "rd"
    refine rd_m1 ?_
    walk_at "rd"
    have hom := List.getElem_mem ho
    have hol := wt_mem hom
    refine rd_ixL (v := .str rs[o]) (.inl (.inl hr5)) (atI_nat (by rw [List.getElem?_map, List.getElem?_eq_getElem ho]; rfl)) ?_
    refine ⟨⟨_, rfl⟩, ?_⟩
    walk_at "rd"
    refine ⟨_, _, rfl, rfl, by decide, by omega, fun wl hwl => ?_⟩
    have hw6 : upd H5 wl (.lst ((Txt.split rs[o] " ").map V.str)) wl = some (.lst ((Txt.split rs[o] " ").map V.str)) := upd_same
    have hr6 := (Keep.new (o := .lst ((Txt.split rs[o] " ").map V.str)) hwl) _ _ hr5
    have k6 := k5.tnew (o := .lst ((Txt.split rs[o] " ").map V.str)) hwl
    have hw0 := k5.free hwl
    have hwr : wl ≠ rl := fun e => by rw [e, hr5] at hwl; cases hwl
    have hww := wt_split rs[o] " " (by decide)
    have hwa : ∀ z ∈ Txt.split rs[o] " ", Asc z := fun z hz => split_asc (hfr _ hom) hz
    have hwp := split_pos rs[o] " "
    generalize upd H5 wl (.lst ((Txt.split rs[o] " ").map V.str)) = H6 at hw6 hr6 k6 ⊢
    generalize Txt.split rs[o] " " = ws at hw6 hww hwa hwp
    have hwd := hdr.nd hw0
    have hwsl := wt_len ws
    walk_at "rd"
    refine ⟨d, g, p, ks, rfl, k6.2, k6.plan hdr hp, lay, fun z H7 k7 z1 z2 => ?_⟩
    have hw7 := k7.lst hwd.1 hwd.2 hw6
    have hr7 := k7.lst hrd.1 hrd.2 hr6
    have k7 := k6.trans k7
    refine rd_gsub ?_
    walk_at "rd"
    refine rd_lenL (.inl (.inl hw7)) ?_
    rw [List.length_map]
    walk_at "rd"
    refine ⟨d, g, _, rfl, k7.2, by omega, by omega, fun n_ H8 n0 n1 k8 => ?_⟩
    obtain ⟨n, rfl, hn⟩ := nat_of n0 n1
    have hw8 := k8.lst hwd.1 hwd.2 hw7
    have hr8 := k8.lst hrd.1 hrd.2 hr7
    have k8 := k7.trans k8
    refine rd_setL hw8 (by rw [List.length_map]; exact hn) ?_
    have hm : (ws.map V.str).set n (.str z) = (ws.set n z).map V.str := (List.map_set ..).symm
    rw [hm]
    have hw9 : upd H8 wl (.lst ((ws.set n z).map V.str)) wl = some (.lst ((ws.set n z).map V.str)) := upd_same
    have hr9 : upd H8 wl (.lst ((ws.set n z).map V.str)) rl = some (.lst (rs.map V.str)) := by
      rw [upd_ne (Ne.symm hwr)]
      exact hr8
    have k9 := k8.fresh (o := .lst ((ws.set n z).map V.str)) hdr hw0
    generalize upd H8 wl (.lst ((ws.set n z).map V.str)) = H9 at hw9 hr9 k9 ⊢
    have hsw := wt_set (z := z) ws n
    have hsa : ∀ y ∈ ws.set n z, Asc y := fun y hy => by
      rcases List.mem_or_eq_of_mem_set hy with hy | rfl
      · exact hwa y hy
      · exact z2
    have hsl : (ws.set n z).length = ws.length := List.length_set ..
    generalize ws.set n z = us at hw9 hsw hsa hsl
    with_reducible apply rd_asg
    refine rd_m1 ?_
    walk_at "rd"
    refine ⟨⟨_, rfl⟩, ?_⟩
    walk_at "rd"
    refine ⟨" ", wl, us, rfl, rfl, .inl (.inl (.inl hw9)), ?_, ?_⟩
    · show _ + _ * 1 ≤ _
      unfold wt at hsw hww
      omega
    · refine set _ _ _ H9 _ ?_ (tjoin_asc (asc_by (by decide)) hsa) k9 hr9 fun H10 zs k10 h10 w10 a10 => ?_
      · rw [join_len]
        show _ + (_ - 1) * 1 ≤ _
        unfold wt at hsw hww
        omega
      · exact fin _ _ _ _ rl zs H10 k10 h10 w10 a10
end Cp
set_option maxHeartbeats 8000000
/-! What was said. -/
namespace Cp
open PySem L2 LamX
local macro_rules | `(tactic| walk_at "rd") => `(tactic| repeat (first
  | with_reducible apply rd_seq | with_reducible apply rd_asg | with_reducible apply rd_gname | with_reducible apply rd_if | with_reducible apply rd_ret | with_reducible apply rd_drop | with_reducible apply rd_next
  | with_reducible apply rd_op | with_reducible apply rd_cb | with_reducible apply rd_cons | with_reducible apply rd_nil | with_reducible apply rd_c | with_reducible apply rd_tb | with_reducible apply rd_test | with_reducible apply rd_not
  | with_reducible apply rd_or | with_reducible apply rd_and | with_reducible apply rd_call | with_reducible apply rd_chain | with_reducible apply rd_andV | with_reducible apply rd_notV | with_reducible apply rd_ifx
  | with_reducible apply rd_gcons | with_reducible apply rd_gnil
  | ((with_reducible apply rd_var); exact rfl) | (with_reducible apply rd_bk)))
open PyProof.Rows (envOfC)
abbrev N__law_said : List Str := ["asked", "found", "caught", "e", "some"]
theorem sc__law_said : FnScope N__law_said ["asked"] (defScope s_law_said) := ⟨rfl, rfl, rfl, by decide +kernel, rfl, by decide +kernel, by decide +kernel⟩
/-- what _law_said asks of an error -/
def ESaid (K : PySem.W.Frag) (Q : VK) : XK := fun cls d H1 => ∃ (x : Str) (dd : Addr) (v : V), x ∈ (["BadLayout", "BadFile", "BadText"] : List Str) ∧ cls = .ref (He.ga K x) ∧ d = some dd ∧ H1 dd = some (.xd [("place", v)]) ∧ ∀ l H2, Keep H1 H2 → H2 l = some (.lst [.str (sayOf x), v]) → Q (.ref l) H2
/-- behind the try -/
def t_said_end (K : PySem.W.Frag) : TS :=
  (tSeq (tIfS (tTest (tOp rIsN (tVar 2) (tC .non))) (tRet (tLst (tCons (tC (.str "told")) (tCons (tVar 1) tNil)))) tNext)
  (tSeq (tAsg (tLst (tCons (tCB (rIsX K) (tCons (tVar 2) (tCons (tC (.ref (He.ga K "BadText"))) tNil))) (tCons (tCB (rIsX K) (tCons (tVar 2) (tCons (tC (.ref (He.ga K "BadLayout"))) tNil))) (tCons (tCB (rIsX K) (tCons (tVar 2) (tCons (tC (.ref (He.ga K "BadFile"))) tNil))) tNil)))) (gName 4))
  (tSeq (tDrop (tBM K "list" rAppend (tVar 4) (tCons (tCB (rIsX K) (tCons (tVar 2) (tCons (tC (.ref (He.ga K "BadRow"))) tNil))) tNil)))
  (tSeq (tIfS (tOr (tTest (tOp rNe (tBM K "list" (rCntB K) (tVar 4) (tCons (tC (.bl true)) tNil)) (tC (.int 1)))) (tB (tCB (rIsXT K) (tCons (tVar 2) (tCons (tTup (tCons (tC (.ref (He.ga K "BadDeed"))) (tCons (tC (.ref (He.ga K "BadLog"))) (tCons (tC (.ref (He.ga K "BadQuestion"))) tNil)))) tNil))))) (tRet (tLst (tCons (tC (.str "odd")) tNil))) tNext)
  (tRet (tLst (tCons (tOp (rIxL K) (tLst (tCons (tC (.str "text")) (tCons (tC (.str "layout")) (tCons (tC (.str "file")) (tCons (tC (.str "row")) tNil))))) (tBM K "list" (rIndex K) (tVar 4) (tCons (tC (.bl true)) tNil))) (tCons (tXfK K (tVar 2) "place") tNil))))))))
/-- what _law_said makes of the lambda's reading -/
def TSaid (K : PySem.W.Frag) : (XK → Hp → VK → Prop) → Hp → VK → Prop := fun tl H Q => ∀ (f : Addr) (H0 : Hp), Keep H H0 → tl (ESaid K Q) H0 fun v H1 => t_said_end K { nx := fun _ H' => Q .non H', rt := Q } [some (.ref f), some v, some .non, none, none] H1
theorem r_said_told {K : PySem.W.Frag} {f : Addr} {v : V} {H1 : Hp} {Q : VK} (q : ∀ l, H1 l = none → Q (.ref l) (upd H1 l (.lst [.str "told", v]))) : t_said_end K { nx := fun _ H' => Q .non H', rt := Q } [some (.ref f), some v, some .non, none, none] H1 := by
  unfold t_said_end
  walk_at "rd"
  refine rd_isN ?_
  walk_at "rd"
  refine iteT ?_
  walk_at "rd"
  refine rd_lst ?_
  walk_at "rd"
  exact ⟨show 2 ≤ sizeLine by decide, q⟩
theorem rd_isX {K : PySem.W.Frag} {mg : Str → Option Value} (T : Txt K mg) {x y : Str} {a dd : Addr} {v : V} {H : Hp} {Q : VK} (hx : x ∈ (["BadLayout", "BadFile", "BadText"] : List Str)) (hy : y ∈ (["BadLayout", "BadFile", "BadRow", "BadLog", "BadText", "BadDeed", "BadQuestion"] : List Str))
    (ha : H a = some (ExcO a (.ref (He.ga K x)) (some dd))) (hd : H dd = some (.xd [("place", v)])) (q : Q (.bl (decide (x = y))) H) : rIsX K [.ref a, .ref (He.ga K y)] H Q := by
  have hc : IsC K (He.ga K x) := by
    simp only [List.mem_cons, List.not_mem_nil, or_false] at hx
    rcases hx with rfl | rfl | rfl
    · exact T.cBadLayout
    · exact T.cBadFile
    · exact T.cBadText
  exact ⟨a, _, dd, _, _, _, _, rfl, ha, hd, hc, .own _, T.kit x hx y hy, q⟩
theorem r_said_end' {K : PySem.W.Frag} {mg : Str → Option Value} (T : Txt K mg) {x : Str} {a dd : Addr} {v : V} {H : Hp} {Q : VK} {x0 x1 x3 x4 : Option V} (hx : x ∈ (["BadLayout", "BadFile", "BadText"] : List Str)) (ha : H a = some (ExcO a (.ref (He.ga K x)) (some dd))) (hd : H dd = some (.xd [("place", v)]))
    (q : ∀ l H2, Keep H H2 → H2 l = some (.lst [.str (sayOf x), v]) → Q (.ref l) H2) : t_said_end K { nx := fun _ H' => Q .non H', rt := Q } [x0, x1, some (.ref a), x3, x4] H := by
  have hc : IsC K (He.ga K x) ∧ XfC K (He.ga K x) ∧ PySem.W.findIn K (.ref (He.ga K x)) "place" = some none := by
    have hx := hx
    simp only [List.mem_cons, List.not_mem_nil, or_false] at hx
    rcases hx with rfl | rfl | rfl
    · exact ⟨T.cBadLayout, T.xBadLayout.xf, T.xBadLayout.noat⟩
    · exact ⟨T.cBadFile, T.xBadFile.xf, T.xBadFile.noat⟩
    · exact ⟨T.cBadText, T.xBadText.xf, T.xBadText.noat⟩
  unfold t_said_end
  walk_at "rd"
  refine rd_isN ?_
  walk_at "rd"
  refine iteF ?_
  walk_at "rd"
  refine rd_lst ?_
  walk_at "rd"
  refine rd_isX T hx (by decide) ha hd ?_
  walk_at "rd"
  refine rd_isX T hx (by decide) ha hd ?_
  walk_at "rd"
  refine rd_isX T hx (by decide) ha hd ?_
  walk_at "rd"
  refine ⟨show 3 ≤ sizeLine by decide, fun sl hsl => ?_⟩
  have k1 : Keep H (upd H sl (.lst [.bl (decide (x = "BadText")), .bl (decide (x = "BadLayout")), .bl (decide (x = "BadFile"))])) := .new hsl
  have hs1 : upd H sl (.lst [.bl (decide (x = "BadText")), .bl (decide (x = "BadLayout")), .bl (decide (x = "BadFile"))]) sl = some (.lst [.bl (decide (x = "BadText")), .bl (decide (x = "BadLayout")), .bl (decide (x = "BadFile"))]) := upd_same
  generalize upd H sl (.lst [.bl (decide (x = "BadText")), .bl (decide (x = "BadLayout")), .bl (decide (x = "BadFile"))]) = H1 at k1 hs1 ⊢
  walk_at "rd"
  refine rd_bm ?_
  walk_at "rd"
  refine ⟨ty_lst (.inl (.inl hs1)), ?_⟩
  walk_at "rd"
  refine rd_isX T hx (by decide) (k1 _ _ ha) (k1 _ _ hd) ?_
  walk_at "rd"
  refine rd_app hs1 (show 3 < sizeLine by decide) ?_
  have hs2 : upd H1 sl (.lst ([.bl (decide (x = "BadText")), .bl (decide (x = "BadLayout")), .bl (decide (x = "BadFile"))] ++ [.bl (decide (x = "BadRow"))])) sl = some (.lst ([decide (x = "BadText"), decide (x = "BadLayout"), decide (x = "BadFile"), decide (x = "BadRow")].map V.bl)) := upd_same
  have k2 : Keep H (upd H1 sl (.lst ([.bl (decide (x = "BadText")), .bl (decide (x = "BadLayout")), .bl (decide (x = "BadFile"))] ++ [.bl (decide (x = "BadRow"))]))) := k1.at_ hsl
  generalize upd H1 sl (.lst ([.bl (decide (x = "BadText")), .bl (decide (x = "BadLayout")), .bl (decide (x = "BadFile"))] ++ [.bl (decide (x = "BadRow"))])) = H2 at hs2 k2 ⊢
  walk_at "rd"
  refine rd_bm ?_
  walk_at "rd"
  refine ⟨ty_lst (.inl (.inl hs2)), ?_⟩
  walk_at "rd"
  refine ⟨sl, _, true, rfl, rfl, .inl (.inl hs2), ?_⟩
  walk_at "rd"
  refine rd_ne rfl ?_
  walk_at "rd"
  obtain ⟨j, hcnt, hj, hlt, hsay⟩ : ∃ j : Nat, List.count true [decide (x = "BadText"), decide (x = "BadLayout"), decide (x = "BadFile"), decide (x = "BadRow")] = 1 ∧ ([decide (x = "BadText"), decide (x = "BadLayout"), decide (x = "BadFile"), decide (x = "BadRow")])[j]? = some true ∧
      (∀ m, m < j → ([decide (x = "BadText"), decide (x = "BadLayout"), decide (x = "BadFile"), decide (x = "BadRow")])[m]? = some false) ∧ ([V.str "text", .str "layout", .str "file", .str "row"])[j]? = some (.str (sayOf x)) := by
    have hx := hx
    simp only [List.mem_cons, List.not_mem_nil, or_false] at hx
    rcases hx with rfl | rfl | rfl
    · exact ⟨1, by decide, by decide, by decide, by rfl⟩
    · exact ⟨2, by decide, by decide, by decide, by rfl⟩
    · exact ⟨0, by decide, by decide, by decide, by rfl⟩
  rw [hcnt]
  refine iteB (fun h => absurd h (by decide)) (fun h => ?_)
  walk_at "rd"
  refine rd_tup ?_
  walk_at "rd"
  refine ⟨show 3 ≤ sizeLine by decide, fun tp htp => ?_⟩
  walk_at "rd"
  have k3 := k2.tnew (o := .tup [.ref (He.ga K "BadDeed"), .ref (He.ga K "BadLog"), .ref (He.ga K "BadQuestion")]) htp
  have hs3 := (Keep.new (o := .tup [.ref (He.ga K "BadDeed"), .ref (He.ga K "BadLog"), .ref (He.ga K "BadQuestion")]) htp) _ _ hs2
  have hany : PySem.W.kitAny K (.ref (He.ga K x)) [.ref (He.ga K "BadDeed"), .ref (He.ga K "BadLog"), .ref (He.ga K "BadQuestion")] = some false := by
    have e : ∀ y ∈ (["BadDeed", "BadLog", "BadQuestion"] : List Str), PySem.W.kitOne K (.ref (He.ga K x)) (.ref (He.ga K y)) = some false := by
      intro y hy
      have hy2 : y ∈ (["BadLayout", "BadFile", "BadRow", "BadLog", "BadText", "BadDeed", "BadQuestion"] : List Str) := by
        simp only [List.mem_cons, List.not_mem_nil, or_false] at hy
        rcases hy with rfl | rfl | rfl <;> decide
      rw [T.kit x hx y hy2]
      congr 1
      simp only [List.mem_cons, List.not_mem_nil, or_false] at hx hy
      rcases hx with rfl | rfl | rfl <;> rcases hy with rfl | rfl | rfl <;> decide
    unfold PySem.W.kitAny
    rw [e _ (by decide)]
    unfold PySem.W.kitAny
    rw [e _ (by decide)]
    unfold PySem.W.kitAny
    rw [e _ (by decide)]
    rfl
  refine ⟨a, _, dd, _, tp, _, _, false, rfl, k3 _ _ ha, k3 _ _ hd, hc.1, upd_same, .cons (.own _) (.cons (.own _) (.cons (.own _) .nil)), hany, ?_⟩
  generalize upd H2 tp (.tup [.ref (He.ga K "BadDeed"), .ref (He.ga K "BadLog"), .ref (He.ga K "BadQuestion")]) = H3 at k3 hs3 ⊢
  walk_at "rd"
  refine iteF ?_
  walk_at "rd"
  refine rd_lst ?_
  walk_at "rd"
  refine rd_lst ?_
  walk_at "rd"
  refine ⟨show 4 ≤ sizeLine by decide, fun nl hnl => ?_⟩
  have k4 := k3.tnew (o := .lst [.str "text", .str "layout", .str "file", .str "row"]) hnl
  have hs4 := (Keep.new (o := .lst [.str "text", .str "layout", .str "file", .str "row"]) hnl) _ _ hs3
  refine rd_bm ?_
  walk_at "rd"
  refine ⟨ty_lst (.inl (.inl hs4)), ?_⟩
  walk_at "rd"
  refine ⟨sl, _, .bl true, j, .bl true, rfl, rfl, .inl (.inl hs4), rfl, rfl, by rw [List.getElem?_map, hj]; rfl, rfl, fun m z hm hz => ?_, ?_⟩
  · rw [List.getElem?_map, hlt m hm] at hz
    cases hz
    rfl
  refine rd_ixL (.inl (.inl upd_same)) (atI_nat hsay) ?_
  with_reducible apply rd_cons
  refine rd_var rfl ⟨a, _, dd, _, v, rfl, k4 _ _ ha, k4 _ _ hd, hc.2.1, hc.2.2, rfl, ?_⟩
  walk_at "rd"
  exact ⟨show 2 ≤ sizeLine by decide, fun l hl => q l _ (k4.tnew hl) upd_same⟩
end Cp
set_option maxHeartbeats 8000000
/-! What was said: the walk. -/
namespace Cp
open PySem L2 LamX
local macro_rules | `(tactic| walk_at "rd") => `(tactic| repeat (first
  | with_reducible apply rd_seq | with_reducible apply rd_asg | with_reducible apply rd_gname | with_reducible apply rd_if | with_reducible apply rd_ret | with_reducible apply rd_drop | with_reducible apply rd_next
  | with_reducible apply rd_op | with_reducible apply rd_cb | with_reducible apply rd_cons | with_reducible apply rd_nil | with_reducible apply rd_c | with_reducible apply rd_tb | with_reducible apply rd_test | with_reducible apply rd_not
  | with_reducible apply rd_or | with_reducible apply rd_and | with_reducible apply rd_call | with_reducible apply rd_chain | with_reducible apply rd_andV | with_reducible apply rd_notV | with_reducible apply rd_ifx
  | with_reducible apply rd_gcons | with_reducible apply rd_gnil
  | ((with_reducible apply rd_var); exact rfl) | (with_reducible apply rd_bk)))
open PyProof.Rows (envOfC)
theorem said_gives {X : Cx} (T : Txt X.K X.mg) {g : Addr} {cdg : Value} {q : Str} : GivesTo X N__law_said "_law_said" (defScope s_law_said) g cdg (defBody s_law_said) "asked" q (TSaid X.K) := by
  intro f c' s H Q tl act hc h
  have nd := sc__law_said.nd
  refine ⟨_, pss_cons (ps_asg (pe_tup (pa_cons pe_non (pa_cons pe_non pa_nil))) (pg_tup rfl (pgs_cons (pg_name (i := 1) nd rfl (.inl rfl)) (pgs_cons (pg_name (i := 2) nd rfl (.inl rfl)) pgs_nil))))
    (pss_cons (ps_try_keep (X := (cxOf C8.CX0 X.prog X.w X.K X.mg X.base N__law_said "_law_said" (defScope s_law_said) g cdg X.A X.stack s H C8.E0).nox) (c := .ref (He.ga X.K "PartsError")) (i := 3) (n := "e")
      (tb := fun W D σ H => ∃ Ech : XK, (∀ cls d σ' H', Ech cls d H' → W cls d σ' H') ∧ tAsg (fun σZ HZ Q => σZ[0]? = some (some (.ref f)) ∧ HZ c' = some (CodeO c' q) ∧ tl Ech HZ Q) (gName 1) D σ H)
      (ts := fun _ _ _ => tAsg (tVar 3) (gName 2)) (Wout := fun _ _ _ _ => False)
      rfl rfl rfl nd rfl rfl ⟨rfl, by decide, .inl T.gPartsError⟩ LamX.takes0 (fun W pn xe tk _ => ?_) (fun a oe cls d pn _ _ => pss_one (ps_set (i := 2) nd rfl (.inl rfl) (pv 3))))
    (pss_cons (ps_if (pt_cmpR o_isN (pv 2) pe_non (nomark _)) (pss_one (ps_ret (pe_lst (pa_cons pe_str (pa_cons (pv 1) pa_nil))))) pss_nil)
    (pss_cons (ps_set (i := 4) nd rfl (.inl rfl) (pe_lst (pa_cons (pe_callB call_isX (by rfl) T.isinstance_ (by decide +kernel) (pa_cons (pv 2) (pa_cons (pe_glob (v := .ref (He.ga X.K "BadText")) rfl T.gBadText rfl) pa_nil)))
      (pa_cons (pe_callB call_isX (by rfl) T.isinstance_ (by decide +kernel) (pa_cons (pv 2) (pa_cons (pe_glob (v := .ref (He.ga X.K "BadLayout")) rfl T.gBadLayout rfl) pa_nil)))
      (pa_cons (pe_callB call_isX (by rfl) T.isinstance_ (by decide +kernel) (pa_cons (pv 2) (pa_cons (pe_glob (v := .ref (He.ga X.K "BadFile")) rfl T.gBadFile rfl) pa_nil))) pa_nil)))))
    (pss_cons (ps_expr (pe_bm PySem.F.plainAttrs_list PySem.F.slot_list_append PySem.F.type_list_append mt_append (pv 4) (pa_cons (pe_callB call_isX (by rfl) T.isinstance_ (by decide +kernel) (pa_cons (pv 2) (pa_cons (pe_glob (v := .ref (He.ga X.K "BadRow")) rfl T.gBadRow rfl) pa_nil))) pa_nil)))
    (pss_cons (ps_if (PW.pt (pw_or (pt_cmpR op_ne (pe_bm PySem.F.plainAttrs_list PySem.F.slot_list_count PySem.F.type_list_count mt_countB (pv 4) (pa_cons pe_bl pa_nil)) pe_int (nomark _))
      (pw_or1 (pt_val (pe_callB call_isXT (by rfl) T.isinstance_ (by decide +kernel) (pa_cons (pv 2) (pa_cons (pe_tup (pa_cons (pe_glob (v := .ref (He.ga X.K "BadDeed")) rfl T.gBadDeed rfl) (pa_cons (pe_glob (v := .ref (He.ga X.K "BadLog")) rfl T.gBadLog rfl) (pa_cons (pe_glob (v := .ref (He.ga X.K "BadQuestion")) rfl T.gBadQuestion rfl) pa_nil)))) pa_nil))))))) (pss_one (ps_ret (pe_lst (pa_cons pe_str pa_nil)))) pss_nil)
    (pss_one (ps_ret (pe_lst (pa_cons (pe_ix ix_list (pe_lst (pa_cons pe_str (pa_cons pe_str (pa_cons pe_str (pa_cons pe_str pa_nil))))) (pe_bm PySem.F.plainAttrs_list PySem.F.slot_list_index PySem.F.type_list_index mt_index (pv 4) (pa_cons pe_bl pa_nil)) (fun _ _ => rfl))
      (pa_cons (pe_xfK (pv 2)) pa_nil)))))))))), ?_⟩
  · refine ⟨fun pins s' σ H' D I h' => ?_⟩
    obtain ⟨Ech, hW, h1⟩ := h'
    exact (pss_one (ps_set (i := 1) nd rfl (.inl rfl) (act W pn xe Ech _ _ tk hW))).run pins s' σ H' D I h1
  · have hs : L2.start N__law_said [V.ref f] = [some (.ref f), none, none, none, none] := rfl
    rw [hs]
    walk_at "rd"
    refine rd_tup ?_
    walk_at "rd"
    refine ⟨show 2 ≤ sizeLine by decide, fun p hp => ?_⟩
    refine rd_gtup (.inl (.inl upd_same)) rfl ?_
    with_reducible apply rd_gcons
    with_reducible apply rd_gname
    with_reducible apply rd_gcons
    with_reducible apply rd_gname
    with_reducible apply rd_gnil
    with_reducible apply rd_seq
    have k0 : Keep H (upd H p (.tup [.non, .non])) := .new hp
    have hc0 := k0 _ _ hc
    have h0 := h f _ k0
    generalize upd H p (.tup [.non, .non]) = H0 at k0 hc0 h0 ⊢
    refine ⟨ESaid X.K Q, fun cls d σ' H' hE hlen => ?_, ?_⟩
    · obtain ⟨x, dd, v, hx, rfl, rfl, hdd, q⟩ := hE
      obtain ⟨s0, s1, s2, s3, s4, rfl⟩ : ∃ s0 s1 s2 s3 s4, σ' = [s0, s1, s2, s3, s4] := by
        have hlen : σ'.length = 5 := hlen
        match σ', hlen with
        | [a, b, c, d, e], _ => exact ⟨a, b, c, d, e, rfl⟩
      refine ⟨true, T.exm x hx, fun _ a ha => ?_, fun z => by cases z⟩
      refine rd_asg (rd_var rfl (rd_gname fun _ => ?_))
      have hda : dd ≠ a := ne_of_none hdd ha
      refine r_said_end' T hx upd_same (by rw [upd_ne hda]; exact hdd) fun l H2 k2 hl2 => q l H2 ((Keep.new ha).trans k2) hl2
    · refine ⟨rfl, hc0, ?_⟩
      exact h0
end Cp
set_option maxHeartbeats 8000000
/-! What is answered may be shown. -/
namespace Cp
open PySem L2 LamX
local macro_rules | `(tactic| walk_at "rd") => `(tactic| repeat (first
  | with_reducible apply rd_seq | with_reducible apply rd_asg | with_reducible apply rd_gname | with_reducible apply rd_if | with_reducible apply rd_ret | with_reducible apply rd_drop | with_reducible apply rd_next
  | with_reducible apply rd_op | with_reducible apply rd_cb | with_reducible apply rd_cons | with_reducible apply rd_nil | with_reducible apply rd_c | with_reducible apply rd_tb | with_reducible apply rd_test | with_reducible apply rd_not
  | with_reducible apply rd_or | with_reducible apply rd_and | with_reducible apply rd_call | with_reducible apply rd_chain | with_reducible apply rd_andV | with_reducible apply rd_notV | with_reducible apply rd_ifx
  | with_reducible apply rd_gcons | with_reducible apply rd_gnil
  | ((with_reducible apply rd_var); exact rfl) | (with_reducible apply rd_bk)))
/-- data that may be shown: at most n signs, at most k deep -/
structure Dn (n k : Nat) (d : PyData) : Prop where
  sh : d.showable = true
  hd : d.hasDict = false
  dp : d.depth ≤ k
  ln : d.shown.length ≤ n
theorem Dn.mono {n m k j : Nat} {d : PyData} (h : Dn n k d) (h1 : n ≤ m) (h2 : k ≤ j) : Dn m j d := ⟨h.sh, h.hd, Nat.le_trans h.dp h2, Nat.le_trans h.ln h1⟩
theorem dn_int {i : Int} (h0 : 0 ≤ i) (h1 : i < 10000000000) : Dn 10 0 (.int i) := by
  refine ⟨?_, rfl, Nat.le_refl _, ?_⟩
  · show decide (i.natAbs.log2 < 1920) = true
    refine decide_eq_true ?_
    rcases Nat.eq_zero_or_pos i.natAbs with e | e
    · rw [e]
      decide
    · have h2 : i.natAbs < 2 ^ 34 := Nat.lt_of_lt_of_le (show i.natAbs < 10000000000 by omega) (by decide)
      exact Nat.lt_of_lt_of_le ((Nat.log2_lt (by omega)).mpr h2) (by decide)
  · exact PyProof.Rows.toString_length_le h0 (by decide) (show i < 10 ^ 10 by omega)
theorem dn_str {B : Nat} {z : Str} (h : Asc z) (hl : z.length ≤ B) : Dn (10 * B + 2) 0 (.str z) := by
  refine ⟨rfl, rfl, Nat.le_refl _, ?_⟩
  have := StrLaws.reprText_len z fun c hc => Nat.lt_of_lt_of_le (h c hc) (by decide)
  show (reprText z).length ≤ _
  omega
theorem shown_all : ∀ xs : List PyData, PyData.shownAll xs = xs.map PyData.shown
  | [] => rfl
  | x :: r => by
    show x.shown :: PyData.shownAll r = _
    rw [shown_all r]
    rfl
theorem showable_all {xs : List PyData} (h : ∀ x ∈ xs, x.showable = true) : PyData.showableAll xs = true := by
  induction xs with
  | nil => rfl
  | cons x r ih =>
    show (x.showable && PyData.showableAll r) = true
    rw [h x List.mem_cons_self, ih fun y hy => h y (List.mem_cons_of_mem _ hy)]
    rfl
theorem hasDict_all {xs : List PyData} (h : ∀ x ∈ xs, x.hasDict = false) : PyData.hasDictAll xs = false := by
  induction xs with
  | nil => rfl
  | cons x r ih =>
    show (x.hasDict || PyData.hasDictAll r) = false
    rw [h x List.mem_cons_self, ih fun y hy => h y (List.mem_cons_of_mem _ hy)]
    rfl
theorem depth_all {k : Nat} {xs : List PyData} (h : ∀ x ∈ xs, x.depth ≤ k) : PyData.depthAll xs ≤ k := by
  induction xs with
  | nil => exact Nat.zero_le _
  | cons x r ih =>
    show max x.depth (PyData.depthAll r) ≤ k
    have h1 := h x List.mem_cons_self
    have h2 := ih fun y hy => h y (List.mem_cons_of_mem _ hy)
    omega
theorem join2_le {B m : Nat} {l : List Str} (h : ∀ z ∈ l, z.length ≤ B) (hm : l.length ≤ m) : (Str.join ", " l).length ≤ m * (B + 2) := by
  have h1 := sum_le h
  have h2 := join_len ", " l
  rw [tj] at h2
  rw [h2]
  show _ + (_ - 1) * 2 ≤ _
  have h3 : l.length * B ≤ m * B := Nat.mul_le_mul_right B hm
  rw [Nat.mul_add]
  omega
theorem dn_tup {n m k : Nat} {xs : List PyData} (h : ∀ x ∈ xs, Dn n k x) (hm : xs.length ≤ m) : Dn (m * (n + 2) + 3) (k + 1) (.tuple xs) := by
  refine ⟨showable_all fun x hx => (h x hx).sh, hasDict_all fun x hx => (h x hx).hd, Nat.succ_le_succ (depth_all fun x hx => (h x hx).dp), ?_⟩
  have h1 := join2_le (B := n) (m := m) (l := xs.map PyData.shown) (fun z hz => by
    obtain ⟨x, hx, rfl⟩ := List.mem_map.mp hz
    exact (h x hx).ln) (by rw [List.length_map]; exact hm)
  show (tupleText (PyData.shownAll xs)).length ≤ _
  rw [shown_all]
  unfold tupleText
  rw [app_len, app_len]
  have e1 : ((("(" : String) : Str)).length = 1 := rfl
  have e3 : (((if (xs.map PyData.shown).length == 1 then ",)" else ")" : String) : Str)).length ≤ 2 := by split <;> decide
  rw [e1]
  omega
theorem dn_lst {n m k : Nat} {xs : List PyData} (h : ∀ x ∈ xs, Dn n k x) (hm : xs.length ≤ m) : Dn (m * (n + 2) + 3) (k + 1) (.list xs) := by
  refine ⟨showable_all fun x hx => (h x hx).sh, hasDict_all fun x hx => (h x hx).hd, Nat.succ_le_succ (depth_all fun x hx => (h x hx).dp), ?_⟩
  have h1 := join2_le (B := n) (m := m) (l := xs.map PyData.shown) (fun z hz => by
    obtain ⟨x, hx, rfl⟩ := List.mem_map.mp hz
    exact (h x hx).ln) (by rw [List.length_map]; exact hm)
  show (listText (PyData.shownAll xs)).length ≤ _
  rw [shown_all, listText_eq_join, app_len, app_len]
  have e1 : ((("[" : String) : Str)).length = 1 := rfl
  have e3 : ((("]" : String) : Str)).length = 1 := rfl
  rw [e1, e3]
  omega
theorem dn_kd {k : Kd} (h : k.ok = true) : Dn 2600 2 k.dat := by
  obtain ⟨o1, o2, o3, o4, o5, o6, o7, o8, o9⟩ := kd_parts h
  obtain ⟨a1, a2, a3, a4, _⟩ := kd_asc h
  have hb : Dn 507 1 (.tuple (k.bases.map .str)) := dn_tup (n := 82) (m := 6) (fun x hx => by
    obtain ⟨b, hb, rfl⟩ := List.mem_map.mp hx
    exact dn_str (B := 8) (a2 b hb) (name_ok (o5 b hb)).1) (by rw [List.length_map]; exact o4)
  refine (dn_tup (n := 507) (m := 5) (k := 1) (xs := [.str k.name, .int k.ed, .tuple (k.bases.map .str), .str k.letter, .str k.mark]) (fun x hx => ?_) (Nat.le_refl _)).mono (by decide) (by decide)
  simp only [List.mem_cons, List.not_mem_nil, or_false] at hx
  rcases hx with rfl | rfl | rfl | rfl | rfl
  · exact (dn_str (B := 8) a1 (name_ok o1).1).mono (by decide) (by decide)
  · exact (dn_int (by omega) (by omega)).mono (by decide) (by decide)
  · exact hb
  · exact (dn_str (B := 1) a3 (by omega)).mono (by decide) (by decide)
  · exact (dn_str (B := 26) a4 (mark_len o9)).mono (by decide) (by decide)
theorem dn_pt {ks : List Kd} (lay : Lay ks) {p : Str × Cn} (h : ptOk ks p) : Dn 700 2 (ptDat p) := by
  obtain ⟨nm, cn⟩ := p
  obtain ⟨h1, h2⟩ := h
  have hn : Dn 291 1 (.str nm) := by
    obtain ⟨k, hk, e⟩ := nms_mem.mp h1
    have e : k.name = nm := e
    have o := name_ok (kd_parts (lay.2 k hk)).1
    rw [e] at o
    exact (dn_str (B := 8) o.2 o.1).mono (by decide) (by decide)
  have hc : Dn 291 1 cn.dat := by
    cases cn with
    | one n =>
      have h2 : rts ks nm = [] ∧ 0 ≤ n ∧ n ≤ 999999 := h2
      exact (dn_int h2.2.1 (by omega)).mono (by decide) (by decide)
    | many ns =>
      have h2 : rts ks nm ≠ [] ∧ ns.length = (rts ks nm).length ∧ ∀ n ∈ ns, 0 ≤ n ∧ n ≤ 999999 := h2
      refine (dn_tup (n := 10) (m := 24) (k := 0) (xs := ns.map .int) (fun x hx => ?_) ?_).mono (by decide) (by decide)
      · obtain ⟨n, hn, rfl⟩ := List.mem_map.mp hx
        have := h2.2.2 n hn
        exact dn_int this.1 (by omega)
      · rw [List.length_map, h2.2.1]
        exact Nat.le_trans (rts_len nm) lay.len.2
  refine (dn_tup (n := 291) (m := 2) (k := 1) (xs := [.str nm, cn.dat]) (fun x hx => ?_) (Nat.le_refl _)).mono (by decide) (by decide)
  simp only [List.mem_cons, List.not_mem_nil, or_false] at hx
  rcases hx with rfl | rfl
  · exact hn
  · exact hc
theorem tell_lt {α : Type} {F : List Str → Option α} : ∀ {rs : List (List Str)} {i j : Nat}, tellGo F i rs = .inr j → j < i + rs.length
  | [], i, j, h => by cases h
  | r :: rs, i, j, h => by
    unfold tellGo at h
    cases hr : F r with
    | none =>
      rw [hr] at h
      cases h
      rw [List.length_cons]
      omega
    | some y =>
      rw [hr] at h
      cases hg : tellGo F (i + 1) rs with
      | inl ys => simp only [hg] at h; cases h
      | inr k =>
        simp only [hg] at h
        cases h
        have := tell_lt hg
        rw [List.length_cons]
        omega
theorem layGo_lt : ∀ {ks : List Kd} {ts : List Str} {last : Int} {i j : Nat}, layGo ts last i ks = some j → j < i + ks.length
  | [], _, _, _, _, h => by cases h
  | k :: r, ts, last, i, j, h => by
    have h : (if (decide (k.name ∈ ts) || decide (k.ed < last) || !(k.bases.all fun b => decide (b ∈ ts))) = true then some i else layGo (ts ++ [k.name]) k.ed (i + 1) r) = some j := h
    rw [List.length_cons]
    split at h
    · cases h
      omega
    · have := layGo_lt h
      omega
theorem fileGo_lt : ∀ {ns order : List Str} {last : Int} {i j : Nat}, fileGo order last i ns = some j → j < i + ns.length
  | [], _, _, _, _, h => by cases h
  | n :: r, order, last, i, j, h => by
    have h : (if decide ((order.idxOf n : Int) ≤ last) = true then some i else fileGo order (order.idxOf n) (i + 1) r) = some j := h
    rw [List.length_cons]
    split at h
    · cases h
      omega
    · have := fileGo_lt h
      omega
/-- places of a decent size -/
def PlOk (pl : List Int) : Prop := pl.length ≤ 1 ∧ ∀ i ∈ pl, 0 ≤ i ∧ i < 10000000000
theorem pl_one {i : Nat} (h : i < 10000000000) : PlOk [(i : Int)] := ⟨Nat.le_refl _, fun j hj => by
  rw [List.mem_singleton.mp hj]
  omega⟩
theorem layRes_ok {ks : List Kd} {pl : List Int} (h : layRes ks = some pl) : PlOk pl := by
  unfold layRes at h
  split at h
  · rename_i c
    have c2 : ks.length ≤ 24 := of_decide_eq_true (Bool.and_eq_true_iff.mp c).2
    cases hg : layGo [] 1 0 ks with
    | none => rw [hg] at h; cases h
    | some i =>
      rw [hg] at h
      cases h
      have := layGo_lt hg
      exact pl_one (by omega)
  · cases h
    exact ⟨Nat.zero_le _, fun i hi => by cases hi⟩
theorem fileRes_ok {order ns : List Str} {pl : List Int} (h : fileRes order ns = some pl) : PlOk pl := by
  unfold fileRes at h
  split at h
  · rename_i c
    have c2 : ns.length ≤ 24 := of_decide_eq_true c
    cases hg : fileGo order (-1) 0 ns with
    | none => rw [hg] at h; cases h
    | some i =>
      rw [hg] at h
      cases h
      have := fileGo_lt hg
      exact pl_one (by omega)
  · cases h
    exact ⟨Nat.zero_le _, fun i hi => by cases hi⟩
theorem rows_len {t : Str} (ht : Short t) : (rowsOf t).length ≤ 1000001 := by
  unfold rowsOf
  rw [List.length_map]
  have := split_n (x := t) (y := "\n") (by decide)
  have := ht.1
  omega
/-- what a reader answers may be shown -/
def DOk (d : PyData) : Prop := d.showable = true ∧ d.hasDict = false ∧ d.depth ≤ 100 ∧ d.shown.length ≤ sizeLine
theorem dok_bad {α : Type} {f : α → PyData} {c : Str} {pl : List Int} (h : PlOk pl) : DOk ((Ans.bad c pl : Ans α).dat f) := by
  have hs : Asc (sayOf c) ∧ (sayOf c).length ≤ 6 := by
    unfold sayOf
    split
    · exact ⟨asc_by (by decide), by decide⟩
    · split
      · exact ⟨asc_by (by decide), by decide⟩
      · exact ⟨asc_by (by decide), by decide⟩
  have hp : Dn 15 1 (.tuple (pl.map .int)) := dn_tup (n := 10) (m := 1) (fun x hx => by
    obtain ⟨i, hi, rfl⟩ := List.mem_map.mp hx
    exact dn_int (h.2 i hi).1 (h.2 i hi).2) (by rw [List.length_map]; exact h.1)
  have q : Dn (2 * (62 + 2) + 3) 2 (.list [.str (sayOf c), .tuple (pl.map .int)]) := dn_lst (fun x hx => by
    simp only [List.mem_cons, List.not_mem_nil, or_false] at hx
    rcases hx with rfl | rfl
    · exact (dn_str hs.1 hs.2).mono (by decide) (by decide)
    · exact hp.mono (by decide) (by decide)) (Nat.le_refl _)
  exact ⟨q.sh, q.hd, Nat.le_trans q.dp (by decide), Nat.le_trans q.ln (by decide)⟩
theorem dok_told {α : Type} {f : α → PyData} {xs : List α} (h : ∀ x ∈ xs, Dn 2600 2 (f x)) (hl : xs.length ≤ 24) : DOk ((Ans.told xs).dat f) := by
  have hp : Dn (24 * (2600 + 2) + 3) 3 (.tuple (xs.map f)) := dn_tup (fun x hx => by
    obtain ⟨y, hy, rfl⟩ := List.mem_map.mp hx
    exact h y hy) (by rw [List.length_map]; exact hl)
  have q : Dn (2 * ((24 * (2600 + 2) + 3) + 2) + 3) 4 (.list [.str "told", .tuple (xs.map f)]) := dn_lst (fun x hx => by
    simp only [List.mem_cons, List.not_mem_nil, or_false] at hx
    rcases hx with rfl | rfl
    · exact (dn_str (B := 4) (asc_by (by decide)) (by decide)).mono (by decide) (by decide)
    · exact hp) (Nat.le_refl _)
  exact ⟨q.sh, q.hd, Nat.le_trans q.dp (by decide), Nat.le_trans q.ln (by decide)⟩
theorem dok_L {t : Str} (ht : Short t) : DOk ((ansL t).dat Kd.dat) := by
  have hr := rows_len ht
  unfold ansL
  cases hg : tellGo kindRow 0 (rowsOf t) with
  | inr i =>
    have := tell_lt hg
    exact dok_bad (pl_one (by omega))
  | inl ks =>
    show DOk ((match layRes ks with | none => Ans.told ks | some pl => Ans.bad "BadLayout" pl).dat Kd.dat)
    cases hl : layRes ks with
    | some pl => exact dok_bad (layRes_ok hl)
    | none =>
      have ok : ∀ k ∈ ks, k.ok = true := fun k hk => by
        obtain ⟨ws, hw⟩ := tell_mem hg k hk
        exact kindRow_ok hw
      exact dok_told (fun k hk => dn_kd (ok k hk)) (Lay.len ⟨hl, ok⟩).2
theorem dok_F {ks : List Kd} (lay : Lay ks) {t : Str} (ht : Short t) : DOk ((ansF ks t).dat ptDat) := by
  have hr := rows_len ht
  unfold ansF
  have hr2 : (if t = "" then [] else rowsOf t).length ≤ 1000001 := by
    split
    · exact Nat.zero_le _
    · exact hr
  cases hg : tellGo (partRow ks) 0 (if t = "" then [] else rowsOf t) with
  | inr i =>
    have := tell_lt hg
    exact dok_bad (pl_one (by omega))
  | inl ps =>
    show DOk ((match fileRes (nms ks) (ps.map Prod.fst) with | none => Ans.told ps | some pl => Ans.bad "BadFile" pl).dat ptDat)
    cases hl : fileRes (nms ks) (ps.map Prod.fst) with
    | some pl => exact dok_bad (fileRes_ok hl)
    | none =>
      have ok : ∀ p ∈ ps, ptOk ks p := fun p hp => by
        obtain ⟨ws, hw⟩ := tell_mem hg p hp
        exact partRow_ok hw
      refine dok_told (fun p hp => (dn_pt lay (ok p hp)).mono (by decide) (by decide)) ?_
      unfold fileRes at hl
      split at hl
      · rename_i c
        have := of_decide_eq_true c
        rw [List.length_map] at this
        exact this
      · cases hl
end Cp
set_option maxHeartbeats 8000000
/-! Right: the walk. -/
namespace Cp
open PySem L2 LamX
local macro_rules | `(tactic| walk_at "rd") => `(tactic| repeat (first
  | with_reducible apply rd_seq | with_reducible apply rd_asg | with_reducible apply rd_gname | with_reducible apply rd_if | with_reducible apply rd_ret | with_reducible apply rd_drop | with_reducible apply rd_next
  | with_reducible apply rd_op | with_reducible apply rd_cb | with_reducible apply rd_cons | with_reducible apply rd_nil | with_reducible apply rd_c | with_reducible apply rd_tb | with_reducible apply rd_test | with_reducible apply rd_not
  | with_reducible apply rd_or | with_reducible apply rd_and | with_reducible apply rd_call | with_reducible apply rd_chain | with_reducible apply rd_andV | with_reducible apply rd_notV | with_reducible apply rd_ifx
  | with_reducible apply rd_gcons | with_reducible apply rd_gnil
  | ((with_reducible apply rd_var); exact rfl) | (with_reducible apply rd_bk)))
open PyProof.Rows (envOfC)
abbrev N__law_right : List Str := ["plan", "text", "is_plan", "due", "again", "found"]
theorem sc__law_right : FnScope N__law_right ["plan", "text", "is_plan"] (defScope s_law_right) := ⟨rfl, rfl, rfl, by decide +kernel, rfl, by decide +kernel, by decide +kernel⟩
def q__law_right : Str := (envOfC "_law_right" (defScope s_law_right) 0 0 .none).qual ++ "<lambda>"
def b__law_right (K : PySem.W.Frag) (Tb : List (Addr × Str)) (E : XK) : TE := tIf (tB (tVar 2)) (tCall (sp_read_layout K) [] E (tCons (tVar 1) tNil)) (tCall (sp_read_file Tb K) [] E (tCons (tVar 0) (tCons (tVar 1) tNil)))
def t__law_right (P : Program) (w : World) (K : PySem.W.Frag) (Tb : List (Addr × Str)) : TS :=
  (tSeq (tAsg (tCB (rRepr K) (tCons (tCall (sp__law_due K) [] E0 (tCons (tVar 0) (tCons (tVar 1) (tCons (tVar 2) tNil)))) tNil)) (gName 3))
  (tSeq (tFor (iRng1 (tCons (tC (.int 2)) tNil)) (gName 4) (tSeq (tAsg (tLam Tb (TSaid K) (b__law_right K Tb)) (gName 5))
    (tIfS (tTest (tOp rNe (tCB (rRepr K) (tCons (tVar 5) tNil)) (tVar 3))) (tRet (tC (.bl false))) tNext)))
  (tRet (tC (.bl true)))))
theorem d__law_right {P : Program} {w : World} {K : PySem.W.Frag} {mg : Str → Option Value} {base : Heap} {f c Pt : Addr} {cdv : Value} {fdS : FuncData} {Tb : List (Addr × Str)} {A : Around} {outer : List Env} {s : Shared} {H : Hp} {E : XK} (T : Txt K mg)
    (F__law_due : Fn__law_due P w K mg base) (F_read_layout : Fn_read_layout P w K mg base) (F_read_file : Fn_read_file Tb P w K mg base)
    (FS : Fun K "_law_said" "_law_said" s_law_said (He.ga K "_law_said") fdS) (bS : Binds K fdS ["asked"] []) (TB : TabB base mg c Pt) (hcode : cdv = .ref c) (hm : (Pt, q__law_right) ∈ Tb) (hu1 : ∀ p ∈ Tb, p.1 = Pt → p.2 = q__law_right) (hgd : A.guards = some [])
    (hr : Room 13 (A.deeper (envOfC "_law_right" (defScope s_law_right) s.heap.objs.size f cdv))) :
    PSs (cxOf CX0 P w K mg base N__law_right "_law_right" (defScope s_law_right) f cdv A outer s H E).nox (defBody s_law_right) (t__law_right P w K Tb) := by
  have nd := sc__law_right.nd
  have hu := hu_of hr
  obtain ⟨oc, od, kV, doc, pm, an, cdvS, ct, osl, rfl, lk, hcd⟩ := FS.ex
  exact (pss_cons (ps_set (i := 3) nd rfl (.inl rfl) (pe_callB (c_repr hgd hr) (by rfl) T.repr_ (by decide +kernel) (pa_cons (pe_fn F__law_due hr (by decide) rfl pass0 (pa_cons (pv 0) (pa_cons (pv 1) (pa_cons (pv 2) pa_nil)))) pa_nil)))
    (pss_cons (ps_for PassesOwn.never rfl (pi_range1 rfl T.range_ (pa_cons pe_int pa_nil)) (pg_name (i := 4) nd rfl (.inl rfl)) (pss_cons (ps_set (i := 5) nd rfl (.inl rfl)
      (pe_lamcall (k := 9) (T := Tb) (P := Pt) (c := c) (a := "asked") (Ng := N__law_said) (TT := TSaid K) (t := b__law_right K Tb) rfl T.g_law_said FS.kp lk hcd bS sc__law_said rfl (.inl rfl) (said_gives T) TB hcode hm hu1 (hr.mono (by decide)) (show LamS (defScope s_law_right) _ from lamS_by (by decide +kernel)) rfl (fun _ _ _ _ _ => rfl)
        (fun A outer s H E f' c' hr2 => pe_ifExp (pt_val (pv 2)) (pe_fn F_read_layout hr2 (by decide) rfl (passE rfl rfl rfl rfl) (pa_cons (pv 1) pa_nil)) (pe_fn F_read_file hr2 (by decide) rfl (passE rfl rfl rfl rfl) (pa_cons (pv 0) (pa_cons (pv 1) pa_nil))))))
      (pss_one (ps_if (pt_cmpR op_ne (pe_callB (c_repr hgd hr) (by rfl) T.repr_ (by decide +kernel) (pa_cons (pv 5) pa_nil)) (pv 3) (nomark _)) (pss_one (ps_ret pe_bl)) pss_nil))))
    (pss_one (ps_ret pe_bl))))
end Cp
set_option maxHeartbeats 8000000
/-! Right: the reading. -/
namespace Cp
open PySem L2 LamX
local macro_rules | `(tactic| walk_at "rd") => `(tactic| repeat (first
  | with_reducible apply rd_seq | with_reducible apply rd_asg | with_reducible apply rd_gname | with_reducible apply rd_if | with_reducible apply rd_ret | with_reducible apply rd_drop | with_reducible apply rd_next
  | with_reducible apply rd_op | with_reducible apply rd_cb | with_reducible apply rd_cons | with_reducible apply rd_nil | with_reducible apply rd_c | with_reducible apply rd_tb | with_reducible apply rd_test | with_reducible apply rd_not
  | with_reducible apply rd_or | with_reducible apply rd_and | with_reducible apply rd_call | with_reducible apply rd_chain | with_reducible apply rd_andV | with_reducible apply rd_notV | with_reducible apply rd_ifx
  | with_reducible apply rd_gcons | with_reducible apply rd_gnil
  | ((with_reducible apply rd_var); exact rfl) | (with_reducible apply rd_bk)))
theorem dt_ref {K : PySem.W.Frag} {H : Hp} {v : V} {d : PyData} (h : Dt K H v d) (hl : ∃ xs, d = .list xs) : ∃ a, v = .ref a := by
  obtain ⟨xs, rfl⟩ := hl
  cases h with
  | lst h1 h2 => exact ⟨_, rfl⟩
theorem ans_list {α : Type} (f : α → PyData) (a : Ans α) : ∃ xs, a.dat f = .list xs := by
  cases a with
  | told xs => exact ⟨_, rfl⟩
  | bad c pl => exact ⟨_, rfl⟩
theorem badL_in {t c : Str} {pl : List Int} (h : ansL t = .bad c pl) : c ∈ (["BadLayout", "BadFile", "BadText"] : List Str) := by
  unfold ansL at h
  split at h
  · cases h
    decide
  · split at h
    · cases h
    · cases h
      decide
theorem badF_in {ks : List Kd} {t c : Str} {pl : List Int} (h : ansF ks t = .bad c pl) : c ∈ (["BadLayout", "BadFile", "BadText"] : List Str) := by
  unfold ansF at h
  split at h
  · cases h
    decide
  · split at h
    · cases h
    · cases h
      decide
theorem Tabs.keepE {T : List (Addr × Str)} {H H' : Hp} (t : Tabs T H) (k : Keep H H') : Tabs T H' := t.ext k
theorem r__law_right {P : Program} {w : World} {K : PySem.W.Frag} {mg : Str → Option Value} (T : Txt K mg) {Tb : List (Addr × Str)} {vs : List V} {H : Hp} {Q : VK} {E : XK} (h : sp__law_right Tb K vs H Q E) : t__law_right P w K Tb { nx := fun _ H' => Q .non H', rt := Q } (L2.start N__law_right vs) H := by
  obtain ⟨p, ks, t, b, rfl, hp, lay, ht, hT, q⟩ := h
  obtain ⟨d, hd, hlist, dok⟩ : ∃ d : PyData, d = (if b = true then (ansL t).dat Kd.dat else (ansF ks t).dat ptDat) ∧ (∃ xs, d = .list xs) ∧ DOk d := by
    refine ⟨_, rfl, ?_, ?_⟩
    · split
      · exact ans_list _ _
      · exact ans_list _ _
    · split
      · exact dok_L ht
      · exact dok_F lay ht
  obtain ⟨d1, d2, d3, d4⟩ := dok
  unfold t__law_right
  walk_at "rd"
  refine ⟨p, ks, t, b, rfl, hp, lay, ht, fun v H1 k1 hdt => ?_⟩
  rw [← hd] at hdt
  obtain ⟨a, rfl⟩ := dt_ref hdt hlist
  walk_at "rd"
  refine ⟨a, d, rfl, hdt, d1, d2, d3, d4, ?_⟩
  walk_at "rd"
  refine rd_for (rd_iR ?_)
  walk_at "rd"
  refine ⟨2, rfl, by decide, by decide, ?_⟩
  have fin : ∀ (D : Ends) (x4 : Option V) (l : Addr) (H5 : Hp), Dt K H5 (.ref l) d → D.nx [some p, some (.str t), some (.bl b), some (.str d.shown), x4, some (.ref l)] H5 →
      (tIfS (tTest (tOp rNe (tCB (rRepr K) (tCons (tVar 5) tNil)) (tVar 3))) (tRet (tC (.bl false))) tNext) D [some p, some (.str t), some (.bl b), some (.str d.shown), x4, some (.ref l)] H5 := by
    intro D x4 l H5 hl hD
    walk_at "rd"
    refine ⟨l, d, rfl, hl, d1, d2, d3, d4, ?_⟩
    walk_at "rd"
    refine rd_ne rfl ?_
    walk_at "rd"
    rw [decide_eq_true rfl]
    exact iteF hD
  refine for_range (n := 2) (fun i σ H2 => ∃ (x4 x5 : Option V), σ = [some p, some (.str t), some (.bl b), some (.str d.shown), x4, x5] ∧ KeepT Tb H H2) ?_ ?_ ?_
  · exact ⟨_, _, rfl, .of hT k1⟩
  · rintro i σ H2 hi ⟨x4, x5, rfl, k2⟩
    walk_at "rd"
    refine ⟨k2.2, fun H3 eN T3 => ?_⟩
    intro f H4 k4
    have k3 : KeepT Tb H H3 := ⟨k2.1.trans eN, T3⟩
    have k04 := k3.keep k4
    have p4 : PlanAt K H4 p ks := k04.1.plan hp
    have bad : ∀ (c : Str) (pl : List Int), c ∈ (["BadLayout", "BadFile", "BadText"] : List Str) → d = .list [.str (sayOf c), .tuple (pl.map .int)] → ∀ (Q' : VK) H5 d' p', KeepT Tb H H5 → H5 d' = some (.xd [("place", .ref p')]) → H5 p' = some (.tup (pl.map V.int)) → (∀ l H6, KeepT Tb H H6 → Dt K H6 (.ref l) d → Q' (.ref l) H6) → ESaid K Q' (.ref (He.ga K c)) (some d') H5 := by
      intro c pl hc hdc Q' H5 d' p' k5 h1 h2 hQ
      refine ⟨c, d', .ref p', hc, rfl, rfl, h1, fun l H6 k6 hl => hQ l H6 (k5.keep k6) ?_⟩
      rw [hdc]
      exact .lst (.inl (.inl hl)) (.cons (.str _) (.cons (.tup (.inl (.inl (k6 _ _ h2))) (dt_int pl)) .nil))
    have good : ∀ {α : Type} (g : α → PyData) (xs : List α), d = .list [.str "told", .tuple (xs.map g)] → ∀ (Q' : VK) H5 a' ys, KeepT Tb H H5 → SqT K H5 a' ys → (∀ H6, Keep H5 H6 → Dts K H6 ys (xs.map g)) → (∀ l H6, KeepT Tb H H6 → Dt K H6 (.ref l) d → Q' (.ref l) H6) → t_said_end K { nx := fun _ H' => Q' .non H', rt := Q' } [some (.ref f), some (.ref a'), some .non, none, none] H5 := by
      intro α g xs hdc Q' H5 a' ys k5 h1 h2 hQ
      refine r_said_told fun l hl => hQ l _ (k5.keep (.new hl)) ?_
      rw [hdc]
      exact .lst (.inl (.inl upd_same)) (.cons (.str _) (.cons (.tup ((Keep.new hl).sqT h1) (h2 _ (.new hl))) .nil))
    unfold b__law_right
    walk_at "rd"
    cases b with
    | true =>
      have hd : d = (ansL t).dat Kd.dat := hd
      refine iteT ?_
      walk_at "rd"
      refine ⟨t, rfl, ht, fun c pl e => ?_, fun ks' e a' ys H5 k5 sq hks => ?_⟩
      · intro H5 d' p' k5 h1 h2
        refine bad c pl (badL_in e) (by rw [hd, e]; rfl) _ H5 d' p' (k04.keep k5) h1 h2 fun l H6 k6 hl => ?_
        with_reducible apply rd_gname
        refine fin _ _ l H6 hl ?_
        exact ⟨_, _, rfl, k6⟩
      · refine good Kd.dat ks' (by rw [hd, e]; rfl) _ H5 a' ys (k04.keep k5) sq (fun H6 k6 => dts_of (k6.kds hks) fun v a r => dt_kd r) fun l H6 k6 hl => ?_
        with_reducible apply rd_gname
        refine fin _ _ l H6 hl ?_
        exact ⟨_, _, rfl, k6⟩
    | false =>
      have hd : d = (ansF ks t).dat ptDat := hd
      refine iteF ?_
      walk_at "rd"
      refine ⟨p, ks, t, rfl, p4, lay, ht, k04.2, fun c pl e => ?_, fun ps e a' ys H5 k5 sq hps => ?_⟩
      · intro H5 d' p' k5 h1 h2
        refine bad c pl (badF_in e) (by rw [hd, e]; rfl) _ H5 d' p' (k04.trans k5) h1 h2 fun l H6 k6 hl => ?_
        with_reducible apply rd_gname
        refine fin _ _ l H6 hl ?_
        exact ⟨_, _, rfl, k6⟩
      · refine good ptDat ps (by rw [hd, e]; rfl) _ H5 a' ys (k04.trans k5) sq (fun H6 k6 => dts_of (k6.pts hps) fun v a r => dt_pt r) fun l H6 k6 hl => ?_
        with_reducible apply rd_gname
        refine fin _ _ l H6 hl ?_
        exact ⟨_, _, rfl, k6⟩
  · rintro σ H2 ⟨x4, x5, rfl, k2⟩
    walk_at "rd"
    exact q H2 k2
end Cp
set_option maxHeartbeats 8000000
/-! law: the walk. -/
namespace Cp
open PySem L2 LamX
local macro_rules | `(tactic| walk_at "rd") => `(tactic| repeat (first
  | with_reducible apply rd_seq | with_reducible apply rd_asg | with_reducible apply rd_gname | with_reducible apply rd_if | with_reducible apply rd_ret | with_reducible apply rd_drop | with_reducible apply rd_next
  | with_reducible apply rd_op | with_reducible apply rd_cb | with_reducible apply rd_cons | with_reducible apply rd_nil | with_reducible apply rd_c | with_reducible apply rd_tb | with_reducible apply rd_test | with_reducible apply rd_not
  | with_reducible apply rd_or | with_reducible apply rd_and | with_reducible apply rd_call | with_reducible apply rd_chain | with_reducible apply rd_andV | with_reducible apply rd_notV | with_reducible apply rd_ifx
  | with_reducible apply rd_gcons | with_reducible apply rd_gnil
  | ((with_reducible apply rd_var); exact rfl) | (with_reducible apply rd_bk)))
open PyProof.Rows (envOfC)
abbrev N_law : List Str := ["script", "draw", "turn", "plan", "texts", "is_plan", "again", "text", "more"]
theorem sc_law : FnScope N_law ["script"] (defScope slaw) := ⟨rfl, rfl, rfl, by decide +kernel, rfl, by decide +kernel, by decide +kernel⟩
def t_law (P : Program) (w : World) (K : PySem.W.Frag) (Tb : List (Addr × Str)) : TS :=
  (tSeq (tAsg (tCall (sp__law_begun K) [] E0 (tCons (tVar 0) tNil)) (gName 1))
  (tSeq (tFor (iRng1 (tCons (tOp rAdd (tC (.int 3)) (tOp rFdiv (tCB rMin (tCons (tC (.int 60)) (tCons (tCB (rLen K) (tCons (tVar 0) tNil)) tNil))) (tC (.int 6)))) tNil)) (gName 2)
    (tSeq (tAsg (tCall (sp__law_layout K) [] E0 (tCons (tVar 1) (tCons (tC (.int 12)) tNil))) (gName 3))
    (tSeq (tAsg (tCall (sp__law_texts K) [] E0 (tCons (tVar 3) (tCons (tCall (sp__law_held K) [] E0 (tCons (tVar 1) (tCons (tVar 3) (tCons (tCall (sp__law_under K) [] E0 (tCons (tVar 3) tNil)) tNil)))) tNil))) (gName 4))
    (tFor (iTup K (tTup (tCons (tC (.bl true)) (tCons (tC (.bl false)) tNil)))) (gName 5)
      (tFor (iRng1 (tCons (tC (.int 4)) tNil)) (gName 6)
        (tSeq (tAsg (tIf (tB (tVar 5)) (tOp (rIxL K) (tVar 4) (tC (.int 0))) (tOp (rIxL K) (tVar 4) (tC (.int 1)))) (gName 7))
        (tSeq (tFor (iRng1 (tCons (tCall (sp__law_next K) [] E0 (tCons (tVar 1) (tCons (tC (.int 5)) tNil))) tNil)) (gName 8) (tAsg (tCall (sp__law_bent K) [] E0 (tCons (tVar 1) (tCons (tVar 3) (tCons (tVar 7) tNil)))) (gName 7)))
        (tIfS (tNot (tB (tCall (sp__law_right Tb K) [] E0 (tCons (tVar 3) (tCons (tVar 7) (tCons (tVar 5) tNil)))))) (tRet (tC (.bl false))) tNext))))))))
  (tRet (tC (.bl true)))))
theorem d_law {P : Program} {w : World} {K : PySem.W.Frag} {mg : Str → Option Value} {base : Heap} {f : Addr} {cdv : Value} {Tb : List (Addr × Str)} {fdR : FuncData} {A : Around} {outer : List Env} {s : Shared} {H : Hp} {E : XK} (T : Txt K mg)
    (F__law_begun : Fn__law_begun P w K mg base) (F__law_next : Fn__law_next P w K mg base) (F__law_layout : Fn__law_layout P w K mg base) (F__law_texts : Fn__law_texts P w K mg base) (F__law_held : Fn__law_held P w K mg base)
    (F__law_under : Fn__law_under P w K mg base) (F__law_bent : Fn__law_bent P w K mg base)
    (FR : FnG P w K mg base C8.CX0 14 (He.ga K "_law_right") fdR ["plan", "text", "is_plan"] (sp__law_right Tb K)) (gR : mg "_law_right" = some (.ref (He.ga K "_law_right"))) (kR : PySem.W.keepIn K (.ref (He.ga K "_law_right")) = true) (bR : Binds K fdR ["plan", "text", "is_plan"] []) (hgd : A.guards = some [])
    (hr : Room 14 (A.deeper (envOfC "law" (defScope slaw) s.heap.objs.size f cdv))) :
    PSs (cxOf CX0 P w K mg base N_law "law" (defScope slaw) f cdv A outer s H E).nox (defBody slaw) (t_law P w K Tb) := by
  have nd := sc_law.nd
  have hu := hu_of hr
  exact (pss_cons (ps_set (i := 1) nd rfl (.inl rfl) (pe_fn F__law_begun hr (by decide) rfl pass0 (pa_cons (pv 0) pa_nil)))
    (pss_cons (ps_for PassesOwn.never rfl (pi_range1 rfl T.range_ (pa_cons (pe_op o_add pe_int (pe_op o_fdiv (pe_callB (c_min rfl) (by rfl) T.min_ (by decide +kernel) (pa_cons pe_int (pa_cons (pe_callB c_len (by rfl) T.len_ (by decide +kernel) (pa_cons (pv 0) pa_nil)) pa_nil))) pe_int)) pa_nil)) (pg_name (i := 2) nd rfl (.inl rfl))
      (pss_cons (ps_set (i := 3) nd rfl (.inl rfl) (pe_fn F__law_layout hr (by decide) rfl pass0 (pa_cons (pv 1) (pa_cons pe_int pa_nil))))
      (pss_cons (ps_set (i := 4) nd rfl (.inl rfl) (pe_fn F__law_texts hr (by decide) rfl pass0 (pa_cons (pv 3) (pa_cons (pe_fn F__law_held hr (by decide) rfl pass0 (pa_cons (pv 1) (pa_cons (pv 3) (pa_cons (pe_fn F__law_under hr (by decide) rfl pass0 (pa_cons (pv 3) pa_nil)) pa_nil)))) pa_nil))))
      (pss_one (ps_for PassesOwn.never rfl (pi_tup (pe_tup (pa_cons pe_bl (pa_cons pe_bl pa_nil)))) (pg_name (i := 5) nd rfl (.inl rfl))
        (pss_one (ps_for PassesOwn.never rfl (pi_range1 rfl T.range_ (pa_cons pe_int pa_nil)) (pg_name (i := 6) nd rfl (.inl rfl))
          (pss_cons (ps_set (i := 7) nd rfl (.inl rfl) (pe_ifExp (pt_val (pv 5)) (pe_ix ix_list (pv 4) pe_int (fun _ _ => rfl)) (pe_ix ix_list (pv 4) pe_int (fun _ _ => rfl))))
          (pss_cons (ps_for PassesOwn.never rfl (pi_range1 rfl T.range_ (pa_cons (pe_fn F__law_next hr (by decide) rfl pass0 (pa_cons (pv 1) (pa_cons pe_int pa_nil))) pa_nil)) (pg_name (i := 8) nd rfl (.inl rfl)) (pss_one (ps_set (i := 7) nd rfl (.inl rfl) (pe_fn F__law_bent hr (by decide) rfl pass0 (pa_cons (pv 1) (pa_cons (pv 3) (pa_cons (pv 7) pa_nil)))))))
          (pss_one (ps_if (pt_not (pt_val (pe_fnG FR hr hgd rfl gR kR bR pass0 (pa_cons (pv 3) (pa_cons (pv 7) (pa_cons (pv 5) pa_nil)))))) (pss_one (ps_ret pe_bl)) pss_nil)))))))))))
    (pss_one (ps_ret pe_bl))))
end Cp
set_option maxHeartbeats 8000000
/-! law: the reading. -/
namespace Cp
open PySem L2 LamX
local macro_rules | `(tactic| walk_at "rd") => `(tactic| repeat (first
  | with_reducible apply rd_seq | with_reducible apply rd_asg | with_reducible apply rd_gname | with_reducible apply rd_if | with_reducible apply rd_ret | with_reducible apply rd_drop | with_reducible apply rd_next
  | with_reducible apply rd_op | with_reducible apply rd_cb | with_reducible apply rd_cons | with_reducible apply rd_nil | with_reducible apply rd_c | with_reducible apply rd_tb | with_reducible apply rd_test | with_reducible apply rd_not
  | with_reducible apply rd_or | with_reducible apply rd_and | with_reducible apply rd_call | with_reducible apply rd_chain | with_reducible apply rd_andV | with_reducible apply rd_notV | with_reducible apply rd_ifx
  | with_reducible apply rd_gcons | with_reducible apply rd_gnil
  | ((with_reducible apply rd_var); exact rfl) | (with_reducible apply rd_bk)))
theorem _root_.LamX.Tabs.go {T : List (Addr × Str)} {d g : Addr} {H H' : Hp} (t : Tabs T H) (w : DrawAt H d g) (k : Go d g H H') : Tabs T H' := fun p hp => by
  obtain ⟨ps, h1, h2, h3⟩ := t p hp
  refine ⟨ps, k.at_ w h1 (fun _ z => by cases z) (fun _ z => by cases z), h2, fun pos cv hc => ?_⟩
  obtain ⟨c, e1, e2⟩ := h3 pos cv hc
  exact ⟨c, e1, k.at_ w e2 (fun _ z => by cases z) (fun _ z => by cases z)⟩
theorem KeepT.draw {T : List (Addr × Str)} {d g : Addr} {H H' : Hp} (k : KeepT T H H') (w : DrawAt H d g) : DrawAt H' d g := by
  obtain ⟨m, t, gs, q1, q2⟩ := w
  exact ⟨m, t, gs, k.1 _ _ q1 (fun _ z => by cases z), k.1 _ _ q2 (fun _ z => by cases z)⟩
/-- what stays through a round -/
structure Rd3 (K : PySem.W.Frag) (Tb : List (Addr × Str)) (d g pa l tp : Addr) (ks : List Kd) (ta tb : Str) (H : Hp) : Prop where
  tab : Tabs Tb H
  dr : DrawAt H d g
  pl : PlanAt K H (.ref pa) ks
  tx : H l = some (.lst [.str ta, .str tb])
  tw : H tp = some (.tup [.bl true, .bl false])
theorem Rd3.go {K : PySem.W.Frag} {Tb : List (Addr × Str)} {d g pa l tp : Addr} {ks : List Kd} {ta tb : Str} {H H' : Hp} (r : Rd3 K Tb d g pa l tp ks ta tb H) (h1 : l ≠ d) (h2 : l ≠ g) (k : Go d g H H') : Rd3 K Tb d g pa l tp ks ta tb H' :=
  ⟨r.tab.go r.dr k, k.2, k.plan r.dr r.pl, k.lst h1 h2 r.tx, k.at_ r.dr r.tw (fun _ z => by cases z) (fun _ z => by cases z)⟩
theorem Rd3.kt {K : PySem.W.Frag} {Tb : List (Addr × Str)} {d g pa l tp : Addr} {ks : List Kd} {ta tb : Str} {H H' : Hp} (r : Rd3 K Tb d g pa l tp ks ta tb H) (k : KeepT Tb H H') : Rd3 K Tb d g pa l tp ks ta tb H' :=
  ⟨k.2, k.draw r.dr, k.1.plan r.pl, k.1 _ _ r.tx (fun _ z => by cases z), k.1 _ _ r.tw (fun _ z => by cases z)⟩
theorem r_law {P : Program} {w : World} {K : PySem.W.Frag} {Tb : List (Addr × Str)} {vs : List V} {H : Hp} {Q : VK} {E : XK} (h : sp_law Tb K vs H Q E) : t_law P w K Tb { nx := fun _ H' => Q .non H', rt := Q } (L2.start N_law vs) H := by
  obtain ⟨a, ns, rfl, sq, hl, hT, q⟩ := h
  unfold t_law
  walk_at "rd"
  refine ⟨a, ns, rfl, sq, hl, fun d g H1 k1 hdr hd0 hg0 => ?_⟩
  walk_at "rd"
  refine rd_for (rd_iR ?_)
  walk_at "rd"
  refine rd_lenL (k1.sqL sq) ?_
  walk_at "rd"
  refine rd_min ?_
  walk_at "rd"
  refine rd_fdiv ⟨by decide, by decide⟩ ?_
  refine rd_add ?_
  rw [List.length_map]
  obtain ⟨n, hn, hn0, hn1⟩ : ∃ n : Int, 3 + (if (ns.length : Int) < 60 then (ns.length : Int) else 60) / 6 = n ∧ 0 ≤ n ∧ n ≤ 1000 := by
    refine ⟨_, rfl, ?_, ?_⟩ <;> split <;> omega
  rw [hn]
  refine ⟨n, rfl, by omega, by omega, ?_⟩
  refine for_range (n := n.toNat) (fun i σ H2 => ∃ (x2 x3 x4 x5 x6 x7 x8 : Option V), σ = [some (.ref a), some (.ref d), x2, x3, x4, x5, x6, x7, x8] ∧ Tabs Tb H2 ∧ DrawAt H2 d g) ?_ ?_ ?_
  · exact ⟨_, _, _, _, _, _, _, rfl, hT.ext k1, hdr⟩
  · rintro i σ H2 hi ⟨x2, x3, x4, x5, x6, x7, x8, rfl, hT2, hd2⟩
    walk_at "rd"
    refine ⟨d, g, 12, rfl, hd2, by decide, by decide, fun v ks H3 k3 hp lay hks => ?_⟩
    obtain ⟨pa, xs, rfl, sqp, hkds⟩ := id hp
    walk_at "rd"
    refine ⟨.ref pa, ks, rfl, ⟨pa, xs, rfl, .inr sqp, hkds⟩, lay, fun u H4 k4 hu => ?_⟩
    have k34 : Go d g H3 H4 := .keep k4 k3.2
    walk_at "rd"
    refine ⟨d, g, .ref pa, ks, u, rfl, k34.2, k4.plan hp, lay, fun H' k' => ?_, fun h H5 k5 hh => ?_⟩
    · exact (hu.go k3.2 k').und
    walk_at "rd"
    refine ⟨.ref pa, ks, h, rfl, k5.plan k34.2 (k4.plan hp), lay, by omega, hh, fun l ta tb H6 k6 hl0 hl6 la lb aa ab => ?_⟩
    have hld := k5.2.nd hl0
    have hT6 : Tabs Tb H6 := (((hT2.go hd2 k3).ext k4).go k34.2 k5).ext k6
    have hp6 : PlanAt K H6 (.ref pa) ks := k6.plan (k5.plan k34.2 (k4.plan hp))
    have hd6 := k6.draw k5.2
    walk_at "rd"
    dsimp only
    refine rd_for (rd_iT ?_)
    refine rd_tup ?_
    walk_at "rd"
    refine ⟨show 2 ≤ sizeLine by decide, fun tp htp => ⟨tp, rfl, ⟨_, .inl (.inl upd_same)⟩, ?_⟩⟩
    have r7 : Rd3 K Tb d g pa l tp ks ta tb (upd H6 tp (.tup [.bl true, .bl false])) := ⟨hT6.ext (Keep.new htp), (Keep.new htp).draw hd6, (Keep.new htp).plan hp6, (Keep.new htp) _ _ hl6, upd_same⟩
    generalize upd H6 tp (.tup [.bl true, .bl false]) = H7 at r7 ⊢
    refine for_tup (xs := [.bl true, .bl false]) (fun j σ H8 => ∃ (y2 y5 y6 y7 y8 : Option V), σ = [some (.ref a), some (.ref d), y2, some (.ref pa), some (.ref l), y5, y6, y7, y8] ∧ Rd3 K Tb d g pa l tp ks ta tb H8) ?_ ?_ ?_ ?_
    · exact ⟨_, _, _, _, _, rfl, r7⟩
    · rintro j σ H8 _ ⟨y2, y5, y6, y7, y8, rfl, r8⟩
      exact .inl (.inl r8.tw)
    · rintro j y σ H8 hy ⟨y2, y5, y6, y7, y8, rfl, r8⟩
      obtain ⟨b, rfl⟩ : ∃ b, y = .bl b := by
        have := List.mem_of_getElem? hy
        simp only [List.mem_cons, List.not_mem_nil, or_false] at this
        rcases this with rfl | rfl
        · exact ⟨true, rfl⟩
        · exact ⟨false, rfl⟩
      walk_at "rd"
      refine rd_for (rd_iR ?_)
      walk_at "rd"
      refine ⟨4, rfl, by decide, by decide, ?_⟩
      refine for_range (n := 4) (fun m σ H9 => ∃ (z6 z7 z8 : Option V), σ = [some (.ref a), some (.ref d), y2, some (.ref pa), some (.ref l), some (.bl b), z6, z7, z8] ∧ Rd3 K Tb d g pa l tp ks ta tb H9) ?_ ?_ ?_
      · exact ⟨_, _, _, rfl, r8⟩
      · rintro m σ H9 hm ⟨z6, z7, z8, rfl, r9⟩
        have text : ∀ (Q' : VK) (z6 : Option V), (∀ z : Str, z.length ≤ 10000 → Asc z → Q' (.str z) H9) → (tIf (tB (tVar 5)) (tOp (rIxL K) (tVar 4) (tC (.int 0))) (tOp (rIxL K) (tVar 4) (tC (.int 1)))) [some (.ref a), some (.ref d), y2, some (.ref pa), some (.ref l), some (.bl b), z6, z7, z8] H9 Q' := by
          intro Q' z6 q'
          walk_at "rd"
          refine iteB (fun h => ?_) (fun h => ?_)
          · walk_at "rd"
            exact rd_ixL (.inl (.inl r9.tx)) (atI_nat (j := 0) rfl) (q' ta la aa)
          · walk_at "rd"
            exact rd_ixL (.inl (.inl r9.tx)) (atI_nat (j := 1) rfl) (q' tb lb ab)
        with_reducible apply rd_gname
        with_reducible apply rd_seq
        with_reducible apply rd_asg
        refine text _ _ fun z hz1 hz2 => ?_
        walk_at "rd"
        refine rd_for (rd_iR ?_)
        walk_at "rd"
        refine ⟨d, g, 5, rfl, r9.dr, by decide, by decide, fun nt H10 n0 n1 k10 => ⟨nt, rfl, by omega, by omega, ?_⟩⟩
        refine for_range (n := nt.toNat) (fun e σ H11 => ∃ (z : Str) (w6 w8 : Option V), σ = [some (.ref a), some (.ref d), y2, some (.ref pa), some (.ref l), some (.bl b), w6, some (.str z), w8] ∧ Rd3 K Tb d g pa l tp ks ta tb H11 ∧ z.length + 1000 ≤ 2 ^ e * 11000 ∧ Asc z) ?_ ?_ ?_
        · exact ⟨z, _, _, rfl, r9.go hld.1 hld.2 k10, by omega, hz2⟩
        · rintro e σ H11 he ⟨z, w6, w8, rfl, r11, hz1, hz2⟩
          have hp : 2 ^ e ≤ 8 := Nat.pow_le_pow_right (n := 2) (by decide) (show e ≤ 3 by omega)
          walk_at "rd"
          refine ⟨d, g, .ref pa, ks, z, rfl, r11.dr, r11.pl, lay, ⟨by omega, hz2⟩, fun z2 H12 k12 l2 a2 => ?_⟩
          walk_at "rd"
          refine ⟨z2, _, _, rfl, r11.go hld.1 hld.2 k12, ?_, a2⟩
          rw [Nat.pow_succ]
          omega
        · rintro σ H11 ⟨z, w6, w8, rfl, r11, hz1, hz2⟩
          have hp : 2 ^ nt.toNat ≤ 16 := Nat.pow_le_pow_right (n := 2) (by decide) (show nt.toNat ≤ 4 by omega)
          walk_at "rd"
          refine ⟨.ref pa, ks, z, b, rfl, r11.pl, lay, ⟨by omega, hz2⟩, r11.tab, fun H12 k12 => ?_⟩
          walk_at "rd"
          refine iteF ?_
          exact ⟨_, _, _, rfl, r11.kt k12⟩
      · rintro σ H9 ⟨z6, z7, z8, rfl, r9⟩
        exact ⟨_, _, _, _, _, rfl, r9⟩
    · rintro σ H8 ⟨y2, y5, y6, y7, y8, rfl, r8⟩
      exact ⟨_, _, _, _, _, _, _, rfl, r8.tab, r8.dr⟩
  · rintro σ H2 ⟨x2, x3, x4, x5, x6, x7, x8, rfl, hT2, hd2⟩
    walk_at "rd"
    exact q H2
end Cp
set_option maxHeartbeats 8000000
/-! The defs keep their promises. -/
namespace Cp
open PySem L2 LamX
local macro_rules | `(tactic| walk_at "rd") => `(tactic| repeat (first
  | with_reducible apply rd_seq | with_reducible apply rd_asg | with_reducible apply rd_gname | with_reducible apply rd_if | with_reducible apply rd_ret | with_reducible apply rd_drop | with_reducible apply rd_next
  | with_reducible apply rd_op | with_reducible apply rd_cb | with_reducible apply rd_cons | with_reducible apply rd_nil | with_reducible apply rd_c | with_reducible apply rd_tb | with_reducible apply rd_test | with_reducible apply rd_not
  | with_reducible apply rd_or | with_reducible apply rd_and | with_reducible apply rd_call | with_reducible apply rd_chain | with_reducible apply rd_andV | with_reducible apply rd_notV | with_reducible apply rd_ifx
  | with_reducible apply rd_gcons | with_reducible apply rd_gnil
  | ((with_reducible apply rd_var); exact rfl) | (with_reducible apply rd_bk)))
theorem ok_is_integer {P : Program} {w : World} {K : PySem.W.Frag} {mg : Str → Option Value} {base : Heap} {fd : FuncData} (T : Txt K mg) (F : Fun K "is_integer" "is_integer" sis_integer (He.ga K "is_integer") fd) (g : mg "is_integer" = some (.ref (He.ga K "is_integer"))) : Fn_is_integer P w K mg base :=
  ⟨fd, F.ok sc_is_integer (fun vs H Q E h => by repeat (first | (obtain ⟨rfl, h'⟩ := h; exact rfl) | (obtain ⟨_, h⟩ := h))) (fun cdv A outer s H vs Q E hr h => ⟨_, d_is_integer T hr, r_is_integer h⟩), F.binds fun _ _ _ _ _ _ us hl => match us, hl with | [_, _, _], _ => rfl, F.kp, g⟩
theorem ok_is_name {P : Program} {w : World} {K : PySem.W.Frag} {mg : Str → Option Value} {base : Heap} {fd : FuncData} (T : Txt K mg) (F : Fun K "is_name" "is_name" sis_name (He.ga K "is_name") fd) (g : mg "is_name" = some (.ref (He.ga K "is_name"))) : Fn_is_name P w K mg base :=
  ⟨fd, F.ok sc_is_name (fun vs H Q E h => by repeat (first | (obtain ⟨rfl, h'⟩ := h; exact rfl) | (obtain ⟨_, h⟩ := h))) (fun cdv A outer s H vs Q E hr h => ⟨_, d_is_name T hr, r_is_name h⟩), F.binds fun _ _ _ _ _ _ us hl => match us, hl with | [_], _ => rfl, F.kp, g⟩
theorem ok_is_mark {P : Program} {w : World} {K : PySem.W.Frag} {mg : Str → Option Value} {base : Heap} {fd : FuncData} (T : Txt K mg) (F : Fun K "is_mark" "is_mark" sis_mark (He.ga K "is_mark") fd) (g : mg "is_mark" = some (.ref (He.ga K "is_mark"))) : Fn_is_mark P w K mg base :=
  ⟨fd, F.ok sc_is_mark (fun vs H Q E h => by repeat (first | (obtain ⟨rfl, h'⟩ := h; exact rfl) | (obtain ⟨_, h⟩ := h))) (fun cdv A outer s H vs Q E hr h => ⟨_, d_is_mark T hr, r_is_mark h⟩), F.binds fun _ _ _ _ _ _ us hl => match us, hl with | [_], _ => rfl, F.kp, g⟩
theorem ok_are_bases {P : Program} {w : World} {K : PySem.W.Frag} {mg : Str → Option Value} {base : Heap} {fd : FuncData} (T : Txt K mg) (F_is_name : Fn_is_name P w K mg base) (F : Fun K "are_bases" "are_bases" sare_bases (He.ga K "are_bases") fd) (g : mg "are_bases" = some (.ref (He.ga K "are_bases"))) : Fn_are_bases P w K mg base :=
  ⟨fd, F.ok sc_are_bases (fun vs H Q E h => by repeat (first | (obtain ⟨rfl, h'⟩ := h; exact rfl) | (obtain ⟨_, h⟩ := h))) (fun cdv A outer s H vs Q E hr h => ⟨_, d_are_bases T F_is_name hr, r_are_bases h⟩), F.binds fun _ _ _ _ _ _ us hl => match us, hl with | [_], _ => rfl, F.kp, g⟩
theorem ok_is_kind {P : Program} {w : World} {K : PySem.W.Frag} {mg : Str → Option Value} {base : Heap} {fd : FuncData} (T : Txt K mg) (F_are_bases : Fn_are_bases P w K mg base) (F_is_integer : Fn_is_integer P w K mg base) (F_is_mark : Fn_is_mark P w K mg base) (F_is_name : Fn_is_name P w K mg base) (F : Fun K "is_kind" "is_kind" sis_kind (He.ga K "is_kind") fd) (g : mg "is_kind" = some (.ref (He.ga K "is_kind"))) : Fn_is_kind P w K mg base :=
  ⟨fd, F.ok sc_is_kind (fun vs H Q E h => by repeat (first | (obtain ⟨rfl, h'⟩ := h; exact rfl) | (obtain ⟨_, h⟩ := h))) (fun cdv A outer s H vs Q E hr h => ⟨_, d_is_kind T F_are_bases F_is_integer F_is_mark F_is_name hr, r_is_kind h⟩), F.binds fun _ _ _ _ _ _ us hl => match us, hl with | [_], _ => rfl, F.kp, g⟩
theorem ok_need_layout {P : Program} {w : World} {K : PySem.W.Frag} {mg : Str → Option Value} {base : Heap} {fd : FuncData} (T : Txt K mg) (F_BadLayout : Fn_BadLayout P w K mg base) (F_is_kind : Fn_is_kind P w K mg base) (F : Fun K "need_layout" "need_layout" sneed_layout (He.ga K "need_layout") fd) (g : mg "need_layout" = some (.ref (He.ga K "need_layout"))) : Fn_need_layout P w K mg base :=
  ⟨fd, F.okX sc_need_layout (fun vs H Q E h => by repeat (first | (obtain ⟨rfl, h'⟩ := h; exact rfl) | (obtain ⟨_, h⟩ := h))) (fun cdv A outer s H vs Q E hr h => ⟨_, d_need_layout T F_BadLayout F_is_kind hr, r_need_layout T h⟩), F.binds fun _ _ _ _ _ _ us hl => match us, hl with | [_], _ => rfl, F.kp, g⟩
theorem ok_is_content {P : Program} {w : World} {K : PySem.W.Frag} {mg : Str → Option Value} {base : Heap} {fd : FuncData} (T : Txt K mg) (F_is_integer : Fn_is_integer P w K mg base) (F : Fun K "is_content" "is_content" sis_content (He.ga K "is_content") fd) (g : mg "is_content" = some (.ref (He.ga K "is_content"))) : Fn_is_content P w K mg base :=
  ⟨fd, F.ok sc_is_content (fun vs H Q E h => by repeat (first | (obtain ⟨rfl, h'⟩ := h; exact rfl) | (obtain ⟨_, h⟩ := h))) (fun cdv A outer s H vs Q E hr h => ⟨_, d_is_content T F_is_integer hr, r_is_content T h⟩), F.binds fun _ _ _ _ _ _ us hl => match us, hl with | [_, _, _], _ => rfl, F.kp, g⟩
theorem ok_is_part {P : Program} {w : World} {K : PySem.W.Frag} {mg : Str → Option Value} {base : Heap} {fd : FuncData} (T : Txt K mg) (F_is_content : Fn_is_content P w K mg base) (F : Fun K "is_part" "is_part" sis_part (He.ga K "is_part") fd) (g : mg "is_part" = some (.ref (He.ga K "is_part"))) : Fn_is_part P w K mg base :=
  ⟨fd, F.ok sc_is_part (fun vs H Q E h => by repeat (first | (obtain ⟨rfl, h'⟩ := h; exact rfl) | (obtain ⟨_, h⟩ := h))) (fun cdv A outer s H vs Q E hr h => ⟨_, d_is_part T F_is_content hr, r_is_part T h⟩), F.binds fun _ _ _ _ _ _ us hl => match us, hl with | [_, _], _ => rfl, F.kp, g⟩
theorem ok_held_in {P : Program} {w : World} {K : PySem.W.Frag} {mg : Str → Option Value} {base : Heap} {fd : FuncData} (T : Txt K mg) (F_BadFile : Fn_BadFile P w K mg base) (F_is_part : Fn_is_part P w K mg base) (F : Fun K "held_in" "held_in" sheld_in (He.ga K "held_in") fd) (g : mg "held_in" = some (.ref (He.ga K "held_in"))) : Fn_held_in P w K mg base :=
  ⟨fd, F.okX sc_held_in (fun vs H Q E h => by repeat (first | (obtain ⟨rfl, h'⟩ := h; exact rfl) | (obtain ⟨_, h⟩ := h))) (fun cdv A outer s H vs Q E hr h => ⟨_, d_held_in T F_BadFile F_is_part hr, r_held_in T h⟩), F.binds fun _ _ _ _ _ _ us hl => match us, hl with | [_, _], _ => rfl, F.kp, g⟩
theorem ok_need_file {P : Program} {w : World} {K : PySem.W.Frag} {mg : Str → Option Value} {base : Heap} {fd : FuncData} (T : Txt K mg) (F_Chart : Fn_Chart P w K mg base) (F_held_in : Fn_held_in P w K mg base) (F : Fun K "need_file" "need_file" sneed_file (He.ga K "need_file") fd) (g : mg "need_file" = some (.ref (He.ga K "need_file"))) : Fn_need_file P w K mg base :=
  ⟨fd, F.okX sc_need_file (fun vs H Q E h => by repeat (first | (obtain ⟨rfl, h'⟩ := h; exact rfl) | (obtain ⟨_, h⟩ := h))) (fun cdv A outer s H vs Q E hr h => ⟨_, d_need_file T F_Chart F_held_in hr, r_need_file h⟩), F.binds fun _ _ _ _ _ _ us hl => match us, hl with | [_, _], _ => rfl, F.kp, g⟩
theorem ok_number_in {P : Program} {w : World} {K : PySem.W.Frag} {mg : Str → Option Value} {base : Heap} {fd : FuncData} (T : Txt K mg) (F : Fun K "number_in" "number_in" snumber_in (He.ga K "number_in") fd) (g : mg "number_in" = some (.ref (He.ga K "number_in"))) : Fn_number_in P w K mg base :=
  ⟨fd, F.ok sc_number_in (fun vs H Q E h => by repeat (first | (obtain ⟨rfl, h'⟩ := h; exact rfl) | (obtain ⟨_, h⟩ := h))) (fun cdv A outer s H vs Q E hr h => ⟨_, d_number_in T hr, r_number_in h⟩), F.binds fun _ _ _ _ _ _ us hl => match us, hl with | [_], _ => rfl, F.kp, g⟩
theorem ok_told_kind {P : Program} {w : World} {K : PySem.W.Frag} {mg : Str → Option Value} {base : Heap} {fd : FuncData} (T : Txt K mg) (F_is_kind : Fn_is_kind P w K mg base) (F_number_in : Fn_number_in P w K mg base) (F : Fun K "told_kind" "told_kind" stold_kind (He.ga K "told_kind") fd) (g : mg "told_kind" = some (.ref (He.ga K "told_kind"))) : Fn_told_kind P w K mg base :=
  ⟨fd, F.ok sc_told_kind (fun vs H Q E h => by repeat (first | (obtain ⟨rfl, h'⟩ := h; exact rfl) | (obtain ⟨_, h⟩ := h))) (fun cdv A outer s H vs Q E hr h => ⟨_, d_told_kind T F_is_kind F_number_in hr, r_told_kind h⟩), F.binds fun _ _ _ _ _ _ us hl => match us, hl with | [_], _ => rfl, F.kp, g⟩
theorem ok_told_part {P : Program} {w : World} {K : PySem.W.Frag} {mg : Str → Option Value} {base : Heap} {fd : FuncData} (T : Txt K mg) (F_is_content : Fn_is_content P w K mg base) (F_number_in : Fn_number_in P w K mg base) (F : Fun K "told_part" "told_part" stold_part (He.ga K "told_part") fd) (g : mg "told_part" = some (.ref (He.ga K "told_part"))) : Fn_told_part P w K mg base :=
  ⟨fd, F.ok sc_told_part (fun vs H Q E h => by repeat (first | (obtain ⟨rfl, h'⟩ := h; exact rfl) | (obtain ⟨_, h⟩ := h))) (fun cdv A outer s H vs Q E hr h => ⟨_, d_told_part T F_is_content F_number_in hr, r_told_part T h⟩), F.binds fun _ _ _ _ _ _ us hl => match us, hl with | [_, _], _ => rfl, F.kp, g⟩
theorem ok_read_layout {P : Program} {w : World} {K : PySem.W.Frag} {mg : Str → Option Value} {base : Heap} {fd : FuncData} (T : Txt K mg) (F_need_layout : Fn_need_layout P w K mg base) (F_told_rows : Fn_told_rows P w K mg base) (F : Fun K "read_layout" "read_layout" sread_layout (He.ga K "read_layout") fd) (g : mg "read_layout" = some (.ref (He.ga K "read_layout"))) : Fn_read_layout P w K mg base :=
  ⟨fd, F.okX sc_read_layout (fun vs H Q E h => by repeat (first | (obtain ⟨rfl, h'⟩ := h; exact rfl) | (obtain ⟨_, h⟩ := h))) (fun cdv A outer s H vs Q E hr h => ⟨_, d_read_layout T F_need_layout F_told_rows hr, r_read_layout h⟩), F.binds fun _ _ _ _ _ _ us hl => match us, hl with | [_], _ => rfl, F.kp, g⟩
theorem ok__law_begun {P : Program} {w : World} {K : PySem.W.Frag} {mg : Str → Option Value} {base : Heap} {fd : FuncData} (T : Txt K mg) (F : Fun K "_law_begun" "_law_begun" s_law_begun (He.ga K "_law_begun") fd) (g : mg "_law_begun" = some (.ref (He.ga K "_law_begun"))) : Fn__law_begun P w K mg base :=
  ⟨fd, F.ok sc__law_begun (fun vs H Q E h => by repeat (first | (obtain ⟨rfl, h'⟩ := h; exact rfl) | (obtain ⟨_, h⟩ := h))) (fun cdv A outer s H vs Q E hr h => ⟨_, d__law_begun T hr, r__law_begun h⟩), F.binds fun _ _ _ _ _ _ us hl => match us, hl with | [_], _ => rfl, F.kp, g⟩
theorem ok__law_next {P : Program} {w : World} {K : PySem.W.Frag} {mg : Str → Option Value} {base : Heap} {fd : FuncData} (T : Txt K mg) (F : Fun K "_law_next" "_law_next" s_law_next (He.ga K "_law_next") fd) (g : mg "_law_next" = some (.ref (He.ga K "_law_next"))) : Fn__law_next P w K mg base :=
  ⟨fd, F.ok sc__law_next (fun vs H Q E h => by repeat (first | (obtain ⟨rfl, h'⟩ := h; exact rfl) | (obtain ⟨_, h⟩ := h))) (fun cdv A outer s H vs Q E hr h => ⟨_, d__law_next T hr, r__law_next h⟩), F.binds fun _ _ _ _ _ _ us hl => match us, hl with | [_, _], _ => rfl, F.kp, g⟩
theorem ok__law_titles {P : Program} {w : World} {K : PySem.W.Frag} {mg : Str → Option Value} {base : Heap} {fd : FuncData} (T : Txt K mg) (F__law_next : Fn__law_next P w K mg base) (F : Fun K "_law_titles" "_law_titles" s_law_titles (He.ga K "_law_titles") fd) (g : mg "_law_titles" = some (.ref (He.ga K "_law_titles"))) : Fn__law_titles P w K mg base :=
  ⟨fd, F.ok sc__law_titles (fun vs H Q E h => by repeat (first | (obtain ⟨rfl, h'⟩ := h; exact rfl) | (obtain ⟨_, h⟩ := h))) (fun cdv A outer s H vs Q E hr h => ⟨_, d__law_titles T F__law_next hr, r__law_titles h⟩), F.binds fun _ _ _ _ _ _ us hl => match us, hl with | [_], _ => rfl, F.kp, g⟩
theorem ok__law_sign {P : Program} {w : World} {K : PySem.W.Frag} {mg : Str → Option Value} {base : Heap} {fd : FuncData} (T : Txt K mg) (F : Fun K "_law_sign" "_law_sign" s_law_sign (He.ga K "_law_sign") fd) (g : mg "_law_sign" = some (.ref (He.ga K "_law_sign"))) : Fn__law_sign P w K mg base :=
  ⟨fd, F.ok sc__law_sign (fun vs H Q E h => by repeat (first | (obtain ⟨rfl, h'⟩ := h; exact rfl) | (obtain ⟨_, h⟩ := h))) (fun cdv A outer s H vs Q E hr h => ⟨_, d__law_sign T hr, r__law_sign h⟩), F.binds fun _ _ _ _ _ _ us hl => match us, hl with | [_], _ => rfl, F.kp, g⟩
theorem ok__law_frame {P : Program} {w : World} {K : PySem.W.Frag} {mg : Str → Option Value} {base : Heap} {fd : FuncData} (T : Txt K mg) (F__law_next : Fn__law_next P w K mg base) (F__law_sign : Fn__law_sign P w K mg base) (F__law_titles : Fn__law_titles P w K mg base) (F : Fun K "_law_frame" "_law_frame" s_law_frame (He.ga K "_law_frame") fd) (g : mg "_law_frame" = some (.ref (He.ga K "_law_frame"))) : Fn__law_frame P w K mg base :=
  ⟨fd, F.ok sc__law_frame (fun vs H Q E h => by repeat (first | (obtain ⟨rfl, h'⟩ := h; exact rfl) | (obtain ⟨_, h⟩ := h))) (fun cdv A outer s H vs Q E hr h => ⟨_, d__law_frame T F__law_next F__law_sign F__law_titles hr, r__law_frame h⟩), F.binds fun _ _ _ _ _ _ us hl => match us, hl with | [_, _], _ => rfl, F.kp, g⟩
theorem ok__law_under {P : Program} {w : World} {K : PySem.W.Frag} {mg : Str → Option Value} {base : Heap} {fd : FuncData} (T : Txt K mg) (F : Fun K "_law_under" "_law_under" s_law_under (He.ga K "_law_under") fd) (g : mg "_law_under" = some (.ref (He.ga K "_law_under"))) : Fn__law_under P w K mg base :=
  ⟨fd, F.ok sc__law_under (fun vs H Q E h => by repeat (first | (obtain ⟨rfl, h'⟩ := h; exact rfl) | (obtain ⟨_, h⟩ := h))) (fun cdv A outer s H vs Q E hr h => ⟨_, d__law_under T hr, r__law_under h⟩), F.binds fun _ _ _ _ _ _ us hl => match us, hl with | [_], _ => rfl, F.kp, g⟩
theorem ok__law_word {P : Program} {w : World} {K : PySem.W.Frag} {mg : Str → Option Value} {base : Heap} {fd : FuncData} (T : Txt K mg) (F__law_sign : Fn__law_sign P w K mg base) (F : Fun K "_law_word" "_law_word" s_law_word (He.ga K "_law_word") fd) (g : mg "_law_word" = some (.ref (He.ga K "_law_word"))) : Fn__law_word P w K mg base :=
  ⟨fd, F.ok sc__law_word (fun vs H Q E h => by repeat (first | (obtain ⟨rfl, h'⟩ := h; exact rfl) | (obtain ⟨_, h⟩ := h))) (fun cdv A outer s H vs Q E hr h => ⟨_, d__law_word T F__law_sign hr, r__law_word h⟩), F.binds fun _ _ _ _ _ _ us hl => match us, hl with | [_], _ => rfl, F.kp, g⟩
theorem ok__law_marks {P : Program} {w : World} {K : PySem.W.Frag} {mg : Str → Option Value} {base : Heap} {fd : FuncData} (T : Txt K mg) (F__law_next : Fn__law_next P w K mg base) (F__law_under : Fn__law_under P w K mg base) (F__law_word : Fn__law_word P w K mg base) (F : Fun K "_law_marks" "_law_marks" s_law_marks (He.ga K "_law_marks") fd) (g : mg "_law_marks" = some (.ref (He.ga K "_law_marks"))) : Fn__law_marks P w K mg base :=
  ⟨fd, F.ok sc__law_marks (fun vs H Q E h => by repeat (first | (obtain ⟨rfl, h'⟩ := h; exact rfl) | (obtain ⟨_, h⟩ := h))) (fun cdv A outer s H vs Q E hr h => ⟨_, d__law_marks T F__law_next F__law_under F__law_word hr, r__law_marks h⟩), F.binds fun _ _ _ _ _ _ us hl => match us, hl with | [_, _, _], _ => rfl, F.kp, g⟩
theorem ok__law_marked {P : Program} {w : World} {K : PySem.W.Frag} {mg : Str → Option Value} {base : Heap} {fd : FuncData} (T : Txt K mg) (F__law_marks : Fn__law_marks P w K mg base) (F__law_next : Fn__law_next P w K mg base) (F__law_sign : Fn__law_sign P w K mg base) (F__law_word : Fn__law_word P w K mg base) (F : Fun K "_law_marked" "_law_marked" s_law_marked (He.ga K "_law_marked") fd) (g : mg "_law_marked" = some (.ref (He.ga K "_law_marked"))) : Fn__law_marked P w K mg base :=
  ⟨fd, F.ok sc__law_marked (fun vs H Q E h => by repeat (first | (obtain ⟨rfl, h'⟩ := h; exact rfl) | (obtain ⟨_, h⟩ := h))) (fun cdv A outer s H vs Q E hr h => ⟨_, d__law_marked T F__law_marks F__law_next F__law_sign F__law_word hr, r__law_marked h⟩), F.binds fun _ _ _ _ _ _ us hl => match us, hl with | [_, _, _], _ => rfl, F.kp, g⟩
theorem ok__law_layout {P : Program} {w : World} {K : PySem.W.Frag} {mg : Str → Option Value} {base : Heap} {fd : FuncData} (T : Txt K mg) (F__law_frame : Fn__law_frame P w K mg base) (F__law_marked : Fn__law_marked P w K mg base) (F__law_next : Fn__law_next P w K mg base) (F : Fun K "_law_layout" "_law_layout" s_law_layout (He.ga K "_law_layout") fd) (g : mg "_law_layout" = some (.ref (He.ga K "_law_layout"))) : Fn__law_layout P w K mg base :=
  ⟨fd, F.ok sc__law_layout (fun vs H Q E h => by repeat (first | (obtain ⟨rfl, h'⟩ := h; exact rfl) | (obtain ⟨_, h⟩ := h))) (fun cdv A outer s H vs Q E hr h => ⟨_, d__law_layout T F__law_frame F__law_marked F__law_next hr, r__law_layout h⟩), F.binds fun _ _ _ _ _ _ us hl => match us, hl with | [_, _], _ => rfl, F.kp, g⟩
theorem ok__law_roots {P : Program} {w : World} {K : PySem.W.Frag} {mg : Str → Option Value} {base : Heap} {fd : FuncData} (T : Txt K mg) (F : Fun K "_law_roots" "_law_roots" s_law_roots (He.ga K "_law_roots") fd) (g : mg "_law_roots" = some (.ref (He.ga K "_law_roots"))) : Fn__law_roots P w K mg base :=
  ⟨fd, F.ok sc__law_roots (fun vs H Q E h => by repeat (first | (obtain ⟨rfl, h'⟩ := h; exact rfl) | (obtain ⟨_, h⟩ := h))) (fun cdv A outer s H vs Q E hr h => ⟨_, d__law_roots T hr, r__law_roots h⟩), F.binds fun _ _ _ _ _ _ us hl => match us, hl with | [_, _, _], _ => rfl, F.kp, g⟩
theorem ok__law_held {P : Program} {w : World} {K : PySem.W.Frag} {mg : Str → Option Value} {base : Heap} {fd : FuncData} (T : Txt K mg) (F__law_next : Fn__law_next P w K mg base) (F__law_roots : Fn__law_roots P w K mg base) (F : Fun K "_law_held" "_law_held" s_law_held (He.ga K "_law_held") fd) (g : mg "_law_held" = some (.ref (He.ga K "_law_held"))) : Fn__law_held P w K mg base :=
  ⟨fd, F.ok sc__law_held (fun vs H Q E h => by repeat (first | (obtain ⟨rfl, h'⟩ := h; exact rfl) | (obtain ⟨_, h⟩ := h))) (fun cdv A outer s H vs Q E hr h => ⟨_, d__law_held T F__law_next F__law_roots hr, r__law_held h⟩), F.binds fun _ _ _ _ _ _ us hl => match us, hl with | [_, _, _], _ => rfl, F.kp, g⟩
theorem ok__law_number {P : Program} {w : World} {K : PySem.W.Frag} {mg : Str → Option Value} {base : Heap} {fd : FuncData} (T : Txt K mg) (F : Fun K "_law_number" "_law_number" s_law_number (He.ga K "_law_number") fd) (g : mg "_law_number" = some (.ref (He.ga K "_law_number"))) : Fn__law_number P w K mg base :=
  ⟨fd, F.ok sc__law_number (fun vs H Q E h => by repeat (first | (obtain ⟨rfl, h'⟩ := h; exact rfl) | (obtain ⟨_, h⟩ := h))) (fun cdv A outer s H vs Q E hr h => ⟨_, d__law_number T hr, r__law_number h⟩), F.binds fun _ _ _ _ _ _ us hl => match us, hl with | [_, _, _], _ => rfl, F.kp, g⟩
theorem ok__law_is_title {P : Program} {w : World} {K : PySem.W.Frag} {mg : Str → Option Value} {base : Heap} {fd : FuncData} (T : Txt K mg) (F : Fun K "_law_is_title" "_law_is_title" s_law_is_title (He.ga K "_law_is_title") fd) (g : mg "_law_is_title" = some (.ref (He.ga K "_law_is_title"))) : Fn__law_is_title P w K mg base :=
  ⟨fd, F.ok sc__law_is_title (fun vs H Q E h => by repeat (first | (obtain ⟨rfl, h'⟩ := h; exact rfl) | (obtain ⟨_, h⟩ := h))) (fun cdv A outer s H vs Q E hr h => ⟨_, d__law_is_title T hr, r__law_is_title h⟩), F.binds fun _ _ _ _ _ _ us hl => match us, hl with | [_], _ => rfl, F.kp, g⟩
theorem ok__law_kind_row {P : Program} {w : World} {K : PySem.W.Frag} {mg : Str → Option Value} {base : Heap} {fd : FuncData} (T : Txt K mg) (F__law_is_title : Fn__law_is_title P w K mg base) (F__law_number : Fn__law_number P w K mg base) (F__law_word : Fn__law_word P w K mg base) (F : Fun K "_law_kind_row" "_law_kind_row" s_law_kind_row (He.ga K "_law_kind_row") fd) (g : mg "_law_kind_row" = some (.ref (He.ga K "_law_kind_row"))) : Fn__law_kind_row P w K mg base :=
  ⟨fd, F.ok sc__law_kind_row (fun vs H Q E h => by repeat (first | (obtain ⟨rfl, h'⟩ := h; exact rfl) | (obtain ⟨_, h⟩ := h))) (fun cdv A outer s H vs Q E hr h => ⟨_, d__law_kind_row T F__law_is_title F__law_number F__law_word hr, r__law_kind_row h⟩), F.binds fun _ _ _ _ _ _ us hl => match us, hl with | [_], _ => rfl, F.kp, g⟩
theorem ok__law_part_row {P : Program} {w : World} {K : PySem.W.Frag} {mg : Str → Option Value} {base : Heap} {fd : FuncData} (T : Txt K mg) (F__law_number : Fn__law_number P w K mg base) (F__law_roots : Fn__law_roots P w K mg base) (F : Fun K "_law_part_row" "_law_part_row" s_law_part_row (He.ga K "_law_part_row") fd) (g : mg "_law_part_row" = some (.ref (He.ga K "_law_part_row"))) : Fn__law_part_row P w K mg base :=
  ⟨fd, F.ok sc__law_part_row (fun vs H Q E h => by repeat (first | (obtain ⟨rfl, h'⟩ := h; exact rfl) | (obtain ⟨_, h⟩ := h))) (fun cdv A outer s H vs Q E hr h => ⟨_, d__law_part_row T F__law_number F__law_roots hr, r__law_part_row h⟩), F.binds fun _ _ _ _ _ _ us hl => match us, hl with | [_, _, _], _ => rfl, F.kp, g⟩
theorem ok__law_layout_place {P : Program} {w : World} {K : PySem.W.Frag} {mg : Str → Option Value} {base : Heap} {fd : FuncData} (T : Txt K mg) (F : Fun K "_law_layout_place" "_law_layout_place" s_law_layout_place (He.ga K "_law_layout_place") fd) (g : mg "_law_layout_place" = some (.ref (He.ga K "_law_layout_place"))) : Fn__law_layout_place P w K mg base :=
  ⟨fd, F.ok sc__law_layout_place (fun vs H Q E h => by repeat (first | (obtain ⟨rfl, h'⟩ := h; exact rfl) | (obtain ⟨_, h⟩ := h))) (fun cdv A outer s H vs Q E hr h => ⟨_, d__law_layout_place T hr, r__law_layout_place h⟩), F.binds fun _ _ _ _ _ _ us hl => match us, hl with | [_], _ => rfl, F.kp, g⟩
theorem ok__law_file_place {P : Program} {w : World} {K : PySem.W.Frag} {mg : Str → Option Value} {base : Heap} {fd : FuncData} (T : Txt K mg) (F : Fun K "_law_file_place" "_law_file_place" s_law_file_place (He.ga K "_law_file_place") fd) (g : mg "_law_file_place" = some (.ref (He.ga K "_law_file_place"))) : Fn__law_file_place P w K mg base :=
  ⟨fd, F.ok sc__law_file_place (fun vs H Q E h => by repeat (first | (obtain ⟨rfl, h'⟩ := h; exact rfl) | (obtain ⟨_, h⟩ := h))) (fun cdv A outer s H vs Q E hr h => ⟨_, d__law_file_place T hr, r__law_file_place h⟩), F.binds fun _ _ _ _ _ _ us hl => match us, hl with | [_, _], _ => rfl, F.kp, g⟩
theorem ok__law_due {P : Program} {w : World} {K : PySem.W.Frag} {mg : Str → Option Value} {base : Heap} {fd : FuncData} (T : Txt K mg) (F__law_file_place : Fn__law_file_place P w K mg base) (F__law_kind_row : Fn__law_kind_row P w K mg base) (F__law_layout_place : Fn__law_layout_place P w K mg base) (F__law_part_row : Fn__law_part_row P w K mg base) (F__law_under : Fn__law_under P w K mg base) (F : Fun K "_law_due" "_law_due" s_law_due (He.ga K "_law_due") fd) (g : mg "_law_due" = some (.ref (He.ga K "_law_due"))) : Fn__law_due P w K mg base :=
  ⟨fd, F.ok sc__law_due (fun vs H Q E h => by repeat (first | (obtain ⟨rfl, h'⟩ := h; exact rfl) | (obtain ⟨_, h⟩ := h))) (fun cdv A outer s H vs Q E hr h => ⟨_, d__law_due T F__law_file_place F__law_kind_row F__law_layout_place F__law_part_row F__law_under hr, r__law_due h⟩), F.binds fun _ _ _ _ _ _ us hl => match us, hl with | [_, _, _], _ => rfl, F.kp, g⟩
theorem ok__law_texts {P : Program} {w : World} {K : PySem.W.Frag} {mg : Str → Option Value} {base : Heap} {fd : FuncData} (T : Txt K mg) (F : Fun K "_law_texts" "_law_texts" s_law_texts (He.ga K "_law_texts") fd) (g : mg "_law_texts" = some (.ref (He.ga K "_law_texts"))) : Fn__law_texts P w K mg base :=
  ⟨fd, F.ok sc__law_texts (fun vs H Q E h => by repeat (first | (obtain ⟨rfl, h'⟩ := h; exact rfl) | (obtain ⟨_, h⟩ := h))) (fun cdv A outer s H vs Q E hr h => ⟨_, d__law_texts T hr, r__law_texts h⟩), F.binds fun _ _ _ _ _ _ us hl => match us, hl with | [_, _], _ => rfl, F.kp, g⟩
theorem ok__law_any {P : Program} {w : World} {K : PySem.W.Frag} {mg : Str → Option Value} {base : Heap} {fd : FuncData} (T : Txt K mg) (F__law_next : Fn__law_next P w K mg base) (F : Fun K "_law_any" "_law_any" s_law_any (He.ga K "_law_any") fd) (g : mg "_law_any" = some (.ref (He.ga K "_law_any"))) : Fn__law_any P w K mg base :=
  ⟨fd, F.ok sc__law_any (fun vs H Q E h => by repeat (first | (obtain ⟨rfl, h'⟩ := h; exact rfl) | (obtain ⟨_, h⟩ := h))) (fun cdv A outer s H vs Q E hr h => ⟨_, d__law_any T F__law_next hr, r__law_any h⟩), F.binds fun _ _ _ _ _ _ us hl => match us, hl with | [_, _], _ => rfl, F.kp, g⟩
theorem ok__law_bent {P : Program} {w : World} {K : PySem.W.Frag} {mg : Str → Option Value} {base : Heap} {fd : FuncData} (T : Txt K mg) (F__law_any : Fn__law_any P w K mg base) (F__law_next : Fn__law_next P w K mg base) (F : Fun K "_law_bent" "_law_bent" s_law_bent (He.ga K "_law_bent") fd) (g : mg "_law_bent" = some (.ref (He.ga K "_law_bent"))) : Fn__law_bent P w K mg base :=
  ⟨fd, F.ok sc__law_bent (fun vs H Q E h => by repeat (first | (obtain ⟨rfl, h'⟩ := h; exact rfl) | (obtain ⟨_, h⟩ := h))) (fun cdv A outer s H vs Q E hr h => ⟨_, d__law_bent T F__law_any F__law_next hr, r__law_bent h⟩), F.binds fun _ _ _ _ _ _ us hl => match us, hl with | [_, _, _], _ => rfl, F.kp, g⟩
end Cp
set_option maxHeartbeats 8000000
/-! The last defs. -/
namespace Cp
open PySem L2 LamX
local macro_rules | `(tactic| walk_at "rd") => `(tactic| repeat (first
  | with_reducible apply rd_seq | with_reducible apply rd_asg | with_reducible apply rd_gname | with_reducible apply rd_if | with_reducible apply rd_ret | with_reducible apply rd_drop | with_reducible apply rd_next
  | with_reducible apply rd_op | with_reducible apply rd_cb | with_reducible apply rd_cons | with_reducible apply rd_nil | with_reducible apply rd_c | with_reducible apply rd_tb | with_reducible apply rd_test | with_reducible apply rd_not
  | with_reducible apply rd_or | with_reducible apply rd_and | with_reducible apply rd_call | with_reducible apply rd_chain | with_reducible apply rd_andV | with_reducible apply rd_notV | with_reducible apply rd_ifx
  | with_reducible apply rd_gcons | with_reducible apply rd_gnil
  | ((with_reducible apply rd_var); exact rfl) | (with_reducible apply rd_bk)))
theorem pe_localfn {X : Cx} {CX : CXT} {k i : Nat} {f : Addr} {fd : FuncData} {ps : List Str} {sp : Sp} {E : XK} {a : Str} {p1 p2 : Pos} {e : Expr} {ta : TA} (F : FnOk X.prog X.w X.K X.mg X.base CX k f fd ps sp) (hr : Room k X.A) (hN : X.N[i]? = some a) (hv : Vis X.env.scope a) (hk : PySem.W.keepIn X.K (.ref f) = true) (hb : Binds X.K fd ps []) (hx : Passes CX X E)
    (ha : PA X [e] ta) (he : starEach [e] X.env = (false, eval e X.env) :: starEach [] X.env)
    (hd : (a == ("__debug__" : Str)) = false := by decide) (hcd : (a == ("__classdict__" : Str)) = false := by decide) : PE X (.Call (.Name a p1) [e] [] p2) (tToldL i f (fun vs H Q => sp vs H Q E) ta) := by
  refine ⟨fun pins s σ H Q I h => ?_⟩
  obtain ⟨hs, ht⟩ := h
  refine wpAny_Call_Name_kw (thn ((pe_var (pos := p1) (i := i) hN hv hd hcd).run pins s σ H (fun v H1 => v = .ref f ∧ H1 = H) I ⟨.ref f, hs, rfl, rfl⟩) fun u s1 ⟨v, H1, I1, r1, q1⟩ => ?_)
  obtain ⟨ev, eH⟩ := q1
  subst ev
  rw [eH] at I1
  obtain rfl : u = Value.ref f := r1
  refine PySem.W.callWith_K (h₀ := X.base) I1.ok.mod.kin hk (thn (ha.run p2 pins s1 σ H _ I1 ht) fun us s2 ⟨vs, H2, I2, r, q⟩ => ⟨I2.kIn, ?_⟩) he (by rfl)
  have hl : us.length = ps.length := by rw [← r.length]; exact F.len _ _ _ _ q
  have hl2 : (us ++ ([] : List Value)).length = ps.length := by rw [List.append_nil]; exact hl
  refine wpAny_call (codeAny_mono (F.run X.A X.stack s2 H2 ⟨us, []⟩ (us ++ []) vs Q E hr I2.env0 (hb s2 us I2.kIn hl2) (by rw [List.append_nil]; exact r) q) fun r s' hq => ?_)
  cases r with
  | error e => exact hx pins σ H2 s2 e s' I2 hq
  | ok fl =>
    cases fl with
    | ret u => exact I2.after hq
    | next => exact False.elim hq
    | brk => exact False.elim hq
    | cont => exact False.elim hq
theorem ok_Chart {P : Program} {w : World} {K : PySem.W.Frag} {mg : Str → Option Value} {base : Heap} {fd : FuncData} (T : Txt K mg) (F_need_layout : Fn_need_layout P w K mg base) (F : Fun K "__init__" "Chart.__init__" sChart_init (He.ma K (He.ga K "Chart") "__init__") fd) : Fn_Chart P w K mg base :=
  ⟨fd, F.okX sc_Chart_init (fun vs H Q E h => by repeat (first | (obtain ⟨rfl, h'⟩ := h; exact rfl) | (obtain ⟨_, h⟩ := h))) (fun cdv A outer s H vs Q E hr h => ⟨_, d_Chart_init T F_need_layout hr, r_Chart_init T h⟩), F.binds fun _ _ _ _ _ _ us hl => match us, hl with | [_, _], _ => rfl⟩
theorem ok_told_rows {P : Program} {w : World} {K : PySem.W.Frag} {mg : Str → Option Value} {base : Heap} {fd : FuncData} (T : Txt K mg) (F_BadText : Fn_BadText P w K mg base) (F_told_kind : Fn_told_kind P w K mg base)
    (F : Fun K "told_rows" "told_rows" stold_rows (He.ga K "told_rows") fd) (g : mg "told_rows" = some (.ref (He.ga K "told_rows"))) : Fn_told_rows P w K mg base := by
  obtain ⟨fdk, Gk, bk, kk, gk⟩ := id F_told_kind
  refine ⟨fd, F.okX sc_told_rows (fun vs H Q E h => by repeat (first | (obtain ⟨rfl, h'⟩ := h; exact rfl) | (obtain ⟨_, h⟩ := h))) (fun cdv A outer s H vs Q E hr h => ?_), F.binds fun _ _ _ _ _ _ us hl => match us, hl with | [_, _], _ => rfl, F.kp, g⟩
  obtain ⟨t, rfl, ht, q1, q0⟩ := h
  refine ⟨t_told_rows P w K E (He.ga K "told_kind") (fun vs H Q => sp_told_kind K vs H Q E0), d_told_rows T F_BadText (fun ha he => pe_localfn Gk (hr.mono (by decide)) rfl (.inl rfl) kk bk pass0 ha he) hr, ?_⟩
  refine r_told_rows T (F := kindRow) (Rep := KdAt) ht (fun _ _ _ _ k h => k.kd h) (fun _ _ _ h => by obtain ⟨_, _, rfl, _⟩ := h; exact fun z => by cases z) (fun _ _ _ _ _ _ hl h => h.lst hl) (fun H1 p ws Q' k1 hp hs hwn n0 n1 => ⟨.ref p, ws, rfl, ⟨p, rfl, hp, hs, hwn⟩, n0, n1⟩) q1 q0
end Cp
set_option maxHeartbeats 8000000
/-! Defs with lambdas. -/
namespace Cp
open PySem L2 LamX
local macro_rules | `(tactic| walk_at "rd") => `(tactic| repeat (first
  | with_reducible apply rd_seq | with_reducible apply rd_asg | with_reducible apply rd_gname | with_reducible apply rd_if | with_reducible apply rd_ret | with_reducible apply rd_drop | with_reducible apply rd_next
  | with_reducible apply rd_op | with_reducible apply rd_cb | with_reducible apply rd_cons | with_reducible apply rd_nil | with_reducible apply rd_c | with_reducible apply rd_tb | with_reducible apply rd_test | with_reducible apply rd_not
  | with_reducible apply rd_or | with_reducible apply rd_and | with_reducible apply rd_call | with_reducible apply rd_chain | with_reducible apply rd_andV | with_reducible apply rd_notV | with_reducible apply rd_ifx
  | with_reducible apply rd_gcons | with_reducible apply rd_gnil
  | ((with_reducible apply rd_var); exact rfl) | (with_reducible apply rd_bk)))
theorem ok_read_file {P : Program} {w : World} {K : PySem.W.Frag} {mg : Str → Option Value} {base : Heap} {fdT : FuncData} {Tb : List (Addr × Str)} {c Pt : Addr} {oc : Value} {od an : Option Addr} {kV doc pm ct : Value} {osl : Array (Option Value)} (T : Txt K mg)
    (F_Chart : Fn_Chart P w K mg base) (F_told_part : Fn_told_part P w K mg base) (F_need_file : Fn_need_file P w K mg base) (F_BadText : Fn_BadText P w K mg base)
    (FT : Fun K "told_rows" "told_rows" stold_rows (He.ga K "told_rows") fdT) (bT : Binds K fdT ["text", "told"] []) (TB : TabB base mg c Pt) (hm : (Pt, q_read_file) ∈ Tb) (hu1 : ∀ p ∈ Tb, p.1 = Pt → p.2 = q_read_file)
    (lk : K.lookup (He.ga K "read_file") = some ⟨oc, od, .func (PySem.W.fnOf "read_file" "read_file" (defArgs sread_file) (defBody sread_file) (defScope sread_file) .none kV doc pm an (.ref c) ct), osl⟩) (hcd : PySem.W.codeIn K (.ref c) "read_file" = true)
    (kp : PySem.W.keepIn K (.ref (He.ga K "read_file")) = true) (g : mg "read_file" = some (.ref (He.ga K "read_file"))) : Fn_read_file Tb P w K mg base :=
  ⟨_, fn_of lk hcd sc_read_file (fun vs H Q E h => by repeat (first | (obtain ⟨rfl, h'⟩ := h; exact rfl) | (obtain ⟨_, h⟩ := h))) fun A outer s H vs Q E hr h => ⟨_, d_read_file T F_Chart F_told_part F_need_file F_BadText FT bT TB rfl hm hu1 hr, r_read_file T h⟩,
    (fun_mk lk hcd kp).binds fun _ _ _ _ _ _ us hl => match us, hl with | [_, _], _ => rfl, kp, g⟩
theorem ok__law_right {P : Program} {w : World} {K : PySem.W.Frag} {mg : Str → Option Value} {base : Heap} {fdS : FuncData} {Tb : List (Addr × Str)} {c Pt : Addr} {oc : Value} {od an : Option Addr} {kV doc pm ct : Value} {osl : Array (Option Value)} (T : Txt K mg)
    (F__law_due : Fn__law_due P w K mg base) (F_read_layout : Fn_read_layout P w K mg base) (F_read_file : Fn_read_file Tb P w K mg base)
    (FS : Fun K "_law_said" "_law_said" s_law_said (He.ga K "_law_said") fdS) (bS : Binds K fdS ["asked"] []) (TB : TabB base mg c Pt) (hm : (Pt, q__law_right) ∈ Tb) (hu1 : ∀ p ∈ Tb, p.1 = Pt → p.2 = q__law_right)
    (lk : K.lookup (He.ga K "_law_right") = some ⟨oc, od, .func (PySem.W.fnOf "_law_right" "_law_right" (defArgs s_law_right) (defBody s_law_right) (defScope s_law_right) .none kV doc pm an (.ref c) ct), osl⟩) (hcd : PySem.W.codeIn K (.ref c) "_law_right" = true) :
    FnG P w K mg base C8.CX0 14 (He.ga K "_law_right") (PySem.W.fnOf "_law_right" "_law_right" (defArgs s_law_right) (defBody s_law_right) (defScope s_law_right) .none kV doc pm an (.ref c) ct) ["plan", "text", "is_plan"] (sp__law_right Tb K) :=
  fnG_of lk hcd sc__law_right (fun vs H Q E h => by repeat (first | (obtain ⟨rfl, h'⟩ := h; exact rfl) | (obtain ⟨_, h⟩ := h))) fun A outer s H vs Q E hr hg h => ⟨_, (d__law_right T F__law_due F_read_layout F_read_file FS bS TB rfl hm hu1 hg hr).nox, r__law_right T h⟩
end Cp
set_option maxHeartbeats 8000000
/-! law. -/
namespace Cp
open PySem L2 LamX
local macro_rules | `(tactic| walk_at "rd") => `(tactic| repeat (first
  | with_reducible apply rd_seq | with_reducible apply rd_asg | with_reducible apply rd_gname | with_reducible apply rd_if | with_reducible apply rd_ret | with_reducible apply rd_drop | with_reducible apply rd_next
  | with_reducible apply rd_op | with_reducible apply rd_cb | with_reducible apply rd_cons | with_reducible apply rd_nil | with_reducible apply rd_c | with_reducible apply rd_tb | with_reducible apply rd_test | with_reducible apply rd_not
  | with_reducible apply rd_or | with_reducible apply rd_and | with_reducible apply rd_call | with_reducible apply rd_chain | with_reducible apply rd_andV | with_reducible apply rd_notV | with_reducible apply rd_ifx
  | with_reducible apply rd_gcons | with_reducible apply rd_gnil
  | ((with_reducible apply rd_var); exact rfl) | (with_reducible apply rd_bk)))
theorem ok_law {P : Program} {w : World} {K : PySem.W.Frag} {mg : Str → Option Value} {base : Heap} {Tb : List (Addr × Str)} {fdR fd : FuncData} (T : Txt K mg)
    (F__law_begun : Fn__law_begun P w K mg base) (F__law_next : Fn__law_next P w K mg base) (F__law_layout : Fn__law_layout P w K mg base) (F__law_texts : Fn__law_texts P w K mg base) (F__law_held : Fn__law_held P w K mg base)
    (F__law_under : Fn__law_under P w K mg base) (F__law_bent : Fn__law_bent P w K mg base)
    (FR : FnG P w K mg base C8.CX0 14 (He.ga K "_law_right") fdR ["plan", "text", "is_plan"] (sp__law_right Tb K)) (gR : mg "_law_right" = some (.ref (He.ga K "_law_right"))) (kR : PySem.W.keepIn K (.ref (He.ga K "_law_right")) = true) (bR : Binds K fdR ["plan", "text", "is_plan"] [])
    (F : Fun K "law" "law" slaw (He.ga K "law") fd) : FnG P w K mg base C8.CX0 15 (He.ga K "law") fd ["script"] (sp_law Tb K) := by
  obtain ⟨oc, od, kV, doc, pm, an, cdv, ct, osl, rfl, lk, hcd⟩ := F.ex
  exact fnG_of lk hcd sc_law (fun vs H Q E h => by repeat (first | (obtain ⟨rfl, h'⟩ := h; exact rfl) | (obtain ⟨_, h⟩ := h))) fun A outer s H vs Q E hr hg h => ⟨_, (d_law T F__law_begun F__law_next F__law_layout F__law_texts F__law_held F__law_under F__law_bent FR gR kR bR hg hr).nox, r_law h⟩
end Cp
set_option maxHeartbeats 8000000
/-! Facts of the head. -/
namespace Cp
open PySem L2 LamX
local macro_rules | `(tactic| walk_at "rd") => `(tactic| repeat (first
  | with_reducible apply rd_seq | with_reducible apply rd_asg | with_reducible apply rd_gname | with_reducible apply rd_if | with_reducible apply rd_ret | with_reducible apply rd_drop | with_reducible apply rd_next
  | with_reducible apply rd_op | with_reducible apply rd_cb | with_reducible apply rd_cons | with_reducible apply rd_nil | with_reducible apply rd_c | with_reducible apply rd_tb | with_reducible apply rd_test | with_reducible apply rd_not
  | with_reducible apply rd_or | with_reducible apply rd_and | with_reducible apply rd_call | with_reducible apply rd_chain | with_reducible apply rd_andV | with_reducible apply rd_notV | with_reducible apply rd_ifx
  | with_reducible apply rd_gcons | with_reducible apply rd_gnil
  | ((with_reducible apply rd_var); exact rfl) | (with_reducible apply rd_bk)))
open PyProof.Rows (envOfC)
abbrev l_ : PySem.W.OpenLaw := PySem.Challenge.rw_carriedparts_k38_whole_any_text
theorem and2 {a b : Bool} (h : (a && b) = true) : a = true ∧ b = true := Bool.and_eq_true_iff.mp h
theorem oexB_ok {K : PySem.W.Frag} {C : Addr} (h : oexB K C = true) : ∃ nm q N bs bm sn sub ab col dd k0 k1 k2 k3 k5, K.lookup C = some (excClassObj nm q C N bs bm true sn sub ab col dd k0 k1 k2 k3 k5 "ValueError.__new__") ∧ PySem.HandSPX.refsVE bm = true := by
  unfold oexB at h
  split at h
  · rename_i dd cd sl lk
    split at h
    · rename_i C' bm a0 a1 a2 a3 n a5 hm hs
      simp only [Bool.and_eq_true, beq_iff_eq, Bool.not_eq_true'] at h
      obtain ⟨h1, h2, h3, h4, h5⟩ := h
      subst h1 h2
      obtain ⟨nm, bs, mro, ns, qn, hd, sn, sb, ab, col, del⟩ := cd
      dsimp only at hm h3 h4
      subst hm h3 h4
      obtain ⟨sl⟩ := sl
      dsimp only at hs
      subst hs
      exact ⟨nm, qn, ns, bs, bm, sn, sb, ab, col, dd, a0, a1, a2, a3, a5, lk, h5⟩
    · cases h
  · cases h
theorem badC_of {K : PySem.W.Frag} {mg : Str → Option Value} {x : Str} (h : excOne K x = true) (g : mg x = some (.ref (He.ga K x))) : BadC K mg x := by
  obtain ⟨h1, h⟩ := and2 h
  obtain ⟨h2, h⟩ := and2 h
  obtain ⟨h3, h⟩ := and2 h
  obtain ⟨h4, h⟩ := and2 h
  obtain ⟨h5, h⟩ := and2 h
  obtain ⟨h6, h⟩ := and2 h
  obtain ⟨h7, h⟩ := and2 h
  obtain ⟨h8, h⟩ := and2 h
  obtain ⟨h9, h⟩ := and2 h
  exact ⟨g, ⟨oexB_ok h1, He.eqO_ok h2, of_decide_eq_true h3, of_decide_eq_true h4, h5⟩, He.eqO_ok h8, of_decide_eq_true h9, He.eqO_ok h6, xfB_ok h7⟩
theorem exm_of {K : PySem.W.Frag} {x : Str} (h : excOne K x = true) : PySem.W.exmOne K (.ref (He.ga K x)) (.ref (He.ga K "PartsError")) = some true := by
  obtain ⟨h1, h⟩ := and2 h
  obtain ⟨h2, h⟩ := and2 h
  obtain ⟨h3, h⟩ := and2 h
  obtain ⟨h4, h⟩ := and2 h
  obtain ⟨h5, h⟩ := and2 h
  obtain ⟨h6, h⟩ := and2 h
  obtain ⟨h7, h⟩ := and2 h
  obtain ⟨h8, h⟩ := and2 h
  obtain ⟨h9, h⟩ := and2 h
  obtain ⟨h10, h⟩ := and2 h
  exact of_decide_eq_true h10
theorem kit_of {K : PySem.W.Frag} {x y : Str} (h : excOne K x = true) (hy : y ∈ othC) (hn : decide (y = "PartsError") = false) : PySem.W.kitOne K (.ref (He.ga K x)) (.ref (He.ga K y)) = some (decide (x = y)) := by
  obtain ⟨h1, h⟩ := and2 h
  obtain ⟨h2, h⟩ := and2 h
  obtain ⟨h3, h⟩ := and2 h
  obtain ⟨h4, h⟩ := and2 h
  obtain ⟨h5, h⟩ := and2 h
  obtain ⟨h6, h⟩ := and2 h
  obtain ⟨h7, h⟩ := and2 h
  obtain ⟨h8, h⟩ := and2 h
  obtain ⟨h9, h⟩ := and2 h
  obtain ⟨h10, h⟩ := and2 h
  have z := List.all_eq_true.mp h y hy
  unfold isOne at z
  split at z
  · rename_i b e
    rw [e, beq_iff_eq.mp z, hn, Bool.or_false]
  · cases z
theorem isC_of {K : PySem.W.Frag} {C : Addr} (h : isCB K C = true) : IsC K C := by
  obtain ⟨h1, h⟩ := and2 h
  obtain ⟨h2, h⟩ := and2 h
  obtain ⟨h3, h⟩ := and2 h
  obtain ⟨h4, h⟩ := and2 h
  obtain ⟨h5, h⟩ := and2 h
  obtain ⟨h6, h⟩ := and2 h
  obtain ⟨h7, h8⟩ := and2 h
  exact ⟨h1, He.eqO_ok h2, He.eqO_ok h3, of_decide_eq_true h4, He.eqO_ok h5, He.eqO_ok h6, of_decide_eq_true h7, of_decide_eq_true h8⟩
theorem parts_of {K : PySem.W.Frag} {mg : Str → Option Value} (h : partsB K = true) (g : mg "PartsError" = some (.ref (He.ga K "PartsError"))) : PartsF K mg := by
  obtain ⟨h1, h⟩ := and2 h
  obtain ⟨h2, h3⟩ := and2 h
  refine ⟨g, h1, He.eqO_ok h2, ?_⟩
  split at h3
  · rename_i n e
    rw [e, beq_iff_eq.mp h3]
  · cases h3
theorem fas_glo {x : Str} (h : x ∈ gl1 ++ gl2) : He.Fa.glo x ∈ fas := by
  unfold fas
  exact List.mem_append_left _ (List.mem_append_left _ (List.mem_append_left _ (List.mem_append_left _ (List.mem_map.mpr ⟨x, h, rfl⟩))))
theorem fas_free {x : Str} (h : x ∈ frs_) : He.Fa.free x ∈ fas := by
  unfold fas
  exact List.mem_append_left _ (List.mem_append_left _ (List.mem_append_left _ (List.mem_append_right _ (List.mem_map.mpr ⟨x, h, rfl⟩))))
theorem fas_int {x : Str} {i : Int} (h : (x, i) ∈ ints_) : He.Fa.int x i ∈ fas := by
  unfold fas
  exact List.mem_append_left _ (List.mem_append_left _ (List.mem_append_right _ (List.mem_map.mpr ⟨(x, i), h, rfl⟩)))
theorem fas_str {x z : Str} (h : (x, z) ∈ strs_) : He.Fa.str x z ∈ fas := by
  unfold fas
  exact List.mem_append_left _ (List.mem_append_right _ (List.mem_map.mpr ⟨(x, z), h, rfl⟩))
theorem fas_cls : He.Fa.cls "Chart" ∈ fas := List.mem_append_right _ (List.mem_cons_self ..)
theorem fas_mkr : He.Fa.mkr "Chart" ∈ fas := List.mem_append_right _ (List.mem_cons_of_mem _ (List.mem_cons_self ..))
theorem fas_noat {f : Str} (h : f ∈ (["plan", "kinds", "under", "roots", "final"] : List Str)) : He.Fa.noat "Chart" f ∈ fas := by
  refine List.mem_append_right _ (List.mem_cons_of_mem _ (List.mem_cons_of_mem _ ?_))
  have e : (["plan", "kinds", "under", "roots", "final"] : List Str).map (He.Fa.noat "Chart") = [.noat "Chart" "plan", .noat "Chart" "kinds", .noat "Chart" "under", .noat "Chart" "roots", .noat "Chart" "final"] := rfl
  rw [← e]
  exact List.mem_map.mpr ⟨f, h, rfl⟩
theorem funOf {K : PySem.W.Frag} {x q : Str} {st : Stmt} {f : Addr} {fd : FuncData} (F : L2.FunD K x q (defArgs st) (defBody st) (defScope st) [] [] f fd) : Fun K x q st f fd := by
  obtain ⟨oc, od, dV, kV, doc, pm, an, cdv, ct, osl, e, lk, hcd, hD, hK⟩ := F.ex
  rcases hD with ⟨_, rfl⟩ | ⟨z, _⟩
  · exact ⟨⟨oc, od, kV, doc, pm, an, cdv, ct, osl, e, lk, hcd⟩, F.kp⟩
  · exact absurd rfl z
theorem txt_of {w : World} {h : Heap} {K : PySem.W.Frag} {mg : Str → Option Value} (KX : K.In h) (G : h.Ns mainGlobals mg) (S : He.SaysX fas fns [] tfs exB w h K) : Txt K mg := by
  have gg : ∀ {x : Str}, x ∈ gl1 ++ gl2 → mg x = some (.ref (He.ga K x)) := fun hx => He.glo_ok KX G (S.t.d.facts (fas_glo hx))
  have gf : ∀ {x : Str}, x ∈ frs_ → mg x = none := fun hx => He.free_ok KX G (S.t.d.facts (fas_free hx))
  have gi : ∀ {x : Str} {i : Int}, (x, i) ∈ ints_ → ∃ t, mg x = some (.int i t) := fun hx => He.int_ok KX G (S.t.d.facts (fas_int hx))
  have gs : ∀ {x z : Str}, (x, z) ∈ strs_ → ∃ t, mg x = some (.str z t) := fun hx => He.str_ok KX G (S.t.d.facts (fas_str hx))
  obtain ⟨e1, e⟩ := and2 S.more
  obtain ⟨e2, e⟩ := and2 e
  obtain ⟨e3, e4⟩ := and2 e
  have ex : ∀ {x : Str}, x ∈ badC → excOne K x = true := fun hx => List.all_eq_true.mp e1 _ hx
  have ic : ∀ {x : Str}, x ∈ badC → isCB K (He.ga K x) = true := fun hx => List.all_eq_true.mp e3 _ hx
  exact {
    len_ := gf (by decide +kernel)
    isinstance_ := gf (by decide +kernel)
    all_ := gf (by decide +kernel)
    list_ := gf (by decide +kernel)
    sorted_ := gf (by decide +kernel)
    set_ := gf (by decide +kernel)
    enumerate_ := gf (by decide +kernel)
    dict_ := gf (by decide +kernel)
    tuple_ := gf (by decide +kernel)
    int_ := gf (by decide +kernel)
    str_ := gf (by decide +kernel)
    range_ := gf (by decide +kernel)
    min_ := gf (by decide +kernel)
    max_ := gf (by decide +kernel)
    repr_ := gf (by decide +kernel)
    bool_ := gf (by decide +kernel)
    iMOST_KINDS := gi (by decide +kernel)
    iMOST_BASES := gi (by decide +kernel)
    iMOST_EDITION := gi (by decide +kernel)
    iLONGEST_NAME := gi (by decide +kernel)
    iMOST_CONTENT := gi (by decide +kernel)
    iMOST_FIGURES := gi (by decide +kernel)
    sLETTERS := gs (by decide +kernel)
    sFIGURES := gs (by decide +kernel)
    sEMPTY_MARK := gs (by decide +kernel)
    gtold_kind := gg (by decide +kernel)
    gPartsError := gg (by decide +kernel)
    gBadLayout := gg (by decide +kernel)
    gBadFile := gg (by decide +kernel)
    gBadRow := gg (by decide +kernel)
    gBadLog := gg (by decide +kernel)
    gBadText := gg (by decide +kernel)
    gBadDeed := gg (by decide +kernel)
    gBadQuestion := gg (by decide +kernel)
    g_law_said := gg (by decide +kernel)
    gtold_rows := gg (by decide +kernel)
    gChart := gg (by decide +kernel)
    xBadLayout := badC_of (ex (by decide +kernel)) (gg (by decide +kernel))
    cBadLayout := isC_of (ic (by decide +kernel))
    xBadFile := badC_of (ex (by decide +kernel)) (gg (by decide +kernel))
    cBadFile := isC_of (ic (by decide +kernel))
    xBadText := badC_of (ex (by decide +kernel)) (gg (by decide +kernel))
    cBadText := isC_of (ic (by decide +kernel))
    parts := parts_of e2 (gg (by decide +kernel))
    kit := fun x hx y hy => kit_of (ex hx) (by revert y; decide +kernel) (by revert y; decide +kernel)
    exm := fun x hx => exm_of (ex hx)
    cls := He.cls_ok (S.t.d.facts fas_cls)
    mkr := He.mkr_ok (S.t.d.facts fas_mkr)
    noat := fun f hf => He.noat_ok (S.t.d.facts (fas_noat hf)) }
end Cp
set_option maxHeartbeats 8000000
/-! The law at the head. -/
namespace Cp
open PySem L2 LamX
local macro_rules | `(tactic| walk_at "rd") => `(tactic| repeat (first
  | with_reducible apply rd_seq | with_reducible apply rd_asg | with_reducible apply rd_gname | with_reducible apply rd_if | with_reducible apply rd_ret | with_reducible apply rd_drop | with_reducible apply rd_next
  | with_reducible apply rd_op | with_reducible apply rd_cb | with_reducible apply rd_cons | with_reducible apply rd_nil | with_reducible apply rd_c | with_reducible apply rd_tb | with_reducible apply rd_test | with_reducible apply rd_not
  | with_reducible apply rd_or | with_reducible apply rd_and | with_reducible apply rd_call | with_reducible apply rd_chain | with_reducible apply rd_andV | with_reducible apply rd_notV | with_reducible apply rd_ifx
  | with_reducible apply rd_gcons | with_reducible apply rd_gnil
  | ((with_reducible apply rd_var); exact rfl) | (with_reducible apply rd_bk)))
theorem law_at {w : World} {h : Heap} {K : PySem.W.Frag} {mg : Str → Option Value} {fa : Addr} (KX : K.In h) (G : h.Ns mainGlobals mg) (hfa : mg "law" = some (.ref fa)) (S : He.SaysX fas fns [] tfs exB w h K) : LawAtG l_ w K C8.CX0 15 63 "script" mg fa h := by
  have T := txt_of KX G S
  have gg : ∀ {x : Str}, x ∈ gl1 ++ gl2 → mg x = some (.ref (He.ga K x)) := fun hx => He.glo_ok KX G (S.t.d.facts (fas_glo hx))
  obtain ⟨e1, e⟩ := and2 S.more
  obtain ⟨e2, e⟩ := and2 e
  obtain ⟨e3, e4⟩ := and2 e
  have e := hfa.symm.trans (gg (x := "law") (by decide +kernel))
  cases e
  have hne : (He.cT K ("read_file", none)).2 ≠ (He.cT K ("_law_right", none)).2 := fun z => by
    rw [z] at e4
    simp at e4
  obtain ⟨fd17, D17⟩ := S.t.d.def_ 17 (d := dG "told_rows" stold_rows) rfl
  obtain ⟨fd19, D19⟩ := S.t.d.def_ 19 (d := dG "read_file" sread_file) rfl
  obtain ⟨fd39, D39⟩ := S.t.d.def_ 39 (d := dG "_law_said" s_law_said) rfl
  obtain ⟨fd43, D43⟩ := S.t.d.def_ 43 (d := dG "_law_right" s_law_right) rfl
  obtain ⟨fd44, D44⟩ := S.t.d.def_ 44 (d := dG "law" slaw) rfl
  have G17 : Fun K "told_rows" "told_rows" stold_rows (He.ga K "told_rows") fd17 := funOf D17
  have G19 : Fun K "read_file" "read_file" sread_file (He.ga K "read_file") fd19 := funOf D19
  have G39 : Fun K "_law_said" "_law_said" s_law_said (He.ga K "_law_said") fd39 := funOf D39
  have G43 : Fun K "_law_right" "_law_right" s_law_right (He.ga K "_law_right") fd43 := funOf D43
  have bT : Binds K fd17 ["text", "told"] [] := G17.binds fun _ _ _ _ _ _ us hl => match us, hl with | [_, _], _ => rfl
  have bS : Binds K fd39 ["asked"] [] := G39.binds fun _ _ _ _ _ _ us hl => match us, hl with | [_], _ => rfl
  have bR : Binds K fd43 ["plan", "text", "is_plan"] [] := G43.binds fun _ _ _ _ _ _ us hl => match us, hl with | [_, _, _], _ => rfl
  have kp19 := G19.kp
  have kp43 := G43.kp
  obtain ⟨oc1, od1, kV1, doc1, pm1, an1, cdv1, ct1, osl1, rfl, lk1, hcd1⟩ := G19.ex
  obtain ⟨c1, rfl⟩ := He.codeIn_ref hcd1
  obtain ⟨oc2, od2, kV2, doc2, pm2, an2, cdv2, ct2, osl2, rfl, lk2, hcd2⟩ := G43.ex
  obtain ⟨c2, rfl⟩ := He.codeIn_ref hcd2
  have k1 : He.codeOf K ("read_file", none) = c1 := He.codeOf_eq lk1 rfl
  have k2 : He.codeOf K ("_law_right", none) = c2 := He.codeOf_eq lk2 rfl
  have ecs : tfs.map (He.cT K) = [He.cT K ("read_file", none), He.cT K ("_law_right", none)] := rfl
  have hm1 : ((He.cT K ("read_file", none)).2, q_read_file) ∈ ([((He.cT K ("read_file", none)).2, q_read_file), ((He.cT K ("_law_right", none)).2, q__law_right)] : List (Addr × Str)) := List.mem_cons_self ..
  have hm2 : ((He.cT K ("_law_right", none)).2, q__law_right) ∈ ([((He.cT K ("read_file", none)).2, q_read_file), ((He.cT K ("_law_right", none)).2, q__law_right)] : List (Addr × Str)) := List.mem_cons_of_mem _ (List.mem_cons_self ..)
  have hu1 : ∀ p ∈ ([((He.cT K ("read_file", none)).2, q_read_file), ((He.cT K ("_law_right", none)).2, q__law_right)] : List (Addr × Str)), p.1 = (He.cT K ("read_file", none)).2 → p.2 = q_read_file := fun p hp e => by
    rcases List.mem_cons.mp hp with rfl | hp
    · rfl
    · rw [List.mem_singleton.mp hp] at e
      exact absurd e.symm hne
  have hu2 : ∀ p ∈ ([((He.cT K ("read_file", none)).2, q_read_file), ((He.cT K ("_law_right", none)).2, q__law_right)] : List (Addr × Str)), p.1 = (He.cT K ("_law_right", none)).2 → p.2 = q__law_right := fun p hp e => by
    rcases List.mem_cons.mp hp with rfl | hp
    · exact absurd e hne
    · rw [List.mem_singleton.mp hp]
  generalize hTb : ([((He.cT K ("read_file", none)).2, q_read_file), ((He.cT K ("_law_right", none)).2, q__law_right)] : List (Addr × Str)) = Tb at hm1 hm2 hu1 hu2
  refine ⟨fd44, tfs.map (He.cT K), sp_law Tb K, fun p hp => ?_, fun p hp => ?_, fun p hp => ?_, fun s u => L2.FunD.bindsA D44 (ps := ["script"]) (fun _ _ _ _ _ _ us hl => match us, hl with | [_], _ => rfl) s [u] rfl, fun H a ns hl _ hH sq => ⟨a, ns, rfl, sq, Nat.le_trans hl (by decide), fun p hp => ?_, fun _ => rfl⟩, fun base hKb hNs hTB => ?_⟩
  · obtain ⟨q, hq, rfl⟩ := List.mem_map.mp hp
    exact S.empty q hq
  · obtain ⟨q, hq, rfl⟩ := List.mem_map.mp hp
    exact S.out q hq
  · obtain ⟨q, hq, rfl⟩ := List.mem_map.mp hp
    exact PySem.W.codeHd_of_K KX (S.hd q hq)
  · refine ⟨#[], ?_, trivial, fun pos cv hc => nomatch (show (none : Option Value) = some cv from hc)⟩
    rw [← hTb] at hp
    rcases List.mem_cons.mp hp with rfl | hp
    · exact hH (He.cT K ("read_file", none)) (by rw [ecs]; exact List.mem_cons_self ..)
    · rw [List.mem_singleton.mp hp]
      exact hH (He.cT K ("_law_right", none)) (by rw [ecs]; exact List.mem_cons_of_mem _ (List.mem_cons_self ..))
  have TB1 := hTB (He.cT K ("read_file", none)) (by rw [ecs]; exact List.mem_cons_self ..)
  have TB2 := hTB (He.cT K ("_law_right", none)) (by rw [ecs]; exact List.mem_cons_of_mem _ (List.mem_cons_self ..))
  have TB1 : TabB base mg c1 (He.cT K ("read_file", none)).2 := by rw [← k1]; exact TB1
  have TB2 : TabB base mg c2 (He.cT K ("_law_right", none)).2 := by rw [← k2]; exact TB2
  obtain ⟨_, D0⟩ := S.t.d.def_ 0 (d := dM "BadLayout" "__init__" "BadLayout.__init__" sBadLayout_init) rfl
  have F_BadLayout : Fn_BadLayout l_.prog w K mg base := ok_BadLayout T (funOf D0)
  obtain ⟨_, D1⟩ := S.t.d.def_ 1 (d := dM "BadFile" "__init__" "BadFile.__init__" sBadFile_init) rfl
  have F_BadFile : Fn_BadFile l_.prog w K mg base := ok_BadFile T (funOf D1)
  obtain ⟨_, D2⟩ := S.t.d.def_ 2 (d := dM "BadText" "__init__" "BadText.__init__" sBadText_init) rfl
  have F_BadText : Fn_BadText l_.prog w K mg base := ok_BadText T (funOf D2)
  obtain ⟨_, D3⟩ := S.t.d.def_ 3 (d := dG "is_integer" sis_integer) rfl
  have F_is_integer : Fn_is_integer l_.prog w K mg base := ok_is_integer T (funOf D3) (gg (by decide +kernel))
  obtain ⟨_, D4⟩ := S.t.d.def_ 4 (d := dG "is_name" sis_name) rfl
  have F_is_name : Fn_is_name l_.prog w K mg base := ok_is_name T (funOf D4) (gg (by decide +kernel))
  obtain ⟨_, D5⟩ := S.t.d.def_ 5 (d := dG "is_mark" sis_mark) rfl
  have F_is_mark : Fn_is_mark l_.prog w K mg base := ok_is_mark T (funOf D5) (gg (by decide +kernel))
  obtain ⟨_, D6⟩ := S.t.d.def_ 6 (d := dG "are_bases" sare_bases) rfl
  have F_are_bases : Fn_are_bases l_.prog w K mg base := ok_are_bases T F_is_name (funOf D6) (gg (by decide +kernel))
  obtain ⟨_, D7⟩ := S.t.d.def_ 7 (d := dG "is_kind" sis_kind) rfl
  have F_is_kind : Fn_is_kind l_.prog w K mg base := ok_is_kind T F_are_bases F_is_integer F_is_mark F_is_name (funOf D7) (gg (by decide +kernel))
  obtain ⟨_, D8⟩ := S.t.d.def_ 8 (d := dG "need_layout" sneed_layout) rfl
  have F_need_layout : Fn_need_layout l_.prog w K mg base := ok_need_layout T F_BadLayout F_is_kind (funOf D8) (gg (by decide +kernel))
  obtain ⟨_, D9⟩ := S.t.d.def_ 9 (d := dM "Chart" "__init__" "Chart.__init__" sChart_init) rfl
  have F_Chart : Fn_Chart l_.prog w K mg base := ok_Chart T F_need_layout (funOf D9)
  obtain ⟨_, D10⟩ := S.t.d.def_ 10 (d := dG "is_content" sis_content) rfl
  have F_is_content : Fn_is_content l_.prog w K mg base := ok_is_content T F_is_integer (funOf D10) (gg (by decide +kernel))
  obtain ⟨_, D11⟩ := S.t.d.def_ 11 (d := dG "is_part" sis_part) rfl
  have F_is_part : Fn_is_part l_.prog w K mg base := ok_is_part T F_is_content (funOf D11) (gg (by decide +kernel))
  obtain ⟨_, D12⟩ := S.t.d.def_ 12 (d := dG "held_in" sheld_in) rfl
  have F_held_in : Fn_held_in l_.prog w K mg base := ok_held_in T F_BadFile F_is_part (funOf D12) (gg (by decide +kernel))
  obtain ⟨_, D13⟩ := S.t.d.def_ 13 (d := dG "need_file" sneed_file) rfl
  have F_need_file : Fn_need_file l_.prog w K mg base := ok_need_file T F_Chart F_held_in (funOf D13) (gg (by decide +kernel))
  obtain ⟨_, D14⟩ := S.t.d.def_ 14 (d := dG "number_in" snumber_in) rfl
  have F_number_in : Fn_number_in l_.prog w K mg base := ok_number_in T (funOf D14) (gg (by decide +kernel))
  obtain ⟨_, D15⟩ := S.t.d.def_ 15 (d := dG "told_kind" stold_kind) rfl
  have F_told_kind : Fn_told_kind l_.prog w K mg base := ok_told_kind T F_is_kind F_number_in (funOf D15) (gg (by decide +kernel))
  obtain ⟨_, D16⟩ := S.t.d.def_ 16 (d := dG "told_part" stold_part) rfl
  have F_told_part : Fn_told_part l_.prog w K mg base := ok_told_part T F_is_content F_number_in (funOf D16) (gg (by decide +kernel))
  obtain ⟨_, D17⟩ := S.t.d.def_ 17 (d := dG "told_rows" stold_rows) rfl
  have F_told_rows : Fn_told_rows l_.prog w K mg base := ok_told_rows T F_BadText F_told_kind (funOf D17) (gg (by decide +kernel))
  obtain ⟨_, D18⟩ := S.t.d.def_ 18 (d := dG "read_layout" sread_layout) rfl
  have F_read_layout : Fn_read_layout l_.prog w K mg base := ok_read_layout T F_need_layout F_told_rows (funOf D18) (gg (by decide +kernel))
  obtain ⟨_, D20⟩ := S.t.d.def_ 20 (d := dG "_law_begun" s_law_begun) rfl
  have F__law_begun : Fn__law_begun l_.prog w K mg base := ok__law_begun T (funOf D20) (gg (by decide +kernel))
  obtain ⟨_, D21⟩ := S.t.d.def_ 21 (d := dG "_law_next" s_law_next) rfl
  have F__law_next : Fn__law_next l_.prog w K mg base := ok__law_next T (funOf D21) (gg (by decide +kernel))
  obtain ⟨_, D22⟩ := S.t.d.def_ 22 (d := dG "_law_titles" s_law_titles) rfl
  have F__law_titles : Fn__law_titles l_.prog w K mg base := ok__law_titles T F__law_next (funOf D22) (gg (by decide +kernel))
  obtain ⟨_, D23⟩ := S.t.d.def_ 23 (d := dG "_law_sign" s_law_sign) rfl
  have F__law_sign : Fn__law_sign l_.prog w K mg base := ok__law_sign T (funOf D23) (gg (by decide +kernel))
  obtain ⟨_, D24⟩ := S.t.d.def_ 24 (d := dG "_law_frame" s_law_frame) rfl
  have F__law_frame : Fn__law_frame l_.prog w K mg base := ok__law_frame T F__law_next F__law_sign F__law_titles (funOf D24) (gg (by decide +kernel))
  obtain ⟨_, D25⟩ := S.t.d.def_ 25 (d := dG "_law_under" s_law_under) rfl
  have F__law_under : Fn__law_under l_.prog w K mg base := ok__law_under T (funOf D25) (gg (by decide +kernel))
  obtain ⟨_, D26⟩ := S.t.d.def_ 26 (d := dG "_law_word" s_law_word) rfl
  have F__law_word : Fn__law_word l_.prog w K mg base := ok__law_word T F__law_sign (funOf D26) (gg (by decide +kernel))
  obtain ⟨_, D27⟩ := S.t.d.def_ 27 (d := dG "_law_marks" s_law_marks) rfl
  have F__law_marks : Fn__law_marks l_.prog w K mg base := ok__law_marks T F__law_next F__law_under F__law_word (funOf D27) (gg (by decide +kernel))
  obtain ⟨_, D28⟩ := S.t.d.def_ 28 (d := dG "_law_marked" s_law_marked) rfl
  have F__law_marked : Fn__law_marked l_.prog w K mg base := ok__law_marked T F__law_marks F__law_next F__law_sign F__law_word (funOf D28) (gg (by decide +kernel))
  obtain ⟨_, D29⟩ := S.t.d.def_ 29 (d := dG "_law_layout" s_law_layout) rfl
  have F__law_layout : Fn__law_layout l_.prog w K mg base := ok__law_layout T F__law_frame F__law_marked F__law_next (funOf D29) (gg (by decide +kernel))
  obtain ⟨_, D30⟩ := S.t.d.def_ 30 (d := dG "_law_roots" s_law_roots) rfl
  have F__law_roots : Fn__law_roots l_.prog w K mg base := ok__law_roots T (funOf D30) (gg (by decide +kernel))
  obtain ⟨_, D31⟩ := S.t.d.def_ 31 (d := dG "_law_held" s_law_held) rfl
  have F__law_held : Fn__law_held l_.prog w K mg base := ok__law_held T F__law_next F__law_roots (funOf D31) (gg (by decide +kernel))
  obtain ⟨_, D32⟩ := S.t.d.def_ 32 (d := dG "_law_number" s_law_number) rfl
  have F__law_number : Fn__law_number l_.prog w K mg base := ok__law_number T (funOf D32) (gg (by decide +kernel))
  obtain ⟨_, D33⟩ := S.t.d.def_ 33 (d := dG "_law_is_title" s_law_is_title) rfl
  have F__law_is_title : Fn__law_is_title l_.prog w K mg base := ok__law_is_title T (funOf D33) (gg (by decide +kernel))
  obtain ⟨_, D34⟩ := S.t.d.def_ 34 (d := dG "_law_kind_row" s_law_kind_row) rfl
  have F__law_kind_row : Fn__law_kind_row l_.prog w K mg base := ok__law_kind_row T F__law_is_title F__law_number F__law_word (funOf D34) (gg (by decide +kernel))
  obtain ⟨_, D35⟩ := S.t.d.def_ 35 (d := dG "_law_part_row" s_law_part_row) rfl
  have F__law_part_row : Fn__law_part_row l_.prog w K mg base := ok__law_part_row T F__law_number F__law_roots (funOf D35) (gg (by decide +kernel))
  obtain ⟨_, D36⟩ := S.t.d.def_ 36 (d := dG "_law_layout_place" s_law_layout_place) rfl
  have F__law_layout_place : Fn__law_layout_place l_.prog w K mg base := ok__law_layout_place T (funOf D36) (gg (by decide +kernel))
  obtain ⟨_, D37⟩ := S.t.d.def_ 37 (d := dG "_law_file_place" s_law_file_place) rfl
  have F__law_file_place : Fn__law_file_place l_.prog w K mg base := ok__law_file_place T (funOf D37) (gg (by decide +kernel))
  obtain ⟨_, D38⟩ := S.t.d.def_ 38 (d := dG "_law_due" s_law_due) rfl
  have F__law_due : Fn__law_due l_.prog w K mg base := ok__law_due T F__law_file_place F__law_kind_row F__law_layout_place F__law_part_row F__law_under (funOf D38) (gg (by decide +kernel))
  obtain ⟨_, D40⟩ := S.t.d.def_ 40 (d := dG "_law_texts" s_law_texts) rfl
  have F__law_texts : Fn__law_texts l_.prog w K mg base := ok__law_texts T (funOf D40) (gg (by decide +kernel))
  obtain ⟨_, D41⟩ := S.t.d.def_ 41 (d := dG "_law_any" s_law_any) rfl
  have F__law_any : Fn__law_any l_.prog w K mg base := ok__law_any T F__law_next (funOf D41) (gg (by decide +kernel))
  obtain ⟨_, D42⟩ := S.t.d.def_ 42 (d := dG "_law_bent" s_law_bent) rfl
  have F__law_bent : Fn__law_bent l_.prog w K mg base := ok__law_bent T F__law_any F__law_next (funOf D42) (gg (by decide +kernel))
  have F_read_file : Fn_read_file Tb l_.prog w K mg base := ok_read_file T F_Chart F_told_part F_need_file F_BadText G17 bT TB1 hm1 hu1 lk1 hcd1 kp19 (gg (by decide +kernel))
  have FR := ok__law_right (P := l_.prog) (w := w) T F__law_due F_read_layout F_read_file G39 bS TB2 hm2 hu2 lk2 hcd2
  exact ok_law T F__law_begun F__law_next F__law_layout F__law_texts F__law_held F__law_under F__law_bent FR (gg (by decide +kernel)) kp43 bR (funOf D44)
end Cp
set_option maxHeartbeats 0
/-! The end. -/
open PySem PySem.W PySem.Calls PyProof.Rows
theorem PySem.Challenge.cw_carriedparts_k38_whole_any_text_holds : PySem.Challenge.rw_carriedparts_k38_whole_any_text.Holds := by
  w_on; o_law
  refine HandSHeadRun.head_any (r := OpenLaw.row PySem.Challenge.rw_carriedparts_k38_whole_any_text) (q := view (OpenLaw.row PySem.Challenge.rw_carriedparts_k38_whole_any_text).prog [64]) (H := Cp.hk) (ob := Cp.ob) (M := 6000) (loose := Cp.loose1 ++ Cp.loose2) (d := HandSHeadRun.topDef (OpenLaw.row PySem.Challenge.rw_carriedparts_k38_whole_any_text).prog 64) (kwd := []) Cp.ob_eq
    (by kernel_rfl) (fun s => by kernel_rfl) Cp.run (by kernel_rfl) (by kernel_rfl) (by kernel_rfl) (by rfl) (by first | assumption | decide +kernel) (by decide +kernel) ⟨rfl, rfl, rfl, rfl, rfl, by decide +kernel⟩ ?hw ?hc
  case hw => w_witness2
  case hc =>
    refine Cp.walk_ofG (l := PySem.Challenge.rw_carriedparts_k38_whole_any_text) (n := 63) (k := 15) (x := "script") (CX := fun _ => C8.CX0) rfl (by decide) (by kernel_rfl) ⟨rfl, by decide, by decide⟩ ?F (fun _ _ _ _ _ z => z)
    intro w mg fa h Y G hmg0
    obtain ⟨K, KX, c⟩ := Y
    have hmg : mg ("law" : PySem.Str) = some (.ref fa) := by
      have e : (HandSHeadRun.topDef (OpenLaw.row PySem.Challenge.rw_carriedparts_k38_whole_any_text).prog 64).name = ("law" : PySem.Str) := by kernel_rfl
      rw [← e]
      exact hmg0
    exact ⟨K, KX, Cp.law_at KX G hmg c⟩
