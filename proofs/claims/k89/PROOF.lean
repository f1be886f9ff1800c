import PyProof.Rows.All
import Wide.All
import OpenK.AllK
import Wide.FinOn
import KE.KStateDown
import Lean
import HandS.ForMost
import HandS.Exc
import HandS.ExcInit
import HandS.Defaults
import HandS.Head0
import HandS.Head1
import HandS.Head2
import HandS.HeadEnd
import HandS.HeadHook1
import HandS.HeadHook2
import HandS.HeadHook3
import HandS.HeadHook4
import PySem.Challenge.RW_foldbough_k89_tables_as_texts
import HandS.ExcOwn
import HandS.ExcIs
import HandS.ExcField
import HandS.TryMany
import HandS.StrMore
import HandS.IsInst
import HandS.TupSets
import HandS.SetKeys
import HandS.More
import HandS.OwnEq
import HandS.Star
import HandS.Wide
import HandS.TupLe
import HandS.Conv
import HandS.Small
import HandS.CallSlots
import HandS.ClsMeth
import HandS.Flow
import HandS.Walk
import KE.SortData
import KE.DataCmp
import KE.GoesEnumKw
import KE.IntText
import PyProof.InstNe
import KE.KSortTupAny
import HandS.SortKw
import HandS.Deep
import KE.KExcIs
import HandS.RaiseMore
set_option Elab.async false
set_option linter.all false
set_option maxRecDepth 100000
set_option maxHeartbeats 0
/-! The head of the law k89: the program's top run once, facts of the defs by their names. -/
namespace F89
open PySem PySem.Spec PyProof.Rows L2
def top (i : Nat) : Stmt := PySem.Challenge.pw_foldbough_k89_tables_as_texts.main.body.getD i (.Pass ⟨0, 0, 0, 0⟩)
abbrev sNoText : Stmt := inClass (top 6) 0
abbrev sIsName : Stmt := top 11
abbrev sIsValue : Stmt := top 12
abbrev sIsRow : Stmt := top 13
abbrev sWantRow : Stmt := top 14
abbrev sAreColumns : Stmt := top 15
abbrev sTableInit : Stmt := inClass (top 16) 0
abbrev sTableEq : Stmt := inClass (top 16) 2
abbrev sTableColumns : Stmt := inClass (top 16) 4
abbrev sTableRows : Stmt := inClass (top 16) 5
abbrev sNumberIn : Stmt := top 21
abbrev sNumbersIn : Stmt := top 22
abbrev sWantText : Stmt := top 23
abbrev sListed : Stmt := top 24
abbrev sShowTable : Stmt := top 25
abbrev sNamesIn : Stmt := top 26
abbrev sReadTable : Stmt := top 27
abbrev sWell : Stmt := top 29
abbrev sDraw : Stmt := top 30
abbrev sNames : Stmt := top 31
abbrev sValue : Stmt := top 32
abbrev sText : Stmt := top 33
abbrev sSpoilt : Stmt := top 34
abbrev sNumber : Stmt := top 35
abbrev sStop : Stmt := top 36
abbrev sAnswer : Stmt := top 37
abbrev sLaw : Stmt := top 38
def dNoText : He.DefD := ⟨("NoText", some "__init__"), "__init__", "NoText.__init__", defArgs sNoText, defBody sNoText, defScope sNoText, [], []⟩
def dIsName : He.DefD := ⟨("is_name", none), "is_name", "is_name", defArgs sIsName, defBody sIsName, defScope sIsName, [], []⟩
def dIsValue : He.DefD := ⟨("is_value", none), "is_value", "is_value", defArgs sIsValue, defBody sIsValue, defScope sIsValue, [], []⟩
def dIsRow : He.DefD := ⟨("is_row", none), "is_row", "is_row", defArgs sIsRow, defBody sIsRow, defScope sIsRow, [], []⟩
def dWantRow : He.DefD := ⟨("want_row", none), "want_row", "want_row", defArgs sWantRow, defBody sWantRow, defScope sWantRow, [.int 0], []⟩
def dAreColumns : He.DefD := ⟨("are_columns", none), "are_columns", "are_columns", defArgs sAreColumns, defBody sAreColumns, defScope sAreColumns, [], []⟩
def dTableInit : He.DefD := ⟨("Table", some "__init__"), "__init__", "Table.__init__", defArgs sTableInit, defBody sTableInit, defScope sTableInit, [.non], []⟩
def dTableEq : He.DefD := ⟨("Table", some "__eq__"), "__eq__", "Table.__eq__", defArgs sTableEq, defBody sTableEq, defScope sTableEq, [], []⟩
def dTableColumns : He.DefD := ⟨("Table", some "columns"), "columns", "Table.columns", defArgs sTableColumns, defBody sTableColumns, defScope sTableColumns, [], []⟩
def dTableRows : He.DefD := ⟨("Table", some "rows"), "rows", "Table.rows", defArgs sTableRows, defBody sTableRows, defScope sTableRows, [], []⟩
def dNumberIn : He.DefD := ⟨("number_in", none), "number_in", "number_in", defArgs sNumberIn, defBody sNumberIn, defScope sNumberIn, [], []⟩
def dNumbersIn : He.DefD := ⟨("numbers_in", none), "numbers_in", "numbers_in", defArgs sNumbersIn, defBody sNumbersIn, defScope sNumbersIn, [], []⟩
def dWantText : He.DefD := ⟨("want_text", none), "want_text", "want_text", defArgs sWantText, defBody sWantText, defScope sWantText, [], []⟩
def dListed : He.DefD := ⟨("listed", none), "listed", "listed", defArgs sListed, defBody sListed, defScope sListed, [], []⟩
def dShowTable : He.DefD := ⟨("show_table", none), "show_table", "show_table", defArgs sShowTable, defBody sShowTable, defScope sShowTable, [], []⟩
def dNamesIn : He.DefD := ⟨("names_in", none), "names_in", "names_in", defArgs sNamesIn, defBody sNamesIn, defScope sNamesIn, [], []⟩
def dReadTable : He.DefD := ⟨("read_table", none), "read_table", "read_table", defArgs sReadTable, defBody sReadTable, defScope sReadTable, [], []⟩
def dWell : He.DefD := ⟨("_law_well", none), "_law_well", "_law_well", defArgs sWell, defBody sWell, defScope sWell, [], []⟩
def dDraw : He.DefD := ⟨("_law_draw", none), "_law_draw", "_law_draw", defArgs sDraw, defBody sDraw, defScope sDraw, [], []⟩
def dNames : He.DefD := ⟨("_law_names", none), "_law_names", "_law_names", defArgs sNames, defBody sNames, defScope sNames, [], []⟩
def dValue : He.DefD := ⟨("_law_value", none), "_law_value", "_law_value", defArgs sValue, defBody sValue, defScope sValue, [], []⟩
def dText : He.DefD := ⟨("_law_text", none), "_law_text", "_law_text", defArgs sText, defBody sText, defScope sText, [], []⟩
def dSpoilt : He.DefD := ⟨("_law_spoilt", none), "_law_spoilt", "_law_spoilt", defArgs sSpoilt, defBody sSpoilt, defScope sSpoilt, [], []⟩
def dNumber : He.DefD := ⟨("_law_number", none), "_law_number", "_law_number", defArgs sNumber, defBody sNumber, defScope sNumber, [], []⟩
def dStop : He.DefD := ⟨("_law_stop", none), "_law_stop", "_law_stop", defArgs sStop, defBody sStop, defScope sStop, [], []⟩
def dAnswer : He.DefD := ⟨("_law_answer", none), "_law_answer", "_law_answer", defArgs sAnswer, defBody sAnswer, defScope sAnswer, [], []⟩
def dLaw : He.DefD := ⟨("law", none), "law", "law", defArgs sLaw, defBody sLaw, defScope sLaw, [], []⟩
def fn : List He.DefD := [dNoText, dIsName, dIsValue, dIsRow, dWantRow, dAreColumns, dTableInit, dTableEq, dTableColumns, dTableRows, dNumberIn, dNumbersIn, dWantText, dListed, dShowTable, dNamesIn, dReadTable, dWell, dDraw, dNames, dValue, dText, dSpoilt, dNumber, dStop, dAnswer, dLaw]
def fa : List He.Fa := [.glo "FoldError", .glo "NoColumns", .glo "NoRow", .glo "NoText", .glo "Table", .glo "is_name", .glo "is_value", .glo "is_row", .glo "want_row", .glo "are_columns", .glo "number_in", .glo "numbers_in", .glo "want_text", .glo "listed", .glo "show_table", .glo "names_in", .glo "read_table", .glo "_law_well", .glo "_law_draw", .glo "_law_names", .glo "_law_value", .glo "_law_text", .glo "_law_spoilt", .glo "_law_number", .glo "_law_stop", .glo "_law_answer", .glo "law", .free "isinstance", .free "str", .free "len", .free "all", .free "int", .free "bool", .free "tuple", .free "list", .free "set", .free "enumerate", .free "sorted", .free "range", .int "LONGEST_NAME" 8, .int "MOST_COLUMNS" 8, .int "MOST_FIGURES" 40, .str "LETTERS" "abcdefghijklmnopqrstuvwxyz", .str "FIGURES" "0123456789", .str "NONE" "-", .cls "Table", .noat "Table" "named", .noat "Table" "held", .meth "Table" "columns", .meth "Table" "rows", .meth "Table" "__eq__", .mkr "Table", .exm "NoText" "NoText" true, .keep "NoText", .noat "NoText" "at"]
/-- a class's shape in the written part -/
def shapeB0 (K : PySem.W.Frag) (C : Addr) (newId : String) (p : List Value → Bool) (q : Addr → Bool) (hd : Bool) : Bool := match K.lookup C with
  | some ⟨.type t, _, .cls cd, sl⟩ => decide (t = "type") && (match cd.mro, sl.toList with
    | .ref C' :: bm, [_, _, _, _, some (.builtin n), _] => decide (C' = C) && (decide (n = newId) && (!cd.hasDel && (p bm && (q cd.ns && (cd.hasDict == hd)))))
    | _, _ => false)
  | _ => false
def pObj : List Value → Bool
  | [.type t] => decide (t = "object")
  | _ => false
def qEq (K : PySem.W.Frag) (f N : Addr) : Bool := PySem.W.nsOkIn K N && (He.eqO (PySem.W.nsIn K N "__eq__") (some (some (.ref f))) && He.eqO (PySem.W.nsIn K N "__ne__") (some none))
def isFun (K : PySem.W.Frag) (f : Addr) : Bool := match K.lookup f with
  | some ⟨.type t, _, _, _⟩ => decide (t = "function")
  | _ => false
def iniB (K : PySem.W.Frag) (C : Addr) : Bool := match PySem.W.findCls K (.ref C) (.type "type") "__init__" with
  | some (.val (.builtin n)) => decide (n = "ValueError.__init__")
  | _ => false
/-- instances of the class at C under isinstance -/
def isiB (K : PySem.W.Frag) (C : Addr) : Bool := He.eqO (PySem.W.findIn K (.ref C) "__class__") (some (some (.builtin "object.__class__"))) && (He.eqO (PySem.W.specialIn K (.builtin "object.__class__") "__get__") (some (some (.builtin "getset_descriptor.__get__"))) &&
  (decide (PySem.W.takesIn K (.builtin "object.__class__") = some true) && decide (PySem.W.mroIn K C (.type "object") = some true)))
def exTab (K : PySem.W.Frag) (C : Addr) : Bool := isiB K C && (shapeB0 K C "object.__new__" pObj (qEq K (He.ma K C "__eq__")) true && isFun K (He.ma K C "__eq__"))
def exErr (K : PySem.W.Frag) (C : Addr) : Bool := isiB K C && (shapeB0 K C "ValueError.__new__" PySem.HandSPX.refsVE (fun _ => true) true && (He.eqO (PySem.W.findIn K (.ref C) "__setattr__") (some (some (.builtin "object.__setattr__"))) &&
  (decide (PySem.W.subIn K (.ref C) (.type "BaseException") = some true) && (decide (PySem.W.typeIn K (.ref C) = some (.type "type")) && (He.eqO (PySem.W.findIn K (.ref C) "__init__") (some (some (.ref (He.ma K C "__init__")))) &&
  (decide (PySem.W.typeIn K (.ref (He.ma K C "__init__")) = some (.type "function")) && ((PySem.W.clsIn K C).isSome && (He.eqO (PySem.W.findIn K (.ref C) "__getattribute__") (some (some (.builtin "BaseException.__getattribute__"))) &&
  (He.eqO (PySem.W.findIn K (.ref C) "__getattr__") (some none) && PySem.W.hasDictIn K C)))))))))
def exBase (K : PySem.W.Frag) (C : Addr) : Bool := PySem.W.readsIn K C (.type "type") && (He.eqO (PySem.W.specialIn K (.ref C) "__getattribute__") (some (some (.builtin "type.__getattribute__"))) && iniB K C)
/-- more that is read off the top: the classes Table, FoldError, NoText -/
def ex (K : PySem.W.Frag) : Bool := exBase K (He.ga K "FoldError") && (exTab K (He.ga K "Table") && (exErr K (He.ga K "NoText") && decide (PySem.W.kitAny K (.ref (He.ga K "NoText")) [.ref (He.ga K "NoColumns"), .ref (He.ga K "NoRow")] = some false)))
/-! a hook that looks at the interpreter's statics too, and at one more Bool -/
abbrev AlM : Type := He.AlD × Bool
def asM (g : Addr → Option Obj) (n : Nat) : List Addr := He.asD g n ++ [PySem.cStatics]
def obsM (n : Nat) (fa : List He.Fa) (fn : List He.DefD) (ex : PySem.W.Frag → Bool) (g : Addr → Option Obj) : AlM := (He.obsD fa fn (He.frG g (asM g n)), ex (He.frG g (asM g n)))
def hookM (n : Nat) (fa : List He.Fa) (fn : List He.DefD) (ex : PySem.W.Frag → Bool) : PySem.W.Hook where
  α := AlM
  obs := fun s => obsM n fa fn ex s.heap.get?
  val := fun _ => (He.valD fn, true)
  says := fun _ h => ∃ K : PySem.W.Frag, K.In h ∧ He.SaysD fa fn K ∧ ex K = true
  of := fun _ _ e => ⟨_, He.frG_in, congrArg (fun z : AlM => z.1) e, congrArg (fun z : AlM => z.2) e⟩
  keeps := fun _ _ _ ⟨K, hK, c⟩ k => ⟨K, PySem.W.Frag.In.keeps hK k, c⟩
theorem obsM_eq {n : Nat} {fa : List He.Fa} {fn : List He.DefD} {ex : PySem.W.Frag → Bool} {g : Addr → Option Obj} {s : Shared} (h : ∀ a, g a = s.heap.get? a) : obsM n fa fn ex g = (hookM n fa fn ex).obs s := by
  have e : g = s.heap.get? := funext h
  rw [e] <;> rfl
abbrev R : PySem.W.OpenRow := PySem.W.OpenLaw.row PySem.Challenge.rw_foldbough_k89_tables_as_texts
abbrev hk : PySem.W.Hook := hookM 5 fa fn ex
def ob (s : PySem.W.SharedT) : AlM := obsM 5 fa fn ex (HandSHeadRun.getT s)
theorem ob_eq (s : PySem.W.SharedT) : ob s = hk.obs s.abs := obsM_eq (HandSHeadRun.getT_eq s)
def loose : List Str := (["_wall", "FoldError", "NoColumns", "NoRow", "NoColumn", "NoText", "LETTERS", "LONGEST_NAME", "MOST_COLUMNS", "is_name", "is_value", "is_row"] : List Str) ++ (["want_row", "are_columns", "Table", "FIGURES", "MOST_FIGURES", "NONE", "number_in", "numbers_in", "want_text", "listed", "show_table", "names_in"] : List Str) ++ (["read_table", "_law_well", "_law_draw", "_law_names", "_law_value", "_law_text", "_law_spoilt", "_law_number", "_law_stop", "_law_answer"] : List Str)
theorem run (w : World) : HandSHeadRun.RunEq R (PySem.W.view R.prog [38]) hk ob 3000 loose w := by
  intro os
  kernel_rfl
end F89
set_option Elab.async false
set_option linter.all false
set_option maxRecDepth 100000
set_option maxHeartbeats 2000000
/-! More rules over the hand layer: calls by a raw promise, names of the top. -/
namespace HX
open PySem PySem.Spec L2
open PyProof.Rows hiding St
section
variable {X : Cx} {CX : CXT} {k : Nat} {f : Addr} {sp : Sp} {x : Str} {p pos : Pos} {e : Expr} {es : List Expr} {t : TA}
/-- the callee runs, what it lets out is wished for at the caller's slots -/
theorem run_slot {pins : List (Addr × Obj)} {σ : St} {H : Hp} {s : Shared} {E : XK} {Q : VK} {us : List Value} {vs : List V} (F : FnR X.prog X.w X.K X.mg X.base CX k f sp) (room : Room k X.A) (px : PassesAt CX X σ E)
    (I : Inv X pins σ H s) (rv : Vals vs us) (h : sp vs H Q E) : codeAny (model X.prog X.w) X.A (.call (.ref f) ⟨us, []⟩) (fun r s' => match r with | .ok (.ret v) => EP X pins σ Q v s' | .ok _ => False | .error e => X.xe e s') s := by
  refine codeAny_mono (F X.A X.stack s H us vs Q E room I.env0 rv h) fun r s' got => ?_
  match r, got with
  | .error er, got => exact px pins H s er s' I got
  | .ok (.ret u), got => exact I.after got
  | .ok .next, got => exact got.elim
  | .ok .brk, got => exact got.elim
  | .ok .cont, got => exact got.elim
/-- f(e, ..) by a raw promise -/
def tCallF (sp : Sp) (E : St → XK) (t : TA) : TE := fun σ H Q => t σ H fun vs H1 => sp vs H1 Q (E σ)
theorem pe_callF {E : St → XK} (F : FnR X.prog X.w X.K X.mg X.base CX k f sp) (room : Room k X.A) (hg : Gl X x) (hm : X.mg x = some (.ref f)) (kp : PySem.W.keepIn X.K (.ref f) = true) (px : ∀ σ, PassesAt CX X σ (E σ)) (ha : PA X (e :: es) t)
    (hdb : (x == ("__debug__" : Str)) = false := by decide) (he : starEach (e :: es) X.env = (false, eval e X.env) :: starEach es X.env := by rfl) (hpl : (backTo pos (starEach es X.env)).any (·.1) = false := by rfl) :
    PE X (.Call (.Name x p) (e :: es) [] pos) (tCallF sp E t) := by
  refine ⟨fun pins s σ H Q I h => ?_⟩
  refine wpAny_Call_Name_kw (ld_glob I hg hm ?_ hdb)
  refine PySem.W.callWith_K (h₀ := X.base) I.ok.mod.kin kp (thn (ha.run pos pins s σ H _ I h) fun us s1 ⟨vs, H1, I1, rv, q⟩ => ⟨I1.kIn, ?_⟩) he hpl
  exact wpAny_call (run_slot F room (px σ) I1 rv q)
theorem pass00 {E : St → XK} : ∀ σ, PassesAt CX0 X σ (E σ) := fun _ _ _ _ _ _ _ h => h.elim
/-- a module's constant -/
theorem pe_gI {i : Int} (hm : ∃ t, X.mg x = some (.int i t)) (hg : Gl X x := by rfl) (hd : (x == ("__debug__" : Str)) = false := by decide) : PE X (.Name x pos) (tC (.int i)) := by
  obtain ⟨t, e⟩ := hm
  exact pe_glob hg e ⟨t, rfl⟩ hd
theorem pe_gS {z : Str} (hm : ∃ t, X.mg x = some (.str z t)) (hg : Gl X x := by rfl) (hd : (x == ("__debug__" : Str)) = false := by decide) : PE X (.Name x pos) (tC (.str z)) := by
  obtain ⟨t, e⟩ := hm
  exact pe_glob hg e ⟨t, rfl⟩ hd
/-- a class of the text as a value -/
theorem pe_gC {C : Addr} (hm : X.mg x = some (.ref C)) (hg : Gl X x := by rfl) (hd : (x == ("__debug__" : Str)) = false := by decide) : PE X (.Name x pos) (tC (.ref C)) := pe_glob hg hm rfl hd
/-- a built-in type as a value -/
theorem pe_ty {T : String} (hm : X.mg x = none) (hv : bootBuiltins x = some (.type T) := by decide +kernel) (hg : Gl X x := by rfl) (hn : x ≠ "__name__" := by decide) (hd : (x == ("__debug__" : Str)) = false := by decide) : PE X (.Name x pos) (tC (.ty T)) :=
  pe_bltn hg hm hv rfl hn hd
theorem flat {P : Program} {w : World} {K : PySem.W.Frag} {mg : Str → Option Value} {base : Heap} {fd : FuncData} {ps : List Str} (F : FnOk P w K mg base CX k f fd ps sp) (hb : Binds K fd ps []) : FnR P w K mg base CX k f sp := fun A outer s H us vs Q E room e0 rv h =>
  F.raw hb .nil A outer s H us vs Q E room e0 rv (show sp (vs ++ []) H Q E by rw [List.append_nil]; exact h)
end
end HX
set_option Elab.async false
set_option linter.all false
set_option maxRecDepth 100000
set_option maxHeartbeats 2000000
/-! try .. except X as n: suite, further clauses: where X takes every exception of the body; C.__init__(self, ..) of an own error class without one. -/
namespace HX
open PySem PySem.Spec L2
open PyProof.Rows hiding St
/-- what the first clause, that takes all, wishes -/
def wFst (K : PySem.W.Frag) (c : Value) (i : Nat) (ts : Addr → Value → Option Addr → TS) (D : Ends) : WX := fun cls d σ H => PySem.W.exmOne K cls c = some true ∧
  ∀ a, H a = none → ts a cls d { nx := fun σ' H' => D.nx (σ'.set i none) H', rt := D.rt, bk := fun σ' H' => D.bk (σ'.set i none) H', ct := fun σ' H' => D.ct (σ'.set i none) H' } (σ.set i (some (.ref a))) H
section
variable {X : Cx} {x n : Str} {c : Value} {i : Nat} {body suite : List Stmt} {b₀ : Stmt} {hds : List ExceptHandler} {np pos pos' : Pos} {tb : WX → TS} {ts : Addr → Value → Option Addr → TS}
theorem ps_try_fst (stk : X.stack = X.env :: X.outer) (hf : X.env.frame = some X.env.locals) (hN : X.N.Nodup) (hi : X.N[i]? = some n) (hln : X.env.kindOf n = some .local) (hc : Names X x c)
    (hb : ∀ (W : WX) (pn : List (Addr × Obj)) (xe : Value → Shared → Prop), Takes (X.tr pn xe) W → PassesOwn (model X.prog X.w) X.A X.env xe → PSs (X.tr pn xe) body (tb W))
    (hsu : ∀ (a : Addr) (oe : Obj) (cls : Value) (d : Option Addr) (pn : List (Addr × Obj)), Zc cls d oe → (∃ vs, oe.data = .fields vs) → PSs (X.suite a ((a, oe) :: pn)) (b₀ :: suite) (ts a cls d)) :
    PS X (.Try body (.ExceptHandler (some (.Name x np)) (some n) (b₀ :: suite) pos' :: hds) [] [] pos) (fun D σ H => tb (wFst X.K c i ts D) D σ H) := by
  refine ⟨fun pins s σ H D I h => ?_⟩
  have ok := I.ok
  have frm : X.A.frames = some (X.env :: X.outer) := by rw [ok.frames, stk]
  have isLoc : Loc X.env.scope n := .inl hln
  refine wpAny_Try_except (wpAny_mono ((hb (wFst X.K c i ts D) (X.pn ++ pins) (fun e s₁ => wpAny (model X.prog X.w) X.A (noteFrame e X.env) (fun _ s₂ => wpAny (model X.prog X.w) X.A (setFlight e none) (fun _ s₃ =>
    wpAny (model X.prog X.w) X.A (handleBy e X.env (.ExceptHandler (some (.Name x np)) (some n) (b₀ :: suite) pos' :: hds)) (SP X pins D) X.xe s₃) X.xe s₂) X.xe s₁) (fun u s' xx => ?_) PassesOwn.looking).run [] s σ H D (I.toTry _) h) (fun f s1 got => ?_) (fun e s1 he => he))
  · obtain ⟨a, B, sI, pins', σ', H', cls, d, rfl, J', nb, up, sky, na, os, ag, tst, yes⟩ := xx
    have J : Inv X pins σ' H' sI := J'.ofTry ok
    have sky' : Sky B (X.env :: X.outer) a (Zc cls d) X.env.locals s'.heap := stk ▸ sky
    show wpAny (model X.prog X.w) X.A (noteFrame (.ref a) X.env) _ _ _
    refine Sky.land Zc.steady frm hf sky' fun h3 fl3 up3 => ?_
    have J3 : Inv X pins σ' H' { s' with heap := h3 } := J.landed nb fl3.1 (up.trans up3) os ag
    obtain ⟨oe3, vs3, he3, hz3, hd3⟩ := fl3.there
    have notFr : a ∉ frs (X.env :: X.outer) := fun hm => by
      obtain ⟨_, o', e', hnf⟩ := fl3.2.2.1.mem hm
      rw [he3] at e'
      cases e'
      exact hnf _ hd3
    have nL : a ≠ X.env.locals := fun z => notFr (List.mem_filterMap.mpr ⟨X.env, List.mem_cons_self, by rw [hf, z]⟩)
    have nF : a ∉ X.fs := fun hm => by
      obtain ⟨e, he, q⟩ := List.mem_filterMap.mp hm
      exact notFr (List.mem_filterMap.mpr ⟨e, List.mem_cons_of_mem _ he, q⟩)
    have S3 := J3.suite he3 hd3 na nL nF
    refine wpAny_handleBy_cons (codeAny_handlers_test ?_) (by intro q; cases q)
    have LT : PySem.W.Looks (model X.prog X.w) h3 (typeOf (.ref a)) cls := fun A Q E s k q => wpAny_typeOf_ref (k _ _ he3) (by rw [hz3.1]; exact q)
    have LM := PySem.W.exm_one (M := model X.prog X.w) (J3.kIn) LT tst
    have test : ∀ {Q : Value → Shared → Prop} {E : Value → Shared → Prop}, Q c { s' with heap := h3 } → wpAny (model X.prog X.w) (X.A.mark (some (.ref a))) (eval (.Name x np) X.env) Q E { s' with heap := h3 } := fun {Q E} q => by
      obtain ⟨hg, hdbg, hm | ⟨hm, hv, hnn⟩⟩ := hc
      · exact ld_glob (X := X.suite a ((a, oe3) :: (X.pn ++ pins))) S3 hg hm q hdbg
      · exact ld_blt (X := X.suite a ((a, oe3) :: (X.pn ++ pins))) S3 hg hm hv q hnn hdbg
    refine test (LM.here ?_)
    refine codeAny_handlers_suite_as ?_
    refine HandSPX.lands_againZ fl3 fun h4 fl4 up4 => ?_
    have J4 : Inv X pins σ' H' { s' with heap := h4 } := J.landed nb fl4.1 ((up.trans up3).trans up4) os ag
    obtain ⟨oe4, vs4, he4, hz4, hd4⟩ := fl4.there
    have S4 := J4.suite he4 hd4 na nL nF
    refine store_ok (X := X.suite a ((a, oe4) :: (X.pn ++ pins))) (v := .ref a) S4 hN hi isLoc rfl (fun s5 S5 => ?_) (.inr hln)
    refine wpAny_mono ((hsu a oe4 cls d (X.pn ++ pins) hz4 ⟨_, hd4⟩).run [] s5 _ H' _ S5 (yes a na)) (fun f s6 got => ?_) (fun _ _ z => z.elim)
    have done : ∀ {σ6 : St} {H6 : Hp} {Q : Shared → Prop}, Inv (X.suite a ((a, oe4) :: (X.pn ++ pins))) [] σ6 H6 s6 → (∀ s7, Inv X pins (σ6.set i none) H6 s7 → Q s7) →
        wpAny (model X.prog X.w) X.A (do bindName X.env n .none; unbindBehindTheSuite X.env n pos') (fun _ s7 => Q s7) X.xe s6 := fun S6 hq => gone_ok (S6.unsuite ok) hN hi hln hq
    match f, got with
    | .next, ⟨_, _, S6, q6⟩ => exact done S6 fun s7 J7 => ⟨_, _, J7, q6⟩
    | .brk, ⟨_, _, S6, q6⟩ => exact done S6 fun s7 J7 => ⟨_, _, J7, q6⟩
    | .cont, ⟨_, _, S6, q6⟩ => exact done S6 fun s7 J7 => ⟨_, _, J7, q6⟩
    | .ret u, ⟨_, _, _, S6, r6, q6⟩ => exact done S6 fun s7 J7 => ⟨_, _, _, J7, r6, q6⟩
  · match f, got with
    | .next, ⟨_, _, J', q⟩ => exact wpAny_execs_nil ⟨_, _, J'.ofTry ok, q⟩
    | .brk, ⟨_, _, J', q⟩ => exact ⟨_, _, J'.ofTry ok, q⟩
    | .cont, ⟨_, _, J', q⟩ => exact ⟨_, _, J'.ofTry ok, q⟩
    | .ret u, ⟨_, _, _, J', r, q⟩ => exact ⟨_, _, _, J'.ofTry ok, r, q⟩
end
/-- an own class whose __init__ is ValueError's -/
structure VeBase (K : PySem.W.Frag) (C : Addr) : Prop where
  rd : PySem.W.readsIn K C (.type "type") = true
  ga : PySem.W.specialIn K (.ref C) "__getattribute__" = some (some (.builtin "type.__getattribute__"))
  ini : PySem.W.findCls K (.ref C) (.type "type") "__init__" = some (.val (.builtin "ValueError.__init__"))
section
variable {X : Cx} {e : Expr} {es : List Expr} {ta : TA} {p1 p2 pos : Pos} {x : Str} {B : Addr}
/-- B.__init__(self, ..) -/
theorem pe_binit {pl : Sem Bool} (hm : X.mg x = some (.ref B)) (hB : VeBase X.K B) (ha : PA X (e :: es) ta) (hg : Gl X x := by rfl) (hdb : (x == ("__debug__" : Str)) = false := by decide)
    (hc : eval (.Call (.Attribute (.Name x p1) "__init__" p2) (e :: es) [] pos) X.env = (do
      let ov ← eval (.Name x p1) X.env
      standAt p2.atName
      let (f, first) ← holding [ov] (getMethod ov "__init__" pl)
      callWith pos f first (backTo pos (starEach (e :: es) X.env)) (backToKw pos (keywordEach [] X.env))) := by rfl)
    (he : starEach (e :: es) X.env = (false, eval e X.env) :: starEach es X.env := by rfl) (hpl : (backTo pos (starEach es X.env)).any (·.1) = false := by rfl) :
    PE X (.Call (.Attribute (.Name x p1) "__init__" p2) (e :: es) [] pos) (tVeI X.K ta) := by
  refine ⟨fun pins s σ H Q I h => ?_⟩
  refine PySem.W.methodCall_KW (ld_glob I hg hm ?_ hdb) hc
  refine PySem.W.method_cls I.kIn hB.ga (PySem.W.cls_value I.kIn hB.rd hB.ini (by decide +kernel) ?_)
  show wpAny _ _ (callWith pos (Value.builtin "ValueError.__init__") [] (backTo pos (starEach (e :: es) X.env)) []) _ _ _
  refine PyProof.Rows.callWith_method1 (thn (ha.run pos pins _ σ H _ (I.tok _) h) fun us s1 ⟨vs, H1, I1, r1, a, C, ws, ev, hl, T, ea, q⟩ => ?_) he hpl
  subst ev
  cases r1 with
  | @cons _ u0 _ ur ra rw' =>
    obtain rfl : u0 = Value.ref a := ra
    exact oinit_ok T I1 ea (by rw [← Paired.length rw', sizeLine_eq]; omega) fun s' J => ⟨.non, H1, J, rfl, q⟩
end
end HX
set_option Elab.async false
set_option linter.all false
set_option maxRecDepth 100000
set_option maxHeartbeats 3200000
/-! set(xs) of a list of keys of one kind (texts), len of it. -/
namespace HX
open PySem PySem.Spec L2
open PyProof.Rows hiding St
section
variable {α : Type} [DecidableEq α]
/-- each thing once, by its first coming -/
def once (acc : List α) (x : α) : List α := if x ∈ acc then acc else acc ++ [x]
def onces (xs : List α) : List α := xs.foldl once []
theorem mem_once {acc : List α} {x y : α} : y ∈ once acc x ↔ y ∈ acc ∨ y = x := by
  unfold once
  split
  · rename_i h
    exact ⟨.inl, fun z => z.elim id fun e => e ▸ h⟩
  · simp
theorem nodup_once {acc : List α} {x : α} (h : acc.Nodup) : (once acc x).Nodup := by
  unfold once
  split
  · exact h
  · rename_i hx
    rw [List.nodup_append]
    exact ⟨h, by simp, fun a ha b hb e => hx (by rw [List.mem_singleton.mp hb] at e; exact e ▸ ha)⟩
theorem onces_acc : ∀ (xs acc : List α), acc.Nodup → (xs.foldl once acc).Nodup ∧ (∀ y, y ∈ xs.foldl once acc ↔ y ∈ acc ∨ y ∈ xs) ∧ (xs.foldl once acc).length ≤ acc.length + xs.length
  | [], acc, h => ⟨h, by simp, Nat.le_refl _⟩
  | x :: xs, acc, h => by
    obtain ⟨h1, h2, h3⟩ := onces_acc xs (once acc x) (nodup_once h)
    refine ⟨h1, fun y => ?_, ?_⟩
    · rw [List.foldl_cons, h2 y, mem_once, List.mem_cons, or_assoc]
    · have : (once acc x).length ≤ acc.length + 1 := by
        unfold once
        split <;> simp
      rw [List.foldl_cons, List.length_cons]
      omega
theorem onces_nodup (xs : List α) : (onces xs).Nodup := (onces_acc xs [] .nil).1
theorem mem_onces {xs : List α} {y : α} : y ∈ onces xs ↔ y ∈ xs := by
  have := (onces_acc xs [] .nil).2.1 y
  simpa [onces] using this
theorem onces_le (xs : List α) : (onces xs).length ≤ xs.length := by
  have := (onces_acc xs [] .nil).2.2
  simpa [onces] using this
theorem onces_self : ∀ (xs acc : List α), (acc ++ xs).Nodup → xs.foldl once acc = acc ++ xs
  | [], acc, _ => by simp
  | x :: xs, acc, h => by
    have hx : x ∉ acc := fun hm => by
      rw [List.nodup_append] at h
      exact h.2.2 x hm x List.mem_cons_self rfl
    rw [List.foldl_cons]
    have e : once acc x = acc ++ [x] := if_neg hx
    rw [e, onces_self xs (acc ++ [x]) (by simpa using h), List.append_assoc]
    rfl
/-- as many as there are: just where none comes twice -/
theorem nodup_len : ∀ (l D : List α), l.Nodup → (∀ x ∈ l, x ∈ D) → l.length ≤ D.length
  | [], _, _, _ => Nat.zero_le _
  | x :: l, D, hn, hs => by
    obtain ⟨h1, h2⟩ := List.nodup_cons.mp hn
    have hx : x ∈ D := hs x List.mem_cons_self
    have ih := nodup_len l (D.erase x) h2 fun y hy => (List.mem_erase_of_ne (by rintro rfl; exact h1 hy)).2 (hs y (List.mem_cons_of_mem _ hy))
    have e := List.length_erase_of_mem hx
    have hp : 0 < D.length := List.length_pos_of_mem hx
    rw [List.length_cons]
    omega
theorem onces_len (xs : List α) : (onces xs).length = xs.length ↔ xs.Nodup := by
  constructor
  · intro e
    induction xs with
    | nil => exact .nil
    | cons x xs ih =>
      have key : ∀ z : List α, (onces z).length = z.length → ∀ a b : List α, z = a ++ b → (onces b).length = b.length := fun z hz a b hab => by
        have h1 := onces_le b
        have h2 : (onces z).length ≤ a.length + (onces b).length := by
          have := nodup_len (onces z) (a ++ onces b) (onces_nodup z) fun y hy => by
            have := mem_onces.mp hy
            rw [hab] at this
            rcases List.mem_append.mp this with h | h
            · exact List.mem_append_left _ h
            · exact List.mem_append_right _ (mem_onces.mpr h)
          rwa [List.length_append] at this
        rw [hz, hab, List.length_append] at h2
        omega
      have hxs := ih (key _ e [x] xs rfl)
      refine List.nodup_cons.mpr ⟨fun hx => ?_, hxs⟩
      have h2 := nodup_len (onces (x :: xs)) xs (onces_nodup _) fun y hy => by
        rcases List.mem_cons.mp (mem_onces.mp hy) with h | h
        · exact h ▸ hx
        · exact h
      rw [e, List.length_cons] at h2
      omega
  · intro h
    unfold onces
    rw [onces_self xs [] (by simpa using h)]
    rfl
end
section
variable {prog : Program} {w : World} {Kt : Type} [DecidableEq Kt] {knd : KeyKind prog w Kt}
/-- the keys met before turn i -/
def metK (val : Nat → Kt) (i : Nat) : List Kt := onces ((List.range i).map val)
theorem metK_succ (val : Nat → Kt) (i : Nat) : metK val (i + 1) = once (metK val i) (val i) := by
  unfold metK onces
  rw [List.range_succ, List.map_append, List.foldl_append]
  rfl
theorem setOf_cast {h : Heap} {a : Addr} {S S' : Kt → Bool} {n n' : Nat} (hS : h.SetOf knd a S n) (e : ∀ k, S k = S' k) (en : n = n') : h.SetOf knd a S' n' := by
  obtain rfl : S = S' := funext e
  exact en ▸ hS
variable {A : Around} {R : Result → Shared → Prop} {It : Addr} {fp wr : List Addr} {G : Array GenState → Array GenState → Prop} {n : Nat} {P : Nat → Value → Prop} {St : Nat → Shared → Prop}
theorem code_set_loop (W : WalksS prog w A.in1 It fp wr G n P St) (a : Addr) (hf : a ∉ fp) (val : Nat → Kt) (hval : ∀ i v, P i v → knd.is (val i) v = true ∧ v.scannable = true) (hb : n + 1 < scanBound) :
    ∀ (k i : Nat) (s : Shared), n - i = k → i ≤ n → St i s → s.heap.SetOf knd a (fun y => decide (y ∈ metK val i)) (metK val i).length →
      (∀ s', Moved (a :: wr) G s s' → s'.heap.SetOf knd a (fun y => decide (y ∈ metK val n)) (metK val n).length → R (.ok (.ret .none)) s') →
      codeAny (model prog w) A (.builtin "set.update.loop" ⟨[.ref a, .ref It], []⟩) R s := by
  have hw : a ∉ wr := fun h => hf (W.sub _ h)
  have hsub : ∀ b ∈ wr, b ∈ a :: wr := fun b hb => List.mem_cons_of_mem _ hb
  have here : ∀ {s s' : Shared} {S : Kt → Bool} {m : Nat}, s.heap.SetOf knd a S m → Moved wr G s s' → s'.heap.SetOf knd a S m := fun hS hm => by
    obtain ⟨o, es, ep, t, ho, rest⟩ := hS
    exact ⟨o, es, ep, t, hm.heap a _ hw ho, rest⟩
  intro k
  induction k with
  | zero =>
    intro i s hk hi hst hS hR
    obtain rfl : i = n := by omega
    refine codeAny_builtin PyProof.Rows.F.entry_set_update_loop ?_
    rw [Around.under_plainId PyProof.Rows.F.plain_set_update_loop _]
    show wpAny _ A.in1 (pyNext (.ref It) >>= _) _ _ s
    refine wpAny_bind (W.done s _ _ hst fun s' hm => ?_)
    show wpAny _ A.in1 (ret Value.none) _ _ s'
    exact wpAny_pure (hR s' (hm.mono hsub) (here hS hm))
  | succ k ih =>
    intro i s hk hi hst hS hR
    have hlt : i < n := by omega
    refine codeAny_builtin PyProof.Rows.F.entry_set_update_loop ?_
    rw [Around.under_plainId PyProof.Rows.F.plain_set_update_loop _]
    show wpAny _ A.in1 (pyNext (.ref It) >>= _) _ _ s
    refine wpAny_bind (W.item i s _ _ hlt hst fun v s' hP hst' hm => ?_)
    obtain ⟨hv, hsc⟩ := hval i v hP
    have hS' := here hS hm
    show wpAny _ A.in1 (holding [v] (setAdd a v) >>= _) _ _ s'
    refine wpAny_bind (wpAny_holding ?_)
    unfold setAdd
    refine wpAny_holding ?_
    refine wpAny_bind (knd.pyHash (k := val i) hv ?_)
    have room : (metK val i).length + 1 < scanBound := by
      have h1 := onces_le ((List.range i).map val)
      have h2 : (metK val i).length ≤ i := by simpa [metK] using h1
      omega
    refine wpAny_setAddHashed_of (knd := knd) (s := { s' with toks := s'.toks + 1 }) hv hsc hS' room fun h' sb hS2 => ?_
    have hSi : h'.SetOf knd a (fun y => decide (y ∈ metK val (i + 1))) (metK val (i + 1)).length :=
      setOf_cast hS2 (fun y => by rw [metK_succ, ← Bool.decide_or]; exact decide_eq_decide.mpr mem_once.symm) (by
        rw [metK_succ]
        unfold once
        by_cases hm : val i ∈ metK val i
        · simp [hm]
        · simp [hm])
    refine wpAny_pure ⟨plainId_quiet PyProof.Rows.F.plain_set_update_loop _, ih (i + 1) _ (by omega) hlt (W.frame _ s' _ _ hst' (Nat.le_succ _) fun b hb o e => ?_) hSi fun s'' hm'' hS'' => ?_⟩
    · rw [sb.2 b (fun h : b = a => hf (by rw [← h]; exact hb))]
      exact e
    · refine hR s'' (Moved.trans W.gtrans ((hm.mono hsub).then_heap (Nat.le_succ _) fun b o hb e => ?_) hm'') hS''
      rw [sb.2 b (fun h : b = a => hb (by rw [h]; exact List.mem_cons_self))]
      exact e
end
section
variable {prog : Program} {w : World} {A : Around} {E : Value → Shared → Prop} {s : Shared} {Kt : Type} [DecidableEq Kt] {knd : KeyKind prog w Kt}
theorem call_set_keys {l : Addr} {items : Array Value} {val : Nat → Kt} {Q : Value → Shared → Prop} (hh : A.handled = none) (hl : s.heap.IsList l items) (hv : ∀ (i : Nat) v, items[i]? = some v → knd.is (val i) v = true ∧ v.scannable = true)
    (hb : items.size + 1 < scanBound)
    (h : ∀ (h' : Heap) (tk : Nat), h'.SetOf knd s.heap.objs.size (fun y => decide (y ∈ metK val items.size)) (metK val items.size).length →
      (∀ b o, b < s.heap.objs.size → s.heap.get? b = some o → h'.get? b = some o) → Q (.ref s.heap.objs.size) { s with heap := h', toks := tk }) :
    wpAny (model prog w) A (call (.type "set") [.ref l]) Q E s := by
  obtain ⟨c, tl, hmro⟩ := PySem.F.called_set.mro
  have hmade := PySem.F.called_set.made
  have hsub := PySem.F.called_set.sub
  refine wpAny_call (codeAny_of_tree ?_)
  show wpAny _ _ (callAny (.type "set") _) _ _ _
  refine wpAny_pure ⟨Code.quiet_builtin _ (by decide +kernel), codeAny_builtin PySem.F.entry_type_call ?_⟩
  rw [Around.under_plain (weight_type_call_type "set" [.ref l] []) rfl]
  have h1 := PySem.F.called_set.notType
  have h2 := PySem.F.called_set.canCreate
  have hct := PySem.F.typeCall_set_1 (.ref l)
  repeat (any_goals (first | assumption | wp_step))
  refine codeAny_mono (code_set_new_1 (.ref l) (E := E) (Q₁ := fun obj s₁ => ∃ led : Bool, obj = .ref s.heap.objs.size ∧ s₁ = { s with heap := s.heap.push { cls := .type "set", dict := none, data := .set #[] 0 (.fresh 0 0 led) } }) fun led => ⟨led, rfl, rfl⟩) fun r s₁ hr => ?_
  match r, hr with
  | .error e, hr => exact hr
  | .ok .next, hr => exact hr.elim
  | .ok .brk, hr => exact hr.elim
  | .ok .cont, hr => exact hr.elim
  | .ok (.ret obj), hr =>
    obtain ⟨led, rfl, rfl⟩ := hr
    have hS : (s.heap.push { cls := .type "set", dict := none, data := .set #[] 0 (.fresh 0 0 led) }).get? s.heap.objs.size = some { cls := .type "set", dict := none, data := .set #[] 0 (.fresh 0 0 led) } := Heap.get?_push_size _ rfl
    have hT : Shared.TypeIs { s with heap := s.heap.push { cls := .type "set", dict := none, data := .set #[] 0 (.fresh 0 0 led) } } (.ref s.heap.objs.size) "set" := ⟨_, hS, rfl⟩
    have hli := PySem.F.called_set.init.lookup
    have hbi := PySem.F.called_set.init.bind (.ref s.heap.objs.size)
    repeat (any_goals (first | assumption | wp_step))
    refine codeAny_mono (codeAny_call_builtin (R := wants (fun r s₂ => r = .none ∧ ∃ h' tk, s₂ = { s with heap := h', toks := tk } ∧
        h'.SetOf knd s.heap.objs.size (fun y => decide (y ∈ metK val items.size)) (metK val items.size).length ∧
        (∀ b o, b < s.heap.objs.size → s.heap.get? b = some o → h'.get? b = some o)) E) PySem.F.called_set.init.plain PySem.F.entry_set_init (check_set_init_1 hT ?_)) fun r₂ s₂ hr₂ => ?_
    · obtain ⟨ol, hol, hcl, nl, hdl⟩ := hl
      obtain ⟨ocls, odict, odata, oslots⟩ := ol
      simp only at hcl hdl
      subst hcl hdl
      have hol' : (s.heap.push { cls := .type "set", dict := none, data := .set #[] 0 (.fresh 0 0 led) }).get? l = some { cls := .type "list", dict := odict, data := .seq items nl, slots := oslots } := Heap.get?_push_of_some _ hol
      have hsls := PySem.F.sub_list_set
      have hslf := PySem.F.sub_list_frozenset
      have hne : (Value.type "list" == Value.type "dict") = false := by decide
      have hl1 : (s.heap.push { cls := .type "set", dict := none, data := .set #[] 0 (.fresh 0 0 led) }).IsList l items := ⟨_, hol', rfl, nl, rfl⟩
      unfold Builtin.«set.__init__» noKeywords Builtin.Frozenset.updateFrom
      generalize hPI : pyIter = PI
      wp_walk
      subst hPI
      refine wpAny_pyIter_list hl1 ?_
      refine wpAny_bind (wpAny_runValue ?_)
      have hlS : l < s.heap.objs.size := Heap.lt_size hol
      have hh3 : A.in1.in1.in1.handled = none := by simp [hh]
      have hneI : l ≠ (s.heap.push { cls := .type "set", dict := none, data := .set #[] 0 (.fresh 0 0 led) }).objs.size := by
        rw [Heap.size_push]
        exact Nat.ne_of_lt (Nat.lt_succ_of_lt hlS)
      have hSf : s.heap.objs.size ∉ [(s.heap.push { cls := .type "set", dict := none, data := .set #[] 0 (.fresh 0 0 led) }).objs.size, l] := by
        rw [Heap.size_push]
        simp only [List.mem_cons, List.mem_singleton, List.not_mem_nil, or_false, not_or]
        exact ⟨Nat.ne_of_lt (Nat.lt_succ_self _), Nat.ne_of_gt hlS⟩
      refine code_set_loop ((Walks.list hh3 _ l hneI items).toS) s.heap.objs.size hSf val hv hb (items.size - 0) 0 _ (by omega) (Nat.zero_le _)
        ⟨⟨_, Heap.get?_push_size _ rfl, rfl, rfl⟩, (hl1.push _)⟩ ?hS0 ?hR
      case hS0 =>
        have hget : ((s.heap.push { cls := .type "set", dict := none, data := .set #[] 0 (.fresh 0 0 led) }).push { cls := .type "list_iterator", data := .fields #[.ref l, .int 0 0] }).get? s.heap.objs.size
            = some { cls := .type "set", dict := none, data := .set #[] 0 (.fresh 0 0 led) } := Heap.get?_push_of_some _ hS
        exact setOf_cast ((PyProof.Rows.setObjOf_fresh (knd := knd) led).setOf hget (by unfold scanBound; omega)) (fun y => by simp [metK, onces]) rfl
      case hR =>
        intro s' hm hS'
        obtain ⟨h', g', d', tk', os'⟩ := s'
        obtain rfl : g' = s.gens := hm.gens
        obtain rfl : d' = s.drawn := hm.drawn
        obtain rfl : os' = s.os := hm.os
        show wpAny _ _ _ _ _ _
        refine wpAny_pure ?_
        show wpAny _ _ (ret Value.none) _ _ _
        refine wpAny_pure ⟨rfl, h', tk', rfl, hS', fun b o hb e => ?_⟩
        have hb1 : b ≠ s.heap.objs.size := Nat.ne_of_lt hb
        have hb2 : b ≠ (s.heap.push { cls := .type "set", dict := none, data := .set #[] 0 (.fresh 0 0 led) }).objs.size := by
          rw [Heap.size_push]
          exact Nat.ne_of_lt (Nat.lt_succ_of_lt hb)
        exact hm.heap b o (by simp only [List.mem_cons, List.mem_singleton, List.not_mem_nil, or_false, not_or]; exact ⟨hb1, hb2⟩) (Heap.get?_push_of_some _ (Heap.get?_push_of_some _ e))
    · match r₂, hr₂ with
      | .error e, hr₂ => exact hr₂
      | .ok .next, hr₂ => exact hr₂.elim
      | .ok .brk, hr₂ => exact hr₂.elim
      | .ok .cont, hr₂ => exact hr₂.elim
      | .ok (.ret r), hr₂ =>
        obtain ⟨rfl, h', tk, rfl, hS', hk'⟩ := hr₂
        repeat (any_goals (first | assumption | wp_step))
        exact h _ _ hS' hk'
end
/-- the kind of texts and ints -/
def tLenSetS (K : PySem.W.Frag) (ta : TE) : TE := fun σ H Q => ta σ H fun x H1 => ∃ (l : Addr) (xs : List Str), x = V.ref l ∧ SqL K H1 l (xs.map V.str) ∧ xs.length < 64 ∧ Q (.int ((onces xs).length : Nat)) H1
theorem metK_list {α : Type} [DecidableEq α] (xs : List α) (d : α) : metK (fun i => xs.getD i d) xs.length = onces xs := by
  unfold metK
  congr 1
  refine List.ext_getElem (by simp) fun i h1 h2 => ?_
  simp at h1
  simp [h1]
section
variable {X : Cx}
theorem pe_lenSetS {a : Expr} {ta : TE} {p p2 q pos : Pos} (hm : X.mg "len" = none) (hm2 : X.mg "set" = none) (ha : PE X a ta) (hc : X.calm = true := by rfl) (hg : Gl X "len" := by rfl) (hg2 : Gl X "set" := by rfl)
    (na : starEach [a] X.env = (false, eval a X.env) :: starEach [] X.env := by rfl) : PE X (.Call (.Name "len" p) [.Call (.Name "set" p2) [a] [] q] [] pos) (tLenSetS X.K ta) := by
  refine ⟨fun pins s σ H Q I h => ?_⟩
  refine Call_ (ld_blt I hg hm PySem.boot_len ?_)
  refine PyProof.Rows.callWith_builtin1 (PyProof.Rows.args_cons ?_ rfl) rfl rfl
  refine Call_ (ld_blt I hg2 hm2 PyProof.Rows.boot_set ?_)
  refine PyProof.Rows.callWith_type1 (PyProof.Rows.args_cons (thn (ha.run pins s σ H _ I h) fun v s1 ⟨x, H1, I1, r1, q1⟩ => PyProof.Rows.args_nil ?_) na) na rfl
  obtain ⟨l, xs, rfl, hq, h1, q1⟩ := q1
  cases r1
  obtain ⟨its, r, pl, hz⟩ := I1.list hq
  have hl : its.length = xs.length := by rw [← r.length, List.length_map]
  refine call_set_keys (knd := mixKind X.prog X.w) (val := fun i => (Sum.inr (xs.getD i Str.empty) : Key)) (I1.ok.hd hc) pl.isList (fun i v hv => ?_) (by rw [List.size_toArray]; unfold scanBound; omega) fun h' tk hS hk => ?_
  · have hv' : its[i]? = some v := by simpa using hv
    have hi : i < xs.length := by
      have := (List.getElem?_eq_some_iff.mp hv').1
      omega
    obtain ⟨u, hu, ru⟩ := r.get (show (xs.map V.str)[i]? = some (V.str xs[i]) by simp [hi])
    rw [hv'] at hu
    obtain rfl := Option.some.inj hu
    obtain ⟨t, rfl⟩ := ru
    have e : xs.getD i Str.empty = xs[i] := by simp [hi]
    show keyIs (Sum.inr (xs.getD i Str.empty)) (Value.str xs[i] t) = true ∧ _
    rw [e]
    exact ⟨keyIs_str _ _, rfl⟩
  · have e0 : metK (fun i => (Sum.inr (xs.getD i Str.empty) : Key)) its.toArray.size = onces (xs.map Sum.inr) := by
      rw [List.size_toArray, hl]
      have := metK_list (xs.map (Sum.inr : Str → Key)) (Sum.inr Str.empty)
      rw [List.length_map] at this
      rw [← this]
      congr 1
      funext i
      simp [List.getD, List.getElem?_map]
    have inj : ∀ (ys acc : List Str), (ys.map (Sum.inr : Str → Key)).foldl once (acc.map Sum.inr) = (ys.foldl once acc).map Sum.inr := by
      intro ys
      induction ys with
      | nil => intro acc; rfl
      | cons y ys ih =>
        intro acc
        rw [List.map_cons, List.foldl_cons, List.foldl_cons, ← ih]
        congr 1
        unfold once
        by_cases hm : y ∈ acc
        · have : (Sum.inr y : Key) ∈ acc.map Sum.inr := List.mem_map.mpr ⟨y, hm, rfl⟩
          rw [if_pos hm, if_pos this]
        · have : ¬ (Sum.inr y : Key) ∈ acc.map Sum.inr := fun z => by
            obtain ⟨y', h1, h2⟩ := List.mem_map.mp z
            exact hm (Sum.inr.inj h2 ▸ h1)
          rw [if_neg hm, if_neg this, List.map_append]
          rfl
    have e1 : (onces (xs.map (Sum.inr : Str → Key))).length = (onces xs).length := by
      have := inj xs []
      unfold onces
      rw [List.map_nil] at this
      rw [this, List.length_map]
    rw [e0, e1] at hS
    refine PyProof.Rows.args_nil ?_
    have hle := onces_le xs
    obtain ⟨o, es, ep, t, ho, hex, hd, _, _, _, hf, hn⟩ := hS
    have I2 : Inv X pins σ H1 { s1 with heap := h', toks := tk } := I1.kept fun b o e => hk b o (Heap.lt_size e) e
    refine call_len_set ho hex hd hf (by rw [hn] <;> omega) ⟨.int ((onces xs).length : Nat), H1, I2.tok _, ⟨_, by rw [hn]⟩, q1⟩
end
end HX
set_option Elab.async false
set_option linter.all false
set_option maxRecDepth 100000
set_option maxHeartbeats 3200000
/-! sorted(s), s a set of tuples of ints: of any width, of any ints. -/
namespace HX
open PySem PySem.Spec L2
open PyProof.Rows hiding St
def encT (q : Addr × List Int) : PyData := .tuple (q.2.map .int)
theorem alike_encT (q r : Addr × List Int) : PySem.W.alike (encT q) (encT r) = true := by
  unfold encT
  simp only [PySem.W.alike]
  exact PySem.W.alike_ints q.2 r.2
theorem depth_encT (q : Addr × List Int) : (encT q).depth ≤ 1 := by
  unfold encT
  rw [PyData.depth, PySem.W.depth_ints]
  omega
theorem dataLt_encT (q r : Addr × List Int) : PySem.W.dataLt (encT q) (encT r) = decide (q.2 < r.2) := by
  unfold encT
  rw [PySem.W.dataLt_tuple]
  exact PySem.W.dataLt_ints q.2 r.2
theorem dataLe_encT : PySem.W.dataLe false encT = fun q r => decide (q.2 ≤ r.2) := by
  funext q r
  rw [PySem.W.dataLe_eq]
  show (!PySem.W.dataLt (encT r) (encT q)) = _
  rw [dataLt_encT]
  by_cases h : r.2 < q.2
  · have : ¬ q.2 ≤ r.2 := fun z => z h
    simp [h, this]
  · have : q.2 ≤ r.2 := h
    simp [h, this]
section
variable {prog : Program} {w : World} {A : Around} {s : Shared}
/-- one key, or none, sorts whatever it is -/
theorem sortsAt_few {vs : List Value} {ds : List PyData} (e : PySem.W.EachIs (fun v d => ∃ as, Reads s.heap v d as) vs ds) (hal : PySem.W.AllAlike ds) (hn : ∀ d ∈ ds, d ≠ .none) (hf : vs.length < 2) (hu : ∀ d, d ∈ ds → A.units + d.depth < cLine) :
    PySem.W.SortsAt prog w A s (PySem.W.dataKind s.heap ds) vs := by
  refine ⟨fun v hv => ?_, PyProof.Rows.general', fun E x y a b Q ha hb hq => ?_, fun h2 => absurd h2 (by omega)⟩
  · obtain ⟨d, hd, as, r⟩ := e.left v hv
    exact ⟨_, PySem.W.dataKind_some hal hd r⟩
  · obtain ⟨d, as, hd, ra, rfl⟩ := PySem.W.dataKind_inv ha
    obtain ⟨d', bs, hd', rb, rfl⟩ := PySem.W.dataKind_inv hb
    show wpAny _ _ (PyProof.Rows.oneLt' false x y) _ _ _
    exact PySem.W.oneLt_alike (fun z => nomatch z) ra rb (hal d hd d' hd') (hn d hd) (Nat.lt_of_le_of_lt (Nat.add_le_add_left (Nat.min_le_left _ _) _) (hu d hd)) hq
end
theorem perm_lift {α β : Type} {f : α → β} : ∀ {l l' : List β}, l.Perm l' → ∀ m : List α, l' = m.map f → ∃ m' : List α, m'.Perm m ∧ l = m'.map f := by
  intro l l' h
  induction h with
  | nil =>
    intro m e
    cases m with
    | nil => exact ⟨[], .refl _, rfl⟩
    | cons a m => cases e
  | cons x _ ih =>
    intro m e
    cases m with
    | nil => cases e
    | cons a m =>
      injection e with e1 e2
      obtain ⟨m', p, e'⟩ := ih m e2
      exact ⟨a :: m', p.cons a, by rw [List.map_cons, e1, e']⟩
  | swap x y l =>
    intro m e
    match m, e with
    | a :: b :: m, e =>
      injection e with e1 e2
      injection e2 with e3 e4
      exact ⟨b :: a :: m, .swap _ _ _, by rw [List.map_cons, List.map_cons, e1, e3, e4]⟩
  | trans _ _ ih1 ih2 =>
    intro m e
    obtain ⟨m2, p2, e2⟩ := ih2 m e
    obtain ⟨m1, p1, e1⟩ := ih1 m2 e2
    exact ⟨m1, p1.trans p2, e1⟩
theorem each_self {α β : Type} {R : β → α → Prop} (f : α → β) : ∀ {l : List α}, (∀ a ∈ l, R (f a) a) → PySem.W.EachIs R (l.map f) l
  | [], _ => .nil
  | a :: l, h => .cons (h a List.mem_cons_self) (each_self f fun b hb => h b (List.mem_cons_of_mem _ hb))
theorem each_refs {α : Type} {g : α → Addr} : ∀ {vs : List Value} {l : List α}, PySem.W.EachIs (fun v a => v = Value.ref (g a)) vs l → vs = l.map fun a => Value.ref (g a)
  | _, _, .nil => rfl
  | _, _, .cons h t => by rw [h, each_refs t]; rfl
/-- a tuple of ints reads as data -/
theorem reads_isT {P : Program} {w : World} {h : Heap} {q : Addr × List Int} (x : IsT P w h q.2 q.1) : ∃ as, PySem.Reads h (.ref q.1) (encT q) as := by
  obtain ⟨b, items, e, ⟨o, ho, hc, n, hd⟩, hi⟩ := tupInts_of x
  injection e with e
  subst e
  have : ∀ {vs : List Value} {ns : List Int}, PyProof.Rows.IntsAre vs ns → ∃ as, PySem.ReadsAll h vs (ns.map PyData.int) as := by
    intro vs ns hi
    induction hi with
    | nil => exact ⟨_, .nil⟩
    | cons n t _ ih =>
      obtain ⟨as, r⟩ := ih
      exact ⟨_, .cons (.int n t) r⟩
  obtain ⟨as, r⟩ := this hi
  exact ⟨_, .tuple ho hc hd r⟩
section
variable {P : Program} {w : World} {A : Around} {E : Value → Shared → Prop} {s : Shared}
theorem sorted_setS {a : Addr} {L : List (Addr × List Int)} {es : Array (Int × Value)} {ep : Nat} {t : SetTable} {Q : Value → Shared → Prop} (R : SetTR P w s.heap a L es ep t) (hh : A.handled = none) (hu : A.units + 64 < cLine) (hw : ∀ q ∈ L, ∀ r ∈ L, q.2.length = r.2.length)
    (hQ : ∀ s' p (out : Array Value) (c : Nat) (L' : List (Addr × List Int)), (∀ b o, s.heap.get? b = some o → s'.heap.get? b = some o) → s'.gens = s.gens → s'.os = s.os → s.heap.objs.size ≤ p →
      s'.heap.get? p = some (seqObj "list" out c) → out.toList = L'.map (fun q => Value.ref q.1) → L'.Perm L → L'.Pairwise (fun q r => q.2 ≤ r.2) → Q (.ref p) s') :
    wpAny (model P w) A (call (.builtin "sorted") [.ref a]) Q E s := by
  obtain ⟨o, ho, hex, hd⟩ := R.ob
  have hsz := R.size
  have hfew := R.few
  refine Calls.call_function_entry kind_sorted plain_sorted entry_sorted (args_sorted1 _) ?_
  unfold Builtin.«sorted»
  refine wpAny_bind (m := checkCount "sorted" 1 1 _) (wpAny_pure ?_)
  refine wpAny_bind (collect_set (A := A.in1) hh ⟨o, ho, hex.1, hd⟩ R.fits (by unfold scanBound; omega) R.tab.ris R.led fun s1 vs k1 hz g1 o1 pm => ?_)
  have hes : es.toList.map (·.2) = L.map fun q => Value.ref q.1 := by
    rw [R.rows]
    unfold rowsOf
    rw [List.map_map] <;> rfl
  rw [hes] at pm
  obtain ⟨L1, p1, rfl⟩ := perm_lift pm L rfl
  have hvl : (L1.map fun q => Value.ref q.1).length < 64 := by rw [List.length_map, p1.length_eq]; exact hfew
  refine wpAny_bind (wpAny_newList ?_ (by rw [sizeLine_eq]; omega))
  have hoL : (s1.heap.push (seqObj "list" (L1.map fun q => Value.ref q.1).toArray 0)).get? s1.heap.objs.size = some (seqObj "list" (L1.map fun q => Value.ref q.1).toArray 0) := Heap.get?_push_size _ rfl
  have kk : ∀ b u, b ≠ s1.heap.objs.size → s.heap.get? b = some u → (PySem.W.sortingHeap (s1.heap.push (seqObj "list" (L1.map fun q => Value.ref q.1).toArray 0)) s1.heap.objs.size (L1.map fun q => Value.ref q.1)).get? b = some u := fun b u hb e => by
    exact PySem.W.sortingHeap_old hb (Heap.get?_push_of_some _ (k1 b u e))
  have er : PySem.W.EachIs (fun v b => ∃ as, PySem.Reads (PySem.W.sortingHeap (s1.heap.push (seqObj "list" (L1.map fun q => Value.ref q.1).toArray 0)) s1.heap.objs.size (L1.map fun q => Value.ref q.1)) v (encT b) as) (L1.map fun q => Value.ref q.1) L1 :=
    each_self _ fun q hq => reads_isT (P := P) (w := w) (isT_keep (R.tup q (p1.mem_iff.mp hq)) fun b u e => kk b u (Nat.ne_of_lt (Nat.lt_of_lt_of_le (Heap.lt_size e) hz)) e)
  have hal : PySem.W.AllAlike (L1.map encT) := PySem.W.AllAlike.of alike_encT
  have hdep : ∀ d, d ∈ L1.map encT → A.units + 3 + d.depth < cLine := fun d hd => by
    obtain ⟨q, _, rfl⟩ := List.mem_map.mp hd
    have := depth_encT q
    omega
  have hdep2 : ∀ d, d ∈ L1.map encT → A.in1.in1.units + d.depth < cLine := fun d hd => by
    have h1 := hdep d hd
    show A.units + 1 + 1 + d.depth < cLine
    omega
  have S : PySem.W.SortsAt P w A.in1.in1 { s1 with heap := PySem.W.sortingHeap (s1.heap.push (seqObj "list" (L1.map fun q => Value.ref q.1).toArray 0)) s1.heap.objs.size (L1.map fun q => Value.ref q.1) }
      (PySem.W.dataKind (PySem.W.sortingHeap (s1.heap.push (seqObj "list" (L1.map fun q => Value.ref q.1).toArray 0)) s1.heap.objs.size (L1.map fun q => Value.ref q.1)) (L1.map encT)) (L1.map fun q => Value.ref q.1) := by
    have em := PySem.W.each_map (R := fun v d => ∃ as, PySem.Reads (PySem.W.sortingHeap (s1.heap.push (seqObj "list" (L1.map fun q => Value.ref q.1).toArray 0)) s1.heap.objs.size (L1.map fun q => Value.ref q.1)) v d as) encT er
    by_cases hfew2 : (L1.map fun q => Value.ref q.1).length < 2
    · exact sortsAt_few (s := { s1 with heap := PySem.W.sortingHeap (s1.heap.push (seqObj "list" (L1.map fun q => Value.ref q.1).toArray 0)) s1.heap.objs.size (L1.map fun q => Value.ref q.1) }) em hal (fun d hd => by
        obtain ⟨q, _, rfl⟩ := List.mem_map.mp hd
        exact fun z => nomatch z) hfew2 hdep2
    · refine PySem.W.SortsAt.data (s := { s1 with heap := PySem.W.sortingHeap (s1.heap.push (seqObj "list" (L1.map fun q => Value.ref q.1).toArray 0)) s1.heap.objs.size (L1.map fun q => Value.ref q.1) }) em hal (.inl ?_) hdep2
      intro d hd
      obtain ⟨q, hq, rfl⟩ := List.mem_map.mp hd
      have hqL := p1.mem_iff.mp hq
      cases e : q.2 with
      | cons x r => exact ⟨.int x, r.map .int, by unfold encT; rw [e]; rfl⟩
      | nil =>
        have all : ∀ r ∈ L, r.2 = [] := fun r hr => List.eq_nil_of_length_eq_zero (by rw [← hw q hqL r hr, e]; rfl)
        have nd := R.nd
        have hlen : 2 ≤ L.length := by
          rw [List.length_map, p1.length_eq] at hfew2
          omega
        exfalso
        match L, nd, all, hlen with
        | a :: b :: _, nd, all, _ =>
          rw [List.map_cons, List.map_cons] at nd
          refine (List.nodup_cons.mp nd).1 ?_
          rw [all a (by simp), all b (by simp)]
          exact List.mem_cons_self
  refine wpAny_bind (wpAny_holding (wpAny_call_entry slot_list_sort ⟨_, hoL, rfl⟩ entry_list_sort (PySem.W.list_sort_vals hoL S (by rw [sizeLine_eq]; omega) ⟨.none, rfl, ?_⟩) (args_list_sort _)))
  have ev := PySem.W.sortVals_data (R := fun v b => v = Value.ref b.1) (enc := encT) false (each_self (R := fun v b => v = Value.ref b.1) (fun q : Addr × List Int => Value.ref q.1) fun _ _ => rfl) er hal
  rw [dataLe_encT] at ev
  generalize hout : PySem.W.sortVals _ false _ _ = out at ev ⊢
  have eo := each_refs ev
  obtain ⟨c, hc⟩ := sortedHeap_at (vs := L1.map fun q => Value.ref q.1) (out := out.toArray) hoL
  refine wpAny_pure ⟨_, rfl, hQ _ s1.heap.objs.size out.toArray c (L1.mergeSort fun q r => decide (q.2 ≤ r.2)) (fun b u e => ?_) g1 o1 hz hc (by simpa using eo) ((List.mergeSort_perm _ _).trans p1) ?_⟩
  · have hlt := Heap.lt_size e
    have hne : b ≠ s1.heap.objs.size := Nat.ne_of_lt (Nat.lt_of_lt_of_le hlt hz)
    show (sortedHeap _ _ _ _).get? b = some u
    rw [sortedHeap_old hne (by rw [size_push']; exact Nat.lt_succ_of_lt (Nat.lt_of_lt_of_le hlt hz))]
    exact Heap.get?_push_of_some _ (k1 b u e)
  · have pw := List.pairwise_mergeSort (le := fun q r : Addr × List Int => decide (q.2 ≤ r.2)) (fun a b c h1 h2 => by
      simp only [decide_eq_true_eq] at h1 h2 ⊢
      exact List.le_trans h1 h2) (fun a b => by
      simp only [Bool.or_eq_true, decide_eq_true_eq]
      exact List.le_total a.2 b.2) L1
    exact pw.imp fun h => by simpa using h
end
/-- set(xs), xs a list of tuples of ints, and sorted of it: a new list of the same tuples, each once, rising -/
def rSortedS (K : PySem.W.Frag) (P : Program) (w : World) : List V → Hp → VK → Prop := fun vs H Q => ∃ (a : Addr) (L : List (Addr × List Int)), vs = [V.ref a] ∧ H a = some (SetTO P w a L) ∧ (∀ p ∈ L, SqT K H p.1 (p.2.map V.int)) ∧
  (∀ q ∈ L, ∀ r ∈ L, q.2.length = r.2.length) ∧
  ∀ (L' : List (Addr × List Int)) (p : Addr), L'.Perm L → (L'.map (·.2)).Nodup → L'.length < 64 → L'.Pairwise (fun q r => q.2 ≤ r.2) → H p = none → Q (.ref p) (upd H p (.lst (L'.map fun q => V.ref q.1)))
theorem cr_sortedS {X : Cx} (hc : X.calm = true) (hu : X.A.units + 64 < cLine) : CallR X (.builtin "sorted") (rSortedS X.K X.prog X.w) := by
  intro pins s σ H vs us Q I r h
  obtain ⟨a, L, rfl, ha, hk, hw, q⟩ := h
  have R0 : SetT0 X.prog X.w s.heap a L := (I.hok a _ ha).1
  obtain ⟨es, ep, t, R⟩ := R0.full fun p hp => I.isT (hk p hp)
  rw [Vals.ref1 r]
  refine sorted_setS R (I.ok.hd hc) hu hw fun s' p out c L' k g o hp hg hout pm pw => ?_
  have hfew : L'.length < 64 := by rw [pm.length_eq]; exact R.few
  have hlen : (L'.map fun q => V.ref q.1).length ≤ sizeLine := by rw [List.length_map, sizeLine_eq]; omega
  have hn : H p = none := I.hok.fresh hp
  have hv : Vals (L'.map fun q => V.ref q.1) out.toList := by rw [hout]; exact vals_of_refs L'
  have J : Inv X pins σ (upd H p (.lst (L'.map fun q => V.ref q.1))) { s with heap := s'.heap, gens := s'.gens, drawn := s'.drawn, toks := s'.toks } :=
    I.call (ch := []) (Un.laid k hp hn) (I.hok.laid k hp ⟨hlen, out.toList, c, hv, hg⟩) (by rw [g]; exact I.bare) (fun _ z => nomatch z)
  obtain ⟨hs', gs', ds', ts', os'⟩ := s'
  obtain rfl : os' = s.os := o
  exact ⟨.ref p, _, J, rfl, q L' p pm ((pm.map (·.2)).nodup_iff.mpr R.nd) hfew pw hn⟩
end HX
set_option Elab.async false
set_option linter.all false
set_option maxRecDepth 100000
set_option maxHeartbeats 3200000
/-! enumerate(xs, start=k); <=, < of data; o != p by the text's own __eq__; text * int; isinstance of an error against a tuple of classes. -/
namespace HX
open PySem PySem.Spec L2
open PyProof.Rows hiding St
section
variable {M : Model} {A : Around} {E : Value → Shared → Prop} {s : Shared} {env : Env}
theorem callWith_tyKw {pos : Pos} {T : String} {e : Expr} {rest : List Expr} {kws : List Keyword} {Q : Value → Shared → Prop}
    (h : wpAny M A (spliced (backTo pos (starEach (e :: rest) env))) (fun vs s₁ => wpAny M A (evalAll ((backToKw pos (keywordEach kws env)).map (·.2)))
      (fun kvs s₂ => wpAny M A (call (.type T) vs (((backToKw pos (keywordEach kws env)).filterMap (·.1)).zip kvs)) Q E s₂) E s₁) E s)
    (he : backTo pos (starEach (e :: rest) env) = (false, eval e env) :: backTo pos (starEach rest env)) (hplain : (backTo pos (starEach (e :: rest) env)).any (·.1) = false)
    (hall : (backToKw pos (keywordEach kws env)).all (·.1.isSome) = true) (hkw : (backToKw pos (keywordEach kws env)).any (·.1.isNone) = false) :
    wpAny M A (callWith pos (.type T) [] (backTo pos (starEach (e :: rest) env)) (backToKw pos (keywordEach kws env))) Q E s := by
  have key : wpAny M A (evalArgs (.type T) true (backTo pos (starEach (e :: rest) env)) (backToKw pos (keywordEach kws env))) (fun a s₁ => wpAny M A (call (.type T) ([] ++ a.pos) a.kw) Q E s₁) E s := by
    rw [he] at h ⊢
    exact PyProof.Rows.evalArgs_kwB hall h
  unfold callWith
  refine wpAny_bind (wpAny_holding (wpAny_mono key (fun a s₁ h₁ => wpAny_bind (wpAny_standAt ?_)) fun _ _ x => x))
  simp only [hplain, hkw, Bool.or_false]
  refine wpAny_bind (wpAny_pure ?_)
  exact wpAny_bind (wpAny_mono h₁ (fun r s₂ hr => wpAny_bind (wpAny_holding (wpAny_point (wpAny_pure hr)))) fun _ _ x => x)
end
/-- the list at a, each item in a new pair with its number from k on -/
def IteK (K : PySem.W.Frag) (k : Int) (a : Addr) : It :=
  ⟨fun i H => ∃ (xs : List V) (x : V), SqL K H a xs ∧ xs[i]? = some x, fun i H v H' => ∃ T x, v = .ref T ∧ H T = none ∧ H' = upd H T (.tup [.int (k + (i : Nat)), x]) ∧ ∀ xs, SqL K H a xs → xs[i]? = some x, fun i H => ∃ xs : List V, SqL K H a xs ∧ xs.length ≤ i⟩
theorem turn_enumK {P : Program} {w : World} {K : PySem.W.Frag} {elts : List Expr} {kk : Nat} {tpos : Pos} (k0 : Int) (a e it : Addr) :
    Turn P w K (.Tuple elts kk tpos) (IteK K k0 a) [e, it] e (fun i h => (∃ old, IsEnum h e it (k0 + ((i : Nat) : Int)) old) ∧ h.IsListIter it a i ∧ e ≠ it ∧ it ≠ a ∧ e ≠ a) where
  mem := by simp
  obj := fun i h st b hb => by
    obtain ⟨⟨old, he⟩, ⟨o, ho, hc, hd⟩, _⟩ := st
    rcases (by simpa using hb : b = e ∨ b = it) with z | z
    · rw [z]; exact ⟨_, he, fun v q => nomatch q⟩
    · rw [z]; exact ⟨o, ho, fun v q => by rw [hd] at q; cases q⟩
  keep := fun i h h' st k => let ⟨⟨old, he⟩, hi, hne⟩ := st; ⟨⟨old, k e (by simp) _ he⟩, hi.at fun o q => k it (by simp) o q, hne⟩
  item := by
    intro X hP hw hK hc i pins s σ H E I hf st hg
    subst hP hw hK
    obtain ⟨⟨old, he⟩, hit, hne, hia, hea⟩ := st
    obtain ⟨xs, x, hq, hx⟩ := hg
    obtain ⟨its, rv, p, hz⟩ := I.list hq
    obtain ⟨u, hu, ru⟩ := rv.get hx
    have hel : e < s.heap.objs.size := Heap.lt_size he
    have hil : it < s.heap.objs.size := by obtain ⟨_, q, _⟩ := hit; exact Heap.lt_size q
    have hlt : i < its.toArray.size := by
      have := (List.getElem?_eq_some_iff.mp hu).1
      simpa using this
    have hh : X.A.in1.in1.handled = none := by simp [I.ok.hd hc]
    refine wpAny_pyNext_enum_itemC (Draws.list (by simp [I.ok.hd hc]) it a (Ne.symm hia) its.toArray) he ⟨hit, p.isList⟩ hlt hne (by simp [hne, hea]) fun y h' tk hy ho hst' hT hsz hk => ?_
    have hyu : y = u := by
      have h2 : its[i]? = some y := by simpa using hy
      rw [hu] at h2
      exact (Option.some.inj h2).symm
    subst hyu
    refine ⟨_, rfl, wpAny_letOwnedTupleGo_enum (s := { s with heap := h', toks := tk + 1 }) ho fun h'' he' sb => ?_⟩
    have hT2 : h''.get? s.heap.objs.size = some { cls := .type "tuple", data := .seq #[.int (k0 + (i : Nat)) tk, y] } := (sb.2 _ (Nat.ne_of_gt hel)).trans hT
    have new : ObjOk X.prog X.w (upd H s.heap.objs.size (.tup [.int (k0 + (i : Nat)), x])) h'' s.heap.objs.size (.tup [.int (k0 + (i : Nat)), x]) :=
      ⟨by show 2 ≤ sizeLine; decide, [.int (k0 + (i : Nat)) tk, y], .cons ⟨_, rfl⟩ (.cons ru .nil), ⟨_, hT2, rfl, _, rfl⟩⟩
    have I1 : Inv X pins σ (upd H s.heap.objs.size (.tup [.int (k0 + (i : Nat)), x])) { s with heap := h'', toks := tk + 1 } :=
      I.turnedNew (ch := [e, it]) (fun b ob hb q => (sb.2 b (fun z => hb (by simp [z]))).trans (hk b ob (fun z => hb (by simp [z])) (fun z => hb (by simp [z])) q)) hf (Nat.le_refl _) new
    refine ⟨.ref s.heap.objs.size, _, I1, rfl, ⟨_, x, rfl, I.hok.fresh (Nat.le_refl _), rfl, fun ys hy => by rw [I.list_inj hy hq]; exact hx⟩, ⟨⟨y, ?_⟩, hst'.1.at fun o q => (sb.2 it (Ne.symm hne)).trans q, hne, hia, hea⟩, fun b hb => ?_⟩
    · have e1 : k0 + ((i + 1 : Nat) : Int) = k0 + (i : Int) + 1 := by omega
      rw [e1]; exact he'
    · have hb' : b < s.heap.objs.size := by
        rcases (by simpa using hb : b = e ∨ b = it) with z | z
        · rw [z]; exact hel
        · rw [z]; exact hil
      rw [upd_ne (Nat.ne_of_lt hb')]
      exact (hf b hb).1
  done := by
    intro X hP hw hK hc i pins s σ H E I hf st hg
    subst hP hw hK
    obtain ⟨⟨old, he⟩, hit, hne, hia, hea⟩ := st
    obtain ⟨xs, hq, hx⟩ := hg
    obtain ⟨its, rv, p, hz⟩ := I.list hq
    obtain ⟨f0, f1, f2, f3, f4, f5⟩ := hf it (by simp)
    have hl := rv.length
    have hT : s.TypeIs (.ref e) "enumerate" := ⟨_, he, rfl⟩
    unfold pyNext
    refine wpAny_bind (wpAny_attempt (wpAny_callSpecial?_slot (name := Str.ofString "__next__") hT F.slot_enumerate_next (wpAny_call_entry F.slot_enumerate_next hT F.entry_enumerate_next ?_ (F.args_enumerate_next_1 _))))
    show wpAny _ _ (field (.ref e) 2 >>= _) _ _ _
    refine wpAny_bind (wpAny_field he rfl (x := .ref it) rfl ?_)
    refine wpAny_bind (wpAny_nextOf_list_end (by simp [I.ok.hd hc]) hit p.isList (by simp; omega) fun h' x he' hx' => ?_)
    obtain ⟨o, ho, hc'⟩ := hx'
    refine wpAny_bind (wpAny_isInstance (T := "StopIteration") (b := true) ⟨o, ho, hc'⟩ isSubtype_stop ?_)
    exact wpAny_pure ⟨rfl, I.turned (t' := s.toks) (fun b o hb q => he' b o hb q) f0 f1 f3 f4 f5⟩
  self := fun A i s Q E st h => let ⟨⟨_, he⟩, _⟩ := st; wpAny_pyIter_enum he h
def iEnumK (K : PySem.W.Frag) (ta tk : TA) : TI := fun σ H R => ta σ H fun vs H1 => tk σ H1 fun zs H2 => ∃ (a : Addr) (xs : List V) (k : Int), vs = [.ref a] ∧ zs = [.int k] ∧ SqL K H2 a xs ∧ (-(2 ^ 63) ≤ k ∧ k < 2 ^ 63) ∧ R (IteK K k a) H2
theorem pi_enumK {X : Cx} {e : Expr} {ta tk : TA} {p pos tpos : Pos} {elts : List Expr} {kws : List Keyword} {kk : Nat} (hm : X.mg "enumerate" = none) (ha : PA X [e] ta) (hk : PK X kws tk) (hg : Gl X "enumerate" := by rfl)
    (he : backTo pos (starEach [e] X.env) = (false, eval e X.env) :: backTo pos (starEach [] X.env) := by rfl) (hpl : (backTo pos (starEach [e] X.env)).any (·.1) = false := by rfl)
    (hall : (backToKw pos (keywordEach kws X.env)).all (·.1.isSome) = true := by rfl) (hnone : (backToKw pos (keywordEach kws X.env)).any (·.1.isNone) = false := by rfl) (hks : (backToKw pos (keywordEach kws X.env)).filterMap (·.1) = [("start" : Str)] := by rfl) :
    PI X (.Tuple elts kk tpos) (.Call (.Name "enumerate" p) [e] kws pos) (iEnumK X.K ta tk) := by
  refine ⟨fun pins s σ H R I h => ?_⟩
  refine wpAny_Call_Name_kw (ld_blt I hg hm boot_enumerate ?_)
  refine callWith_tyKw (thn (ha.run pos pins s σ H _ I h) fun us s1 ⟨vs, H1, I1, r1, q1⟩ => thn (hk.run pos pins s1 σ H1 _ I1 q1) fun ws s2 ⟨zs, H2, I2, r2, a, xs, k, ev, ez, hq, hkk, q⟩ => ?_) he hpl hall hnone
  rw [hks]
  subst ev ez
  cases r1 with
  | cons r rr =>
   cases rr
   cases r
   cases r2 with
   | cons rz rr2 =>
    cases rr2
    obtain ⟨t, rfl⟩ := rz
    obtain ⟨its, rv, p', hz⟩ := I2.list hq
    have hla : a < s2.heap.objs.size := by
      obtain ⟨o, ho, _⟩ := p'.isList
      exact Heap.lt_size ho
    show wpAny _ _ (call (.type "enumerate") [.ref a] [(Str.ofString "start", .int k t)]) _ _ _
    refine enum_begins_start (begins_list a its.toArray) p'.isList hkk.1 hkk.2 fun h' he hit hsz hk => wpAny_pyIter_enum he ?_
    have I3 : Inv X pins σ H2 { s2 with heap := h' } := I2.kept (t' := s2.toks) hk
    refine ⟨s2.heap.objs.size + 1, [s2.heap.objs.size + 1, s2.heap.objs.size], _, _, H2, rfl, I3, turn_enumK k a (s2.heap.objs.size + 1) s2.heap.objs.size, ⟨⟨.none, by simpa using he⟩, ⟨_, hit, rfl, rfl⟩, Nat.succ_ne_self _, Nat.ne_of_gt hla, Nat.ne_of_gt (Nat.lt_succ_of_lt hla)⟩, fun b hb => ?_, q⟩
    have hle : s2.heap.objs.size ≤ b := by
      rcases (by simpa using hb : b = s2.heap.objs.size + 1 ∨ b = s2.heap.objs.size) with z | z
      · rw [z]; exact Nat.le_add_right _ _
      · rw [z]; exact Nat.le_refl _
    exact I2.fpOk hle (I2.hok.fresh hle)
end HX
set_option Elab.async false
set_option linter.all false
set_option maxRecDepth 100000
set_option maxHeartbeats 3200000
/-! isinstance of a caught error against a tuple of classes; <= of data; o != p by the text's own __eq__; text * int. -/
namespace HX
open PySem PySem.Spec L2
open PyProof.Rows hiding St
/-- what an own error class must say for isinstance of its instances -/
structure ErrK (K : PySem.W.Frag) (D : Addr) : Prop where
  cl : (PySem.W.clsIn K D).isSome = true
  ga : PySem.W.findIn K (.ref D) "__getattribute__" = some (some (.builtin "BaseException.__getattribute__"))
  gt : PySem.W.findIn K (.ref D) "__getattr__" = some none
  sb : PySem.W.subIn K (.ref D) (.type "BaseException") = some true
  ha : PySem.W.findIn K (.ref D) "__class__" = some (some (.builtin "object.__class__"))
  hn : PySem.W.specialIn K (.builtin "object.__class__") "__get__" = some (some (.builtin "getset_descriptor.__get__"))
  ht : PySem.W.takesIn K (.builtin "object.__class__") = some true
  hm : PySem.W.mroIn K D (.type "object") = some true
def rIsEO (K : PySem.W.Frag) (a D : Addr) (cls : Value) (d : Option Addr) : List V → Hp → VK → Prop := fun xs H Q => ∃ (tp : Addr) (cs : List V) (us : List Value) (b : Bool) (dd : Addr) (fs : List (Str × V)), xs = [.ref a, .ref tp] ∧ cls = .ref D ∧ d = some dd ∧ H dd = some (.xd fs) ∧
  H tp = some (.tup cs) ∧ Paired ClsV cs us ∧ PySem.W.kitAny K (.ref D) us = some b ∧ Q (.bl b) H
theorem call_isEO {X : Cx} {a D : Addr} {cls : Value} {d : Option Addr} {oe : Obj} {pn : List (Addr × Obj)} (C : ErrK X.K D) (hz : Zc cls d oe) (hf : ∃ vs, oe.data = .fields vs) : CallR (X.suite a ((a, oe) :: pn)) (.builtin "isinstance") (rIsEO X.K a D cls d) := by
  intro pins s σ H xs us Q I r h
  obtain ⟨tp, cs, ws, b, dd, fs, rfl, rfl, rfl, hdd, hT, k, e, q⟩ := h
  obtain ⟨u1, u2, rfl, r1, r2⟩ := vals2 r
  cases (show u1 = Value.ref a from r1)
  cases (show u2 = Value.ref tp from r2)
  obtain ⟨hget, _⟩ := I.pin (a, oe) (List.mem_append.mpr (.inl List.mem_cons_self))
  obtain ⟨vs, hv⟩ := hf
  obtain ⟨mA, ⟨od, _, _, hod, _⟩, _⟩ := (show ObjOk _ _ H s.heap dd (.xd fs) from I.hok dd _ hdd)
  have J : PySem.W.InstAt s.heap a oe D (some od) := by
    obtain ⟨oc, o2, oda, osl⟩ := oe
    obtain ⟨h1, h2⟩ := hz
    dsimp only at h1 h2 hv
    subst h1 h2 hv
    exact ⟨hget, rfl, rfl, hod⟩
  obtain ⟨_, its, rv, o, h1, h2, n, h3⟩ := (show ObjOk _ _ H s.heap tp (.tup cs) from I.hok tp _ hT)
  have e3 := ClsV.all k rv
  subst e3
  obtain ⟨oc, od', dt, sl⟩ := o
  simp only at h2 h3
  subst h2 h3
  exact PySem.W.kia_tup (PySem.W.kitx_exc C.cl C.ga C.gt C.sb C.ha C.hn C.ht C.hm) I.kIn J h1 e (fun z => nomatch z) fun tk => ⟨.bl b, H, I.tok tk, rfl, q⟩
/-- x <= y of data that are alike -/
def rLeD (K : PySem.W.Frag) : R2 := fun x y H Q => ∃ d e, Dp K H x d ∧ Dp K H y e ∧ PySem.W.alike d e = true ∧ d ≠ .none ∧ d.depth ≤ 64 ∧ Q (.bl (!PySem.W.dataLt e d)) H
theorem op_leD {X : Cx} (hu : X.A.units + 64 < cLine) : OpR X (compareOp .LtE) (rLeD X.K) := by
  intro pins s σ H x y v u Q I rx ry h
  obtain ⟨d, e, hd, he, al, nn, dp, q⟩ := h
  obtain ⟨as, r1⟩ := Dp.reads I d x v hd rx
  obtain ⟨bs, r2⟩ := Dp.reads I e y u he ry
  have hr : X.A.units + min d.depth e.depth < cLine := by
    have := Nat.min_le_left d.depth e.depth
    omega
  exact PySem.W.le_data r1 r2 al nn hr ⟨.bl _, H, I, rfl, q⟩
/-! ### a class's shape, read off the written part -/
def shapeB (K : PySem.W.Frag) (C : Addr) (newId : String) (p : List Value → Bool) (q : Addr → Bool) (hd : Bool) : Bool := match K.lookup C with
  | some ⟨.type t, _, .cls cd, sl⟩ => decide (t = "type") && (match cd.mro, sl.toList with
    | .ref C' :: bm, [_, _, _, _, some (.builtin n), _] => decide (C' = C) && (decide (n = newId) && (!cd.hasDel && (p bm && (q cd.ns && (cd.hasDict == hd)))))
    | _, _ => false)
  | _ => false
theorem shape_of {K : PySem.W.Frag} {C : Addr} {newId : String} {p : List Value → Bool} {q : Addr → Bool} {hd : Bool} (h : shapeB K C newId p q hd = true) :
    ∃ nm qn N bs bm sn sub ab col dd k0 k1 k2 k3 k5, K.lookup C = some (excClassObj nm qn C N bs bm hd sn sub ab col dd k0 k1 k2 k3 k5 newId) ∧ p bm = true ∧ q N = true := by
  unfold shapeB at h
  split at h
  · rename_i t dd cd sl ho
    obtain ⟨ht, h⟩ := Bool.and_eq_true_iff.mp h
    have ht' : t = "type" := of_decide_eq_true ht
    subst ht'
    split at h
    · rename_i C' bm k0 k1 k2 k3 n k5 hm hs
      obtain ⟨rfl, rfl, hdel, hp, hq, hdd⟩ := (by simpa using h : C' = C ∧ n = newId ∧ cd.hasDel = false ∧ p bm = true ∧ q cd.ns = true ∧ cd.hasDict = hd)
      obtain ⟨nm, bs, mro, ns, qn, hd', sn, sub, ab, col, del⟩ := cd
      dsimp only at hm hdel hp hq hdd
      subst hm hdel hdd
      have hsl : sl = #[k0, k1, k2, k3, some (.builtin n), k5] := by
        obtain ⟨l⟩ := sl
        simp only at hs
        rw [hs]
      subst hsl
      exact ⟨nm, qn, ns, bs, bm, sn, sub, ab, col, dd, k0, k1, k2, k3, k5, ho, hp, hq⟩
    · cases h
  · cases h
/-- an own class over object with __eq__ and without __ne__ -/
structure EqCls (K : PySem.W.Frag) (C f : Addr) : Prop where
  sh : ∃ nm qn N bs sn sub ab col dd k0 k1 k2 k3 k5, K.lookup C = some (excClassObj nm qn C N bs [.type "object"] true sn sub ab col dd k0 k1 k2 k3 k5 "object.__new__") ∧ PySem.W.nsOkIn K N = true ∧ PySem.W.nsIn K N "__eq__" = some (some (.ref f)) ∧ PySem.W.nsIn K N "__ne__" = some none
  fn : ∃ o, K.lookup f = some o ∧ o.cls = .type "function"
theorem ns_some_of {K : PySem.W.Frag} {h : Heap} {N : Addr} {mg : Str → Option Value} {n : Str} {v : Value} (X : K.In h) (G : h.Ns N mg) (e : PySem.W.nsIn K N n = some (some v)) : mg n = some v := by
  obtain ⟨o, es, ep, ho, hd, _, hf⟩ := G
  unfold PySem.W.nsIn at e
  split at e
  · rename_i c d es' n' sl q
    have := X _ _ q
    rw [ho] at this
    cases this
    cases hd
    split at e
    · rename_i en he
      cases e
      rw [← hf]
      unfold nsFind findBy
      rw [← Array.find?_toList, he]
      rfl
    · split at e <;> cases e
  · cases e
/-- o != p of two instances with the text's own == -/
def rNeO (C : Addr) (sp : Sp) (E : XK) : R2 := fun x y H Q => ∃ a b dx dy fs gs, x = V.ref a ∧ y = V.ref b ∧ H a = some (.ins C dx fs) ∧ H b = some (.ins C dy gs) ∧ sp [.ref a, .ref b] H (fun v H' => ∃ k, v = .bl k ∧ Q (.bl (!k)) H') E
theorem op_neO {X : Cx} {CX : CXT} {n : Nat} {C f : Addr} {sp : Sp} {E : XK} (T : EqCls X.K C f) (G : FnR X.prog X.w X.K X.mg X.base CX n f sp) (room : Room (n + 1) X.A) (px : ∀ σ, PassesAt CX X σ E) : OpR X (compareOp .NotEq) (rNeO C sp E) := by
  intro pins s σ H x y v u Q I rx ry h
  obtain ⟨a, b, dx, dy, fs, gs, rfl, rfl, ha, hb, q⟩ := h
  cases rx
  cases ry
  obtain ⟨nm, qn, N, bs, sn, sub, ab, col, dd, k0, k1, k2, k3, k5, hC, hok, heq, hne⟩ := T.sh
  obtain ⟨of, hof, hofc⟩ := T.fn
  have hN := Heap.Ns.of_isNs (PySem.W.isNs_of_in I.kIn hok)
  obtain ⟨_, _, _, hga, _⟩ := (show ObjOk _ _ H s.heap a (.ins C dx fs) from I.hok a _ ha)
  obtain ⟨_, _, _, hgb, _⟩ := (show ObjOk _ _ H s.heap b (.ins C dy gs) from I.hok b _ hb)
  have hO : s.heap.OwnEqNoNe a C f "object" [.type "object"] :=
    ⟨_, of, nm, qn, N, bs, true, sn, sub, ab, col, dd, k0, k1, k2, k3, k5, _, _, _, hga, rfl, I.kIn _ _ hC, hN, ns_some_of I.kIn hN heq, I.kIn _ _ hof, hofc, PySem.F.cmp_object.mro, PySem.F.cmp_object.eq.lookup, PySem.W.nsMap_none_of_in I.kIn hok hne⟩
  have hu : X.A.units + 1 < cLine := by have := room.units; omega
  obtain ⟨hp, g, d, t, os⟩ := s
  refine compareOp_ne_ownEq PySem.F.cmp_object hO hgb rfl hu ?_
  have e0 : Env0 X.prog X.w X.K X.mg X.base X.A.in1 X.stack ⟨hp, g, d, t, os⟩ H := by
    have e := I.env0
    exact ⟨e.frames, e.mod, e.bs, e.bsz, e.funs, e.frf, e.hok, e.bare⟩
  have rv : Vals [V.ref a, V.ref b] [Value.ref a, Value.ref b] := .cons rfl (.cons rfl .nil)
  refine wpAny_call (codeAny_mono (G X.A.in1 X.stack ⟨hp, g, d, t, os⟩ H [.ref a, .ref b] _ _ E room.in1 e0 rv q) fun r s' got => ?_)
  match r, got with
  | .error er, got => exact px σ pins H _ er s' I got
  | .ok (.ret u), got =>
    obtain ⟨z, H', I', rz, k, ez, qk⟩ := I.after got
    subst ez
    cases rz
    exact ⟨k, rfl, .bl (!k), H', I', rfl, qk⟩
  | .ok .next, got => exact got.elim
  | .ok .brk, got => exact got.elim
  | .ok .cont, got => exact got.elim
/-- text * n -/
theorem op_mul_str {X : Cx} : OpR X (binaryOp .Mult) (fun x y H Q => ∃ (z : Str) (n : Int), x = .str z ∧ y = .int n ∧ PySem.MulOk z n ∧ Q (.str (PySem.Txt.mul z n)) H) := by
  intro pins s σ H x y v u Q I rx ry h
  obtain ⟨z, n, rfl, rfl, hm, q⟩ := h
  obtain ⟨t, rfl⟩ := rx
  obtain ⟨tk, rfl⟩ := ry
  exact PySem.SB.mul hm fun t' k => ⟨.str _, H, I.tok _, ⟨_, rfl⟩, q⟩
end HX
set_option Elab.async false
set_option linter.all false
set_option maxRecDepth 100000
set_option maxHeartbeats 2000000
/-! Dead rows, comprehensions that make one value of each. -/
namespace HX
open PySem PySem.Spec L2
open PyProof.Rows hiding St
section
variable {X : Cx}
/-- a statement that is never reached -/
theorem ps_dead {st : Stmt} : PS X st (fun _ _ _ => False) := ⟨fun _ _ _ _ _ _ h => h.elim⟩
theorem pss_dead {st : List Stmt} : PSs X st (fun _ _ _ => False) := ⟨fun _ _ _ _ _ _ h => h.elim⟩
theorem pe_dead {e : Expr} : PE X e (fun _ _ _ => False) := ⟨fun _ _ _ _ _ _ h => h.elim⟩
end
section
variable {X : Cx} {k : Nat} {f : Addr} {sp : Sp} {x : Str} {p pos : Pos} {e : Expr} {es : List Expr} {t : TA}
/-- a call of a def that lets nothing out -/
theorem pe_f0 (F : FnR X.prog X.w X.K X.mg X.base CX0 k f sp) (room : Room k X.A) (hm : X.mg x = some (.ref f)) (kp : PySem.W.keepIn X.K (.ref f) = true) (ha : PA X (e :: es) t) (hg : Gl X x := by rfl)
    (hdb : (x == ("__debug__" : Str)) = false := by decide) (he : starEach (e :: es) X.env = (false, eval e X.env) :: starEach es X.env := by rfl) (hpl : (backTo pos (starEach es X.env)).any (·.1) = false := by rfl) :
    PE X (.Call (.Name x p) (e :: es) [] pos) (tCallF sp (fun _ _ _ _ => False) t) := pe_callF F room hg hm kp pass00 ha hdb he hpl
end
/-- as in H, but for what lies at D -/
def ExtO (D : Addr) (H H' : Hp) : Prop := ∀ a o, a ≠ D → H a = some o → H' a = some o
theorem ExtO.of {D : Addr} {H H' : Hp} (e : Ext H H') : ExtO D H H' := fun a o _ h => e a o h
theorem ExtO.trans {D : Addr} {H H1 H2 : Hp} (a : ExtO D H H1) (b : ExtO D H1 H2) : ExtO D H H2 := fun c o n h => b c o n (a c o n h)
theorem ExtO.upd {D : Addr} {H : Hp} {o : HO} : ExtO D H (upd H D o) := fun a u n h => by rw [upd_ne n]; exact h
theorem ExtO.ext {D : Addr} {H H' : Hp} (e : ExtO D H H') (n : H D = none) : Ext H H' := fun a o h => e a o (fun z => by subst z; rw [n] at h; cases h) h
theorem Paired.snoc {α β : Type} {F : α → β → Prop} : ∀ {l : List α} {m : List β} {a : α} {b : β}, Paired F l m → F a b → Paired F (l ++ [a]) (m ++ [b])
  | _, _, _, _, .nil, h => .cons h .nil
  | _, _, _, _, .cons r t, h => .cons r (Paired.snoc t h)
theorem Paired.same {α β : Type} {F : α → β → Prop} (f : α → β) (hF : ∀ a b, F a b → b = f a) : ∀ {l : List α} {m : List β}, Paired F l m → m = l.map f
  | _, _, .nil => rfl
  | _, _, .cons r t => by rw [hF _ _ r, Paired.same f hF t]; rfl
/-- [e for x in it]: R tells of each value; it may lean on all that the heap has but on the new list -/
theorem lc_rel {α : Type} {J : It} {G : Hp → Prop} {H1 : Hp} {σ : St} {g : TG} {te : TE} {vs : List Nat} {Q : VK} (src : List α) (c : α → V) (R : α → V → Hp → Prop)
    (w : Walk J src.length G (fun i H x H' => H' = H ∧ ∃ y, src[i]? = some y ∧ x = c y)) (hz : src.length ≤ sizeLine) (hG : ∀ H, Ext H1 H → G H)
    (hR : ∀ y v D zs H H', R y v H → H D = some (.lst zs) → ExtO D H H' → R y v H')
    (hs : ∀ y H, y ∈ src → Ext H1 H → ∀ Q' : VK, (∀ v H', Ext H H' → R y v H' → Q' v H') → g (c y) (wipe σ vs) H fun σ2 H2 => wipe σ2 vs = wipe σ vs ∧ te σ2 H2 Q')
    (hd : ∀ D H ys, H1 D = none → Ext H1 H → H D = some (.lst ys) → Paired (fun y v => R y v H) src ys → Q (.ref D) H) :
    ∀ D, H1 D = none → ∃ W : Nat → Nat → Hp → Prop, (∃ m, W 0 m (upd H1 D (.lst []))) ∧ ∀ i m H, W i m H →
      (J.stop i H ∧ Q (.ref D) H) ∨ (J.go i H ∧ ∃ Nx : Hp → Prop, (∀ H', Nx H' → ∃ m', m' < m ∧ W (i + 1) m' H') ∧ ∀ x H', J.yld i H x H' → g x (wipe σ vs) H' fun σ2 H2 => wipe σ2 vs = wipe σ vs ∧ tYes σ2 H2 fun b H3 =>
        if b = true then te σ2 H3 fun y H4 => ∃ acc, H4 D = some (.lst acc) ∧ acc.length < sizeLine ∧ Nx (upd H4 D (.lst (acc ++ [y]))) else Nx H3) := by
  intro D hD
  refine lc_it w (Pv := fun i H => Ext H1 H ∧ ∃ acc, H D = some (.lst acc) ∧ Paired (fun y v => R y v H) (src.take i) acc) ⟨Ext.upd hD, [], upd_same, .nil⟩ (fun i H _ p => hG H p.1) ?_ ?_
  · rintro i x H H' hi ⟨e1, acc, ha, hp⟩ ⟨rfl, y, hy, rfl⟩
    obtain ⟨hl, hye⟩ := List.getElem?_eq_some_iff.mp hy
    have hm : y ∈ src := by rw [← hye]; exact List.getElem_mem hl
    have key := hs y H' hm e1 (fun v H4 => ∃ acc, H4 D = some (.lst acc) ∧ acc.length < sizeLine ∧ (Ext H1 (upd H4 D (.lst (acc ++ [v]))) ∧ ∃ acc', (upd H4 D (.lst (acc ++ [v]))) D = some (.lst acc') ∧ Paired (fun y u => R y u (upd H4 D (.lst (acc ++ [v])))) (src.take (i + 1)) acc')) ?_
    · exact key
    · intro v H4 e4 hr
      have ha4 := e4 D _ ha
      have hlen : acc.length < sizeLine := by
        have := hp.length
        rw [List.length_take] at this
        omega
      refine ⟨acc, ha4, hlen, (ExtO.trans (ExtO.of (e1.trans e4)) ExtO.upd).ext hD, _, upd_same, ?_⟩
      have ht : src.take (i + 1) = src.take i ++ [y] := by rw [List.take_add_one, hy]; rfl
      rw [ht]
      exact Paired.snoc (L2.Paired.mapP hp fun a b k => hR a b D acc H' _ k ha (ExtO.trans (ExtO.of e4) ExtO.upd)) (hR y v D acc H4 _ hr ha4 ExtO.upd)
  · rintro H ⟨e1, acc, ha, hp⟩
    rw [List.take_length] at hp
    exact hd D H acc hD e1 ha hp
/-- [e for x in it], the values told by f -/
theorem lc_map {α : Type} {J : It} {G : Hp → Prop} {H1 : Hp} {σ : St} {g : TG} {te : TE} {vs : List Nat} {Q : VK} (src : List α) (c f : α → V)
    (w : Walk J src.length G (fun i H x H' => H' = H ∧ ∃ y, src[i]? = some y ∧ x = c y)) (hz : src.length ≤ sizeLine) (hG : ∀ H, Ext H1 H → G H)
    (hs : ∀ y H, y ∈ src → Ext H1 H → ∀ Q' : VK, (∀ H', Ext H H' → Q' (f y) H') → g (c y) (wipe σ vs) H fun σ2 H2 => wipe σ2 vs = wipe σ vs ∧ te σ2 H2 Q')
    (hd : ∀ D H, H1 D = none → Ext H1 H → H D = some (.lst (src.map f)) → Q (.ref D) H) :
    ∀ D, H1 D = none → ∃ W : Nat → Nat → Hp → Prop, (∃ m, W 0 m (upd H1 D (.lst []))) ∧ ∀ i m H, W i m H →
      (J.stop i H ∧ Q (.ref D) H) ∨ (J.go i H ∧ ∃ Nx : Hp → Prop, (∀ H', Nx H' → ∃ m', m' < m ∧ W (i + 1) m' H') ∧ ∀ x H', J.yld i H x H' → g x (wipe σ vs) H' fun σ2 H2 => wipe σ2 vs = wipe σ vs ∧ tYes σ2 H2 fun b H3 =>
        if b = true then te σ2 H3 fun y H4 => ∃ acc, H4 D = some (.lst acc) ∧ acc.length < sizeLine ∧ Nx (upd H4 D (.lst (acc ++ [y]))) else Nx H3) := by
  refine lc_rel src c (fun y v _ => v = f y) w hz hG (fun _ _ _ _ _ _ h _ _ => h) (fun y H hy e Q' hq => hs y H hy e Q' fun H' e' => hq _ H' e' rfl) fun D H ys hn e hl hp => ?_
  exact hd D H hn e (by rw [hl, Paired.same f (fun a b h => h) hp])
theorem tyx_tup {K : PySem.W.Frag} {H : Hp} {p : Addr} {xs : List V} (h : SqT K H p xs) : TyX K H (.ref p) (.type "tuple") := by
  rcases h with (e | ⟨o, e⟩) | ⟨o, its, n, e, c, _⟩
  · exact .base (.tup e)
  · exact .fTuple e
  · exact .kTuple e c
theorem tyx_lst {K : PySem.W.Frag} {H : Hp} {p : Addr} {xs : List V} (h : SqL K H p xs) : TyX K H (.ref p) (.type "list") := by
  rcases h with (e | ⟨o, e⟩) | ⟨o, its, n, e, c, _⟩
  · exact .base (.lst e)
  · exact .base (.frz e)
  · exact .kList e c
theorem all_true {α : Type} : ∀ l : List α, ((l.map fun _ => true).all id) = true
  | [] => rfl
  | _ :: r => all_true r
section
variable {K : PySem.W.Frag} {a : Addr}
theorem walk_listM {α : Type} (src : List α) (c : α → V) : Walk (Itl K a) src.length (fun H => SqL K H a (src.map c)) (fun i H x H' => H' = H ∧ ∃ y, src[i]? = some y ∧ x = c y) := by
  have w := walk_list (K := K) (a := a) (xs := src.map c)
  rw [List.length_map] at w
  refine w.mono (fun _ h => h) fun i H x H' _ _ y => ⟨y.1, ?_⟩
  have y2 := y.2
  rw [List.getElem?_map] at y2
  obtain ⟨z, e1, e2⟩ := Option.map_eq_some_iff.mp y2
  exact ⟨z, e1, e2.symm⟩
theorem walk_tupM {α : Type} (src : List α) (c : α → V) : Walk (Itt K a) src.length (fun H => SqT K H a (src.map c)) (fun i H x H' => H' = H ∧ ∃ y, src[i]? = some y ∧ x = c y) := by
  have w := walk_tup (K := K) (a := a) (xs := src.map c)
  rw [List.length_map] at w
  refine w.mono (fun _ h => h) fun i H x H' _ _ y => ⟨y.1, ?_⟩
  have y2 := y.2
  rw [List.getElem?_map] at y2
  obtain ⟨z, e1, e2⟩ := Option.map_eq_some_iff.mp y2
  exact ⟨z, e1, e2.symm⟩
theorem walk_rangeM {lo : Int} {n : Nat} : Walk (Itr lo n) (List.range n).length (fun _ => True) (fun i H x H' => H' = H ∧ ∃ y, (List.range n)[i]? = some y ∧ x = .int (lo + (y : Nat))) := by
  have w := walk_range (lo := lo) (n := n)
  rw [List.length_range]
  refine w.mono (fun _ h => h) fun i H x H' hi _ y => ⟨y.1, i, ?_, y.2⟩
  exact List.getElem?_range hi
end
section
variable {α : Type} {J : It} {G : Hp → Prop} {H H1 : Hp} {σ : St} {wi : TI} {g : TG} {te : TE} {vs : List Nat} {Q : VK}
theorem tlc_map (hw : ∀ R : It → Hp → Prop, R J H1 → wi σ H R) (src : List α) (c f : α → V) (w : Walk J src.length G (fun i H x H' => H' = H ∧ ∃ y, src[i]? = some y ∧ x = c y)) (hz : src.length ≤ sizeLine) (hG : ∀ H, Ext H1 H → G H)
    (hs : ∀ y H, y ∈ src → Ext H1 H → ∀ Q' : VK, (∀ H', Ext H H' → Q' (f y) H') → g (c y) (wipe σ vs) H fun σ2 H2 => wipe σ2 vs = wipe σ vs ∧ te σ2 H2 Q')
    (hd : ∀ D H, H1 D = none → Ext H1 H → H D = some (.lst (src.map f)) → Q (.ref D) H) : tLc wi g tYes te vs σ H Q :=
  hw _ (lc_map src c f w hz hG hs hd)
theorem tlc_rel (hw : ∀ R : It → Hp → Prop, R J H1 → wi σ H R) (src : List α) (c : α → V) (R : α → V → Hp → Prop)
    (w : Walk J src.length G (fun i H x H' => H' = H ∧ ∃ y, src[i]? = some y ∧ x = c y)) (hz : src.length ≤ sizeLine) (hG : ∀ H, Ext H1 H → G H)
    (hR : ∀ y v D zs H H', R y v H → H D = some (.lst zs) → ExtO D H H' → R y v H')
    (hs : ∀ y H, y ∈ src → Ext H1 H → ∀ Q' : VK, (∀ v H', Ext H H' → R y v H' → Q' v H') → g (c y) (wipe σ vs) H fun σ2 H2 => wipe σ2 vs = wipe σ vs ∧ te σ2 H2 Q')
    (hd : ∀ D H ys, H1 D = none → Ext H1 H → H D = some (.lst ys) → Paired (fun y v => R y v H) src ys → Q (.ref D) H) : tLc wi g tYes te vs σ H Q :=
  hw _ (lc_rel src c R w hz hG hR hs hd)
end
end HX
set_option Elab.async false
set_option linter.all false
set_option maxRecDepth 100000
set_option maxHeartbeats 2000000
/-! Loops by one rule; enumerate from a number on. -/
namespace HX
open PySem PySem.Spec L2
open PyProof.Rows hiding St
theorem tfor_it {J : It} {n : Nat} {G : Hp → Prop} {Y : Nat → Hp → V → Hp → Prop} {H H1 : Hp} {σ : St} {wi : TI} {g : TG} {tb : TS} {D : Ends} (hw : ∀ R : It → Hp → Prop, R J H1 → wi σ H R) (w : Walk J n G Y) (Pv : Nat → St → Hp → Prop) (h0 : Pv 0 σ H1)
    (hG : ∀ i σ H, i ≤ n → Pv i σ H → G H) (hs : ∀ i x σ H H', i < n → Pv i σ H → Y i H x H' → g x σ H' fun σ2 H2 => tb { D with nx := Pv (i + 1), ct := Pv (i + 1), bk := D.nx } σ2 H2) (hd : ∀ σ H, Pv n σ H → D.nx σ H) : tFor wi g tb D σ H :=
  hw _ (for_it w Pv h0 hG hs hd)
theorem walk_enumK {K : PySem.W.Frag} {k : Int} {a : Addr} {xs : List V} : Walk (IteK K k a) xs.length (fun H => SqL K H a xs) (YPair (fun i => some (.int (k + (i : Nat)))) (fun i => xs[i]?)) := by
  refine ⟨fun i _ hi q => ⟨xs, xs[i], q, by simp [hi]⟩, fun _ q => ⟨xs, q, Nat.le_refl _⟩, fun i H v H' _ q y => ?_⟩
  obtain ⟨T, x, h1, h2, h3, h4⟩ := y
  exact ⟨T, .int (k + (i : Nat)), x, h1, h2, h3, rfl, h4 xs q⟩
theorem r64 {k : Nat} {A : Around} (r : Room k A) : A.units + 64 < cLine := by
  have := r.un
  omega
theorem r65 {k : Nat} {A : Around} (r : Room k A) : A.units + 65 < cLine := by
  have := r.un
  omega
theorem SqL_offI {K : PySem.W.Frag} {H H' : Hp} {p a C dx : Addr} {fs : List (Str × V)} {xs : List V} (h : SqL K H p xs) (ha : H a = some (.ins C dx fs)) (e : ExtO a H H') : SqL K H' p xs := by
  rcases h with (h | ⟨o, h⟩) | h
  · exact .inl (.inl (e _ _ (ne_of h ha (by intro z; cases z)) h))
  · exact .inl (.inr ⟨o, e _ _ (ne_of h ha (by intro z; cases z)) h⟩)
  · exact .inr h
theorem SqT_offI {K : PySem.W.Frag} {H H' : Hp} {p a C dx : Addr} {fs : List (Str × V)} {xs : List V} (h : SqT K H p xs) (ha : H a = some (.ins C dx fs)) (e : ExtO a H H') : SqT K H' p xs := by
  rcases h with (h | ⟨o, h⟩) | h
  · exact .inl (.inl (e _ _ (ne_of h ha (by intro z; cases z)) h))
  · exact .inl (.inr ⟨o, e _ _ (ne_of h ha (by intro z; cases z)) h⟩)
  · exact .inr h
theorem SqL_offL {K : PySem.W.Frag} {H H' : Hp} {p a : Addr} {xs : List V} (h : SqL K H p xs) (n : p ≠ a) (e : ExtO a H H') : SqL K H' p xs := by
  rcases h with (h | ⟨o, h⟩) | h
  · exact .inl (.inl (e _ _ n h))
  · exact .inl (.inr ⟨o, e _ _ n h⟩)
  · exact .inr h
theorem SqT_offL {K : PySem.W.Frag} {H H' : Hp} {p a : Addr} {xs zs : List V} (h : SqT K H p xs) (ha : H a = some (.lst zs)) (e : ExtO a H H') : SqT K H' p xs := by
  rcases h with (h | ⟨o, h⟩) | h
  · exact .inl (.inl (e _ _ (ne_of h ha (by intro z; cases z)) h))
  · exact .inl (.inr ⟨o, e _ _ (ne_of h ha (by intro z; cases z)) h⟩)
  · exact .inr h
/-- an addr that is something stays so -/
theorem Ext.at {H H' : Hp} {a : Addr} {o : HO} (e : Ext H H') (h : H a = some o) : H' a = some o := e a o h
theorem Ext.new {H H' : Hp} {a : Addr} (e : Ext H H') (h : H' a = none) : H a = none := by
  cases z : H a with
  | none => rfl
  | some o =>
    rw [e a o z] at h
    cases h
/-- a comprehension over a list that was just made -/
theorem tlc_new {α : Type} {J : Addr → It} {G : Addr → Hp → Prop} {H : Hp} {o : HO} {σ : St} {wi : TI} {g : TG} {te : TE} {vs : List Nat} {Q : VK} (hw : ∀ R : It → Hp → Prop, (∀ p, H p = none → R (J p) (upd H p o)) → wi σ H R) (src : List α) (c f : α → V)
    (w : ∀ p, Walk (J p) src.length (G p) (fun i H x H' => H' = H ∧ ∃ y, src[i]? = some y ∧ x = c y)) (hz : src.length ≤ sizeLine) (hG : ∀ p H', H p = none → Ext (upd H p o) H' → G p H')
    (hs : ∀ y H', y ∈ src → Ext H H' → ∀ Q' : VK, (∀ H2, Ext H' H2 → Q' (f y) H2) → g (c y) (wipe σ vs) H' fun σ2 H2 => wipe σ2 vs = wipe σ vs ∧ te σ2 H2 Q')
    (hd : ∀ D H', H D = none → Ext H H' → H' D = some (.lst (src.map f)) → Q (.ref D) H') : tLc wi g tYes te vs σ H Q :=
  hw _ fun p hp => lc_map src c f (w p) hz (fun H' e => hG p H' hp e) (fun y H' hy e => hs y H' hy ((Ext.upd hp).trans e)) fun D H' hD e hl => hd D H' (Ext.new (Ext.upd hp) hD) ((Ext.upd hp).trans e) hl
/-- a loop over a list that was just made -/
theorem tfor_new {J : Addr → It} {n : Nat} {G : Addr → Hp → Prop} {Y : Nat → Hp → V → Hp → Prop} {H : Hp} {o : HO} {σ : St} {wi : TI} {g : TG} {tb : TS} {D : Ends} (hw : ∀ R : It → Hp → Prop, (∀ p, H p = none → R (J p) (upd H p o)) → wi σ H R) (w : ∀ p, Walk (J p) n (G p) Y)
    (Pv : Addr → Nat → St → Hp → Prop) (h0 : ∀ p, H p = none → Pv p 0 σ (upd H p o)) (hG : ∀ p i σ H', H p = none → i ≤ n → Pv p i σ H' → G p H')
    (hs : ∀ p i x σ H1 H', H p = none → i < n → Pv p i σ H1 → Y i H1 x H' → g x σ H' fun σ2 H2 => tb { D with nx := Pv p (i + 1), ct := Pv p (i + 1), bk := D.nx } σ2 H2) (hd : ∀ p σ H', H p = none → Pv p n σ H' → D.nx σ H') : tFor wi g tb D σ H :=
  hw _ fun p hp => for_it (w p) (Pv p) (h0 p hp) (fun i σ H' hi q => hG p i σ H' hp hi q) (fun i x σ H1 H' hi q y => hs p i x σ H1 H' hp hi q y) fun σ H' q => hd p σ H' hp q
end HX
set_option Elab.async false
set_option linter.all false
set_option maxRecDepth 100000
set_option maxHeartbeats 2000000
/-! Loops and comprehensions over what was just made; comprehensions with a test. -/
namespace HX
open PySem PySem.Spec L2
open PyProof.Rows hiding St
/-- the walk J begins at H1 -/
def iAt (J : It) (H1 : Hp) : TI := fun _ _ R => R J H1
theorem tfor_any {H : Hp} {σ : St} {wi : TI} {g : TG} {tb : TS} {D : Ends} (C : It → Hp → Prop) (hw : ∀ R : It → Hp → Prop, (∀ J H1, C J H1 → R J H1) → wi σ H R) (h : ∀ J H1, C J H1 → tFor (iAt J H1) g tb D σ H) : tFor wi g tb D σ H :=
  hw _ fun J H1 c => h J H1 c
theorem tlc_any {H : Hp} {σ : St} {wi : TI} {g : TG} {tt : TT} {te : TE} {vs : List Nat} {Q : VK} (C : It → Hp → Prop) (hw : ∀ R : It → Hp → Prop, (∀ J H1, C J H1 → R J H1) → wi σ H R) (h : ∀ J H1, C J H1 → tLc (iAt J H1) g tt te vs σ H Q) : tLc wi g tt te vs σ H Q :=
  hw _ fun J H1 c => h J H1 c
/-- [e for x in it if t], the test and the values told by pz and f -/
theorem tlc_filter {α : Type} {J : It} {G : Hp → Prop} {H H1 : Hp} {σ : St} {wi : TI} {g : TG} {tt : TT} {te : TE} {vs : List Nat} {Q : VK} (hw : ∀ R : It → Hp → Prop, R J H1 → wi σ H R) (src : List α) (c f : α → V) (pz : α → Bool)
    (w : Walk J src.length G (fun i H x H' => H' = H ∧ ∃ y, src[i]? = some y ∧ x = c y)) (hz : src.length ≤ sizeLine) (hG : ∀ H, Ext H1 H → G H)
    (hs : ∀ y H, y ∈ src → Ext H1 H → ∀ (QT : VK) (QF : Hp → Prop), (pz y = true → ∀ H', Ext H H' → QT (f y) H') → (pz y = false → ∀ H', Ext H H' → QF H') → g (c y) (wipe σ vs) H fun σ2 H2 => wipe σ2 vs = wipe σ vs ∧ tt σ2 H2 fun b H3 => if b = true then te σ2 H3 QT else QF H3)
    (hd : ∀ D H, H1 D = none → Ext H1 H → H D = some (.lst ((src.filter pz).map f)) → Q (.ref D) H) : tLc wi g tt te vs σ H Q := by
  refine hw _ fun D hD => ?_
  refine lc_it w (Pv := fun i H => Ext H1 H ∧ H D = some (.lst (((src.take i).filter pz).map f))) ⟨Ext.upd hD, upd_same⟩ (fun i H _ q => hG H q.1) ?_ ?_
  · rintro i x H0 H' hi ⟨e1, ha⟩ ⟨rfl, y, hy, rfl⟩
    obtain ⟨hl, hye⟩ := List.getElem?_eq_some_iff.mp hy
    have hm : y ∈ src := by rw [← hye]; exact List.getElem_mem hl
    have ht : src.take (i + 1) = src.take i ++ [y] := by rw [List.take_add_one, hy]; rfl
    have hlen : (((src.take i).filter pz).map f).length < sizeLine := by
      have h1 := List.length_filter_le pz (src.take i)
      rw [List.length_take] at h1
      rw [List.length_map]
      omega
    refine hs y H' hm e1 (fun v H4 => ∃ acc, H4 D = some (.lst acc) ∧ acc.length < sizeLine ∧ (Ext H1 (upd H4 D (.lst (acc ++ [v]))) ∧ (upd H4 D (.lst (acc ++ [v]))) D = some (.lst (((src.take (i + 1)).filter pz).map f)))) _ (fun hp H4 e4 => ?_) (fun hp H4 e4 => ?_)
    · refine ⟨_, e4 _ _ ha, hlen, (ExtO.trans (ExtO.of (e1.trans e4)) ExtO.upd).ext hD, ?_⟩
      rw [upd_same, ht, List.filter_append, List.map_append, List.filter_cons, if_pos hp]
      rfl
    · refine ⟨e1.trans e4, ?_⟩
      rw [e4 _ _ ha, ht, List.filter_append, List.map_append, List.filter_cons, if_neg (by rw [hp]; exact Bool.false_ne_true)]
      show _ = some (HO.lst (_ ++ []))
      rw [List.append_nil]
  · rintro H0 ⟨e1, ha⟩
    rw [List.take_length] at ha
    exact hd D H0 hD e1 ha
theorem walk_strM (z : Str) : Walk (Its z) z.cps.toList.length (fun _ => True) (fun i H x H' => H' = H ∧ ∃ y, z.cps.toList[i]? = some y ∧ x = .str ⟨#[y]⟩) := by
  have w := walk_str (z := z)
  rw [← Array.length_toList] at w
  refine w.mono (fun _ h => h) fun i H x H' _ _ y => ⟨y.1, ?_⟩
  obtain ⟨c, h1, h2⟩ := y.2
  exact ⟨c, by rw [Array.getElem?_toList]; exact h1, h2⟩
end HX
set_option Elab.async false
set_option linter.all false
set_option maxRecDepth 100000
set_option maxHeartbeats 2000000
namespace F89
open PySem PySem.Spec L2 TL PySem.NumText
/-! ### names, numbers, rows in plain Lean -/
def lowB (c : Nat) : Bool := decide (97 ≤ c) && decide (c ≤ 122)
def digB (c : Nat) : Bool := decide (48 ≤ c) && decide (c ≤ 57)
def nameF (x : Str) : Bool := decide (1 ≤ x.length) && (decide (x.length ≤ 8) && (tl x).all lowB)
def colsF (ws : List Str) : Bool := decide (ws.length ≤ 8) && (ws.all nameF && decide ws.Nodup)
abbrev sE : Str := Str.ofString ""
abbrev sC : Str := Str.ofString ","
abbrev sN : Str := Str.ofString "\n"
theorem strip_all (x cs : Str) : (Txt.stripChars x cs = sE) ↔ (tl x).all (fun c => cs.cps.contains c) = true := by
  have e0 : Txt.stripChars x cs = Builtin.Str.strSub x (stripLo cs.cps.contains true x) (stripHi cs.cps.contains true x (stripLo cs.cps.contains true x)) := PyProof.Rows.stripBy_eq _ true true x
  have hx := len_tl x
  obtain ⟨l1, l2, l3⟩ := PyProof.Rows.lo_facts cs.cps.contains x
  obtain ⟨h1, h2, h3, h4⟩ := PyProof.Rows.hi_facts cs.cps.contains x (stripLo cs.cps.contains true x) l1
  have et : tl (Txt.stripChars x cs) = ((tl x).drop (stripLo cs.cps.contains true x)).take (stripHi cs.cps.contains true x (stripLo cs.cps.contains true x) - stripLo cs.cps.contains true x) := by rw [e0, tl_strSub]
  have key : Txt.stripChars x cs = sE ↔ stripHi cs.cps.contains true x (stripLo cs.cps.contains true x) = stripLo cs.cps.contains true x := by
    constructor
    · intro h
      rw [h] at et
      have e2 := congrArg List.length et
      rw [List.length_take, List.length_drop] at e2
      have e3 : (tl sE).length = 0 := rfl
      omega
    · intro h
      refine ext_tl ?_
      rw [et, h, Nat.sub_self, List.take_zero]
      rfl
  rw [key]
  have hg : ∀ k : Nat, k < x.length → x.cps.getD k 0 = (tl x).getD k 0 := fun k _ => (PyProof.Rows.getD_list x k).symm
  constructor
  · intro h
    rw [h] at h3
    have hend : stripLo cs.cps.contains true x = x.length := by
      rcases l3 with e | e
      · exact e
      · rcases Nat.lt_or_ge (stripLo cs.cps.contains true x) x.length with lt | ge
        · have := h3 _ (Nat.le_refl _) lt
          rw [e] at this
          cases this
        · omega
    rw [List.all_eq_true]
    intro c hc
    obtain ⟨k, hk, e⟩ := List.getElem_of_mem hc
    have := l2 k (by omega)
    rw [hg k (by omega), List.getD_eq_getElem?_getD, List.getElem?_eq_getElem hk, e] at this
    exact this
  · intro h
    rw [List.all_eq_true] at h
    rcases l3 with e | e
    · omega
    · rcases Nat.lt_or_ge (stripLo cs.cps.contains true x) x.length with lt | ge
      · have := h ((tl x).getD (stripLo cs.cps.contains true x) 0) (by
          rw [List.getD_eq_getElem?_getD, List.getElem?_eq_getElem (by omega)]
          exact List.getElem_mem _)
        rw [hg _ lt] at e
        rw [e] at this
        cases this
      · omega
theorem all_iff {p q : Nat → Bool} (h : ∀ c, p c = q c) (l : List Nat) : l.all p = l.all q := by
  rw [show p = q from funext h]
theorem low_set (c : Nat) : (Str.ofString "abcdefghijklmnopqrstuvwxyz").cps.contains c = lowB c := by
  have e : (Str.ofString "abcdefghijklmnopqrstuvwxyz").cps = #[97,98,99,100,101,102,103,104,105,106,107,108,109,110,111,112,113,114,115,116,117,118,119,120,121,122] := by decide +kernel
  rw [e]
  unfold lowB
  rw [Bool.eq_iff_iff]
  simp only [Array.contains_iff_mem, List.mem_toArray, List.mem_cons, List.not_mem_nil, or_false, Bool.and_eq_true, decide_eq_true_eq]
  omega
theorem dig_set (c : Nat) : (Str.ofString "0123456789").cps.contains c = digB c := by
  have e : (Str.ofString "0123456789").cps = #[48,49,50,51,52,53,54,55,56,57] := by decide +kernel
  rw [e]
  unfold digB
  rw [Bool.eq_iff_iff]
  simp only [Array.contains_iff_mem, List.mem_toArray, List.mem_cons, List.not_mem_nil, or_false, Bool.and_eq_true, decide_eq_true_eq]
  omega
theorem strip_low (x : Str) : decide (Txt.stripChars x (Str.ofString "abcdefghijklmnopqrstuvwxyz") = sE) = (tl x).all lowB := by
  rw [← all_iff low_set, Bool.eq_iff_iff, decide_eq_true_eq]
  exact strip_all x _
theorem strip_dig (x : Str) : decide (Txt.stripChars x (Str.ofString "0123456789") = sE) = (tl x).all digB := by
  rw [← all_iff dig_set, Bool.eq_iff_iff, decide_eq_true_eq]
  exact strip_all x _
/-! numbers -/
def figs : List Nat → List Nat
  | 45 :: r => r
  | l => l
def valF : List Nat → Int
  | 45 :: r => -((digitsVal r : Nat) : Int)
  | l => ((digitsVal l : Nat) : Int)
def okF (l : List Nat) : Bool := decide (1 ≤ (figs l).length) && (decide ((figs l).length ≤ 40) && ((figs l).all digB && !(decide ((figs l).head? = some 48) && !decide (l = [48]))))
def numF (x : Str) : Option Int := if okF (tl x) = true then some (valF (tl x)) else none
theorem figs_or (l : List Nat) : (∃ r, l = 45 :: r ∧ figs l = r ∧ valF l = -((digitsVal r : Nat) : Int)) ∨ ((∀ r, l ≠ 45 :: r) ∧ figs l = l ∧ valF l = ((digitsVal l : Nat) : Int)) := by
  by_cases h : ∃ r, l = 45 :: r
  · obtain ⟨r, rfl⟩ := h
    exact .inl ⟨r, rfl, rfl, rfl⟩
  · have h' : ∀ r, l ≠ 45 :: r := fun r e => h ⟨r, e⟩
    refine .inr ⟨h', ?_, ?_⟩
    · unfold figs
      split
      · exact absurd rfl (h' _)
      · rfl
    · unfold valF
      split
      · exact absurd rfl (h' _)
      · rfl
theorem allDig {l : List Nat} (h : l.all digB = true) : AllDigits l := fun c hc => by
  have := List.all_eq_true.mp h c hc
  unfold digB at this
  rw [Bool.and_eq_true, decide_eq_true_eq, decide_eq_true_eq] at this
  exact this
theorem okF_iff {l : List Nat} : okF l = true ↔ 1 ≤ (figs l).length ∧ (figs l).length ≤ 40 ∧ (figs l).all digB = true ∧ ((figs l).head? = some 48 → l = [48]) := by
  unfold okF
  simp only [Bool.and_eq_true, decide_eq_true_eq, Bool.not_eq_true', Bool.and_eq_false_iff, decide_eq_false_iff_not, Bool.not_eq_false']
  constructor
  · rintro ⟨a, b, c, d⟩
    exact ⟨a, b, c, fun e => by rcases d with d | d; exact absurd e d; exact d⟩
  · rintro ⟨a, b, c, d⟩
    refine ⟨a, b, c, ?_⟩
    by_cases e : (figs l).head? = some 48
    · exact .inr (d e)
    · exact .inl e
/-- int(word) reads it -/
theorem numF_reads {x : Str} {n : Int} (h : numF x = some n) : intText? x = some n ∧ x.length ≤ 41 := by
  unfold numF at h
  split at h
  · rename_i hk
    obtain ⟨h1, h2, h3, h4⟩ := okF_iff.mp hk
    have hn : valF (tl x) = n := Option.some.inj h
    have hl := len_tl x
    rcases figs_or (tl x) with ⟨r, e, f, v⟩ | ⟨e, f, v⟩
    · rw [f] at h1 h2 h3
      have hlen : x.length ≤ 41 := by
        rw [hl, e, List.length_cons]
        omega
      refine ⟨?_, hlen⟩
      rw [← hn, v]
      exact intText_neg e (allDig h3) (fun z => by rw [z] at h1; simp at h1) (by omega)
    · rw [f] at h1 h2 h3
      have hlen : x.length ≤ 41 := by omega
      refine ⟨?_, hlen⟩
      rw [← hn, v]
      exact intText_digits (allDig h3) (fun z => by rw [show tl x = [] from z] at h1; simp at h1) (by omega)
  · cases h
/-- the text of a number -/
def texF (n : Int) : Str := Str.ofString (toString n)
theorem tl_texF (n : Int) : tl (texF n) = if n < 0 then 45 :: numL n.natAbs else numL n.natAbs := by
  cases n with
  | ofNat m =>
    rw [if_neg (by exact fun h => absurd h (by exact Int.not_lt.mpr (Int.natCast_nonneg m)))]
    exact tl_num m
  | negSucc m =>
    rw [if_pos (Int.negSucc_lt_zero m)]
    have e : toString (Int.negSucc m) = "-" ++ Nat.repr (m + 1) := rfl
    show tl (Str.ofString (toString (Int.negSucc m))) = _
    rw [e, tl_ofString, String.toList_append, List.map_append]
    show 45 :: (Nat.repr (m + 1)).toList.map Char.toNat = 45 :: numL (m + 1)
    have e2 := tl_num (m + 1)
    rw [← e2, tl_ofString]
    rfl
theorem snoc_ind {α : Type} {p : List α → Prop} (h0 : p []) (h1 : ∀ l c, p l → p (l ++ [c])) (l : List α) : p l := by
  rw [← List.reverse_reverse l]
  induction l.reverse with
  | nil => exact h0
  | cons a t ih => rw [List.reverse_cons]; exact h1 _ a ih
theorem digitsVal_snoc (l : List Nat) (c : Nat) : digitsVal (l ++ [c]) = digitsVal l * 10 + (c - 48) := by
  unfold digitsVal
  rw [List.foldl_append]
  rfl
theorem val_pos : ∀ (l : List Nat), AllDigits l → l ≠ [] → l.head? ≠ some 48 → 1 ≤ digitsVal l := by
  intro l
  induction l using snoc_ind with
  | h0 => intro _ h; exact absurd rfl h
  | h1 l c ih =>
    intro hd hne hh
    rw [digitsVal_snoc]
    have hc := hd c (by simp)
    by_cases hl : l = []
    · subst hl
      have : c ≠ 48 := fun z => hh (by rw [z]; rfl)
      omega
    · have h2 : l.head? ≠ some 48 := by
        cases l with
        | nil => exact absurd rfl hl
        | cons a t => exact hh
      have := ih (fun d hdm => hd d (List.mem_append_left _ hdm)) hl h2
      omega
theorem numL_back : ∀ (l : List Nat), AllDigits l → l ≠ [] → (l.head? = some 48 → l = [48]) → numL (digitsVal l) = l := by
  intro l
  induction l using snoc_ind with
  | h0 => intro _ h; exact absurd rfl h
  | h1 l c ih =>
    intro hd hne hh
    have hc := hd c (by simp)
    rw [digitsVal_snoc]
    by_cases hl : l = []
    · subst hl
      have e : digitsVal [] * 10 + (c - 48) = c - 48 := by show 0 * 10 + (c - 48) = c - 48; omega
      rw [e, numL_lt (by omega)]
      have : 48 + (c - 48) = c := by omega
      rw [this]
      rfl
    · have h2 : l.head? ≠ some 48 := by
        intro z
        have z2 : (l ++ [c]).head? = some 48 := by
          cases l with
          | nil => exact absurd rfl hl
          | cons a t => exact z
        have := congrArg List.length (hh z2)
        simp at this
        exact hl this
      have hdl : AllDigits l := fun d hdm => hd d (List.mem_append_left _ hdm)
      have hp := val_pos l hdl hl h2
      rw [numL_step (by omega)]
      have e1 : (digitsVal l * 10 + (c - 48)) / 10 = digitsVal l := by omega
      have e2 : 48 + (digitsVal l * 10 + (c - 48)) % 10 = c := by omega
      rw [e1, e2, ih hdl hl (fun z => absurd z h2)]
theorem numL_head {n : Nat} (h : 1 ≤ n) : (numL n).head? ≠ some 48 := by
  intro z
  induction n using Nat.strongRecOn with
  | ind n ih =>
    by_cases hn : n < 10
    · rw [numL_lt hn] at z
      have : 48 + n = 48 := Option.some.inj z
      omega
    · rw [numL_step (by omega)] at z
      refine ih (n / 10) (by omega) (by omega) ?_
      cases hk : numL (n / 10) with
      | nil => exact absurd hk (numL_ne _)
      | cons a t =>
        rw [hk] at z
        exact z
/-- what is read of a number's text is that number's text -/
theorem numF_tex {x : Str} {n : Int} (h : numF x = some n) : texF n = x := by
  unfold numF at h
  split at h
  · rename_i hk
    obtain ⟨h1, h2, h3, h4⟩ := okF_iff.mp hk
    have hn : valF (tl x) = n := Option.some.inj h
    refine ext_tl ?_
    rw [tl_texF]
    rcases figs_or (tl x) with ⟨r, e, f, v⟩ | ⟨e, f, v⟩
    · rw [f] at h1 h2 h3 h4
      have hr : r ≠ [] := fun z => by rw [z] at h1; simp at h1
      have hh : r.head? ≠ some 48 := fun z => by
        have := h4 z
        rw [e] at this
        simp at this
      have hp := val_pos r (allDig h3) hr hh
      rw [← hn, v, if_pos (by omega), e, Int.natAbs_neg, Int.natAbs_natCast, numL_back r (allDig h3) hr fun z => absurd z hh]
    · rw [f] at h1 h2 h3 h4
      have hr : tl x ≠ [] := fun z => by rw [z] at h1; simp at h1
      rw [← hn, v, if_neg (by omega), Int.natAbs_natCast, numL_back _ (allDig h3) hr h4]
  · cases h
theorem digs_numL (n : Nat) : (numL n).all digB = true := by
  rw [List.all_eq_true]
  intro c hc
  have := numL_digits n c hc
  unfold digB
  rw [Bool.and_eq_true, decide_eq_true_eq, decide_eq_true_eq]
  exact this
/-- a number's text is read as that number -/
theorem numF_of {n : Int} (h : n.natAbs < 10 ^ 40) : numF (texF n) = some n := by
  have hl : (numL n.natAbs).length ≤ 40 := numL_len (by decide) h
  have h1 : 1 ≤ (numL n.natAbs).length := List.length_pos_iff.mpr (numL_ne _)
  have hok : okF (tl (texF n)) = true ∧ valF (tl (texF n)) = n := by
    rw [tl_texF]
    by_cases hn : n < 0
    · rw [if_pos hn]
      refine ⟨okF_iff.mpr ⟨h1, hl, digs_numL _, fun z => absurd z (numL_head (by omega))⟩, ?_⟩
      show -((digitsVal (numL n.natAbs) : Nat) : Int) = n
      rw [numL_val]
      omega
    · rw [if_neg hn]
      have hd : ∀ r, numL n.natAbs ≠ 45 :: r := fun r e => by
        have := numL_digits n.natAbs 45 (by rw [e]; exact List.mem_cons_self ..)
        omega
      rcases figs_or (numL n.natAbs) with ⟨r, e, _, _⟩ | ⟨e, f, v⟩
      · exact absurd e (hd r)
      · refine ⟨okF_iff.mpr ?_, ?_⟩
        · rw [f]
          refine ⟨h1, hl, digs_numL _, fun z => ?_⟩
          by_cases h0 : n.natAbs = 0
          · rw [h0]
            rfl
          · exact absurd z (numL_head (by omega))
        · rw [v, numL_val]
          omega
  unfold numF
  rw [if_pos hok.1, hok.2]
/-! lines and rows -/
theorem spl_ne (S : List Nat) : ∀ (l : List Nat) (k : Nat) (acc : List Nat), spl S k acc l ≠ []
  | [], k, acc => by rw [spl_nil]; exact List.cons_ne_nil _ _
  | c :: r, 0, acc => by
    show (if pre S (c :: r) = true then acc :: spl S (S.length - 1) [] r else spl S 0 (acc ++ [c]) r) ≠ []
    split
    · exact List.cons_ne_nil _ _
    · exact spl_ne S r 0 _
  | c :: r, k + 1, acc => by
    show spl S k acc r ≠ []
    exact spl_ne S r k acc
theorem split_ne (x y : Str) (hy : tl y ≠ []) (hk : y.cps.all (· < 256) = true) : Txt.split x y ≠ [] := fun h => by
  have := split_spl x y hy (kind_ok hk)
  rw [h] at this
  exact spl_ne _ _ _ _ this.symm
theorem tlC : tl sC = [44] := by decide +kernel
theorem tlN : tl sN = [10] := by decide +kernel
theorem back_split (x y : Str) : Txt.join y (Txt.split x y) = x := by rw [join_eq]; exact PySem.StrLaws.join_split x y
def wordsF (l : Str) : List Str := if l = sE then [] else Txt.split l sC
theorem words_join (l : Str) : Txt.join sC (wordsF l) = l := by
  unfold wordsF
  split
  · rename_i h
    rw [h]
    rfl
  · exact back_split l sC
def allS {α : Type} : List (Option α) → Option (List α)
  | [] => some []
  | none :: _ => none
  | some a :: r => (allS r).map (a :: ·)
theorem allS_some {α : Type} : ∀ {l : List (Option α)} {xs : List α}, allS l = some xs ↔ l = xs.map some
  | [], xs => by
    constructor
    · intro h
      cases (show [] = xs from Option.some.inj h)
      rfl
    · intro h
      cases xs with
      | nil => rfl
      | cons a r => cases h
  | none :: r, xs => by
    constructor
    · intro h
      cases h
    · intro h
      cases xs with
      | nil => cases h
      | cons a r => cases h
  | some a :: r, xs => by
    show (allS r).map (a :: ·) = some xs ↔ _
    rw [Option.map_eq_some_iff]
    constructor
    · rintro ⟨ys, h1, rfl⟩
      rw [allS_some.mp h1]
      rfl
    · intro h
      cases xs with
      | nil => cases h
      | cons b ys =>
        rw [List.map_cons] at h
        injection h with h1 h2
        cases h1
        exact ⟨ys, allS_some.mpr h2, rfl⟩
theorem allS_none {α : Type} : ∀ {l : List (Option α)}, allS l = none ↔ none ∈ l
  | [] => by constructor <;> intro h <;> cases h
  | none :: r => by
    constructor
    · intro _
      exact List.mem_cons_self ..
    · intro _
      rfl
  | some a :: r => by
    show (allS r).map (a :: ·) = none ↔ _
    rw [Option.map_eq_none_iff, allS_none (l := r)]
    simp
def rowF (l : Str) : Option (List Int) := allS ((wordsF l).map numF)
def okRow (m : Nat) (ahead : Option (List Int)) (r : List Int) : Bool := decide (r.length = m) && (match ahead with | none => true | some a => decide (a < r))
/-- the number of the first line that is no row -/
def rowsF (m : Nat) : Nat → Option (List Int) → List Str → Option Nat
  | _, _, [] => none
  | k, ahead, l :: ls => match rowF l with
    | none => some k
    | some r => if okRow m ahead r = true then rowsF m (k + 1) (some r) ls else some k
def stopL (lines : List Str) : Option Nat := match lines with
  | [] => some 0
  | l :: ls => if colsF (wordsF l) = true then rowsF (wordsF l).length 1 none ls else some 0
def stopF (t : Str) : Option Nat := stopL (Txt.split t sN)
def rowG (l : Str) : List Int := (rowF l).getD []
def headF (t : Str) : Str := (Txt.split t sN).headD sE
def tailF (t : Str) : List Str := (Txt.split t sN).tail
theorem split_cons (t : Str) : Txt.split t sN = headF t :: tailF t := by
  have h := split_ne t sN (by rw [tlN]; exact List.cons_ne_nil _ _) (by decide +kernel)
  unfold headF tailF
  cases e : Txt.split t sN with
  | nil => exact absurd e h
  | cons a r => rfl
theorem stop_eq (t : Str) : stopF t = if colsF (wordsF (headF t)) = true then rowsF (wordsF (headF t)).length 1 none (tailF t) else some 0 := by
  unfold stopF
  rw [split_cons]
  rfl
def lineF (r : List Int) : Str := Txt.join sC (r.map texF)
def textF (names : List Str) (rows : List (List Int)) : Str := Txt.join sN (Txt.join sC names :: rows.map lineF)
theorem row_line {l : Str} {r : List Int} (h : rowF l = some r) : lineF r = l := by
  have h2 := allS_some.mp h
  have h3 : ∀ (ws : List Str) (r : List Int), ws.map numF = r.map some → r.map texF = ws := by
    intro ws
    induction ws with
    | nil =>
      intro r e
      cases r with
      | nil => rfl
      | cons a t => cases e
    | cons w ws ih =>
      intro r e
      cases r with
      | nil => cases e
      | cons a t =>
        rw [List.map_cons, List.map_cons] at e
        injection e with e1 e2
        rw [List.map_cons, ih t e2, numF_tex e1]
  unfold lineF
  rw [h3 _ _ h2]
  exact words_join l
theorem rows_none {m : Nat} : ∀ {ls : List Str} {k : Nat} {ahead : Option (List Int)}, rowsF m k ahead ls = none → ∀ l ∈ ls, rowF l = some (rowG l) ∧ (rowG l).length = m
  | [], _, _, _ => fun _ h => absurd h (List.not_mem_nil)
  | l :: ls, k, ahead, h => by
    have e : rowsF m k ahead (l :: ls) = (match rowF l with | none => some k | some r => if okRow m ahead r = true then rowsF m (k + 1) (some r) ls else some k) := rfl
    rw [e] at h
    cases hr : rowF l with
    | none => rw [hr] at h; cases h
    | some r =>
      rw [hr] at h
      have h' : (if okRow m ahead r = true then rowsF m (k + 1) (some r) ls else some k) = none := h
      split at h'
      · rename_i hk
        intro l2 hl2
        rcases List.mem_cons.mp hl2 with z | z
        · rw [z]
          unfold rowG
          rw [hr]
          unfold okRow at hk
          rw [Bool.and_eq_true, decide_eq_true_eq] at hk
          exact ⟨rfl, hk.1⟩
        · exact rows_none h' l2 z
      · cases h'
/-- what is read is shown as itself -/
theorem text_back {t : Str} (h : stopF t = none) : textF (wordsF (headF t)) ((tailF t).map rowG) = t := by
  rw [stop_eq] at h
  split at h
  · have hr := rows_none h
    unfold textF
    rw [words_join, List.map_map]
    have e : (tailF t).map (lineF ∘ rowG) = tailF t := by
      have : (tailF t).map (lineF ∘ rowG) = (tailF t).map id := List.map_congr_left fun l hl => row_line (hr l hl).1
      rw [this, List.map_id]
    rw [e, ← split_cons]
    exact back_split t sN
  · cases h
/-- rising rows -/
def risesF (ahead : Option (List Int)) (rows : List (List Int)) : Prop := (∀ a, ahead = some a → ∀ r ∈ rows, a < r) ∧ rows.Pairwise (· < ·)
theorem rows_there {m : Nat} : ∀ {rows : List (List Int)} {ls : List Str} {k : Nat} {ahead : Option (List Int)}, ls.map rowF = rows.map some → risesF ahead rows → (∀ r ∈ rows, r.length = m) → rowsF m k ahead ls = none
  | [], ls, _, _, h, _, _ => by
    cases ls with
    | nil => rfl
    | cons a t => cases h
  | r :: rows, ls, k, ahead, h, hr, hm => by
    cases ls with
    | nil => cases h
    | cons l ls =>
      rw [List.map_cons, List.map_cons] at h
      injection h with h1 h2
      have e : rowsF m k ahead (l :: ls) = (match rowF l with | none => some k | some r => if okRow m ahead r = true then rowsF m (k + 1) (some r) ls else some k) := rfl
      rw [e, h1]
      show (if okRow m ahead r = true then rowsF m (k + 1) (some r) ls else some k) = none
      have hk : okRow m ahead r = true := by
        unfold okRow
        rw [Bool.and_eq_true, decide_eq_true_eq]
        refine ⟨hm r (List.mem_cons_self ..), ?_⟩
        cases ahead with
        | none => rfl
        | some a => exact decide_eq_true (hr.1 a rfl r (List.mem_cons_self ..))
      rw [if_pos hk]
      have hp := List.pairwise_cons.mp hr.2
      exact rows_there h2 ⟨fun a ha b hb => by cases ha; exact hp.1 b hb, hp.2⟩ fun b hb => hm b (List.mem_cons_of_mem _ hb)
theorem not_in_name {x : Str} (h : nameF x = true) {c : Nat} (hc : c < 97) : c ∉ tl x := fun hm => by
  unfold nameF at h
  simp only [Bool.and_eq_true, decide_eq_true_eq, List.all_eq_true] at h
  have := h.2.2 c hm
  unfold lowB at this
  rw [Bool.and_eq_true, decide_eq_true_eq, decide_eq_true_eq] at this
  omega
theorem name_ne {x : Str} (h : nameF x = true) : x ≠ sE := fun e => by
  subst e
  have : nameF sE = false := by decide +kernel
  rw [this] at h
  cases h
theorem words_names {ws : List Str} (h : ∀ w ∈ ws, w ≠ sE ∧ 44 ∉ tl w) : wordsF (Txt.join sC ws) = ws := by
  cases ws with
  | nil => rfl
  | cons w r =>
    have hj : Txt.join sC (w :: r) ≠ sE := by
      intro e
      have e2 := congrArg tl e
      rw [join_eq, tl_join] at e2
      have hw := (h w (List.mem_cons_self ..)).1
      have hw2 : tl w ≠ [] := fun z => hw (ext_tl z)
      cases r with
      | nil => exact hw2 e2
      | cons b t =>
        have e3 : tl w ++ (tl sC ++ joinL (tl sC) ((b :: t).map tl)) = [] := e2
        exact hw2 (List.append_eq_nil_iff.mp e3).1
    unfold wordsF
    rw [if_neg hj]
    exact split_join tlC (by decide +kernel) (List.cons_ne_nil _ _) fun p hp => (h p hp).2
theorem tex_ne (n : Int) : texF n ≠ sE := fun e => by
  have := congrArg tl e
  rw [tl_texF] at this
  split at this
  · cases this
  · exact numL_ne _ this
theorem tex_free (n : Int) {c : Nat} (h : c < 45) : c ∉ tl (texF n) := by
  rw [tl_texF]
  split
  · intro hm
    rcases List.mem_cons.mp hm with e | hm
    · omega
    · exact numL_free (Or.inl (by omega)) hm
  · exact numL_free (Or.inl (by omega))
theorem row_of {r : List Int} (h : ∀ v ∈ r, v.natAbs < 10 ^ 40) : rowF (lineF r) = some r := by
  unfold rowF lineF
  rw [words_names (fun w hw => by
    obtain ⟨v, _, rfl⟩ := List.mem_map.mp hw
    exact ⟨tex_ne v, tex_free v (by decide)⟩)]
  refine allS_some.mpr ?_
  rw [List.map_map]
  exact List.map_congr_left fun v hv => numF_of (h v hv)
theorem join_free {s : Nat} {y : Str} (hy : s ∉ tl y) : ∀ {ws : List Str}, (∀ w ∈ ws, s ∉ tl w) → s ∉ tl (Txt.join y ws) := by
  intro ws
  rw [join_eq]
  induction ws with
  | nil => intro _ h; cases h
  | cons w r ih =>
    intro h
    cases r with
    | nil => exact h w (List.mem_cons_self ..)
    | cons b t =>
      have e : Str.join y (w :: b :: t) = w ++ y ++ Str.join y (b :: t) := rfl
      rw [e, tl_append, tl_append]
      intro hm
      rcases List.mem_append.mp hm with hm | hm
      · rcases List.mem_append.mp hm with hm | hm
        · exact h w (List.mem_cons_self ..) hm
        · exact hy hm
      · exact ih (fun w hw => h w (List.mem_cons_of_mem _ hw)) hm
theorem text_split {names : List Str} {rows : List (List Int)} (hn : ∀ w ∈ names, nameF w = true) : Txt.split (textF names rows) sN = Txt.join sC names :: rows.map lineF := by
  have hC : (10 : Nat) ∉ tl sC := by rw [tlC]; decide
  refine split_join tlN (by decide +kernel) (List.cons_ne_nil _ _) fun p hp => ?_
  rcases List.mem_cons.mp hp with e | hp
  · subst e
    exact join_free hC fun w hw => not_in_name (hn w hw) (by decide)
  · obtain ⟨r, _, rfl⟩ := List.mem_map.mp hp
    refine join_free hC fun w hw => ?_
    obtain ⟨v, _, rfl⟩ := List.mem_map.mp hw
    exact tex_free v (by decide)
theorem cols_names {ws : List Str} (h : colsF ws = true) : ws.length ≤ 8 ∧ (∀ w ∈ ws, nameF w = true) ∧ ws.Nodup := by
  unfold colsF at h
  simp only [Bool.and_eq_true, decide_eq_true_eq, List.all_eq_true] at h
  exact h
/-- the text of a table is read as that table -/
theorem text_there {names : List Str} {rows : List (List Int)} (hn : colsF names = true) (hr : rows.Pairwise (· < ·)) (hm : ∀ r ∈ rows, r.length = names.length) (hv : ∀ r ∈ rows, ∀ v ∈ r, v.natAbs < 10 ^ 40) :
    stopF (textF names rows) = none ∧ wordsF (headF (textF names rows)) = names ∧ (tailF (textF names rows)).map rowG = rows := by
  obtain ⟨h8, hnm, hnd⟩ := cols_names hn
  have hs := text_split (rows := rows) hnm
  have hh : headF (textF names rows) = Txt.join sC names := by unfold headF; rw [hs]; rfl
  have ht : tailF (textF names rows) = rows.map lineF := by unfold tailF; rw [hs]; rfl
  have hw : wordsF (Txt.join sC names) = names := words_names fun w hw => ⟨name_ne (hnm w hw), not_in_name (hnm w hw) (by decide)⟩
  have hrow : (rows.map lineF).map rowF = rows.map some := by
    rw [List.map_map]
    exact List.map_congr_left fun r hr => row_of (hv r hr)
  refine ⟨?_, by rw [hh, hw], ?_⟩
  · rw [stop_eq, hh, ht, hw, if_pos hn]
    exact rows_there hrow ⟨fun a z => (by cases z), hr⟩ hm
  · rw [ht, List.map_map]
    have : rows.map (rowG ∘ lineF) = rows.map id := List.map_congr_left fun r hr => by
      show (rowF (lineF r)).getD [] = r
      rw [row_of (hv r hr)]
      rfl
    rw [this, List.map_id]
end F89
set_option Elab.async false
set_option linter.all false
set_option maxRecDepth 100000
set_option maxHeartbeats 2000000
namespace F89
open PySem PySem.Spec L2 HX
open PyProof.Rows hiding St
/-- what the top has left: facts by names -/
structure Top (K : PySem.W.Frag) (mg : Str → Option Value) : Prop where
  glo : ∀ x : Str, (He.Fa.glo x).ok K = true → mg x = some (.ref (He.ga K x))
  free : ∀ x : Str, (He.Fa.free x).ok K = true → mg x = none
  int : ∀ (x : Str) (i : Int), (He.Fa.int x i).ok K = true → ∃ t, mg x = some (.int i t)
  str : ∀ (x z : Str), (He.Fa.str x z).ok K = true → ∃ t, mg x = some (.str z t)
  says : He.SaysD fa fn K
  more : ex K = true
section
variable {K : PySem.W.Frag} {mg : Str → Option Value}
theorem Top.g (T : Top K mg) (i : Nat) {x : Str} (h : fa[i]? = some (.glo x) := by rfl) : mg x = some (.ref (He.ga K x)) := T.glo x (T.says.fact i h)
theorem Top.f (T : Top K mg) (i : Nat) {x : Str} (h : fa[i]? = some (.free x) := by rfl) : mg x = none := T.free x (T.says.fact i h)
theorem Top.i (T : Top K mg) (i : Nat) {x : Str} {z : Int} (h : fa[i]? = some (.int x z) := by rfl) : ∃ t, mg x = some (.int z t) := T.int x z (T.says.fact i h)
theorem Top.s (T : Top K mg) (i : Nat) {x z : Str} (h : fa[i]? = some (.str x z) := by rfl) : ∃ t, mg x = some (.str z t) := T.str x z (T.says.fact i h)
theorem kIsName (T : Top K mg) : PySem.W.keepIn K (.ref (He.ga K "is_name")) = true := (T.says.def_ 1 (d := dIsName) rfl).choose_spec.kp
theorem kIsValue (T : Top K mg) : PySem.W.keepIn K (.ref (He.ga K "is_value")) = true := (T.says.def_ 2 (d := dIsValue) rfl).choose_spec.kp
theorem kIsRow (T : Top K mg) : PySem.W.keepIn K (.ref (He.ga K "is_row")) = true := (T.says.def_ 3 (d := dIsRow) rfl).choose_spec.kp
theorem kWantRow (T : Top K mg) : PySem.W.keepIn K (.ref (He.ga K "want_row")) = true := (T.says.def_ 4 (d := dWantRow) rfl).choose_spec.kp
theorem kAreColumns (T : Top K mg) : PySem.W.keepIn K (.ref (He.ga K "are_columns")) = true := (T.says.def_ 5 (d := dAreColumns) rfl).choose_spec.kp
theorem kNumberIn (T : Top K mg) : PySem.W.keepIn K (.ref (He.ga K "number_in")) = true := (T.says.def_ 10 (d := dNumberIn) rfl).choose_spec.kp
theorem kNumbersIn (T : Top K mg) : PySem.W.keepIn K (.ref (He.ga K "numbers_in")) = true := (T.says.def_ 11 (d := dNumbersIn) rfl).choose_spec.kp
theorem kWantText (T : Top K mg) : PySem.W.keepIn K (.ref (He.ga K "want_text")) = true := (T.says.def_ 12 (d := dWantText) rfl).choose_spec.kp
theorem kListed (T : Top K mg) : PySem.W.keepIn K (.ref (He.ga K "listed")) = true := (T.says.def_ 13 (d := dListed) rfl).choose_spec.kp
theorem kShowTable (T : Top K mg) : PySem.W.keepIn K (.ref (He.ga K "show_table")) = true := (T.says.def_ 14 (d := dShowTable) rfl).choose_spec.kp
theorem kNamesIn (T : Top K mg) : PySem.W.keepIn K (.ref (He.ga K "names_in")) = true := (T.says.def_ 15 (d := dNamesIn) rfl).choose_spec.kp
theorem kReadTable (T : Top K mg) : PySem.W.keepIn K (.ref (He.ga K "read_table")) = true := (T.says.def_ 16 (d := dReadTable) rfl).choose_spec.kp
theorem kWell (T : Top K mg) : PySem.W.keepIn K (.ref (He.ga K "_law_well")) = true := (T.says.def_ 17 (d := dWell) rfl).choose_spec.kp
theorem kDraw (T : Top K mg) : PySem.W.keepIn K (.ref (He.ga K "_law_draw")) = true := (T.says.def_ 18 (d := dDraw) rfl).choose_spec.kp
theorem kNames (T : Top K mg) : PySem.W.keepIn K (.ref (He.ga K "_law_names")) = true := (T.says.def_ 19 (d := dNames) rfl).choose_spec.kp
theorem kValue (T : Top K mg) : PySem.W.keepIn K (.ref (He.ga K "_law_value")) = true := (T.says.def_ 20 (d := dValue) rfl).choose_spec.kp
theorem kText (T : Top K mg) : PySem.W.keepIn K (.ref (He.ga K "_law_text")) = true := (T.says.def_ 21 (d := dText) rfl).choose_spec.kp
theorem kSpoilt (T : Top K mg) : PySem.W.keepIn K (.ref (He.ga K "_law_spoilt")) = true := (T.says.def_ 22 (d := dSpoilt) rfl).choose_spec.kp
theorem kNumber (T : Top K mg) : PySem.W.keepIn K (.ref (He.ga K "_law_number")) = true := (T.says.def_ 23 (d := dNumber) rfl).choose_spec.kp
theorem kStop (T : Top K mg) : PySem.W.keepIn K (.ref (He.ga K "_law_stop")) = true := (T.says.def_ 24 (d := dStop) rfl).choose_spec.kp
theorem kAnswer (T : Top K mg) : PySem.W.keepIn K (.ref (He.ga K "_law_answer")) = true := (T.says.def_ 25 (d := dAnswer) rfl).choose_spec.kp
end
/-- a comprehension's scope beside its def's -/
theorem bk (N : List Str) (sc : Scope) (own : List (Str × Nat)) {scope : Scope} (h : blkC N sc scope own = true := by decide +kernel) : BlkOk N sc scope own := blkOk_by h
theorem iteB {c : Bool} {A B : Prop} (h1 : c = true → A) (h2 : c = false → B) : if c = true then A else B := by
  cases c with
  | true => exact h1 rfl
  | false => exact h2 rfl
theorem decT {p : Prop} [Decidable p] (h : decide p = true) : p := of_decide_eq_true h
theorem decF {p : Prop} [Decidable p] (h : decide p = false) : ¬ p := of_decide_eq_false h
theorem qb {Q : VK} {H : Hp} {a b : Bool} (q : Q (.bl a) H) (e : a = b) : Q (.bl b) H := e ▸ q
section
variable {P : Program} {w : World} {K : PySem.W.Frag} {mg : Str → Option Value} {base : Heap}
/-! ### is_name -/
def spIsName : Sp := fun vs H Q _ => ∃ x, vs = [.str x] ∧ x.length ≤ sizeLine ∧ Q (.bl (nameF x)) H
theorem scIsName : FnScope ["thing"] ["thing"] (defScope sIsName) := ⟨rfl, rfl, rfl, by decide +kernel, rfl, by decide +kernel, by decide +kernel⟩
theorem ok_is_name (T : Top K mg) : FnR P w K mg base CX0 1 (He.ga K "is_name") spIsName := by
  obtain ⟨fd, F⟩ := T.says.def_ 1 (d := dIsName) rfl
  have b : Binds K fd ["thing"] [] := F.bindsN fun _ _ _ _ _ _ us hl => match us, hl with | [_], _ => rfl
  refine flat (FunD.ok F scIsName (fun vs H Q E h => ?_) (fun cdv A outer s H vs Q E hr h => ?_)) b
  · obtain ⟨v, rfl, _⟩ := h
    rfl
  · obtain ⟨x, rfl, hz, q⟩ := h
    refine ⟨_, pss_one (ps_ret (pe_and (pe_callB call_isi rfl (T.f 27) (by decide +kernel) (pa_cons (pv 0) (pa_cons (pe_ty (T := "str") (T.f 28)) pa_nil)))
        (pe_and (pe_chain op_le op_le pe_int (pe_callB call_len rfl (T.f 29) (by decide +kernel) (pa_cons (pv 0) pa_nil)) (pe_gI (T.i 39)))
          (pe_one (pe_cmpR op_eq (pe_bm PySem.F.plainAttrs_str PySem.F.slot_str_strip PySem.F.type_str_strip mt_stripChars (pv 0) (pa_cons (pe_gS (T.s 42)) pa_nil)) pe_str (nomark _)))))), ?_⟩
    unfold nameF at q
    refine ⟨.str x, rfl, _, _, _, _, true, rfl, .ty _, .base (.str x), rfl, true, rfl, ?_⟩
    rw [if_pos rfl]
    refine ⟨.str x, rfl, .str x, x.length, rfl, ⟨hz, rfl⟩, 1, _, rfl, rfl, _, rfl, iteB (fun h1 => ?_) (fun h1 => ?_)⟩
    · have e1 : (1 : Nat) ≤ x.length := by have := decT h1; omega
      refine ⟨x.length, 8, rfl, rfl, _, rfl, iteB (fun h8 => ?_) (fun h8 => ?_)⟩
      · have e8 : x.length ≤ 8 := by have := decT h8; omega
        rw [decide_eq_true e1, decide_eq_true e8, ← strip_low] at q
        refine ⟨.str x, rfl, rfl, x, _, rfl, rfl, hz, rfl, qb q ?_⟩
        rw [Bool.eq_iff_iff, Bool.true_and, Bool.true_and, decide_eq_true_eq, decide_eq_true_eq]
        exact ⟨fun z => congrArg V.str z, fun z => V.str.inj z⟩
      · have e8 : ¬ x.length ≤ 8 := by have := decF h8; omega
        rw [decide_eq_false e8] at q
        exact qb q (by cases decide (1 ≤ x.length) <;> rfl)
    · have e1 : ¬ (1 : Nat) ≤ x.length := by have := decF h1; omega
      rw [decide_eq_false e1] at q
      exact ⟨false, rfl, q⟩
/-! ### is_value -/
def spIsValue : Sp := fun vs H Q _ => ∃ i, vs = [.int i] ∧ Q (.bl true) H
theorem scIsValue : FnScope ["thing"] ["thing"] (defScope sIsValue) := ⟨rfl, rfl, rfl, by decide +kernel, rfl, by decide +kernel, by decide +kernel⟩
theorem ok_is_value (T : Top K mg) : FnR P w K mg base CX0 1 (He.ga K "is_value") spIsValue := by
  obtain ⟨fd, F⟩ := T.says.def_ 2 (d := dIsValue) rfl
  have b : Binds K fd ["thing"] [] := F.bindsN fun _ _ _ _ _ _ us hl => match us, hl with | [_], _ => rfl
  refine flat (FunD.ok F scIsValue (fun vs H Q E h => ?_) (fun cdv A outer s H vs Q E hr h => ?_)) b
  · obtain ⟨v, rfl, _⟩ := h
    rfl
  · obtain ⟨i, rfl, q⟩ := h
    refine ⟨_, pss_one (ps_ret (pe_and (pe_callB call_isi rfl (T.f 27) (by decide +kernel) (pa_cons (pv 0) (pa_cons (pe_ty (T := "int") (T.f 31)) pa_nil)))
        (pe_one (pe_not (pe_callB call_isi rfl (T.f 27) (by decide +kernel) (pa_cons (pv 0) (pa_cons (pe_ty (T := "bool") (T.f 32)) pa_nil))))))), ?_⟩
    refine ⟨.int i, rfl, _, _, _, _, true, rfl, .ty _, .base (.int i), rfl, true, rfl, ?_⟩
    rw [if_pos rfl]
    exact ⟨.int i, rfl, _, _, _, _, false, rfl, .ty _, .base (.int i), rfl, false, rfl, q⟩
/-! ### is_row -/
def spIsRow : Sp := fun vs H Q _ => ∃ p ns, vs = [.ref p, .int ((List.length ns : Nat) : Int)] ∧ SqT K H p (ns.map V.int) ∧ ns.length ≤ 1000 ∧ ∀ H', Ext H H' → Q (.bl true) H'
theorem scIsRow : FnScope ["thing", "many", "one"] ["thing", "many"] (defScope sIsRow) := ⟨rfl, rfl, rfl, by decide +kernel, rfl, by decide +kernel, by decide +kernel⟩
theorem ok_is_row (T : Top K mg) : FnR P w K mg base CX0 2 (He.ga K "is_row") (spIsRow (K := K)) := by
  obtain ⟨fd, F⟩ := T.says.def_ 3 (d := dIsRow) rfl
  have b : Binds K fd ["thing", "many"] [] := F.bindsN fun _ _ _ _ _ _ us hl => match us, hl with | [_, _], _ => rfl
  refine flat (FunD.ok F scIsRow (fun vs H Q E h => ?_) (fun cdv A outer s H vs Q E hr h => ?_)) b
  · obtain ⟨p, ns, rfl, _⟩ := h
    rfl
  · obtain ⟨p, ns, rfl, hs, hz, q⟩ := h
    refine ⟨_, pss_one (ps_ret (pe_and (pe_callB call_isi rfl (T.f 27) (by decide +kernel) (pa_cons (pv 0) (pa_cons (pe_ty (T := "tuple") (T.f 33)) pa_nil)))
        (pe_and (pe_cmpR op_eq (pe_callB call_len rfl (T.f 29) (by decide +kernel) (pa_cons (pv 0) pa_nil)) (pv 1) (nomark _))
          (pe_one (pe_callB (cr_all rfl) rfl (T.f 30) (by decide +kernel) (pa_cons (pe_lc (own := [("one", 2)]) rfl scIsRow.nd (pi_tup (pv 0)) (bk ["thing", "many", "one"] (defScope sIsRow) [("one", 2)])
            (fun _ _ _ _ _ => pg_name (i := 2) scIsRow.nd rfl (Or.inl rfl)) (fun _ _ _ _ _ => pts_nil) (fun _ _ _ _ _ => pe_f0 (ok_is_value T) hr (T.g 6) (kIsValue T) (pa_cons (pv 2) pa_nil))) pa_nil)))))), ?_⟩
    refine ⟨.ref p, rfl, _, _, _, _, true, rfl, .ty _, tyx_tup hs, rfl, true, rfl, ?_⟩
    rw [if_pos rfl]
    refine ⟨.ref p, rfl, .ref p, ns.length, rfl, .inr ⟨_, hs, by rw [List.length_map]⟩, _, rfl, rfl, _, rfl, ?_⟩
    rw [if_pos (decide_eq_true rfl)]
    dsimp only [tNot, tB, tTest, tCB, tCons]
    refine tlc_map (fun R r => ⟨.ref p, rfl, p, rfl, ⟨_, hs⟩, r⟩) ns V.int (fun _ => .bl true) (walk_tupM ns V.int) (by rw [sizeLine_eq]; omega) (fun H' e => hs.ext e) (fun y H1 hy e1 Q' hq => ⟨rfl, .int y, rfl, y, rfl, hq H1 .rfl'⟩) fun D H1 hD e1 hl => ?_
    exact ⟨D, ns.map fun _ => true, rfl, .inl (.inl (by rw [hl, List.map_map]; rfl)), qb (q H1 e1) (all_true ns).symm⟩
/-! ### want_row -/
def spWantRow : Sp := fun vs H Q _ => ∃ p ns at_, vs = [.ref p, .int ((List.length ns : Nat) : Int), .int at_] ∧ SqT K H p (ns.map V.int) ∧ ns.length ≤ 1000 ∧ ∀ H', Ext H H' → Q .non H'
theorem scWantRow : FnScope ["thing", "many", "at"] ["thing", "many", "at"] (defScope sWantRow) := ⟨rfl, rfl, rfl, by decide +kernel, rfl, by decide +kernel, by decide +kernel⟩
theorem ok_want_row (T : Top K mg) : FnR P w K mg base CX0 3 (He.ga K "want_row") (spWantRow (K := K)) := by
  obtain ⟨fd, F⟩ := T.says.def_ 4 (d := dWantRow) rfl
  obtain ⟨ds, hv, b⟩ := F.binds1 (ps := ["thing", "many", "at"]) 3 1 (List.cons_ne_nil _ _) rfl (fun T kV doc pm an cdv ct us its h1 h2 => match us, its, h1, h2 with | [_, _, _], [_], _, _ => ⟨_, rfl, rfl⟩)
  cases hv
  refine flat (FunD.ok F scWantRow (fun vs H Q E h => ?_) (fun cdv A outer s H vs Q E hr h => ?_)) b
  · obtain ⟨p, ns, at_, rfl, _⟩ := h
    rfl
  · obtain ⟨p, ns, at_, rfl, hs, hz, q⟩ := h
    refine ⟨_, pss_one (ps_if (pt_not (pt_val (pe_f0 (ok_is_row T) hr (T.g 7) (kIsRow T) (pa_cons (pv 0) (pa_cons (pv 1) pa_nil))))) pss_dead pss_nil), ?_⟩
    exact ⟨.ref p, rfl, _, rfl, p, ns, rfl, hs, hz, fun H' e => ⟨true, rfl, q H' e⟩⟩
/-! ### are_columns -/
def spAreColumns : Sp := fun vs H Q _ => ∃ p ws, vs = [.ref p] ∧ SqL K H p (ws.map V.str) ∧ ws.length ≤ sizeLine ∧ (∀ x ∈ ws, x.length ≤ sizeLine) ∧ ∀ H', Ext H H' → Q (.bl (colsF ws)) H'
theorem scAreColumns : FnScope ["thing", "one"] ["thing"] (defScope sAreColumns) := ⟨rfl, rfl, rfl, by decide +kernel, rfl, by decide +kernel, by decide +kernel⟩
theorem ok_are_columns (T : Top K mg) : FnR P w K mg base CX0 2 (He.ga K "are_columns") (spAreColumns (K := K)) := by
  obtain ⟨fd, F⟩ := T.says.def_ 5 (d := dAreColumns) rfl
  have b : Binds K fd ["thing"] [] := F.bindsN fun _ _ _ _ _ _ us hl => match us, hl with | [_], _ => rfl
  refine flat (FunD.ok F scAreColumns (fun vs H Q E h => ?_) (fun cdv A outer s H vs Q E hr h => ?_)) b
  · obtain ⟨p, ws, rfl, _⟩ := h
    rfl
  · obtain ⟨p, ws, rfl, hs, hn, hz, q⟩ := h
    refine ⟨_, pss_cons (ps_if (PW.pt (pw_or (pt_not (pt_val (pe_callB call_isi rfl (T.f 27) (by decide +kernel) (pa_cons (pv 0) (pa_cons (pe_ty (T := "list") (T.f 34)) pa_nil)))))
        (pw_or (pt_cmpR op_gt (pe_callB call_len rfl (T.f 29) (by decide +kernel) (pa_cons (pv 0) pa_nil)) (pe_gI (T.i 40)) (nomark _))
          (pw_or1 (pt_not (pt_val (pe_callB (cr_all rfl) rfl (T.f 30) (by decide +kernel) (pa_cons (pe_lc (own := [("one", 1)]) rfl scAreColumns.nd (pi_list (pv 0)) (bk ["thing", "one"] (defScope sAreColumns) [("one", 1)])
            (fun _ _ _ _ _ => pg_name (i := 1) scAreColumns.nd rfl (Or.inl rfl)) (fun _ _ _ _ _ => pts_nil) (fun _ _ _ _ _ => pe_f0 (ok_is_name T) hr (T.g 5) (kIsName T) (pa_cons (pv 1) pa_nil))) pa_nil))))))))
        (pss_one (ps_ret pe_bl)) pss_nil)
      (pss_one (ps_ret (pe_cmpR op_eq (pe_lenSetS (T.f 29) (T.f 35) (pv 0)) (pe_callB call_len rfl (T.f 29) (by decide +kernel) (pa_cons (pv 0) pa_nil)) (nomark _)))), ?_⟩
    have hrt : ∀ (H' : Hp) (b : Bool), Ext H H' → colsF ws = b → Q (.bl b) H' := fun H' b e z => z ▸ q H' e
    unfold colsF at hrt
    refine ⟨.ref p, rfl, _, _, _, _, true, rfl, .ty _, tyx_lst hs, rfl, true, rfl, ?_⟩
    refine iteB (fun z => by cases z) (fun _ => ?_)
    refine ⟨.ref p, rfl, .ref p, ws.length, rfl, .inl ⟨_, hs, by rw [List.length_map]⟩, _, 8, rfl, rfl, _, rfl, ?_⟩
    refine iteB (fun h8 => ?_) (fun h8 => ?_)
    · exact hrt H false .rfl' (by have := decT h8; rw [decide_eq_false (by omega)]; rfl)
    have e8 : ws.length ≤ 8 := by have := decF h8; omega
    rw [decide_eq_true e8] at hrt
    dsimp only [tNot, tB, tTest, tCB, tCons]
    refine tlc_map (fun R r => ⟨.ref p, rfl, p, rfl, ⟨_, hs⟩, r⟩) ws V.str (fun x => .bl (nameF x)) (walk_listM ws V.str) hn (fun H' e => hs.ext e) (fun y H1 hy e1 Q' hq => ⟨rfl, .str y, rfl, y, rfl, hz y hy, hq H1 .rfl'⟩) fun D H1 hD e1 hl => ?_
    refine ⟨D, ws.map nameF, rfl, .inl (.inl (by rw [hl, List.map_map]; rfl)), _, rfl, ?_⟩
    have ea : (ws.map nameF).all id = ws.all nameF := by rw [List.all_map]; rfl
    rw [ea]
    refine iteB (fun hb => ?_) (fun hb => ?_)
    · have hb2 : ws.all nameF = false := by simpa using hb
      exact hrt H1 false e1 (by rw [hb2]; rfl)
    · have hb2 : ws.all nameF = true := by simpa using hb
      refine ⟨.ref p, rfl, p, ws, rfl, hs.ext e1, by omega, .ref p, rfl, .ref p, ws.length, rfl, .inl ⟨_, hs.ext e1, by rw [List.length_map]⟩, rfl, ?_⟩
      refine hrt H1 _ e1 ?_
      rw [hb2, Bool.true_and, Bool.true_and, Bool.eq_iff_iff, decide_eq_true_eq, decide_eq_true_eq]
      constructor
      · intro hnd
        rw [(onces_len ws).mpr hnd]
      · intro he
        have := V.int.inj he
        exact (onces_len ws).mp (by omega)
end
end F89
set_option Elab.async false
set_option linter.all false
set_option maxRecDepth 100000
set_option maxHeartbeats 2000000
namespace F89
open PySem PySem.Spec L2 HX
open PyProof.Rows hiding St
/-- a list of rows: ks tells each tuple and its numbers -/
def RowsAt (K : PySem.W.Frag) (H : Hp) (p : Addr) (ks : List (Addr × List Int)) : Prop := SqL K H p (ks.map fun q => V.ref q.1) ∧ ∀ q ∈ ks, SqT K H q.1 (q.2.map V.int)
theorem RowsAt.ext {K : PySem.W.Frag} {H H' : Hp} {p : Addr} {ks : List (Addr × List Int)} (h : RowsAt K H p ks) (e : Ext H H') : RowsAt K H' p ks := ⟨h.1.ext e, fun q hq => (h.2 q hq).ext e⟩
/-- a Table -/
def TableAt (K : PySem.W.Frag) (H : Hp) (a : Addr) (names : List Str) (rows : List (List Int)) : Prop := ∃ dx ln lh ks, H a = some (.ins (He.ga K "Table") dx [("named", V.ref ln), ("held", V.ref lh)]) ∧ SqL K H ln (names.map V.str) ∧ RowsAt K H lh ks ∧ rows = ks.map (·.2)
theorem TableAt.ext {K : PySem.W.Frag} {H H' : Hp} {a : Addr} {names : List Str} {rows : List (List Int)} (h : TableAt K H a names rows) (e : Ext H H') : TableAt K H' a names rows := by
  obtain ⟨dx, ln, lh, ks, h1, h2, h3, h4⟩ := h
  exact ⟨dx, ln, lh, ks, e _ _ h1, h2.ext e, h3.ext e, h4⟩
/-- R: xs without doubles, rising -/
def SortedOf (R xs : List (List Int)) : Prop := R.Pairwise (· < ·) ∧ ∀ r, r ∈ R ↔ r ∈ xs
theorem lt_of_le_ne {a b : List Int} (h : a ≤ b) (n : a ≠ b) : a < b := by
  by_cases z : a < b
  · exact z
  · exact absurd (List.le_antisymm h (List.not_lt.mp z)) n
theorem sorted_uniq {R S xs : List (List Int)} (h : SortedOf R xs) (k : SortedOf S xs) : R = S := by
  have irr : ∀ {l : List (List Int)}, l.Pairwise (· < ·) → l.Nodup := fun p => List.Pairwise.imp (fun {a b} (h : a < b) (e : a = b) => List.lt_irrefl b (by rw [e] at h; exact h)) p
  have pm : R.Perm S := (List.perm_ext_iff_of_nodup (irr h.1) (irr k.1)).mpr fun r => by rw [h.2, k.2]
  refine pm.eq_of_pairwise (le := fun a b => a ≤ b) (fun a b _ _ h1 h2 => List.le_antisymm h1 h2) (h.1.imp fun h => ?_) (k.1.imp fun h => ?_)
  · exact List.not_lt.mp fun z => List.lt_irrefl _ (List.lt_trans h z)
  · exact List.not_lt.mp fun z => List.lt_irrefl _ (List.lt_trans h z)
section
variable {P : Program} {w : World} {K : PySem.W.Frag} {mg : Str → Option Value} {base : Heap}
/-! ### Table.__init__ -/
def spInit (K : PySem.W.Frag) : Sp := fun vs H Q _ => ∃ a pc pr dx names ks, vs = [.ref a, .ref pc, .ref pr] ∧ H a = some (.ins (He.ga K "Table") dx []) ∧ SqL K H pc (names.map V.str) ∧ (∀ x ∈ names, Str.length x ≤ sizeLine) ∧ colsF names = true ∧
  RowsAt K H pr ks ∧ ks.length < 64 ∧ (∀ q ∈ ks, q.2.length = names.length) ∧ ∀ H' R, ExtO a H H' → TableAt K H' a names R → SortedOf R (ks.map (·.2)) → Q .non H'
theorem scInit : FnScope ["self", "columns", "rows", "at", "row"] ["self", "columns", "rows"] (defScope sTableInit) := ⟨rfl, rfl, rfl, by decide +kernel, rfl, by decide +kernel, by decide +kernel⟩
theorem ok_init (T : Top K mg) : FnOk P w K mg base CX0 4 (He.ma K (He.ga K "Table") "__init__") ((T.says.def_ 6 (d := dTableInit) rfl).choose) ["self", "columns", "rows"] (spInit K) := by
  have F := (T.says.def_ 6 (d := dTableInit) rfl).choose_spec
  refine FunD.ok F scInit (fun vs H Q E h => ?_) (fun cdv A outer s H vs Q E hr h => ?_)
  · obtain ⟨a, pc, pr, dx, names, ks, rfl, _⟩ := h
    rfl
  · obtain ⟨a, pc, pr, dx, names, ks, rfl, ha, hc, hz, hcol, hrs, h64, hw, q⟩ := h
    obtain ⟨h8, hnm, hnd⟩ := cols_names hcol
    have cT : Cls K (He.ga K "Table") := He.cls_ok (T.says.fact 45 rfl)
    have n1 : NoAttr K (He.ga K "Table") "named" := He.noat_ok (T.says.fact 46 rfl)
    have n2 : NoAttr K (He.ga K "Table") "held" := He.noat_ok (T.says.fact 47 rfl)
    refine ⟨_, pss_cons (ps_if (pt_not (pt_val (pe_f0 ((ok_are_columns T).mono (by decide)) hr (T.g 9) (kAreColumns T) (pa_cons (pv 1) pa_nil)))) pss_dead pss_nil)
      (pss_cons (ps_if (pt_cmpR op_isN (pv 2) pe_non (nomark _)) pss_dead pss_nil)
      (pss_cons (ps_if (pt_not (pt_val (pe_callB call_isi rfl (T.f 27) (by decide +kernel) (pa_cons (pv 2) (pa_cons (pe_ty (T := "list") (T.f 34)) pa_nil))))) pss_dead pss_nil)
      (pss_cons (ps_for (passes_of rfl) rfl (pi_enum rfl (T.f 36) (pa_cons (pv 2) pa_nil)) (pg_tup rfl (pgs_cons (pg_name (i := 3) scInit.nd rfl (Or.inl rfl)) (pgs_cons (pg_name (i := 4) scInit.nd rfl (Or.inl rfl)) pgs_nil)))
        (pss_one (ps_expr (pe_f0 (ok_want_row T) hr (T.g 8) (kWantRow T) (pa_cons (pv 4) (pa_cons (pe_callB call_len rfl (T.f 29) (by decide +kernel) (pa_cons (pv 1) pa_nil)) (pa_cons (pv 3) pa_nil)))))))
      (pss_cons (ps_fld (pv 0) (pe_callTy call_list_of rfl (T.f 34) (by decide +kernel) (pa_cons (pv 1) pa_nil)) rfl)
      (pss_one (ps_fld (pv 0) (pe_callB (HX.cr_sortedS rfl (r64 hr)) rfl (T.f 37) (by decide +kernel) (pa_cons (pe_callTy (cr_setOfT rfl (r64 hr)) rfl (T.f 35) (by decide +kernel) (pa_cons (pv 2) pa_nil)) pa_nil)) rfl)))))), ?_⟩
    refine ⟨.ref pc, rfl, pc, names, rfl, hc, by rw [sizeLine_eq]; omega, hz, fun H1 e1 => ⟨_, rfl, iteB (fun z => by rw [hcol] at z; cases z) (fun _ => ?_)⟩⟩
    refine ⟨.ref pr, rfl, rfl, _, rfl, iteB (fun z => absurd (decT z) (by intro y; cases y)) (fun _ => ?_)⟩
    refine ⟨.ref pr, rfl, _, _, _, _, true, rfl, .ty _, tyx_lst (hrs.1.ext e1), rfl, true, rfl, iteB (fun z => by cases z) (fun _ => ?_)⟩
    dsimp only [tNext, tSeq]
    refine tfor_it (fun R r => ⟨.ref pr, rfl, pr, _, rfl, hrs.1.ext e1, r⟩) walk_enum (Pv := fun i σ' H' => ∃ o1 o2, σ' = [some (.ref a), some (.ref pc), some (.ref pr), o1, o2] ∧ Ext H H') ⟨none, none, rfl, e1⟩
      (fun i σ' H' _ ⟨_, _, _, e⟩ => hrs.1.ext e) ?_ ?_
    · rintro i x σ' H1' H2 hi ⟨o1, o2, rfl, e⟩ ⟨T', x1, y1, rfl, hT, rfl, hx1, hy1⟩
      cases (Option.some.inj hx1 : _ = x1)
      have hy2 : (ks.map fun q => V.ref q.1)[i]? = some y1 := hy1
      rw [List.getElem?_map] at hy2
      obtain ⟨qk, hqk, rfl⟩ := Option.map_eq_some_iff.mp hy2
      have hm : qk ∈ ks := List.mem_of_getElem? hqk
      refine ⟨T', _, rfl, .inl (.inl upd_same), rfl, _, _, rfl, _, _, rfl, rfl, ?_⟩
      have e2 : Ext H (upd H1' T' (.tup [.int (i : Nat), V.ref qk.1])) := e.upd' hT
      refine ⟨_, rfl, .ref pc, rfl, .ref pc, names.length, rfl, .inl ⟨_, hc.ext e2, by rw [List.length_map]⟩, .int (i : Nat), rfl, ?_⟩
      refine ⟨qk.1, qk.2, _, by rw [hw qk hm], (hrs.2 qk hm).ext e2, by rw [hw qk hm]; omega, fun H3 e3 => ⟨_, _, rfl, e2.trans e3⟩⟩
    · rintro σ' H2 ⟨o1, o2, rfl, e2⟩
      refine ⟨.ref pc, rfl, pc, _, rfl, .inl (hc.ext e2), fun l hl => ?_⟩
      have e3 : Ext H (upd H2 l (.lst (names.map V.str))) := e2.upd' hl
      refine ⟨.ref a, rfl, a, _, dx, [], rfl, e3 _ _ ha, cT, n1, by decide, ?_⟩
      have x4 : ExtO a H (upd (upd H2 l (.lst (names.map V.str))) a (.ins (He.ga K "Table") dx (putF "named" (.ref l) []))) := (ExtO.of e3).trans ExtO.upd
      have nl : l ≠ a := fun z => by rw [z, e2 _ _ ha] at hl; cases hl
      refine ⟨.ref pr, rfl, pr, ks, rfl, SqL_offI hrs.1 ha x4, fun q hq => SqT_offI (hrs.2 q hq) ha x4, h64, fun sa L hsa hL1 hL2 => ?_⟩
      have e5 := Ext.upd (o := SetTO P w sa L) hsa
      refine ⟨sa, L, rfl, upd_same, fun q hq => (SqT_offI (hrs.2 q (hL1 q hq)) ha x4).ext e5, fun q hq r hr => by rw [hw q (hL1 q hq), hw r (hL1 r hr)], fun L' p pm nd h64' pw hp => ?_⟩
      have e6 := Ext.upd (o := .lst (L'.map fun q => V.ref q.1)) hp
      refine ⟨.ref a, rfl, a, _, dx, _, rfl, e6 _ _ (e5 _ _ upd_same), cT, n2, by show 1 < 1000; decide, ?_⟩
      have hin := e5 a _ (upd_same (H := upd H2 l (.lst (names.map V.str))) (a := a) (o := .ins (He.ga K "Table") dx (putF "named" (.ref l) [])))
      have hpa : p ≠ a := fun z => by
        subst z
        exact absurd (hin.symm.trans hp) (by intro c; cases c)
      have hLm : ∀ q ∈ L', q ∈ ks := fun q hq => hL1 q (pm.mem_iff.mp hq)
      refine q _ (L'.map (·.2)) (((x4.trans (ExtO.of e5)).trans (ExtO.of e6)).trans ExtO.upd) ⟨dx, l, p, L', upd_same, ?_, ⟨?_, fun q hq => ?_⟩, rfl⟩ ⟨?_, fun r => ?_⟩
      · refine .inl (.inl ?_)
        rw [upd_ne nl]
        refine e6 _ _ (e5 _ _ ?_)
        rw [upd_ne nl]
        exact upd_same
      · refine .inl (.inl ?_)
        rw [upd_ne hpa]
        exact upd_same
      · exact SqT_offI (hrs.2 q (hLm q hq)) ha (((x4.trans (ExtO.of e5)).trans (ExtO.of e6)).trans ExtO.upd)
      · rw [List.pairwise_map]
        rw [List.nodup_iff_pairwise_ne, List.pairwise_map] at nd
        exact (pw.and nd).imp fun h => lt_of_le_ne h.1 h.2
      · constructor
        · intro hr
          obtain ⟨q, hq, rfl⟩ := List.mem_map.mp hr
          exact List.mem_map_of_mem (hLm q hq)
        · intro hr
          obtain ⟨q, hq, rfl⟩ := List.mem_map.mp hr
          obtain ⟨q2, hq2, e⟩ := List.mem_map.mp (hL2 q hq)
          exact List.mem_map.mpr ⟨q2, pm.mem_iff.mpr hq2, e⟩
end
end F89
set_option Elab.async false
set_option linter.all false
set_option maxRecDepth 100000
set_option maxHeartbeats 2000000
namespace F89
open PySem PySem.Spec L2 HX
open PyProof.Rows hiding St
section
variable {K : PySem.W.Frag} {mg : Str → Option Value}
theorem shape0 {C : Addr} {newId : String} {p : List Value → Bool} {q : Addr → Bool} {hd : Bool} (h : shapeB0 K C newId p q hd = true) : shapeB K C newId p q hd = true := h
theorem Top.ex1 (T : Top K mg) : exBase K (He.ga K "FoldError") = true ∧ exTab K (He.ga K "Table") = true ∧ exErr K (He.ga K "NoText") = true ∧ PySem.W.kitAny K (.ref (He.ga K "NoText")) [.ref (He.ga K "NoColumns"), .ref (He.ga K "NoRow")] = some false := by
  have h := T.more
  unfold ex at h
  simp only [Bool.and_eq_true] at h
  exact ⟨h.1, h.2.1, h.2.2.1, of_decide_eq_true h.2.2.2⟩
theorem isi_of {C : Addr} (h : isiB K C = true) : PySem.W.findIn K (.ref C) "__class__" = some (some (.builtin "object.__class__")) ∧ PySem.W.specialIn K (.builtin "object.__class__") "__get__" = some (some (.builtin "getset_descriptor.__get__")) ∧
    PySem.W.takesIn K (.builtin "object.__class__") = some true ∧ PySem.W.mroIn K C (.type "object") = some true := by
  unfold isiB at h
  simp only [Bool.and_eq_true] at h
  exact ⟨He.eqO_ok h.1, He.eqO_ok h.2.1, of_decide_eq_true h.2.2.1, of_decide_eq_true h.2.2.2⟩
theorem Top.veb (T : Top K mg) : VeBase K (He.ga K "FoldError") := by
  have h := T.ex1.1
  unfold exBase at h
  simp only [Bool.and_eq_true] at h
  refine ⟨h.1, He.eqO_ok h.2.1, ?_⟩
  have h3 := h.2.2
  unfold iniB at h3
  split at h3
  · rename_i n e
    have : n = "ValueError.__init__" := of_decide_eq_true h3
    rw [← this]
    exact e
  · cases h3
theorem pObj_ok {l : List Value} (h : pObj l = true) : l = [.type "object"] := by
  unfold pObj at h
  split at h
  · rename_i t
    rw [show t = "object" from of_decide_eq_true h]
  · cases h
theorem Top.eqT (T : Top K mg) : EqCls K (He.ga K "Table") (He.ma K (He.ga K "Table") "__eq__") := by
  have h := T.ex1.2.1
  unfold exTab at h
  simp only [Bool.and_eq_true] at h
  obtain ⟨nm, qn, N, bs, bm, sn, sub, ab, col, dd, k0, k1, k2, k3, k5, hl, hp, hq⟩ := shape_of (shape0 h.2.1)
  rw [pObj_ok hp] at hl
  unfold qEq at hq
  simp only [Bool.and_eq_true] at hq
  refine ⟨⟨nm, qn, N, bs, sn, sub, ab, col, dd, k0, k1, k2, k3, k5, hl, hq.1, He.eqO_ok hq.2.1, He.eqO_ok hq.2.2⟩, ?_⟩
  have h3 := h.2.2
  unfold isFun at h3
  split at h3
  · rename_i t a b c e
    exact ⟨_, e, by rw [show t = "function" from of_decide_eq_true h3]⟩
  · cases h3
theorem Top.tyT (T : Top K mg) {H : Hp} {a dx : Addr} {fs : List (Str × V)} (h : H a = some (.ins (He.ga K "Table") dx fs)) : TyX K H (.ref a) (.ref (He.ga K "Table")) := by
  have g := T.ex1.2.1
  unfold exTab at g
  simp only [Bool.and_eq_true] at g
  obtain ⟨h1, h2, h3, h4⟩ := isi_of g.1
  exact .base (.ins h (He.cls_ok (T.says.fact 45 rfl)) h1 h2 h3 h4)
structure ErrAll (K : PySem.W.Frag) (C : Addr) : Prop where
  oex : OexC K C
  iC : PySem.W.findIn K (.ref C) "__init__" = some (some (.ref (He.ma K C "__init__")))
  tI : PySem.W.typeIn K (.ref (He.ma K C "__init__")) = some (.type "function")
  errK : ErrK K C
  xf : XfC K C
theorem Top.err (T : Top K mg) : ErrAll K (He.ga K "NoText") := by
  have g := T.ex1.2.2.1
  unfold exErr at g
  simp only [Bool.and_eq_true] at g
  obtain ⟨g1, g2, g3, g4, g5, g6, g7, g8, g9, g10, g11⟩ := g
  obtain ⟨h1, h2, h3, h4⟩ := isi_of g1
  obtain ⟨nm, qn, N, bs, bm, sn, sub, ab, col, dd, k0, k1, k2, k3, k5, hl, hp, _⟩ := shape_of (shape0 g2)
  exact {
    oex := ⟨⟨nm, qn, N, bs, bm, sn, sub, ab, col, dd, k0, k1, k2, k3, k5, hl, hp⟩, He.eqO_ok g3, of_decide_eq_true g4, of_decide_eq_true g5, He.keep_ok (T.says.fact 53 rfl)⟩
    iC := He.eqO_ok g6
    tI := of_decide_eq_true g7
    errK := ⟨g8, He.eqO_ok g9, He.eqO_ok g10, of_decide_eq_true g4, h1, h2, h3, h4⟩
    xf := ⟨He.eqO_ok g9, He.eqO_ok g10, of_decide_eq_true g4, g11⟩ }
end
end F89
set_option Elab.async false
set_option linter.all false
set_option maxRecDepth 100000
set_option maxHeartbeats 2000000
namespace F89
open PySem PySem.Spec L2 HX TL
open PyProof.Rows hiding St
/-! ### parts of texts -/
theorem tl_first (x : Str) : tl (cutS x none (some 1)) = (tl x).take 1 := by
  show ((tl x).drop (HT.sIx x.length 0 none)).take (HT.sIx x.length x.length (some 1) - HT.sIx x.length 0 none) = _
  rw [HT.sIx_none, List.drop_zero, Nat.sub_zero, show (some (1 : Int)) = some ((1 : Nat) : Int) from rfl, HT.sIx_nat, len_tl, ← List.take_take, List.take_length]
theorem tl_rest (x : Str) : tl (cutS x (some 1) none) = (tl x).drop 1 := by
  show ((tl x).drop (HT.sIx x.length 0 (some 1))).take (HT.sIx x.length x.length none - HT.sIx x.length 0 (some 1)) = _
  rw [HT.sIx_none, show (some (1 : Int)) = some ((1 : Nat) : Int) from rfl, HT.sIx_nat, len_tl]
  rw [List.take_of_length_le (by rw [List.length_drop]; exact Nat.le_refl _)]
  rcases Nat.lt_or_ge (tl x).length 1 with h | h
  · have e : tl x = [] := List.length_eq_zero_iff.mp (by omega)
    rw [e]
    rfl
  · rw [Nat.min_eq_left h]
abbrev sM : Str := Str.ofString "-"
abbrev s0 : Str := Str.ofString "0"
theorem tlM : tl sM = [45] := by decide +kernel
theorem tl0 : tl s0 = [48] := by decide +kernel
theorem eq_tl {x y : Str} : x = y ↔ tl x = tl y := ⟨fun h => by rw [h], ext_tl⟩
theorem vstr_eq {x y : Str} : decide (V.str x = V.str y) = decide (x = y) := by
  rw [Bool.eq_iff_iff, decide_eq_true_eq, decide_eq_true_eq]
  exact ⟨V.str.inj, congrArg V.str⟩
/-- word[1:] if word[:1] == "-" else word -/
def figS (x : Str) : Str := if decide (cutS x none (some 1) = sM) = true then cutS x (some 1) none else x
theorem tl_figS (x : Str) : tl (figS x) = figs (tl x) := by
  unfold figS
  have key : (cutS x none (some 1) = sM) ↔ (tl x).take 1 = [45] := by rw [eq_tl, tl_first, tlM]
  cases h : tl x with
  | nil =>
    rw [h] at key
    rw [if_neg (by rw [decide_eq_true_eq, key]; intro z; cases z), h]
    rfl
  | cons c r =>
    rw [h] at key
    by_cases hc : c = 45
    · subst hc
      rw [if_pos (by rw [decide_eq_true_eq, key]; rfl), tl_rest, h]
      rfl
    · rw [if_neg (by rw [decide_eq_true_eq, key]; intro z; injection z with z1; exact hc z1), h]
      rcases figs_or (c :: r) with ⟨r2, e, _, _⟩ | ⟨_, f, _⟩
      · injection e with e1
        exact absurd e1 hc
      · exact f.symm
def numV (x : Str) : V := match numF x with
  | none => .non
  | some n => .int n
theorem numV_no {x : Str} (h : okF (tl x) = false) : numV x = .non := by
  unfold numV numF
  rw [if_neg (by rw [h]; exact Bool.false_ne_true)]
theorem ok_false {x : Str} (h : ¬ (1 ≤ (figS x).length ∧ (figS x).length ≤ 40 ∧ (tl (figS x)).all digB = true ∧ ((tl (figS x)).head? = some 48 → tl x = [48]))) : okF (tl x) = false := by
  cases z : okF (tl x) with
  | false => rfl
  | true =>
    rw [len_tl, tl_figS] at h
    exact absurd (okF_iff.mp z) h
theorem numV_ok {x : Str} (h1 : 1 ≤ (figS x).length) (h2 : (figS x).length ≤ 40) (h3 : (tl (figS x)).all digB = true) (h4 : (tl (figS x)).head? = some 48 → tl x = [48]) : ∃ n, intText? x = some n ∧ x.length ≤ 640 ∧ numV x = .int n := by
  have hk : okF (tl x) = true := by
    rw [len_tl, tl_figS] at h1 h2
    rw [tl_figS] at h3 h4
    exact okF_iff.mpr ⟨h1, h2, h3, h4⟩
  have hn : numF x = some (valF (tl x)) := by
    unfold numF
    rw [if_pos hk]
  obtain ⟨a, b⟩ := numF_reads hn
  refine ⟨_, a, by omega, ?_⟩
  unfold numV
  rw [hn]
theorem atI_zero {α : Type} {xs : List α} {a : α} {r : List α} (h : xs = a :: r) : atI xs 0 = some a := by
  subst h
  have e : ixN (a :: r).length 0 = some 0 := by
    unfold ixN
    rw [if_pos (by decide), if_pos (by rw [List.length_cons]; omega)]
    rfl
  unfold atI
  rw [e]
  rfl
theorem chr_eq {c : Nat} {x : Str} {d : Nat} (hx : tl x = [d]) : decide (V.str ⟨#[c]⟩ = V.str x) = decide (c = d) := by
  rw [vstr_eq, Bool.eq_iff_iff, decide_eq_true_eq, decide_eq_true_eq, eq_tl, hx]
  constructor
  · intro h
    exact (List.cons.inj h).1
  · intro h
    rw [h]
theorem cons_of {x : Str} (h : 1 ≤ x.length) : ∃ c r, tl x = c :: r := by
  rw [len_tl] at h
  cases e : tl x with
  | nil => rw [e] at h; exact absurd h (by decide)
  | cons c r => exact ⟨c, r, rfl⟩
section
variable {P : Program} {w : World} {K : PySem.W.Frag} {mg : Str → Option Value} {base : Heap}
/-! ### number_in -/
def spNumberIn : Sp := fun vs H Q _ => ∃ x, vs = [.str x] ∧ x.length ≤ sizeLine ∧ Q (numV x) H
theorem scNumberIn : FnScope ["word", "figures"] ["word"] (defScope sNumberIn) := ⟨rfl, rfl, rfl, by decide +kernel, rfl, by decide +kernel, by decide +kernel⟩
theorem ok_number_in (T : Top K mg) : FnR P w K mg base CX0 1 (He.ga K "number_in") spNumberIn := by
  obtain ⟨fd, F⟩ := T.says.def_ 10 (d := dNumberIn) rfl
  have b : Binds K fd ["word"] [] := F.bindsN fun _ _ _ _ _ _ us hl => match us, hl with | [_], _ => rfl
  refine flat (FunD.ok F scNumberIn (fun vs H Q E h => ?_) (fun cdv A outer s H vs Q E hr h => ?_)) b
  · obtain ⟨v, rfl, _⟩ := h
    rfl
  · obtain ⟨x, rfl, hz, q⟩ := h
    refine ⟨_, pss_cons (ps_set (i := 1) scNumberIn.nd rfl (Or.inl rfl) (pe_ifExp (pt_cmpR op_eq (pe_slice sl_str (pv 0) po_none (po_some pe_int)) (pe_gS (T.s 44)) (nomark _)) (pe_slice sl_str (pv 0) (po_some pe_int) po_none) (pv 0)))
      (pss_cons (ps_if (PW.pt (pw_or (pt_not (pt_chain op_le op_le pe_int (pe_callB call_len rfl (T.f 29) (by decide +kernel) (pa_cons (pv 1) pa_nil)) (pe_gI (T.i 41))))
        (pw_or1 (pt_cmpR op_ne (pe_bm PySem.F.plainAttrs_str PySem.F.slot_str_strip PySem.F.type_str_strip mt_stripChars (pv 1) (pa_cons (pe_gS (T.s 43)) pa_nil)) pe_str (nomark _))))) (pss_one (ps_ret pe_non)) pss_nil)
      (pss_cons (ps_if (PW.pt (pw_and (pt_cmpR op_eq (pe_ix ix_str (pv 1) pe_int (fun _ _ => rfl)) pe_str (nomark _)) (pw_and1 (pt_cmpR op_ne (pv 0) pe_str (nomark _))))) (pss_one (ps_ret pe_non)) pss_nil)
      (pss_one (ps_ret (pe_callTy call_int_str rfl (T.f 31) (by decide +kernel) (pa_cons (pv 0) pa_nil)))))), ?_⟩
    dsimp only [tSeq, tAsg]
    have hf : (figS x).length ≤ sizeLine := by
      unfold figS
      split
      · exact Nat.le_trans (cutS_length _ _ _) hz
      · exact hz
    have no : okF (tl x) = false → Q .non H := fun e => by rw [numV_no e] at q; exact q
    refine ⟨.str x, rfl, 1, rfl, x, rfl, hz, rfl, _, rfl, iteB (fun hc => ?br1) (fun hc => ?br2)⟩
    case' br1 =>
      have hfig : figS x = cutS x (some 1) none := by
        unfold figS
        rw [← vstr_eq, if_pos hc]
      rw [hfig] at hf
      refine ⟨.str x, rfl, 1, rfl, x, rfl, hz, ?_⟩
      revert hfig hf
      generalize cutS x (some 1) none = y
      intro hf hfig
      have okf := fun h => no (ok_false (x := x) (by rw [hfig]; exact h))
      have okt := numV_ok (x := x)
      rw [hfig] at okt
    case' br2 =>
      have hfig : figS x = x := by
        unfold figS
        rw [← vstr_eq, if_neg (by rw [hc]; exact Bool.false_ne_true)]
      refine ⟨.str x, rfl, ?_⟩
      have okf := fun h => no (ok_false (x := x) (by rw [hfig]; exact h))
      have okt := numV_ok (x := x)
      rw [hfig] at okt hf
    all_goals
      refine ⟨_, rfl, _, _, rfl, ⟨hf, rfl⟩, 1, _, rfl, rfl, _, rfl, iteB (fun h1 => ?_) (fun h1 => ?_)⟩
      rotate_left
      · exact ⟨false, rfl, okf fun z => absurd z.1 (by have := decF h1; omega)⟩
      refine ⟨_, 40, rfl, rfl, _, rfl, iteB (fun h2 => ?_) (fun h2 => ?_)⟩
      · refine okf fun z => ?_
        rw [Bool.not_eq_true'] at h2
        have := decF h2
        omega
      rw [Bool.not_eq_false'] at h2
      have l1 := decT h1
      have l2 := decT h2
      refine ⟨_, rfl, rfl, _, _, rfl, rfl, hf, rfl, _, rfl, iteB (fun h3 => ?_) (fun h3 => ?_)⟩
      · refine okf fun z => ?_
        rw [vstr_eq, strip_dig, z.2.2.1] at h3
        cases h3
      rw [vstr_eq, strip_dig, Bool.not_eq_false'] at h3
      obtain ⟨c, r, hcr⟩ := cons_of (Int.ofNat_le.mp l1)
      refine ⟨_, rfl, _, _, c, rfl, rfl, hf, atI_zero hcr, rfl, _, rfl, iteB (fun h4 => ?_) (fun h4 => ?_)⟩
      · rw [chr_eq tl0] at h4
        have hc48 : c = 48 := decT h4
        refine ⟨.str x, rfl, rfl, _, rfl, iteB (fun h5 => ?_) (fun h5 => ?_)⟩
        · refine okf fun z => ?_
          rw [vstr_eq, Bool.not_eq_true'] at h5
          refine decF h5 (eq_tl.mpr ?_)
          rw [tl0]
          exact z.2.2.2 (by rw [hcr, hc48]; rfl)
        · rw [vstr_eq, Bool.not_eq_false'] at h5
          obtain ⟨n, e1, e2, e3⟩ := okt (by omega) (by omega) h3 fun _ => by rw [decT h5, tl0]
          rw [e3] at q
          exact ⟨.str x, rfl, x, n, rfl, e1, e2, q⟩
      · rw [chr_eq tl0] at h4
        refine iteB (fun z => by cases z) (fun _ => ?_)
        obtain ⟨n, e1, e2, e3⟩ := okt (by omega) (by omega) h3 fun z => by
          rw [hcr] at z
          exact absurd (Option.some.inj z) (decF h4)
        rw [e3] at q
        exact ⟨.str x, rfl, x, n, rfl, e1, e2, q⟩
end
end F89
set_option Elab.async false
set_option linter.all false
set_option maxRecDepth 100000
set_option maxHeartbeats 2000000
namespace F89
open PySem PySem.Spec L2 HX TL
open PyProof.Rows hiding St
/-! ### lengths of parts -/
theorem split_le {x y w : Str} (h : w ∈ Txt.split x y) : w.length ≤ x.length := by
  have := PySem.join_mem_le y _ w h
  rw [PySem.StrLaws.join_split] at this
  exact this
theorem len_app (a b : Str) : (a ++ b).length = a.length + b.length := by rw [len_tl, tl_append, List.length_append, ← len_tl, ← len_tl]
theorem join_len (y : Str) (hy : y.length = 1) : ∀ ws : List Str, ws.length ≤ (Str.join y ws).length + 1
  | [] => Nat.zero_le _
  | [w] => by
    show 1 ≤ w.length + 1
    omega
  | w :: b :: t => by
    have e : Str.join y (w :: b :: t) = w ++ y ++ Str.join y (b :: t) := rfl
    have ih := join_len y hy (b :: t)
    rw [e, len_app, len_app, hy, List.length_cons]
    omega
theorem split_len {x y : Str} (hy : y.length = 1) : (Txt.split x y).length ≤ x.length + 1 := by
  have := join_len y hy (Txt.split x y)
  rw [PySem.StrLaws.join_split] at this
  exact this
theorem join_sum (y : Str) (hy : y.length = 1) : ∀ ws : List Str, (Str.join y ws).length ≤ (ws.map (·.length)).sum + ws.length
  | [] => Nat.zero_le _
  | [w] => by
    show w.length ≤ w.length + 0 + 1
    omega
  | w :: b :: t => by
    have e : Str.join y (w :: b :: t) = w ++ y ++ Str.join y (b :: t) := rfl
    have ih := join_sum y hy (b :: t)
    rw [e, len_app, len_app, hy, List.map_cons, List.sum_cons, List.length_cons]
    omega
theorem sum_join (y : Str) (hy : y.length = 1) : ∀ ws : List Str, (ws.map (·.length)).sum + ws.length ≤ (Str.join y ws).length + 1
  | [] => Nat.zero_le _
  | [w] => by
    show w.length + 0 + 1 ≤ w.length + 1
    omega
  | w :: b :: t => by
    have e : Str.join y (w :: b :: t) = w ++ y ++ Str.join y (b :: t) := rfl
    have ih := sum_join y hy (b :: t)
    rw [e, len_app, len_app, hy, List.map_cons, List.sum_cons, List.length_cons]
    omega
theorem lenC : sC.length = 1 := by decide +kernel
theorem lenN : sN.length = 1 := by decide +kernel
theorem words_mem {l w : Str} (h : w ∈ wordsF l) : w.length ≤ l.length := by
  unfold wordsF at h
  split at h
  · cases h
  · exact split_le h
theorem words_len (l : Str) : (wordsF l).length ≤ l.length + 1 := by
  unfold wordsF
  split
  · exact Nat.zero_le _
  · exact split_len lenC
/-! ### rows of numbers -/
def optV : Option Int → V
  | none => .non
  | some n => .int n
theorem numV_opt (x : Str) : numV x = optV (numF x) := by
  unfold numV optV
  cases numF x <;> rfl
theorem numV_map (ws : List Str) : ws.map numV = (ws.map numF).map optV := by
  rw [List.map_map]
  exact List.map_congr_left fun x _ => numV_opt x
theorem in_none : ∀ os : List (Option Int), inV .non (os.map optV) = true ↔ none ∈ os
  | [] => ⟨fun h => (nomatch h), fun h => (nomatch h)⟩
  | none :: r => ⟨fun _ => List.mem_cons_self .., fun _ => rfl⟩
  | some n :: r => by
    have e : inV .non ((some n :: r).map optV) = inV .non (r.map optV) := rfl
    rw [e, in_none r]
    simp
theorem flat_opt : ∀ os : List (Option Int), (os.map optV).all flatV = true
  | [] => rfl
  | none :: r => flat_opt r
  | some n :: r => flat_opt r
theorem row_none {l : Str} : inV .non ((wordsF l).map numV) = true ↔ rowF l = none := by
  rw [numV_map, in_none]
  exact allS_none.symm
theorem row_some {l : Str} {r : List Int} (h : rowF l = some r) : (wordsF l).map numV = r.map V.int := by
  rw [numV_map, allS_some.mp h, List.map_map]
  rfl
section
variable {P : Program} {w : World} {K : PySem.W.Frag} {mg : Str → Option Value} {base : Heap}
/-! ### numbers_in -/
def spNumbersIn : Sp := fun vs H Q _ => ∃ l, vs = [.str l] ∧ l.length + 2 ≤ sizeLine ∧ (rowF l = none → ∀ H', Ext H H' → Q .non H') ∧ ∀ r, rowF l = some r → ∀ H' p, Ext H H' → H p = none → H' p = some (.lst (r.map V.int)) → Q (.ref p) H'
theorem scNumbersIn : FnScope ["text", "found", "word"] ["text"] (defScope sNumbersIn) := ⟨rfl, rfl, rfl, by decide +kernel, rfl, by decide +kernel, by decide +kernel⟩
theorem ok_numbers_in (T : Top K mg) : FnR P w K mg base CX0 2 (He.ga K "numbers_in") spNumbersIn := by
  obtain ⟨fd, F⟩ := T.says.def_ 11 (d := dNumbersIn) rfl
  have b : Binds K fd ["text"] [] := F.bindsN fun _ _ _ _ _ _ us hl => match us, hl with | [_], _ => rfl
  refine flat (FunD.ok F scNumbersIn (fun vs H Q E h => ?_) (fun cdv A outer s H vs Q E hr h => ?_)) b
  · obtain ⟨v, rfl, _⟩ := h
    rfl
  · obtain ⟨l, rfl, hz, q1, q2⟩ := h
    refine ⟨_, pss_cons (ps_if (pt_cmpR op_eq (pv 0) pe_str (nomark _)) (pss_one (ps_ret (pe_lst pa_nil))) pss_nil)
      (pss_cons (ps_setLc (i := 1) (own := [("word", 2)]) rfl scNumbersIn.nd rfl rfl rfl (pi_list (pe_split (pv 0) pe_str)) (bk ["text", "found", "word"] (defScope sNumbersIn) [("word", 2)])
        (fun _ _ _ _ _ => pg_name (i := 2) scNumbersIn.nd rfl (Or.inl rfl)) (fun _ _ _ _ _ => pts_nil) (fun _ _ _ _ _ => pe_f0 (ok_number_in T) hr (T.g 10) (kNumberIn T) (pa_cons (pv 2) pa_nil)))
      (pss_one (ps_ret (pe_ifExp (pt_cmpR op_in_seq pe_non (pv 1) rfl) pe_non (pv 1))))), ?_⟩
    refine ⟨.str l, rfl, rfl, _, rfl, iteB (fun h0 => ?_) (fun h0 => ?_)⟩
    · rw [vstr_eq] at h0
      refine ⟨by decide, fun p hp => ?_⟩
      have e : l = sE := decT h0
      exact q2 [] (by rw [e]; rfl) _ p (Ext.upd hp) hp upd_same
    · rw [vstr_eq] at h0
      have e : wordsF l = Txt.split l sC := by
        unfold wordsF
        rw [if_neg (decF h0)]
      dsimp only [tNext, tSeq, tAsg]
      have hwl := words_len l
      refine tlc_new (J := fun p => Itl K p) (o := .lst ((Txt.split l sC).map V.str)) (fun R r => ⟨.str l, rfl, ⟨l, rfl⟩, l, sC, rfl, rfl, by rw [lenC]; rfl, hz, fun p hp => ⟨p, rfl, ⟨_, .inl (.inl upd_same)⟩, r p hp⟩⟩) (Txt.split l sC) V.str numV (fun p => walk_listM _ _) (by rw [e] at hwl; omega)
        (fun p H' hp e => e _ _ upd_same |> fun z => .inl (.inl z)) (fun y H1 hy e1 Q' hq => ⟨rfl, .str y, rfl, y, rfl, by have := split_le hy; omega, hq H1 .rfl'⟩) fun D H1 hD e1 hl => ?_
      rw [← e] at hl
      refine ⟨.ref D, rfl, D, _, rfl, .inl (.inl (.inl hl)), rfl, by rw [numV_map]; exact flat_opt _, _, rfl, iteB (fun hn => ?_) (fun hn => ?_)⟩
      · exact q1 (row_none.mp hn) H1 e1
      · cases hr : rowF l with
        | none =>
          have := row_none.mpr hr
          exact absurd (hn.symm.trans this) Bool.false_ne_true
        | some r =>
          rw [row_some hr] at hl
          exact ⟨.ref D, rfl, q2 r hr H1 D e1 hD hl⟩
/-! ### names_in -/
def spNamesIn : Sp := fun vs H Q _ => ∃ l, vs = [.str l] ∧ l.length + 2 ≤ sizeLine ∧ (colsF (wordsF l) = false → ∀ H', Ext H H' → Q .non H') ∧ (colsF (wordsF l) = true → ∀ H' p, Ext H H' → H p = none → H' p = some (.lst ((wordsF l).map V.str)) → Q (.ref p) H')
theorem scNamesIn : FnScope ["line", "found"] ["line"] (defScope sNamesIn) := ⟨rfl, rfl, rfl, by decide +kernel, rfl, by decide +kernel, by decide +kernel⟩
theorem ok_names_in (T : Top K mg) : FnR P w K mg base CX0 3 (He.ga K "names_in") spNamesIn := by
  obtain ⟨fd, F⟩ := T.says.def_ 15 (d := dNamesIn) rfl
  have b : Binds K fd ["line"] [] := F.bindsN fun _ _ _ _ _ _ us hl => match us, hl with | [_], _ => rfl
  refine flat (FunD.ok F scNamesIn (fun vs H Q E h => ?_) (fun cdv A outer s H vs Q E hr h => ?_)) b
  · obtain ⟨v, rfl, _⟩ := h
    rfl
  · obtain ⟨l, rfl, hz, q1, q2⟩ := h
    refine ⟨_, pss_cons (ps_set (i := 1) scNamesIn.nd rfl (Or.inl rfl) (pe_lst pa_nil))
      (pss_cons (ps_if (pt_cmpR op_ne (pv 0) pe_str (nomark _)) (pss_one (ps_set (i := 1) scNamesIn.nd rfl (Or.inl rfl) (pe_split (pv 0) pe_str))) pss_nil)
      (pss_one (ps_ret (pe_ifExp (pt_val (pe_f0 (ok_are_columns T) hr (T.g 9) (kAreColumns T) (pa_cons (pv 1) pa_nil))) (pv 1) pe_non)))), ?_⟩
    have hwl := words_len l
    refine ⟨by decide, fun p0 hp0 => ⟨.str l, rfl, rfl, _, rfl, iteB (fun h0 => ?_) (fun h0 => ?_)⟩⟩
    · rw [vstr_eq, Bool.not_eq_true'] at h0
      have e : wordsF l = Txt.split l sC := by
        unfold wordsF
        rw [if_neg (decF h0)]
      refine ⟨.str l, rfl, ⟨l, rfl⟩, l, sC, rfl, rfl, by rw [lenC]; rfl, hz, fun p hp => ?_⟩
      rw [← e]
      refine ⟨.ref p, rfl, p, wordsF l, rfl, .inl (.inl upd_same), by omega, fun x hx => by have := words_mem hx; omega, fun H' e' => ⟨_, rfl, iteB (fun hc => ?_) (fun hc => ?_)⟩⟩
      · exact ⟨.ref p, rfl, q2 hc H' p ((Ext.upd hp0).trans ((Ext.upd hp).trans e')) (Ext.new (Ext.upd hp0) hp) (e' _ _ upd_same)⟩
      · exact q1 hc H' ((Ext.upd hp0).trans ((Ext.upd hp).trans e'))
    · rw [vstr_eq, Bool.not_eq_false'] at h0
      have e : l = sE := decT h0
      have ew : wordsF l = [] := by rw [e]; rfl
      refine ⟨.ref p0, rfl, p0, [], rfl, .inl (.inl upd_same), by decide, fun x hx => (nomatch hx), fun H' e' => ⟨_, rfl, iteB (fun hc => ?_) (fun hc => ?_)⟩⟩
      · exact ⟨.ref p0, rfl, q2 (by rw [ew]; exact hc) H' p0 ((Ext.upd hp0).trans e') hp0 (by rw [ew]; exact e' _ _ upd_same)⟩
      · exact q1 (by rw [ew]; exact hc) H' ((Ext.upd hp0).trans e')
/-! ### listed -/
def okT (r : List Int) : Prop := r.length ≤ 8 ∧ ∀ v ∈ r, v.natAbs < 10 ^ 41
theorem tex_len {n : Int} (h : n.natAbs < 10 ^ 41) : (texF n).length ≤ 42 := by
  have hl : (numL n.natAbs).length ≤ 41 := numL_len (by decide) h
  rw [len_tl, tl_texF]
  split
  · rw [List.length_cons]
    omega
  · omega
theorem tex_log {n : Int} (h : n.natAbs < 10 ^ 41) : n.natAbs.log2 < 1920 := by
  rcases Nat.eq_zero_or_pos n.natAbs with e | e
  · rw [e]
    decide
  · exact (Nat.log2_lt (by omega)).mpr (Nat.lt_of_lt_of_le h (Nat.le_trans (show 10 ^ 41 ≤ 2 ^ 137 by decide) (Nat.pow_le_pow_right (by decide) (by decide))))
theorem sum_le (B : Nat) : ∀ ws : List Str, (∀ w ∈ ws, w.length ≤ B) → (ws.map (·.length)).sum ≤ ws.length * B
  | [], _ => Nat.zero_le _
  | w :: r, h => by
    have := sum_le B r fun x hx => h x (List.mem_cons_of_mem _ hx)
    have h1 := h w (List.mem_cons_self ..)
    rw [List.map_cons, List.sum_cons, List.length_cons, Nat.succ_mul]
    omega
theorem scListed : FnScope ["some", "one"] ["some"] (defScope sListed) := ⟨rfl, rfl, rfl, by decide +kernel, rfl, by decide +kernel, by decide +kernel⟩
def spListedL (K : PySem.W.Frag) : Sp := fun vs H Q _ => ∃ p ws, vs = [.ref p] ∧ SqL K H p (ws.map V.str) ∧ ws.length ≤ 1000 ∧ (∀ x ∈ ws, Str.length x ≤ 1000) ∧ ∀ H', Ext H H' → Q (.str (Txt.join sC ws)) H'
theorem ok_listedL (T : Top K mg) : FnR P w K mg base CX0 1 (He.ga K "listed") (spListedL K) := by
  obtain ⟨fd, F⟩ := T.says.def_ 13 (d := dListed) rfl
  have b : Binds K fd ["some"] [] := F.bindsN fun _ _ _ _ _ _ us hl => match us, hl with | [_], _ => rfl
  refine flat (FunD.ok F scListed (fun vs H Q E h => ?_) (fun cdv A outer s H vs Q E hr h => ?_)) b
  · obtain ⟨p, ws, rfl, _⟩ := h
    rfl
  · obtain ⟨p, ws, rfl, hs, hn, hz, q⟩ := h
    refine ⟨_, pss_one (ps_ret (pe_join pe_str (pe_lc (own := [("one", 1)]) rfl scListed.nd (pi_list (pv 0)) (bk ["some", "one"] (defScope sListed) [("one", 1)])
        (fun _ _ _ _ _ => pg_name (i := 1) scListed.nd rfl (Or.inl rfl)) (fun _ _ _ _ _ => pts_nil) (fun _ _ _ _ _ => pe_callTy SkE.call_str_str rfl (T.f 28) (by decide +kernel) (pa_cons (pv 1) pa_nil))))), ?_⟩
    refine ⟨⟨_, rfl⟩, ?_⟩
    refine tlc_map (fun R r => ⟨.ref p, rfl, p, rfl, ⟨_, hs⟩, r⟩) ws V.str V.str (walk_listM ws V.str) (by rw [sizeLine_eq]; omega) (fun H' e => hs.ext e) (fun y H1 hy e1 Q' hq => ⟨rfl, .str y, rfl, y, rfl, hq H1 .rfl'⟩) fun D H1 hD e1 hl => ?_
    refine ⟨sC, D, ws, rfl, rfl, .inl (.inl (.inl hl)), ?_, q H1 e1⟩
    have := sum_le 1000 ws hz
    have e : ws.length * sC.length ≤ ws.length * 1 := Nat.mul_le_mul_left _ (by rw [lenC]; exact Nat.le_refl 1)
    have h2 : ws.length * 1000 ≤ 1000 * 1000 := Nat.mul_le_mul_right _ hn
    omega
def spListedT (K : PySem.W.Frag) : Sp := fun vs H Q _ => ∃ p ns, vs = [.ref p] ∧ SqT K H p (ns.map V.int) ∧ okT ns ∧ ∀ H', Ext H H' → Q (.str (lineF ns)) H'
theorem ok_listedT (T : Top K mg) : FnR P w K mg base CX0 1 (He.ga K "listed") (spListedT K) := by
  obtain ⟨fd, F⟩ := T.says.def_ 13 (d := dListed) rfl
  have b : Binds K fd ["some"] [] := F.bindsN fun _ _ _ _ _ _ us hl => match us, hl with | [_], _ => rfl
  refine flat (FunD.ok F scListed (fun vs H Q E h => ?_) (fun cdv A outer s H vs Q E hr h => ?_)) b
  · obtain ⟨p, ws, rfl, _⟩ := h
    rfl
  · obtain ⟨p, ns, rfl, hs, hn, q⟩ := h
    refine ⟨_, pss_one (ps_ret (pe_join pe_str (pe_lc (own := [("one", 1)]) rfl scListed.nd (pi_tup (pv 0)) (bk ["some", "one"] (defScope sListed) [("one", 1)])
        (fun _ _ _ _ _ => pg_name (i := 1) scListed.nd rfl (Or.inl rfl)) (fun _ _ _ _ _ => pts_nil) (fun _ _ _ _ _ => pe_callTy call_str_int rfl (T.f 28) (by decide +kernel) (pa_cons (pv 1) pa_nil))))), ?_⟩
    refine ⟨⟨_, rfl⟩, ?_⟩
    refine tlc_map (fun R r => ⟨.ref p, rfl, p, rfl, ⟨_, hs⟩, r⟩) ns V.int (fun n => V.str (texF n)) (walk_tupM ns V.int) (by have := hn.1; rw [sizeLine_eq]; omega) (fun H' e => hs.ext e) (fun y H1 hy e1 Q' hq => ⟨rfl, .int y, rfl, y, rfl, tex_log (hn.2 y hy), hq H1 .rfl'⟩) fun D H1 hD e1 hl => ?_
    refine ⟨sC, D, ns.map texF, rfl, rfl, .inl (.inl (.inl (by rw [hl, List.map_map]; rfl))), ?_, q H1 e1⟩
    have := sum_le 42 (ns.map texF) fun x hx => by
      obtain ⟨v, hv, rfl⟩ := List.mem_map.mp hx
      exact tex_len (hn.2 v hv)
    rw [lenC]
    rw [List.length_map] at *
    have := hn.1
    omega
end
end F89
set_option Elab.async false
set_option linter.all false
set_option maxRecDepth 100000
set_option maxHeartbeats 2000000
namespace F89
open PySem PySem.Spec L2 HX TL
open PyProof.Rows hiding St
theorem ps0 {X : Cx} : Passes CX0 X (fun _ _ _ => False) := fun _ _ _ _ _ _ _ h => h.elim
section
variable {P : Program} {w : World} {K : PySem.W.Frag} {mg : Str → Option Value} {base : Heap}
theorem Top.cT (T : Top K mg) : Cls K (He.ga K "Table") := He.cls_ok (T.says.fact 45 rfl)
theorem Top.nNamed (T : Top K mg) : NoAttr K (He.ga K "Table") "named" := He.noat_ok (T.says.fact 46 rfl)
theorem Top.nHeld (T : Top K mg) : NoAttr K (He.ga K "Table") "held" := He.noat_ok (T.says.fact 47 rfl)
/-! ### Table.columns, Table.rows, == -/
def spColumns (K : PySem.W.Frag) : Sp := fun vs H Q _ => ∃ a names rows, vs = [.ref a] ∧ TableAt K H a names rows ∧ ∀ l, H l = none → Q (.ref l) (upd H l (.lst (names.map V.str)))
theorem scColumns : FnScope ["self"] ["self"] (defScope sTableColumns) := ⟨rfl, rfl, rfl, by decide +kernel, rfl, by decide +kernel, by decide +kernel⟩
theorem ok_columns (T : Top K mg) : FnOk P w K mg base CX0 1 (He.ma K (He.ga K "Table") "columns") ((T.says.def_ 8 (d := dTableColumns) rfl).choose) ["self"] (spColumns K) := by
  have F := (T.says.def_ 8 (d := dTableColumns) rfl).choose_spec
  refine FunD.ok F scColumns (fun vs H Q E h => ?_) (fun cdv A outer s H vs Q E hr h => ?_)
  · obtain ⟨a, names, rows, rfl, _⟩ := h
    rfl
  · obtain ⟨a, names, rows, rfl, ⟨dx, ln, lh, ks, h1, h2, h3, h4⟩, q⟩ := h
    refine ⟨_, pss_one (ps_ret (pe_callTy call_list_of rfl (T.f 34) (by decide +kernel) (pa_cons (pe_fld (pv 0) rfl) pa_nil))), ?_⟩
    exact ⟨.ref a, rfl, a, _, dx, _, _, rfl, h1, T.cT, T.nNamed, rfl, ln, _, rfl, .inl h2, q⟩
theorem bColumns (T : Top K mg) : Binds K ((T.says.def_ 8 (d := dTableColumns) rfl).choose) ["self"] [] :=
  ((T.says.def_ 8 (d := dTableColumns) rfl).choose_spec).bindsN fun _ _ _ _ _ _ us hl => match us, hl with | [_], _ => rfl
def spRows (K : PySem.W.Frag) : Sp := fun vs H Q _ => ∃ a dx ln lh ks, vs = [.ref a] ∧ H a = some (.ins (He.ga K "Table") dx [("named", V.ref ln), ("held", V.ref lh)]) ∧ RowsAt K H lh ks ∧ ∀ l, H l = none → Q (.ref l) (upd H l (.lst (ks.map fun q => V.ref q.1)))
theorem scRows : FnScope ["self"] ["self"] (defScope sTableRows) := ⟨rfl, rfl, rfl, by decide +kernel, rfl, by decide +kernel, by decide +kernel⟩
theorem ok_rows (T : Top K mg) : FnOk P w K mg base CX0 1 (He.ma K (He.ga K "Table") "rows") ((T.says.def_ 9 (d := dTableRows) rfl).choose) ["self"] (spRows K) := by
  have F := (T.says.def_ 9 (d := dTableRows) rfl).choose_spec
  refine FunD.ok F scRows (fun vs H Q E h => ?_) (fun cdv A outer s H vs Q E hr h => ?_)
  · obtain ⟨a, dx, ln, lh, ks, rfl, _⟩ := h
    rfl
  · obtain ⟨a, dx, ln, lh, ks, rfl, h1, h3, q⟩ := h
    refine ⟨_, pss_one (ps_ret (pe_callTy call_list_of rfl (T.f 34) (by decide +kernel) (pa_cons (pe_fld (pv 0) rfl) pa_nil))), ?_⟩
    exact ⟨.ref a, rfl, a, _, dx, _, _, rfl, h1, T.cT, T.nHeld, rfl, lh, _, rfl, .inl h3.1, q⟩
theorem bRows (T : Top K mg) : Binds K ((T.says.def_ 9 (d := dTableRows) rfl).choose) ["self"] [] :=
  ((T.says.def_ 9 (d := dTableRows) rfl).choose_spec).bindsN fun _ _ _ _ _ _ us hl => match us, hl with | [_], _ => rfl
/-! data -/
def dS (ws : List Str) : PyData := .list (ws.map .str)
def dT (r : List Int) : PyData := .tuple (r.map .int)
def dR (rows : List (List Int)) : PyData := .list (rows.map dT)
theorem dp_strs {H : Hp} : ∀ ws : List Str, DpAll K H (ws.map V.str) (ws.map .str)
  | [] => .nil
  | w :: r => .cons (.str w) (dp_strs r)
theorem dp_ints {H : Hp} : ∀ r : List Int, DpAll K H (r.map V.int) (r.map .int)
  | [] => .nil
  | w :: r => .cons (.int w) (dp_ints r)
theorem dp_S {H : Hp} {p : Addr} {ws : List Str} (h : SqL K H p (ws.map V.str)) : Dp K H (.ref p) (dS ws) := .lst h (dp_strs ws)
theorem dp_T {H : Hp} {p : Addr} {r : List Int} (h : SqT K H p (r.map V.int)) : Dp K H (.ref p) (dT r) := .tup h (dp_ints r)
theorem dp_rows {H : Hp} : ∀ ks : List (Addr × List Int), (∀ q ∈ ks, SqT K H q.1 (q.2.map V.int)) → DpAll K H (ks.map fun q => V.ref q.1) ((ks.map (·.2)).map dT)
  | [], _ => .nil
  | q :: r, h => .cons (dp_T (h q (List.mem_cons_self ..))) (dp_rows r fun x hx => h x (List.mem_cons_of_mem _ hx))
theorem dp_R {H : Hp} {p : Addr} {ks : List (Addr × List Int)} (h : RowsAt K H p ks) : Dp K H (.ref p) (dR (ks.map (·.2))) := .lst h.1 (dp_rows ks h.2)
theorem lay_ints : ∀ r : List Int, PyData.canLayAll0 (r.map .int) = true
  | [] => rfl
  | n :: r => lay_ints r
theorem lay_strs : ∀ ws : List Str, (∀ x ∈ ws, PyData.strOk x = true) → PyData.canLayAll0 (ws.map .str) = true
  | [], _ => rfl
  | w :: r, h => by
    rw [List.map_cons, PyData.canLayAll0, lay_strs r fun x hx => h x (List.mem_cons_of_mem _ hx), Bool.and_true]
    exact h w (List.mem_cons_self ..)
theorem lay_T (r : List Int) : PyData.canLay0 (dT r) = true := lay_ints r
theorem lay_Ts : ∀ rows : List (List Int), PyData.canLayAll0 (rows.map dT) = true
  | [] => rfl
  | r :: rs => by
    rw [List.map_cons, PyData.canLayAll0, lay_T, lay_Ts rs]
    rfl
theorem dep_strs : ∀ ws : List Str, PyData.depthAll (ws.map .str) = 0
  | [] => rfl
  | w :: r => by
    rw [List.map_cons, PyData.depthAll, dep_strs r, PyData.depth]
    rfl
theorem dep_Ts : ∀ rows : List (List Int), PyData.depthAll (rows.map dT) ≤ 1
  | [] => Nat.zero_le _
  | r :: rs => by
    rw [List.map_cons, PyData.depthAll]
    have := dep_Ts rs
    have h : (dT r).depth ≤ 1 := by
      unfold dT
      rw [PyData.depth, PySem.W.depth_ints]
      omega
    omega
theorem low_ok {x : Str} (h : ∀ c ∈ tl x, c < 1114112) : PyData.strOk x = true := by
  unfold PyData.strOk
  rw [← Array.all_toList, List.all_eq_true]
  intro c hc
  exact decide_eq_true (h c hc)
theorem name_ok {x : Str} (h : nameF x = true) : PyData.strOk x = true := low_ok fun c hc => by
  unfold nameF at h
  simp only [Bool.and_eq_true, decide_eq_true_eq, List.all_eq_true] at h
  have := h.2.2 c hc
  unfold lowB at this
  rw [Bool.and_eq_true, decide_eq_true_eq, decide_eq_true_eq] at this
  omega
theorem sh_S {ws : List Str} (h : ∀ x ∈ ws, nameF x = true) : SeqAt.shaped (dS ws) = true := by
  unfold SeqAt.shaped dS
  rw [Bool.and_eq_true, decide_eq_true_eq, PyData.depth, dep_strs]
  exact ⟨lay_strs ws fun x hx => name_ok (h x hx), by omega⟩
theorem sh_R (rows : List (List Int)) : SeqAt.shaped (dR rows) = true := by
  unfold SeqAt.shaped dR
  have := dep_Ts rows
  rw [Bool.and_eq_true, decide_eq_true_eq, PyData.depth]
  exact ⟨lay_Ts rows, by omega⟩
theorem eqv_same {d : PyData} (h : SeqAt.shaped d = true) : PyData.eqv d d = true := PySem.SeqAt.eqv_refl d (SeqAt.canLay_of_shaped h)
def spTabEq (K : PySem.W.Frag) : Sp := fun vs H Q _ => ∃ a b names rows, vs = [.ref a, .ref b] ∧ TableAt K H a names rows ∧ TableAt K H b names rows ∧ (∀ x ∈ names, nameF x = true) ∧ Q (.bl true) H
theorem scTabEq : FnScope ["self", "other"] ["self", "other"] (defScope sTableEq) := ⟨rfl, rfl, rfl, by decide +kernel, rfl, by decide +kernel, by decide +kernel⟩
theorem ok_tabEq (T : Top K mg) : FnR P w K mg base CX0 1 (He.ma K (He.ga K "Table") "__eq__") (spTabEq K) := by
  obtain ⟨fd, F⟩ := T.says.def_ 7 (d := dTableEq) rfl
  have b : Binds K fd ["self", "other"] [] := F.bindsN fun _ _ _ _ _ _ us hl => match us, hl with | [_, _], _ => rfl
  refine flat (FunD.ok F scTabEq (fun vs H Q E h => ?_) (fun cdv A outer s H vs Q E hr h => ?_)) b
  · obtain ⟨a, b, names, rows, rfl, _⟩ := h
    rfl
  · obtain ⟨a, b, names, rows, rfl, ⟨dx, ln, lh, ks, h1, h2, h3, h4⟩, ⟨dx', ln', lh', ks', k1, k2, k3, k4⟩, hn, q⟩ := h
    refine ⟨_, pss_one (ps_ret (pe_and (pe_callB call_isi rfl (T.f 27) (by decide +kernel) (pa_cons (pv 1) (pa_cons (pe_gC (T.g 4)) pa_nil)))
      (pe_and (pe_cmpR (op_eqD (r64 hr)) (pe_fld (pv 0) rfl) (pe_fld (pv 1) rfl) (nomark _)) (pe_one (pe_cmpR (op_eqD (r64 hr)) (pe_fld (pv 0) rfl) (pe_fld (pv 1) rfl) (nomark _)))))), ?_⟩
    refine ⟨.ref b, rfl, _, _, _, _, true, rfl, .own _, T.tyT k1, by unfold PySem.W.kitOne; rw [if_pos (beq_self_eq_true _)], true, rfl, ?_⟩
    rw [if_pos rfl]
    refine ⟨.ref a, rfl, a, _, dx, _, _, rfl, h1, T.cT, T.nNamed, rfl, .ref b, rfl, b, _, dx', _, _, rfl, k1, T.cT, T.nNamed, rfl, dS names, dS names, dp_S h2, dp_S k2, sh_S hn, sh_S hn, ?_⟩
    rw [eqv_same (sh_S hn)]
    refine ⟨true, rfl, ?_⟩
    rw [if_pos rfl]
    refine ⟨.ref a, rfl, a, _, dx, _, _, rfl, h1, T.cT, T.nHeld, rfl, .ref b, rfl, b, _, dx', _, _, rfl, k1, T.cT, T.nHeld, rfl, dR rows, dR rows, by rw [h4]; exact dp_R h3, by rw [k4]; exact dp_R k3, sh_R _, sh_R _, ?_⟩
    rw [eqv_same (sh_R rows)]
    exact q
/-! ### show_table -/
def okRows (rows : List (List Int)) : Prop := rows.length ≤ 64 ∧ ∀ r ∈ rows, okT r
theorem line_len {r : List Int} (h : okT r) : (lineF r).length ≤ 400 := by
  unfold lineF
  rw [join_eq]
  have h1 := join_sum sC lenC (r.map texF)
  have h2 := sum_le 42 (r.map texF) fun x hx => by
    obtain ⟨v, hv, rfl⟩ := List.mem_map.mp hx
    exact tex_len (h.2 v hv)
  rw [List.length_map] at h1 h2
  have := h.1
  omega
theorem cols_len {ws : List Str} (h : colsF ws = true) : (∀ x ∈ ws, x.length ≤ 8) ∧ (Txt.join sC ws).length ≤ 100 := by
  obtain ⟨h8, hn, _⟩ := cols_names h
  have hl : ∀ x ∈ ws, x.length ≤ 8 := fun x hx => by
    have := hn x hx
    unfold nameF at this
    simp only [Bool.and_eq_true, decide_eq_true_eq] at this
    exact this.2.1
  refine ⟨hl, ?_⟩
  rw [join_eq]
  have h1 := join_sum sC lenC ws
  have h2 := sum_le 8 ws hl
  omega
def spShow (K : PySem.W.Frag) : Sp := fun vs H Q _ => ∃ a names rows, vs = [.ref a] ∧ TableAt K H a names rows ∧ colsF names = true ∧ okRows rows ∧ ∀ H', Ext H H' → Q (.str (textF names rows)) H'
theorem scShow : FnScope ["table", "row"] ["table"] (defScope sShowTable) := ⟨rfl, rfl, rfl, by decide +kernel, rfl, by decide +kernel, by decide +kernel⟩
theorem ok_show (T : Top K mg) : FnR P w K mg base CX0 2 (He.ga K "show_table") (spShow K) := by
  obtain ⟨fd, F⟩ := T.says.def_ 14 (d := dShowTable) rfl
  have b : Binds K fd ["table"] [] := F.bindsN fun _ _ _ _ _ _ us hl => match us, hl with | [_], _ => rfl
  refine flat (FunD.ok F scShow (fun vs H Q E h => ?_) (fun cdv A outer s H vs Q E hr h => ?_)) b
  · obtain ⟨a, names, rows, rfl, _⟩ := h
    rfl
  · obtain ⟨a, names, rows, rfl, hT, hc, hR, q⟩ := h
    obtain ⟨c8, c100⟩ := cols_len hc
    have h8 := (cols_names hc).1
    refine ⟨_, pss_one (ps_ret (pe_join pe_str (pe_op op_cat (pe_lst (pa_cons (pe_f0 (ok_listedL T) hr (T.g 13) (kListed T) (pa_cons (pe_meth0 (pv 0) T.cT (He.meth_ok (T.says.fact 48 rfl)) (ok_columns T) hr (bColumns T) .nil ps0) pa_nil)) pa_nil))
      (pe_lc (own := [("row", 1)]) rfl scShow.nd (pi_list (pe_meth0 (pv 0) T.cT (He.meth_ok (T.says.fact 49 rfl)) (ok_rows T) hr (bRows T) .nil ps0)) (bk ["table", "row"] (defScope sShowTable) [("row", 1)])
        (fun _ _ _ _ _ => pg_name (i := 1) scShow.nd rfl (Or.inl rfl)) (fun _ _ _ _ _ => pts_nil) (fun _ _ _ _ _ => pe_f0 (ok_listedT T) hr (T.g 13) (kListed T) (pa_cons (pv 1) pa_nil)))))), ?_⟩
    have hT' := hT
    obtain ⟨dx, ln, lh, ks, h1, h2, h3, h4⟩ := hT
    refine ⟨⟨_, rfl⟩, .ref a, rfl, a, dx, _, rfl, h1, rfl, a, names, rows, rfl, hT', fun l hl => ?_⟩
    refine ⟨l, names, rfl, .inl (.inl upd_same), by omega, fun x hx => by have := c8 x hx; omega, fun H1 e1 => ⟨by show 1 ≤ _; decide, fun p hp => ?_⟩⟩
    have e2 : Ext H (upd H1 p (.lst [V.str (Txt.join sC names)])) := ((Ext.upd hl).trans e1).upd' hp
    have hksl : ks.length ≤ 64 := by have := hR.1; rw [h4, List.length_map] at this; exact this
    refine tlc_new (J := fun p => Itl K p) (o := .lst (ks.map fun q : Addr × List Int => V.ref q.1)) (fun R r => ⟨.ref a, rfl, a, dx, _, rfl, e2 _ _ h1, rfl, a, dx, ln, lh, ks, rfl, e2 _ _ h1, h3.ext e2, fun l2 hl2 => ⟨l2, rfl, ⟨_, .inl (.inl upd_same)⟩, r l2 hl2⟩⟩) ks (fun q => V.ref q.1) (fun q => V.str (lineF q.2)) (fun p => walk_listM _ _) (by rw [sizeLine_eq]; omega)
        (fun p H' hp e => .inl (.inl (e _ _ upd_same))) (fun y H2 hy e3 Q' hq => ⟨rfl, .ref y.1, rfl, y.1, y.2, rfl, ((h3.2 y hy).ext e2).ext e3, hR.2 y.2 (by rw [h4]; exact List.mem_map_of_mem hy), fun H3 e4 => hq H3 e4⟩) fun D H2 hD e3 hl2 => ?_
    have hp2 := e3 p _ upd_same
    refine ⟨p, D, _, _, rfl, rfl, hp2, hl2, by rw [List.length_map, sizeLine_eq]; show 1 + ks.length ≤ _; omega, fun z hz => ?_⟩
    refine ⟨sN, z, Txt.join sC names :: rows.map lineF, rfl, rfl, .inl (.inl (.inl ?_)), ?_, ?_⟩
    · rw [upd_same, h4, List.map_cons, List.map_map, List.map_map]
      rfl
    · have hs := sum_le 400 (Txt.join sC names :: rows.map lineF) fun x hx => by
        rcases List.mem_cons.mp hx with e | hx
        · rw [e]
          omega
        · obtain ⟨r, hr, rfl⟩ := List.mem_map.mp hx
          exact line_len (hR.2 r hr)
      rw [lenN]
      have hl3 : (Txt.join sC names :: rows.map lineF).length ≤ 65 := by
        rw [List.length_cons, List.length_map]
        have := hR.1
        omega
      omega
    · exact q _ (e2.trans (e3.trans (Ext.upd hz)))
end
end F89
set_option Elab.async false
set_option linter.all false
set_option maxRecDepth 100000
set_option maxHeartbeats 2000000
namespace F89
open PySem PySem.Spec L2 HX TL
open PyProof.Rows hiding St
section
variable {P : Program} {w : World} {K : PySem.W.Frag} {mg : Str → Option Value} {base : Heap}
/-! ### NoText(at) -/
def spErr (C : Addr) : Sp := fun vs H Q _ => ∃ a at_, vs = [.ref a, .int at_] ∧ H a = some (exo a C none) ∧ ∀ dx, H dx = none → dx ≠ a → Q .non (upd (upd H dx (exd dx [("at", .int at_)])) a (exo a C (some dx)))
theorem scErr : FnScope ["self", "at"] ["self", "at"] (defScope sNoText) := ⟨rfl, rfl, rfl, by decide +kernel, rfl, by decide +kernel, by decide +kernel⟩
theorem ok_err (T : Top K mg) : FnOk P w K mg base CX0 1 (He.ma K (He.ga K "NoText") "__init__") ((T.says.def_ 0 (d := dNoText) rfl).choose) ["self", "at"] (spErr (He.ga K "NoText")) := by
  have F := (T.says.def_ 0 (d := dNoText) rfl).choose_spec
  refine FunD.ok F scErr (fun vs H Q E h => ?_) (fun cdv A outer s H vs Q E hr h => ?_)
  · obtain ⟨a, at_, rfl, _⟩ := h
    rfl
  · obtain ⟨a, at_, rfl, ha, q⟩ := h
    refine ⟨_, pss_cons (ps_expr (pe_binit (pl := _) (T.g 0) T.veb (pa_cons (pv 0) (pa_cons pe_str pa_nil)))) (pss_one (ps_ost (pv 0) (pv 1))), ?_⟩
    refine ⟨.ref a, rfl, a, He.ga K "NoText", _, rfl, by show 1 ≤ 1000; decide, T.err.oex, ha, .int at_, rfl, .ref a, rfl, a, _, rfl, T.err.oex, He.noat_ok (T.says.fact 54 rfl), .inl ⟨ha, fun dx h1 h2 => q dx h1 h2⟩⟩
theorem bErr (T : Top K mg) : Binds K ((T.says.def_ 0 (d := dNoText) rfl).choose) ["self", "at"] [] :=
  ((T.says.def_ 0 (d := dNoText) rfl).choose_spec).bindsN fun _ _ _ _ _ _ us hl => match us, hl with | [_, _], _ => rfl
theorem raise_no {C : Addr} {ta : TA} {σ : St} {H H1 : Hp} {Q : XK} {at_ : Int} (hta : ∀ R : List V → Hp → Prop, R [.int at_] H1 → ta σ H R) (e1 : Ext H H1) (hq : ∀ H' d, Ext H H' → H d = none → H' d = some (.xd [("at", .int at_)]) → Q (.ref C) (some d) H') : tMkO C (spErr C) [] ta σ H Q := by
  refine hta _ ⟨by show 1 ≤ 1000; decide, fun a ha => ⟨a, at_, rfl, upd_same, fun dx hdx hne => ⟨rfl, dx, [("at", .int at_)], upd_same, ?_, ?_, hq _ dx (fun b o hb => ?_) ?_ upd_same⟩⟩⟩
  · rw [upd_ne hne]
    exact upd_same
  · rw [upd_ne hne] at hdx
    exact hdx
  · have hb1 := e1 b o hb
    have nba : b ≠ a := ne_of_none hb1 ha
    have hdx1 : H1 dx = none := by
      rw [upd_ne hne] at hdx
      exact hdx
    have nbd : b ≠ dx := ne_of_none hb1 hdx1
    rw [upd_ne nbd, del_ne nba, upd_ne nba, upd_ne nbd, upd_ne nba]
    exact hb1
  · have hdx1 : H1 dx = none := by
      rw [upd_ne hne] at hdx
      exact hdx
    exact Ext.new e1 hdx1
/-! ### want_text -/
/-- a thing that is no text -/
def Odd (K : PySem.W.Frag) (H : Hp) (v : V) : Prop := ∃ t, TyX K H v t ∧ PySem.W.kitOne K t (.type "str") = some false
def spWantText (K : PySem.W.Frag) : Sp := fun vs H Q E => ∃ v, vs = [v] ∧ ((∃ x, v = .str x ∧ Q .non H) ∨ (Odd K H v ∧ ∀ H' d, Ext H H' → H d = none → H' d = some (.xd [("at", .int (-1))]) → E (.ref (He.ga K "NoText")) (some d) H'))
theorem scWantText : FnScope ["thing"] ["thing"] (defScope sWantText) := ⟨rfl, rfl, rfl, by decide +kernel, rfl, by decide +kernel, by decide +kernel⟩
theorem ok_want_text (T : Top K mg) : FnR P w K mg base (L2.CX P w) 3 (He.ga K "want_text") (spWantText K) := by
  obtain ⟨fd, F⟩ := T.says.def_ 12 (d := dWantText) rfl
  have b : Binds K fd ["thing"] [] := F.bindsN fun _ _ _ _ _ _ us hl => match us, hl with | [_], _ => rfl
  refine flat (FunD.ok F scWantText (fun vs H Q E h => ?_) (fun cdv A outer s H vs Q E hr h => ?_)) b
  · obtain ⟨v, rfl, _⟩ := h
    rfl
  · obtain ⟨v, rfl, h⟩ := h
    refine ⟨_, pss_one (ps_if (pt_not (pt_val (pe_callB call_isi rfl (T.f 27) (by decide +kernel) (pa_cons (pv 0) (pa_cons (pe_ty (T := "str") (T.f 28)) pa_nil)))))
      (pss_one (L2.ps_raise rfl (L2.takes_of rfl rfl rfl rfl) (pmk_oex T.err.oex T.err.iC T.err.tI (ok_err T) hr (bErr T) .nil ps0 rfl (T.g 3) (pa_cons (pe_un un_neg pe_int) pa_nil)))) pss_nil), ?_⟩
    rcases h with ⟨x, rfl, q⟩ | ⟨⟨t, ht, hk⟩, q⟩
    · exact ⟨.str x, rfl, _, _, _, _, true, rfl, .ty _, .base (.str x), rfl, true, rfl, q⟩
    · refine ⟨v, rfl, _, _, _, _, false, rfl, .ty _, ht, hk, false, rfl, iteB (fun _ => ?_) (fun z => by cases z)⟩
      show tMkO _ _ _ _ _ _ _
      exact raise_no (at_ := -1) (fun R r => ⟨1, rfl, r⟩) .rfl' q
end
end F89
set_option Elab.async false
set_option linter.all false
set_option maxRecDepth 100000
set_option maxHeartbeats 2000000
namespace F89
open PySem PySem.Spec L2 HX TL
open PyProof.Rows hiding St
/-! ### rows that rise -/
theorem rows_rise {m : Nat} : ∀ {ls : List Str} {k : Nat} {ahead : Option (List Int)}, rowsF m k ahead ls = none → risesF ahead (ls.map rowG)
  | [], _, _, _ => ⟨fun _ _ _ h => absurd h List.not_mem_nil, .nil⟩
  | l :: ls, k, ahead, h => by
    have e : rowsF m k ahead (l :: ls) = (match rowF l with | none => some k | some r => if okRow m ahead r = true then rowsF m (k + 1) (some r) ls else some k) := rfl
    rw [e] at h
    cases hr : rowF l with
    | none => rw [hr] at h; cases h
    | some r =>
      rw [hr] at h
      have h' : (if okRow m ahead r = true then rowsF m (k + 1) (some r) ls else some k) = none := h
      have hg : rowG l = r := by unfold rowG; rw [hr]; rfl
      split at h'
      · rename_i hk
        have ih := rows_rise h'
        unfold okRow at hk
        rw [Bool.and_eq_true, decide_eq_true_eq] at hk
        rw [List.map_cons, hg]
        refine ⟨fun a ha b hb => ?_, List.pairwise_cons.mpr ⟨ih.1 r rfl, ih.2⟩⟩
        subst ha
        have h1 : a < r := of_decide_eq_true hk.2
        rcases List.mem_cons.mp hb with z | z
        · rw [z]
          exact h1
        · exact List.lt_trans h1 (ih.1 r rfl b z)
      · cases h'
theorem rowsF_bad {m k : Nat} {ahead : Option (List Int)} {l : Str} {ls : List Str} (h : rowF l = none ∨ ∃ r, rowF l = some r ∧ okRow m ahead r = false) : rowsF m k ahead (l :: ls) = some k := by
  have e : rowsF m k ahead (l :: ls) = (match rowF l with | none => some k | some r => if okRow m ahead r = true then rowsF m (k + 1) (some r) ls else some k) := rfl
  rw [e]
  rcases h with h | ⟨r, h, ho⟩
  · rw [h]
  · rw [h]
    show (if okRow m ahead r = true then rowsF m (k + 1) (some r) ls else some k) = some k
    rw [if_neg (by rw [ho]; exact Bool.false_ne_true)]
theorem rowsF_good {m k : Nat} {ahead : Option (List Int)} {l : Str} {ls : List Str} {r : List Int} (h : rowF l = some r) (ho : okRow m ahead r = true) : rowsF m k ahead (l :: ls) = rowsF m (k + 1) (some r) ls := by
  have e : rowsF m k ahead (l :: ls) = (match rowF l with | none => some k | some r => if okRow m ahead r = true then rowsF m (k + 1) (some r) ls else some k) := rfl
  rw [e, h]
  show (if okRow m ahead r = true then rowsF m (k + 1) (some r) ls else some k) = _
  rw [if_pos ho]
theorem head_le (t : Str) : (headF t).length ≤ t.length := split_le (y := sN) (by rw [split_cons]; exact List.mem_cons_self ..)
theorem tail_le {t l : Str} (h : l ∈ tailF t) : l.length ≤ t.length := split_le (y := sN) (by rw [split_cons]; exact List.mem_cons_of_mem _ h)
theorem cut_tail {α : Type} (a : α) (r : List α) (f : α → V) : cutV ((a :: r).map f) (some 1) none = r.map f := by
  show (((a :: r).map f).drop (HT.sIx ((a :: r).map f).length 0 (some 1))).take (HT.sIx ((a :: r).map f).length ((a :: r).map f).length none - HT.sIx ((a :: r).map f).length 0 (some 1)) = _
  rw [HT.sIx_none, show (some (1 : Int)) = some ((1 : Nat) : Int) from rfl, HT.sIx_nat, List.length_map, List.length_cons, Nat.min_eq_left (by omega), List.map_cons, List.drop_succ_cons, List.drop_zero]
  rw [List.take_of_length_le (by rw [List.length_map]; omega)]
theorem atI_last {α : Type} {xs : List α} {a : α} : atI (xs ++ [a]) (-1) = some a := by
  unfold atI ixN
  rw [if_neg (by decide), if_pos (by rw [List.length_append, List.length_singleton]; omega)]
  have : (-1 + (((xs ++ [a]).length : Nat) : Int)).toNat = xs.length := by
    rw [List.length_append, List.length_singleton]
    omega
  rw [this]
  show (xs ++ [a])[xs.length]? = some a
  simp
theorem snoc_or {α : Type} (l : List α) : l = [] ∨ ∃ l' a, l = l' ++ [a] := by
  rcases List.eq_nil_or_concat l with h | ⟨a, b, h⟩
  · exact .inl h
  · exact .inr ⟨a, b, by rw [h, List.concat_eq_append]⟩
section
variable {P : Program} {w : World} {K : PySem.W.Frag} {mg : Str → Option Value} {base : Heap}
theorem bInit (T : Top K mg) : Binds K ((T.says.def_ 6 (d := dTableInit) rfl).choose) ["self", "columns", "rows"] [] := by
  obtain ⟨ds, hv, b⟩ := ((T.says.def_ 6 (d := dTableInit) rfl).choose_spec).binds1 (ps := ["self", "columns", "rows"]) 3 1 (List.cons_ne_nil _ _) rfl (fun T kV doc pm an cdv ct us its h1 h2 => match us, its, h1, h2 with | [_, _, _], [_], _, _ => ⟨_, rfl, rfl⟩)
  cases hv
  exact b
def okText (t : Str) : Prop := t.length ≤ 100000 ∧ (tailF t).length < 64
def spRead (K : PySem.W.Frag) : Sp := fun vs H Q E => ∃ v, vs = [v] ∧ ((Odd K H v ∧ ∀ H' d, Ext H H' → H d = none → H' d = some (.xd [("at", .int (-1))]) → E (.ref (He.ga K "NoText")) (some d) H') ∨
  ∃ t, v = .str t ∧ okText t ∧ (∀ k : Nat, stopF t = some k → ∀ H' d, Ext H H' → H d = none → H' d = some (.xd [("at", .int (k : Int))]) → E (.ref (He.ga K "NoText")) (some d) H') ∧
    (stopF t = none → ∀ H' a, Ext H H' → H a = none → TableAt K H' a (wordsF (headF t)) ((tailF t).map rowG) → Q (.ref a) H'))
theorem scRead : FnScope ["text", "lines", "columns", "found", "at", "line", "row"] ["text"] (defScope sReadTable) := ⟨rfl, rfl, rfl, by decide +kernel, rfl, by decide +kernel, by decide +kernel⟩
theorem ok_read (T : Top K mg) : FnR P w K mg base (L2.CX P w) 6 (He.ga K "read_table") (spRead K) := by
  obtain ⟨fd, F⟩ := T.says.def_ 16 (d := dReadTable) rfl
  have b : Binds K fd ["text"] [] := F.bindsN fun _ _ _ _ _ _ us hl => match us, hl with | [_], _ => rfl
  refine flat (FunD.ok F scRead (fun vs H Q E h => ?_) (fun cdv A outer s H vs Q E hr h => ?_)) b
  · obtain ⟨v, rfl, _⟩ := h
    rfl
  · obtain ⟨v, rfl, h⟩ := h
    have r2 : Room 2 _ := hr.mono (by decide)
    have r3 : Room 3 _ := hr.mono (by decide)
    refine ⟨_, pss_cons (ps_expr (pe_callF (ok_want_text T) r3 rfl (T.g 12) (kWantText T) (fun σ => L2.passAt (L2.takes_of rfl rfl rfl rfl) σ) (pa_cons (pv 0) pa_nil)))
      (pss_cons (ps_set (i := 1) scRead.nd rfl (Or.inl rfl) (pe_split (pv 0) pe_str))
      (pss_cons (ps_set (i := 2) scRead.nd rfl (Or.inl rfl) (pe_f0 (ok_names_in T) r3 (T.g 15) (kNamesIn T) (pa_cons (pe_ix ix_list (pv 1) pe_int (fun _ _ => rfl)) pa_nil)))
      (pss_cons (ps_if (pt_cmpR op_isN (pv 2) pe_non (nomark _)) (pss_one (L2.ps_raise rfl (L2.takes_of rfl rfl rfl rfl) (pmk_oex T.err.oex T.err.iC T.err.tI (ok_err T) r2 (bErr T) .nil ps0 rfl (T.g 3) (pa_cons pe_int pa_nil)))) pss_nil)
      (pss_cons (ps_set (i := 3) scRead.nd rfl (Or.inl rfl) (pe_lst pa_nil))
      (pss_cons (ps_for (L2.passes_of rfl) rfl (pi_enumK (T.f 36) (pa_cons (pe_slice sl_list (pv 1) (po_some pe_int) po_none) pa_nil) (pk_cons pe_int pk_nil)) (pg_tup rfl (pgs_cons (pg_name (i := 4) scRead.nd rfl (Or.inl rfl)) (pgs_cons (pg_name (i := 5) scRead.nd rfl (Or.inl rfl)) pgs_nil)))
        (pss_cons (ps_set (i := 6) scRead.nd rfl (Or.inl rfl) (pe_f0 (ok_numbers_in T) r2 (T.g 11) (kNumbersIn T) (pa_cons (pv 5) pa_nil)))
        (pss_cons (ps_if (PW.pt (pw_or (pt_cmpR op_isN (pv 6) pe_non (nomark _)) (pw_or (pt_cmpR op_ne (pe_callB call_len rfl (T.f 29) (by decide +kernel) (pa_cons (pv 6) pa_nil)) (pe_callB call_len rfl (T.f 29) (by decide +kernel) (pa_cons (pv 2) pa_nil)) (nomark _))
            (pw_or1 (PW.pt (pw_and (pt_cmpR (op_neD (r64 hr)) (pv 3) (pe_lst pa_nil) (nomark _)) (pw_and1 (pt_cmpR (op_leD (r64 hr)) (pe_callTy call_tuple_of rfl (T.f 33) (by decide +kernel) (pa_cons (pv 6) pa_nil)) (pe_ix ix_list (pv 3) (pe_un un_neg pe_int) (fun _ _ => rfl)) (nomark _)))))))))
          (pss_one (L2.ps_raise rfl (L2.takes_of rfl rfl rfl rfl) (pmk_oex T.err.oex T.err.iC T.err.tI (ok_err T) r2 (bErr T) .nil ps0 rfl (T.g 3) (pa_cons (pv 4) pa_nil)))) pss_nil)
        (pss_one (ps_expr (pe_bm PySem.F.plainAttrs_list PySem.F.slot_list_append PySem.F.type_list_append mt_append (pv 3) (pa_cons (pe_callTy call_tuple_of rfl (T.f 33) (by decide +kernel) (pa_cons (pv 6) pa_nil)) pa_nil)))))))
      (pss_one (ps_ret (pe_make (He.mkr_ok (T.says.fact 51 rfl)) (ok_init T) hr rfl (T.g 4) (bInit T) .nil ps0 (pa_cons (pv 2) (pa_cons (pv 3) pa_nil)))))))))), ?_⟩
    rcases h with ⟨odd, q⟩ | ⟨t, rfl, ⟨hz, h64⟩, q1, q2⟩
    · exact ⟨v, rfl, v, rfl, .inr ⟨odd, q⟩⟩
    refine ⟨.str t, rfl, .str t, rfl, .inl ⟨t, rfl, ?_⟩⟩
    refine ⟨.str t, rfl, ⟨t, rfl⟩, t, sN, rfl, rfl, by rw [lenN]; rfl, by rw [sizeLine_eq]; omega, fun pl hpl => ?_⟩
    have hhl := head_le t
    rw [split_cons]
    refine ⟨.ref pl, rfl, pl, _, 0, .str (headF t), rfl, rfl, .inl (.inl upd_same), atI_zero rfl, headF t, rfl, by rw [sizeLine_eq]; omega, fun hc H1 e1 => ?_, fun hc H1 pc e1 hpc hlc => ?_⟩
    · refine ⟨.non, rfl, rfl, _, rfl, iteB (fun _ => ?_) (fun z => absurd rfl (decF z))⟩
      show tMkO _ _ _ _ _ _ _
      have eH : Ext H H1 := (Ext.upd hpl).trans e1
      exact raise_no (at_ := 0) (fun R r => r) .rfl' fun H' d e' hd hx => q1 0 (by rw [stop_eq, if_neg (by rw [hc]; exact Bool.false_ne_true)]) H' d (eH.trans e') (Ext.new eH hd) hx
    · have eH : Ext H H1 := (Ext.upd hpl).trans e1
      have hpl1 : H1 pl = some (.lst ((headF t :: tailF t).map V.str)) := e1 _ _ upd_same
      obtain ⟨c8, _, _⟩ := cols_names hc
      refine ⟨.ref pc, rfl, rfl, _, rfl, iteB (fun z => absurd (decT z) (by intro c; cases c)) (fun _ => ?_)⟩
      refine ⟨by show 0 ≤ _; exact Nat.zero_le _, fun fnd hf => ?_⟩
      dsimp only [tSeq]
      have eB : Ext H1 (upd H1 fnd (.lst [])) := Ext.upd hf
      refine tfor_new (J := fun p => IteK K 1 p) (o := .lst ((tailF t).map V.str)) (n := ((tailF t).map V.str).length) (fun R r => ⟨.ref pl, rfl, 1, rfl, pl, _, rfl, .inl (.inl (eB _ _ hpl1)), fun p2 hp2 => by
          rw [cut_tail]
          exact ⟨p2, _, 1, rfl, rfl, .inl (.inl upd_same), by decide, r p2 hp2⟩⟩) (fun p => walk_enumK (xs := (tailF t).map V.str))
        (fun p i σ' H' => ∃ (ks : List (Addr × List Int)) (o1 o2 o3 : Option V), σ' = [some (.str t), some (.ref pl), some (.ref pc), some (.ref fnd), o1, o2, o3] ∧ Ext H1 H' ∧ H' p = some (.lst ((tailF t).map V.str)) ∧ H' fnd = some (.lst (ks.map fun q => V.ref q.1)) ∧
          (∀ q ∈ ks, SqT K H' q.1 (q.2.map V.int)) ∧ ks.length = i ∧ ks.map (·.2) = ((tailF t).take i).map rowG ∧ rowsF (wordsF (headF t)).length 1 none (tailF t) = rowsF (wordsF (headF t)).length (1 + i) ((ks.map (·.2)).getLast?) ((tailF t).drop i) ∧ ∀ q ∈ ks, q.2.length = (wordsF (headF t)).length)
        ?_ ?_ ?_ ?_
      · intro p hp
        have npf : p ≠ fnd := fun z => by rw [z, upd_same] at hp; cases hp
        refine ⟨[], none, none, none, rfl, eB.trans (Ext.upd hp), upd_same, by rw [upd_ne (Ne.symm npf)]; exact upd_same, fun q hq => (nomatch hq), rfl, rfl, rfl, fun q hq => (nomatch hq)⟩
      · rintro p i σ' H' hp hi ⟨ks, o1, o2, o3, rfl, e, h1, _⟩
        exact .inl (.inl h1)
      · rintro p i x σ' H' H2 hp hi ⟨ks, o1, o2, o3, rfl, e, hp1, hfn, hks, hlen, hmap, hst, hwd⟩ ⟨T', x1, y1, rfl, hT, rfl, hx1, hy1⟩
        have npf : p ≠ fnd := fun z => by rw [z, upd_same] at hp; cases hp
        cases (Option.some.inj hx1 : _ = x1)
        have hy2 : ((tailF t).map V.str)[i]? = some y1 := hy1
        rw [List.getElem?_map] at hy2
        obtain ⟨l, hl, rfl⟩ := Option.map_eq_some_iff.mp hy2
        have hlm : l ∈ tailF t := List.mem_of_getElem? hl
        have hll := tail_le hlm
        obtain ⟨hil, hie⟩ := List.getElem?_eq_some_iff.mp hl
        have hdrop : (tailF t).drop i = l :: (tailF t).drop (i + 1) := by rw [List.drop_eq_getElem_cons hil, hie]
        rw [hdrop] at hst
        have eT : Ext H' (upd H' T' (.tup [.int (1 + (i : Nat)), V.str l])) := Ext.upd hT
        have hE : rowsF (wordsF (headF t)).length (1 + i) ((ks.map (·.2)).getLast?) (l :: (tailF t).drop (i + 1)) = some (1 + i) → ∀ Hx, Ext H' Hx → ∀ H3 d, Ext Hx H3 → Hx d = none → H3 d = some (.xd [("at", .int (1 + (i : Int)))]) → E (.ref (He.ga K "NoText")) (some d) H3 := fun hb Hx ex H3 d e3 hd hx => by
          refine q1 (1 + i) (by rw [stop_eq, if_pos hc, hst, hb]) H3 d ((eH.trans (e.trans ex)).trans e3) (Ext.new (eH.trans (e.trans ex)) hd) ?_
          rw [hx, show ((1 + i : Nat) : Int) = 1 + (i : Int) by omega]
        refine ⟨T', _, rfl, .inl (.inl upd_same), rfl, _, _, rfl, _, _, rfl, rfl, ?_⟩
        refine ⟨.str l, rfl, l, rfl, by rw [sizeLine_eq]; omega, fun hn H3 e3 => ?_, fun r hr' H3 pr e3 hpr hlr => ?_⟩
        · refine ⟨.non, rfl, rfl, _, rfl, iteB (fun _ => iteB (fun _ => ?_) (fun z => by cases z)) (fun z => absurd rfl (decF z))⟩
          show tMkO _ _ _ _ _ _ _
          exact raise_no (at_ := 1 + (i : Int)) (fun R r => ⟨_, rfl, r⟩) .rfl' (hE (rowsF_bad (.inl hn)) H3 (eT.trans e3))
        · have e03 : Ext H' H3 := eT.trans e3
          have app : okRow (wordsF (headF t)).length ((ks.map (·.2)).getLast?) r = true → ∀ Hx tq, Ext H3 Hx → Hx tq = none → ∃ (ks2 : List (Addr × List Int)) (o1 o2 o3 : Option V), [some (.str t), some (.ref pl), some (.ref pc), some (.ref fnd), some (V.int (1 + (i : Int))), some (V.str l), some (V.ref pr)] = [some (.str t), some (.ref pl), some (.ref pc), some (.ref fnd), o1, o2, o3] ∧
              Ext H1 (upd (upd Hx tq (.tup (r.map V.int))) fnd (.lst ((ks.map fun q => V.ref q.1) ++ [V.ref tq]))) ∧ (upd (upd Hx tq (.tup (r.map V.int))) fnd (.lst ((ks.map fun q => V.ref q.1) ++ [V.ref tq]))) p = some (.lst ((tailF t).map V.str)) ∧
              (upd (upd Hx tq (.tup (r.map V.int))) fnd (.lst ((ks.map fun q => V.ref q.1) ++ [V.ref tq]))) fnd = some (.lst (ks2.map fun q => V.ref q.1)) ∧
              (∀ q ∈ ks2, SqT K (upd (upd Hx tq (.tup (r.map V.int))) fnd (.lst ((ks.map fun q => V.ref q.1) ++ [V.ref tq]))) q.1 (q.2.map V.int)) ∧ ks2.length = i + 1 ∧ ks2.map (·.2) = ((tailF t).take (i + 1)).map rowG ∧
              rowsF (wordsF (headF t)).length 1 none (tailF t) = rowsF (wordsF (headF t)).length (1 + (i + 1)) ((ks2.map (·.2)).getLast?) ((tailF t).drop (i + 1)) ∧ ∀ q ∈ ks2, q.2.length = (wordsF (headF t)).length := by
            intro hok Hx tq ex htq
            have e0x : Ext H' Hx := e03.trans ex
            have hfx : Hx fnd = some (.lst (ks.map fun q => V.ref q.1)) := e0x _ _ hfn
            have ntf : tq ≠ fnd := fun z => by rw [z, hfx] at htq; cases htq
            have hfq : (upd Hx tq (.tup (r.map V.int))) fnd = some (.lst (ks.map fun q => V.ref q.1)) := by rw [upd_ne (Ne.symm ntf)]; exact hfx
            have xo : ExtO fnd H' (upd (upd Hx tq (.tup (r.map V.int))) fnd (.lst ((ks.map fun q => V.ref q.1) ++ [V.ref tq]))) := (ExtO.of (e0x.upd' htq)).trans ExtO.upd
            refine ⟨ks ++ [(tq, r)], _, _, _, rfl, ((ExtO.of e).trans xo).ext hf, xo _ _ npf hp1, by rw [upd_same, List.map_append]; rfl, fun q hq => ?_, by rw [List.length_append, hlen]; rfl, ?_, ?_, fun q hq => ?_⟩
            · rcases List.mem_append.mp hq with hq | hq
              · exact SqT_offL (hks q hq) hfn xo
              · rw [List.mem_singleton.mp hq]
                refine .inl (.inl ?_)
                rw [upd_ne ntf]
                exact upd_same
            · rw [List.map_append, hmap, List.take_add_one, hl, List.map_append]
              have : rowG l = r := by unfold rowG; rw [hr']; rfl
              show _ = _ ++ [rowG l]
              rw [this]
              rfl
            · rw [hst, rowsF_good hr' hok, List.map_append]
              show _ = rowsF _ (1 + (i + 1)) ((_ ++ [r]).getLast?) _
              rw [List.getLast?_concat, Nat.add_assoc]
            · rcases List.mem_append.mp hq with hq | hq
              · exact hwd q hq
              · rw [List.mem_singleton.mp hq]
                unfold okRow at hok
                rw [Bool.and_eq_true, decide_eq_true_eq] at hok
                exact hok.1
          have hfn3 := e03 _ _ hfn
          have hkl : ks.length < sizeLine := by rw [hlen, sizeLine_eq]; omega
          refine ⟨.ref pr, rfl, rfl, _, rfl, iteB (fun z => absurd (decT z) (by intro c; cases c)) (fun _ => ?_)⟩
          refine ⟨.ref pr, rfl, .ref pr, r.length, rfl, .inl ⟨_, .inl (.inl hlr), by rw [List.length_map]⟩, .ref pc, rfl, .ref pc, (wordsF (headF t)).length, rfl, .inl ⟨_, .inl (.inl (e03 _ _ (e _ _ hlc))), by rw [List.length_map]⟩, rfl, _, rfl, iteB (fun h2 => iteB (fun _ => ?_) (fun z => by cases z)) (fun h2 => ?_)⟩
          · show tMkO _ _ _ _ _ _ _
            refine raise_no (at_ := 1 + (i : Int)) (fun R r => ⟨_, rfl, r⟩) .rfl' (hE (rowsF_bad (.inr ⟨r, hr', ?_⟩)) H3 e03)
            unfold okRow
            rw [Bool.not_eq_true'] at h2
            rw [decide_eq_false (fun z => decF h2 (by rw [z])), Bool.false_and]
          · rw [Bool.not_eq_false'] at h2
            have hlen2 : r.length = (wordsF (headF t)).length := by
              have := V.int.inj (decT h2)
              omega
            have hks3 : ∀ q ∈ ks, SqT K H3 q.1 (q.2.map V.int) := fun q hq => (hks q hq).ext e03
            refine ⟨.ref fnd, rfl, by show 0 ≤ _; exact Nat.zero_le _, fun pe hpe => ?_⟩
            have eP : Ext H3 (upd H3 pe (.lst [])) := Ext.upd hpe
            refine ⟨dR (ks.map fun q : Addr × List Int => q.2), .list [], dp_R ⟨.inl (.inl (eP _ _ hfn3)), fun q hq => (hks3 q hq).ext eP⟩, .lst (.inl (.inl upd_same)) .nil, sh_R _, rfl, _, rfl, iteB (fun h3 => ?_) (fun h3 => iteB (fun z => by cases z) (fun _ => ?_))⟩
            · rcases snoc_or ks with hnil | ⟨ks', ql, hcat⟩
              · subst hnil
                cases h3
              · have hlast : (ks.map (·.2)).getLast? = some ql.2 := by
                  rw [hcat, List.map_append]
                  exact List.getLast?_concat
                have hqm : ql ∈ ks := by rw [hcat]; exact List.mem_append_right _ (List.mem_singleton.mpr rfl)
                refine ⟨.ref pr, rfl, pr, _, rfl, .inl ⟨.inl (.inl (eP _ _ hlr)), fun tp htp => ?_⟩⟩
                have eP2 : Ext H3 (upd (upd H3 pe (.lst [])) tp (.tup (r.map V.int))) := eP.upd' htp
                refine ⟨.ref fnd, rfl, 1, rfl, fnd, _, -1, .ref ql.1, rfl, rfl, .inl (.inl (eP2 _ _ hfn3)), by rw [hcat, List.map_append]; exact atI_last, dT r, dT ql.2, dp_T (.inl (.inl upd_same)), dp_T ((hks3 ql hqm).ext eP2), alike_encT (tp, r) ql, (by intro c; cases c), Nat.le_trans (depth_encT (tp, r)) (by decide), _, rfl, ?_⟩
                have hlt : PySem.W.dataLt (dT ql.2) (dT r) = decide (ql.2 < r) := dataLt_encT ql (tp, r)
                rw [hlt]
                refine iteB (fun h4 => ?_) (fun h4 => ?_)
                · show tMkO _ _ _ _ _ _ _
                  refine raise_no (at_ := 1 + (i : Int)) (fun R r => ⟨_, rfl, r⟩) .rfl' (hE (rowsF_bad (.inr ⟨r, hr', ?_⟩)) _ (e03.trans eP2))
                  unfold okRow
                  rw [Bool.not_eq_true'] at h4
                  rw [hlast]
                  show (_ && decide (ql.2 < r)) = false
                  rw [h4, Bool.and_false]
                · rw [Bool.not_eq_false'] at h4
                  have hok : okRow (wordsF (headF t)).length ((ks.map (·.2)).getLast?) r = true := by
                    unfold okRow
                    rw [hlast, decide_eq_true hlen2]
                    exact h4
                  exact ⟨.ref fnd, rfl, .inl ⟨rfl, _, .inl (.inl (eP2 _ _ hfn3))⟩, .ref pr, rfl, pr, _, rfl, .inl ⟨.inl (.inl (eP2 _ _ hlr)), fun tq htq => ⟨fnd, _, _, rfl, rfl, (eP2.trans (Ext.upd htq)) _ _ hfn3, by rw [List.length_map]; exact hkl, app hok _ tq eP2 htq⟩⟩⟩
            · have hnil : ks = [] := by
                rcases snoc_or ks with hnil | ⟨ks', ql, hcat⟩
                · exact hnil
                · exfalso
                  rw [Bool.not_eq_false'] at h3
                  cases hk : ks.map (·.2) with
                  | nil =>
                    rw [hcat] at hk
                    simp at hk
                  | cons a rs =>
                    rw [hk] at h3
                    have : PyData.eqv (dR (a :: rs)) (.list []) = false := rfl
                    rw [this] at h3
                    cases h3
              have hok : okRow (wordsF (headF t)).length ((ks.map (·.2)).getLast?) r = true := by
                unfold okRow
                rw [hnil, decide_eq_true hlen2]
                rfl
              exact ⟨.ref fnd, rfl, .inl ⟨rfl, _, .inl (.inl (eP _ _ hfn3))⟩, .ref pr, rfl, pr, _, rfl, .inl ⟨.inl (.inl (eP _ _ hlr)), fun tq htq => ⟨fnd, _, _, rfl, rfl, (eP.trans (Ext.upd htq)) _ _ hfn3, by rw [List.length_map]; exact hkl, app hok _ tq eP htq⟩⟩⟩
      · rintro p σ' H' hp ⟨ks, o1, o2, o3, rfl, e, hp1, hfn, hks, hlen, hmap, hst, hwd⟩
        rw [List.length_map] at hlen hmap hst
        rw [List.drop_length] at hst
        rw [List.take_length] at hmap
        have hstop : stopF t = none := by rw [stop_eq, if_pos hc, hst]; rfl
        have hrise := rows_rise (by rw [stop_eq, if_pos hc] at hstop; exact hstop)
        refine ⟨.ref pc, rfl, .ref fnd, rfl, fun x dx hx hdx hne => ?_⟩
        have eMk : Ext H' (upd (upd H' dx (.own x)) x (.ins (He.ga K "Table") dx [])) := (Ext.upd hdx).upd' (by rw [upd_ne (Ne.symm hne)]; exact hx)
        refine ⟨x, pc, fnd, dx, wordsF (headF t), ks, rfl, upd_same, .inl (.inl (eMk _ _ (e _ _ hlc))), fun y hy => by have := words_mem hy; rw [sizeLine_eq]; omega, hc, ⟨.inl (.inl (eMk _ _ hfn)), fun q hq => (hks q hq).ext eMk⟩, by omega, hwd, fun H2 R xx hT hS => ⟨rfl, ?_⟩⟩
        have e2 : Ext H' H2 := ((ExtO.of eMk).trans xx).ext hx
        have hR : R = (tailF t).map rowG := sorted_uniq hS ⟨hrise.2, fun r => by rw [hmap]⟩
        rw [hR] at hT
        exact q2 hstop H2 x (eH.trans (e.trans e2)) (Ext.new (eH.trans e) hx) hT
end
end F89
set_option Elab.async false
set_option linter.all false
set_option maxRecDepth 100000
set_option maxHeartbeats 2000000
namespace F89
open PySem PySem.Spec L2 HX TL
open PyProof.Rows hiding St
/-! ### the law's own defs: the well -/
def WellAt (H : Hp) (w : Addr) : Prop := ∃ a b c : Int, H w = some (.lst [.int a, .int b, .int c])
theorem WellAt.ext {H H' : Hp} {w : Addr} (h : WellAt H w) (e : Ext H H') : WellAt H' w := by
  obtain ⟨a, b, c, h⟩ := h
  exact ⟨a, b, c, e _ _ h⟩
section
variable {P : Program} {w : World} {K : PySem.W.Frag} {mg : Str → Option Value} {base : Heap}
def spWell : Sp := fun vs H Q _ => ∃ a, vs = [.int a] ∧ ∀ p H', Ext H H' → H p = none → WellAt H' p → Q (.ref p) H'
theorem scWell : FnScope ["_law_cell"] ["_law_cell"] (defScope sWell) := ⟨rfl, rfl, rfl, by decide +kernel, rfl, by decide +kernel, by decide +kernel⟩
theorem ok_well (T : Top K mg) : FnR P w K mg base CX0 1 (He.ga K "_law_well") spWell := by
  obtain ⟨fd, F⟩ := T.says.def_ 17 (d := dWell) rfl
  have b : Binds K fd ["_law_cell"] [] := F.bindsN fun _ _ _ _ _ _ us hl => match us, hl with | [_], _ => rfl
  refine flat (FunD.ok F scWell (fun vs H Q E h => ?_) (fun cdv A outer s H vs Q E hr h => ?_)) b
  · obtain ⟨v, rfl, _⟩ := h
    rfl
  · obtain ⟨a, rfl, q⟩ := h
    refine ⟨_, pss_one (ps_ret (pe_lst (pa_cons (pv 0) (pa_cons (pe_op op_mod (pv 0) pe_int) (pa_cons pe_int pa_nil))))), ?_⟩
    exact ⟨.int a, rfl, .int a, rfl, a, 2147483629, rfl, rfl, (by show (0:Int) < 2147483629; decide), by show 3 ≤ _; decide, fun p hp => q p _ (Ext.upd hp) hp ⟨_, _, _, upd_same⟩⟩
def spDraw : Sp := fun vs H Q _ => ∃ p m, vs = [.ref p, .int m] ∧ WellAt H p ∧ 1 ≤ m ∧ m.natAbs.log2 < 9000 ∧ ∀ r H', ExtO p H H' → WellAt H' p → 0 ≤ r → r < m → Q (.int r) H'
theorem scDraw : FnScope ["_law_well_here", "_law_many", "_law_found", "_law_number_here"] ["_law_well_here", "_law_many"] (defScope sDraw) := ⟨rfl, rfl, rfl, by decide +kernel, rfl, by decide +kernel, by decide +kernel⟩
theorem ok_draw (T : Top K mg) : FnR P w K mg base CX0 1 (He.ga K "_law_draw") spDraw := by
  obtain ⟨fd, F⟩ := T.says.def_ 18 (d := dDraw) rfl
  have b : Binds K fd ["_law_well_here", "_law_many"] [] := F.bindsN fun _ _ _ _ _ _ us hl => match us, hl with | [_, _], _ => rfl
  refine flat (FunD.ok F scDraw (fun vs H Q E h => ?_) (fun cdv A outer s H vs Q E hr h => ?_)) b
  · obtain ⟨p, m, rfl, _⟩ := h
    rfl
  · obtain ⟨p, m, rfl, ⟨a, b, c, hw⟩, hm, hlog, q⟩ := h
    refine ⟨_, pss_cons (ps_if (pt_cmpR op_ge (pe_ix ix_list (pv 0) pe_int (fun _ _ => rfl)) (pe_op op_pow pe_int pe_int) (nomark _))
        (pss_cons (ps_set (i := 2) scDraw.nd rfl (Or.inl rfl) (pe_op op_mod (pe_ix ix_list (pv 0) pe_int (fun _ _ => rfl)) (pv 1)))
        (pss_cons (ps_asg (pe_op op_fdivW (pe_ix ix_list (pv 0) pe_int (fun _ _ => rfl)) (pv 1)) (pg_sub (pv 0) pe_int set_list))
        (pss_one (ps_ret (pv 2))))) pss_nil)
      (pss_cons (ps_asg (pe_op op_add (pe_ix ix_list (pv 0) pe_int (fun _ _ => rfl)) pe_int) (pg_sub (pv 0) pe_int set_list))
      (pss_cons (ps_set (i := 3) scDraw.nd rfl (Or.inl rfl) (pe_op op_mod (pe_op op_mul (pe_op op_add (pe_op op_add (pe_ix ix_list (pv 0) pe_int (fun _ _ => rfl)) (pe_op op_mul pe_int (pe_ix ix_list (pv 0) pe_int (fun _ _ => rfl)))) pe_int) pe_int) pe_int))
      (pss_cons (ps_set (i := 3) scDraw.nd rfl (Or.inl rfl) (pe_op op_mod (pe_op op_mul (pv 3) (pe_op op_add (pe_op op_add (pe_op op_fdiv (pv 3) pe_int) pe_int) (pe_ix ix_list (pv 0) pe_int (fun _ _ => rfl)))) pe_int))
      (pss_one (ps_ret (pe_op op_mod (pe_op op_fdiv (pe_op op_mod (pe_op op_mul (pv 3) (pe_op op_add (pe_op op_fdiv (pv 3) pe_int) pe_int)) pe_int) pe_int) (pv 1))))))), ?_⟩
    refine ⟨.ref p, rfl, p, _, 0, .int a, rfl, rfl, .inl (.inl hw), rfl, 10, 18, rfl, rfl, by unfold CPow; decide, a, _, rfl, rfl, _, rfl, iteB (fun _ => ?_) (fun _ => ?_)⟩
    · refine ⟨.ref p, rfl, p, _, 0, .int a, rfl, rfl, .inl (.inl hw), rfl, .int m, rfl, a, m, rfl, rfl, by omega, ?_⟩
      refine ⟨.ref p, rfl, p, _, 0, .int a, rfl, rfl, .inl (.inl hw), rfl, .int m, rfl, a, m, rfl, rfl, ⟨by omega, hlog⟩, .ref p, rfl, p, _, 0, 0, rfl, rfl, hw, rfl, ?_⟩
      exact ⟨.int (a % m), rfl, q _ _ ExtO.upd ⟨_, _, _, upd_same⟩ (Int.emod_nonneg _ (by omega)) (Int.emod_lt_of_pos _ (by omega))⟩
    · refine ⟨.ref p, rfl, p, _, 2, .int c, rfl, rfl, .inl (.inl hw), rfl, c, 1, rfl, rfl, .ref p, rfl, p, _, 2, 2, rfl, rfl, hw, rfl, ?_⟩
      have h1 : upd H p (.lst ([.int a, .int b, .int c].set 2 (.int (c + 1)))) p = some (.lst [.int a, .int b, .int (c + 1)]) := upd_same
      obtain ⟨n1, e1, l1, u1⟩ : ∃ n1 : Int, n1 = (b + 104729 * (c + 1) + 1) * 48271 % 2147483647 ∧ 0 ≤ n1 ∧ n1 < 2147483647 := ⟨_, rfl, Int.emod_nonneg _ (by decide), Int.emod_lt_of_pos _ (by decide)⟩
      refine ⟨.ref p, rfl, p, _, 1, .int b, rfl, rfl, .inl (.inl h1), rfl, .ref p, rfl, p, _, 2, .int (c + 1), rfl, rfl, .inl (.inl h1), rfl, 104729, c + 1, rfl, rfl, .inl ⟨by decide, by decide⟩, b, _, rfl, rfl, _, 1, rfl, rfl, _, 48271, rfl, rfl, .inr ⟨by decide, by decide⟩, _, 2147483647, rfl, rfl, (by show (0:Int) < 2147483647; decide), ?_⟩
      dsimp only
      rw [← e1]
      obtain ⟨n2, e2, l2, u2⟩ : ∃ n2 : Int, n2 = n1 * (n1 / 1009 + 69621 + (c + 1)) % 2147483587 ∧ 0 ≤ n2 ∧ n2 < 2147483587 := ⟨_, rfl, Int.emod_nonneg _ (by decide), Int.emod_lt_of_pos _ (by decide)⟩
      refine ⟨.int n1, rfl, .int n1, rfl, n1, 1009, rfl, rfl, ⟨by decide, by decide⟩, _, 69621, rfl, rfl, .ref p, rfl, p, _, 2, .int (c + 1), rfl, rfl, .inl (.inl h1), rfl, _, c + 1, rfl, rfl, n1, _, rfl, rfl, .inl ⟨by omega, by omega⟩, _, 2147483587, rfl, rfl, (by show (0:Int) < 2147483587; decide), ?_⟩
      dsimp only
      rw [← e2]
      refine ⟨.int n2, rfl, .int n2, rfl, n2, 2003, rfl, rfl, ⟨by decide, by decide⟩, _, 40692, rfl, rfl, n2, _, rfl, rfl, .inl ⟨by omega, by omega⟩, _, 2147483563, rfl, rfl, (by show (0:Int) < 2147483563; decide), _, 3, rfl, rfl, ⟨by decide, by decide⟩, .int m, rfl, _, m, rfl, rfl, by omega, ?_⟩
      exact q _ _ ExtO.upd ⟨_, _, _, h1⟩ (Int.emod_nonneg _ (by omega)) (Int.emod_lt_of_pos _ (by omega))
end
end F89
set_option Elab.async false
set_option linter.all false
set_option maxRecDepth 100000
set_option maxHeartbeats 2000000
namespace F89
open PySem PySem.Spec L2 HX TL
open PyProof.Rows hiding St
theorem ExtO.rfl' {p : Addr} {H : Hp} : ExtO p H H := fun _ _ _ h => h
theorem WellAt.lst {H : Hp} {p : Addr} (h : WellAt H p) : ∃ zs, H p = some (.lst zs) := by
  obtain ⟨a, b, c, h⟩ := h
  exact ⟨_, h⟩
theorem WellAt.upd {H : Hp} {p D : Addr} {o : HO} (h : WellAt H p) (n : p ≠ D) : WellAt (upd H D o) p := by
  obtain ⟨a, b, c, h⟩ := h
  exact ⟨a, b, c, by rw [upd_ne n]; exact h⟩
theorem WellAt.ne {H : Hp} {p D : Addr} (h : WellAt H p) (hD : H D = none) : p ≠ D := by
  obtain ⟨a, b, c, h⟩ := h
  exact ne_of_none h hD
/-- but for D and p -/
def Ext2 (D p : Addr) (H H' : Hp) : Prop := ∀ a o, a ≠ D → a ≠ p → H a = some o → H' a = some o
/-- a comprehension whose values are drawn of the well at p -/
theorem tlc_well {α : Type} {J : It} {G : Hp → Prop} {H H1 : Hp} {σ : St} {wi : TI} {g : TG} {te : TE} {vs : List Nat} {Q : VK} {p : Addr} (hw : ∀ R : It → Hp → Prop, R J H1 → wi σ H R) (src : List α) (c : α → V) (R : α → V → Hp → Prop)
    (w : Walk J src.length G (fun i H x H' => H' = H ∧ ∃ y, src[i]? = some y ∧ x = c y)) (hz : src.length ≤ sizeLine) (hG : ∀ H, ExtO p H1 H → G H) (hW : WellAt H1 p)
    (hR : ∀ y v D zs H H', R y v H → H D = some (.lst zs) → WellAt H p → Ext2 D p H H' → R y v H')
    (hs : ∀ y H, y ∈ src → ExtO p H1 H → WellAt H p → ∀ Q' : VK, (∀ v H', ExtO p H H' → WellAt H' p → R y v H' → Q' v H') → g (c y) (wipe σ vs) H fun σ2 H2 => wipe σ2 vs = wipe σ vs ∧ te σ2 H2 Q')
    (hd : ∀ D H ys, H1 D = none → ExtO p H1 H → WellAt H p → H D = some (.lst ys) → Paired (fun y v => R y v H) src ys → Q (.ref D) H) : tLc wi g tYes te vs σ H Q := by
  refine hw _ fun D hD => ?_
  have hpD := hW.ne hD
  refine lc_it w (Pv := fun i H => ExtO p H1 H ∧ WellAt H p ∧ ∃ acc, H D = some (.lst acc) ∧ Paired (fun y v => R y v H) (src.take i) acc) ⟨ExtO.of (Ext.upd hD), hW.upd hpD, [], upd_same, .nil⟩ (fun i H _ q => hG H q.1) ?_ ?_
  · rintro i x H0 H' hi ⟨e1, hW1, acc, ha, hp⟩ ⟨rfl, y, hy, rfl⟩
    obtain ⟨hl, hye⟩ := List.getElem?_eq_some_iff.mp hy
    have hm : y ∈ src := by rw [← hye]; exact List.getElem_mem hl
    refine hs y H' hm e1 hW1 (fun v H4 => ∃ acc, H4 D = some (.lst acc) ∧ acc.length < sizeLine ∧ (ExtO p H1 (upd H4 D (.lst (acc ++ [v]))) ∧ WellAt (upd H4 D (.lst (acc ++ [v]))) p ∧ ∃ acc', (upd H4 D (.lst (acc ++ [v]))) D = some (.lst acc') ∧ Paired (fun y u => R y u (upd H4 D (.lst (acc ++ [v])))) (src.take (i + 1)) acc')) ?_
    intro v H4 e4 hW4 hr
    have ha4 := e4 D _ (Ne.symm hpD) ha
    have hlen : acc.length < sizeLine := by
      have := hp.length
      rw [List.length_take] at this
      omega
    refine ⟨acc, ha4, hlen, fun b o nb hb => ?_, hW4.upd hpD, _, upd_same, ?_⟩
    · rw [upd_ne (ne_of_none hb hD)]
      exact e4 b o nb (e1 b o nb hb)
    · have ht : src.take (i + 1) = src.take i ++ [y] := by rw [List.take_add_one, hy]; rfl
      rw [ht]
      exact HX.Paired.snoc (L2.Paired.mapP hp fun a b k => hR a b D acc H' _ k ha hW1 (fun b o n1 n2 hb => by rw [upd_ne n1]; exact e4 b o n2 hb)) (hR y v D acc H4 _ hr ha4 hW4 (fun b o n1 n2 hb => by rw [upd_ne n1]; exact hb))
  · rintro H0 ⟨e1, hW1, acc, ha, hp⟩
    rw [List.take_length] at hp
    exact hd D H0 acc hD e1 hW1 ha hp
theorem atI_nat {α : Type} {xs : List α} {j : Nat} {a : α} (h : xs[j]? = some a) : atI xs ((j : Nat) : Int) = some a := by
  obtain ⟨hl, _⟩ := List.getElem?_eq_some_iff.mp h
  unfold atI ixN
  rw [if_pos (by omega), if_pos (by omega), Int.toNat_natCast]
  exact h
section
variable {P : Program} {w : World} {K : PySem.W.Frag} {mg : Str → Option Value} {base : Heap}
/-! ### _law_names -/
def nm13 : List Str := ["a", "b", "ab", "key", "row", "of", "zzzzzzzz", "tree", "c", "put", "x", "fold", "aa"]
def nmAt (i : Nat) : Str := nm13.getD i sE
theorem nm_good : ∀ i, i < 13 → nameF (nmAt i) = true := by decide +kernel
theorem nm_inj : ∀ i, i < 13 → ∀ j, j < 13 → nmAt i = nmAt j → i = j := by decide +kernel
theorem idx_nodup : ∀ f, f < 13 → ∀ s, s < 13 → 1 ≤ s → ((List.range 8).map fun k => (f + s * k) % 13).Nodup := by decide +kernel
def namesF (f s m : Nat) : List Str := (List.range m).map fun k => nmAt ((f + s * k) % 13)
theorem names_cols {f s m : Nat} (hf : f < 13) (hs : s < 13) (h1 : 1 ≤ s) (hm : m ≤ 8) : colsF (namesF f s m) = true := by
  have hlt : ∀ k, (f + s * k) % 13 < 13 := fun k => Nat.mod_lt _ (by decide)
  unfold colsF
  simp only [Bool.and_eq_true, decide_eq_true_eq, List.all_eq_true]
  refine ⟨by unfold namesF; rw [List.length_map, List.length_range]; exact hm, fun x hx => ?_, ?_⟩
  · obtain ⟨k, _, rfl⟩ := List.mem_map.mp hx
    exact nm_good _ (hlt k)
  · have h8 := idx_nodup f hf s hs h1
    have hsub : ((List.range m).map fun k => (f + s * k) % 13).Nodup := by
      have e : (List.range m).map (fun k => (f + s * k) % 13) = ((List.range 8).map fun k => (f + s * k) % 13).take m := by
        rw [← List.map_take, List.take_range, Nat.min_eq_left hm]
      rw [e]
      exact h8.sublist (List.take_sublist _ _)
    unfold namesF
    rw [List.nodup_iff_pairwise_ne, List.pairwise_map] at hsub ⊢
    exact hsub.imp fun h e => h (nm_inj _ (hlt _) _ (hlt _) e)
def spNames : Sp := fun vs H Q _ => ∃ p m, vs = [.ref p, .int m] ∧ WellAt H p ∧ 0 ≤ m ∧ m ≤ 8 ∧ ∀ names H' l, ExtO p H H' → WellAt H' p → H l = none → H' l = some (.lst (List.map V.str names)) → colsF names = true → Q (.ref l) H'
theorem scNames : FnScope ["_law_well_here", "_law_many", "_law_some", "_law_first", "_law_step", "_law_k"] ["_law_well_here", "_law_many"] (defScope sNames) := ⟨rfl, rfl, rfl, by decide +kernel, rfl, by decide +kernel, by decide +kernel⟩
theorem ok_names (T : Top K mg) : FnR P w K mg base CX0 2 (He.ga K "_law_names") spNames := by
  obtain ⟨fd, F⟩ := T.says.def_ 19 (d := dNames) rfl
  have b : Binds K fd ["_law_well_here", "_law_many"] [] := F.bindsN fun _ _ _ _ _ _ us hl => match us, hl with | [_, _], _ => rfl
  refine flat (FunD.ok F scNames (fun vs H Q E h => ?_) (fun cdv A outer s H vs Q E hr h => ?_)) b
  · obtain ⟨p, m, rfl, _⟩ := h
    rfl
  · obtain ⟨p, m, rfl, hw, h0, h8, q⟩ := h
    refine ⟨_, pss_cons (ps_set (i := 2) scNames.nd rfl (Or.inr rfl) (pe_lst (pa_cons pe_str (pa_cons pe_str (pa_cons pe_str (pa_cons pe_str (pa_cons pe_str (pa_cons pe_str (pa_cons pe_str (pa_cons pe_str (pa_cons pe_str (pa_cons pe_str (pa_cons pe_str (pa_cons pe_str (pa_cons pe_str pa_nil)))))))))))))))
      (pss_cons (ps_set (i := 3) scNames.nd rfl (Or.inr rfl) (pe_f0 (ok_draw T) hr (T.g 18) (kDraw T) (pa_cons (pv 0) (pa_cons pe_int pa_nil))))
      (pss_cons (ps_set (i := 4) scNames.nd rfl (Or.inr rfl) (pe_op op_add pe_int (pe_f0 (ok_draw T) hr (T.g 18) (kDraw T) (pa_cons (pv 0) (pa_cons pe_int pa_nil)))))
      (pss_one (ps_ret (pe_lc (own := [("_law_k", 5)]) rfl scNames.nd (pi_range1 rfl (T.f 38) (pa_cons (pv 1) pa_nil)) (bk ["_law_well_here", "_law_many", "_law_some", "_law_first", "_law_step", "_law_k"] (defScope sNames) [("_law_k", 5)])
        (fun _ _ _ _ _ => pg_name (i := 5) scNames.nd rfl (Or.inl rfl)) (fun _ _ _ _ _ => pts_nil) (fun _ _ _ _ _ => pe_ix (r := rIxL K) ix_list (pv 2) (pe_op op_mod (pe_op op_add (pv 3) (pe_op op_mul (pv 4) (pv 5))) pe_int) (fun _ _ => rfl))))))), ?_⟩
    refine ⟨by show 13 ≤ _; decide, fun l hl => ?_⟩
    have e0 : Ext H (upd H l (.lst (nm13.map V.str))) := Ext.upd hl
    have npl := hw.ne hl
    refine ⟨.ref p, rfl, p, 13, rfl, hw.ext e0, by decide, by decide, fun r1 H1 e1 w1 l1 u1 => ?_⟩
    refine ⟨.ref p, rfl, p, 12, rfl, w1, by decide, by decide, fun r2 H2 e2 w2 l2 u2 => ⟨1, r2, rfl, rfl, ?_⟩⟩
    have hl2 : H2 l = some (.lst (nm13.map V.str)) := e2 _ _ (Ne.symm npl) (e1 _ _ (Ne.symm npl) upd_same)
    have e02 : ExtO p H H2 := ((ExtO.of e0).trans e1).trans e2
    obtain ⟨f, rfl⟩ : ∃ f : Nat, r1 = (f : Int) := ⟨r1.toNat, by omega⟩
    obtain ⟨s1, rfl⟩ : ∃ s1 : Nat, r2 = (s1 : Int) := ⟨r2.toNat, by omega⟩
    obtain ⟨n, rfl⟩ : ∃ n : Nat, m = (n : Int) := ⟨m.toNat, by omega⟩
    dsimp only [tRet]
    refine tlc_map (fun R r => ⟨.int (n : Int), rfl, (n : Int), rfl, by omega, by omega, r⟩) (List.range n) (fun y => V.int (0 + (y : Nat))) (fun k => V.str (nmAt ((f + (1 + s1) * k) % 13))) walk_rangeM (by rw [List.length_range, sizeLine_eq]; omega) (fun _ _ => True.intro)
      (fun y H3 hy e3 Q' hq => ⟨rfl, .ref l, rfl, .int (f : Int), rfl, .int (1 + (s1 : Int)), rfl, .int (0 + (y : Nat)), rfl, 1 + (s1 : Int), 0 + (y : Nat), rfl, rfl, .inl ⟨by omega, by omega⟩, (f : Int), _, rfl, rfl, _, 13, rfl, rfl, (by show (0:Int) < 13; decide), l, nm13.map V.str, _, V.str (nmAt ((f + (1 + s1) * y) % 13)), rfl, rfl, .inl (.inl (e3 _ _ hl2)), ?_, hq H3 .rfl'⟩) fun D H3 hD e3 hl3 => ?_
    · have hlt : (f + (1 + s1) * y) % 13 < 13 := Nat.mod_lt _ (by decide)
      have e : ((f : Int) + (1 + (s1 : Int)) * (0 + (y : Nat))) % 13 = (((f + (1 + s1) * y) % 13 : Nat) : Int) := by
        rw [Int.zero_add]
        push_cast
        rfl
      show atI (nm13.map V.str) (((f : Int) + (1 + (s1 : Int)) * (0 + (y : Nat))) % 13) = _
      rw [e]
      refine atI_nat ?_
      rw [List.getElem?_map]
      have hg : nm13[(f + (1 + s1) * y) % 13]? = some (nmAt ((f + (1 + s1) * y) % 13)) := by
        unfold nmAt
        rw [List.getD_eq_getElem?_getD, List.getElem?_eq_getElem (show _ < nm13.length from hlt)]
        rfl
      rw [hg]
      rfl
    · refine q (namesF f (1 + s1) n) H3 D (e02.trans (ExtO.of e3)) (w2.ext e3) ?_ (by rw [hl3]; unfold namesF; rw [List.map_map]; rfl) (names_cols (by omega) (by omega) (by omega) (by omega))
      cases z : H D with
      | none => rfl
      | some o =>
        have := e02 D o (Ne.symm (w2.ne hD)) z
        rw [hD] at this
        cases this
end
end F89
set_option Elab.async false
set_option linter.all false
set_option maxRecDepth 100000
set_option maxHeartbeats 2000000
namespace F89
open PySem PySem.Spec L2 HX TL
open PyProof.Rows hiding St
theorem ExtO.new {p l : Addr} {H H' : Hp} (e : ExtO p H H') (n : l ≠ p) (h : H' l = none) : H l = none := by
  cases z : H l with
  | none => rfl
  | some o =>
    rw [e l o n z] at h
    cases h
section
variable {P : Program} {w : World} {K : PySem.W.Frag} {mg : Str → Option Value} {base : Heap}
/-! ### _law_value -/
def spValue : Sp := fun vs H Q _ => ∃ p, vs = [.ref p] ∧ WellAt H p ∧ ∀ i H', ExtO p H H' → WellAt H' p → Int.natAbs i < 10 ^ 40 → Q (.int i) H'
theorem scValue : FnScope ["_law_well_here", "_law_far"] ["_law_well_here"] (defScope sValue) := ⟨rfl, rfl, rfl, by decide +kernel, rfl, by decide +kernel, by decide +kernel⟩
theorem ok_value (T : Top K mg) : FnR P w K mg base CX0 2 (He.ga K "_law_value") spValue := by
  obtain ⟨fd, F⟩ := T.says.def_ 20 (d := dValue) rfl
  have b : Binds K fd ["_law_well_here"] [] := F.bindsN fun _ _ _ _ _ _ us hl => match us, hl with | [_], _ => rfl
  refine flat (FunD.ok F scValue (fun vs H Q E h => ?_) (fun cdv A outer s H vs Q E hr h => ?_)) b
  · obtain ⟨p, rfl, _⟩ := h
    rfl
  · obtain ⟨p, rfl, hw, q⟩ := h
    refine ⟨_, pss_cons (ps_set (i := 1) scValue.nd rfl (Or.inl rfl) (pe_ix ix_list (pe_lst (pa_cons pe_int (pa_cons pe_int (pa_cons (pe_op op_pow pe_int pe_int) pa_nil)))) (pe_f0 (ok_draw T) hr (T.g 18) (kDraw T) (pa_cons (pv 0) (pa_cons pe_int pa_nil))) (fun _ _ => rfl)))
      (pss_one (ps_ret (pe_op op_mul (pe_f0 (ok_draw T) hr (T.g 18) (kDraw T) (pa_cons (pv 0) (pa_cons (pv 1) pa_nil))) (pe_op op_sub pe_int (pe_op op_mul pe_int (pe_f0 (ok_draw T) hr (T.g 18) (kDraw T) (pa_cons (pv 0) (pa_cons pe_int pa_nil)))))))), ?_⟩
    refine ⟨10, 40, rfl, rfl, by unfold CPow; decide, by show 3 ≤ _; decide, fun l hl => ?_⟩
    have e0 : Ext H (upd H l (.lst [.int 3, .int 30, .int (10 ^ 40)])) := Ext.upd hl
    have npl := hw.ne hl
    refine ⟨.ref p, rfl, p, 3, rfl, hw.ext e0, by decide, by decide, fun r H1 e1 w1 l1 u1 => ?_⟩
    obtain ⟨far, hfar, f1, f2⟩ : ∃ far : Int, atI [V.int 3, V.int 30, V.int (10 ^ 40)] r = some (.int far) ∧ 1 ≤ far ∧ far ≤ 10 ^ 40 := by
      rcases (show r = 0 ∨ r = 1 ∨ r = 2 by omega) with z | z | z
      · subst z
        exact ⟨3, rfl, by decide, by decide⟩
      · subst z
        exact ⟨30, rfl, by decide, by decide⟩
      · subst z
        exact ⟨10 ^ 40, rfl, by decide, by decide⟩
    refine ⟨l, _, r, .int far, rfl, rfl, .inl (.inl (e1 _ _ (Ne.symm npl) upd_same)), hfar, ?_⟩
    have hlog : far.natAbs.log2 < 9000 := (Nat.log2_lt (by omega)).mpr (Nat.lt_of_le_of_lt (show far.natAbs ≤ 10 ^ 40 by omega) (Nat.lt_of_lt_of_le (show 10 ^ 40 < 2 ^ 200 by decide) (Nat.pow_le_pow_right (by decide) (by decide))))
    refine ⟨.ref p, rfl, .int far, rfl, p, far, rfl, w1, f1, hlog, fun r2 H2 e2 w2 l2 u2 => ?_⟩
    refine ⟨.ref p, rfl, p, 2, rfl, w2, by decide, by decide, fun r3 H3 e3 w3 l3 u3 => ⟨2, r3, rfl, rfl, .inl ⟨by decide, by decide⟩, 1, 2 * r3, rfl, rfl, r2, 1 - 2 * r3, rfl, rfl, .inr ⟨by omega, by omega⟩, ?_⟩⟩
    refine q _ H3 ((((ExtO.of e0).trans e1).trans e2).trans e3) w3 ?_
    rcases (show r3 = 0 ∨ r3 = 1 by omega) with z | z
    · subst z
      show (r2 * (1 - 2 * 0)).natAbs < _
      omega
    · subst z
      show (r2 * (1 - 2 * 1)).natAbs < _
      omega
/-! ### _law_number -/
def okC (x : Str) : Prop := ∀ c ∈ tl x, c < 1114112
theorem figS_mem {x : Str} {c : Nat} (h : c ∈ tl (figS x)) : c ∈ tl x := by
  rw [tl_figS] at h
  rcases figs_or (tl x) with ⟨r, e, f, _⟩ | ⟨_, f, _⟩
  · rw [f] at h
    rw [e]
    exact List.mem_cons_of_mem _ h
  · rwa [f] at h
theorem dig_mem (c : Nat) : decide (c ∈ (Str.ofString "0123456789").cps.toList) = digB c := by
  rw [← dig_set, Bool.eq_iff_iff, decide_eq_true_eq, Array.contains_iff_mem]
  exact Array.mem_toList_iff
theorem none_left {x : Str} : ((tl x).filter fun c => !digB c) = [] ↔ (tl x).all digB = true := by
  rw [List.filter_eq_nil_iff, List.all_eq_true]
  constructor
  · intro h c hc
    have := h c hc
    simpa using this
  · intro h c hc
    rw [h c hc]
    decide
theorem one_ok {c : Nat} (h : c < 1114112) : PyData.strOk ⟨#[c]⟩ = true := low_ok fun d hd => by
  have : d = c := by simpa using hd
  omega
theorem dp_signs {K : PySem.W.Frag} {H : Hp} : ∀ cs : List Nat, DpAll K H (cs.map fun c => V.str ⟨#[c]⟩) (cs.map fun c => PyData.str ⟨#[c]⟩)
  | [] => .nil
  | c :: r => .cons (.str _) (dp_signs r)
theorem sh_strs {ws : List Str} (h : ∀ x ∈ ws, PyData.strOk x = true) : SeqAt.shaped (dS ws) = true := by
  unfold SeqAt.shaped dS
  rw [Bool.and_eq_true, decide_eq_true_eq, PyData.depth, dep_strs]
  exact ⟨lay_strs ws h, by omega⟩
theorem sh_signs {cs : List Nat} (h : ∀ c ∈ cs, c < 1114112) : SeqAt.shaped (.list (cs.map fun c => PyData.str ⟨#[c]⟩)) = true := by
  have := sh_strs (ws := cs.map fun c => (⟨#[c]⟩ : Str)) fun x hx => by
    obtain ⟨c, hc, rfl⟩ := List.mem_map.mp hx
    exact one_ok (h c hc)
  unfold dS at this
  rw [List.map_map] at this
  exact this
theorem eqv_nil {d : List PyData} : PyData.eqv (.list d) (.list []) = d.isEmpty := by
  cases d <;> rfl
def spNumber : Sp := fun vs H Q _ => ∃ x, vs = [.str x] ∧ x.length ≤ 1000000 ∧ okC x ∧ ∀ H', Ext H H' → Q (numV x) H'
theorem scNumber : FnScope ["_law_word", "_law_figures", "_law_sign"] ["_law_word"] (defScope sNumber) := ⟨rfl, rfl, rfl, by decide +kernel, rfl, by decide +kernel, by decide +kernel⟩
theorem ok_number (T : Top K mg) : FnR P w K mg base CX0 1 (He.ga K "_law_number") spNumber := by
  obtain ⟨fd, F⟩ := T.says.def_ 23 (d := dNumber) rfl
  have b : Binds K fd ["_law_word"] [] := F.bindsN fun _ _ _ _ _ _ us hl => match us, hl with | [_], _ => rfl
  refine flat (FunD.ok F scNumber (fun vs H Q E h => ?_) (fun cdv A outer s H vs Q E hr h => ?_)) b
  · obtain ⟨v, rfl, _⟩ := h
    rfl
  · obtain ⟨x, rfl, hz0, hok, q⟩ := h
    have hz : x.length ≤ sizeLine := by rw [sizeLine_eq]; omega
    refine ⟨_, pss_cons (ps_set (i := 1) scNumber.nd rfl (Or.inl rfl) (pv 0))
      (pss_cons (ps_if (pt_cmpR op_eq (pe_slice sl_str (pv 0) po_none (po_some pe_int)) pe_str (nomark _)) (pss_one (ps_set (i := 1) scNumber.nd rfl (Or.inl rfl) (pe_slice sl_str (pv 0) (po_some pe_int) po_none))) pss_nil)
      (pss_cons (ps_if (PW.pt (pw_or (pt_not (pt_chain op_lt op_lt pe_int (pe_callB call_len rfl (T.f 29) (by decide +kernel) (pa_cons (pv 1) pa_nil)) pe_int))
        (pw_or1 (pt_cmpR (op_neD (r64 hr)) (pe_lc (own := [("_law_sign", 2)]) rfl scNumber.nd (pi_str (pv 1)) (bk ["_law_word", "_law_figures", "_law_sign"] (defScope sNumber) [("_law_sign", 2)])
          (fun _ _ _ _ _ => pg_name (i := 2) scNumber.nd rfl (Or.inl rfl)) (fun _ _ _ _ _ => pts_one (pt_cmpR op_notIn_sign (pv 2) pe_str rfl)) (fun _ _ _ _ _ => pv 2)) (pe_lst pa_nil) (nomark _))))) (pss_one (ps_ret pe_non)) pss_nil)
      (pss_cons (ps_if (PW.pt (pw_and (pt_cmpR op_eq (pe_ix ix_str (pv 1) pe_int (fun _ _ => rfl)) pe_str (nomark _)) (pw_and1 (pt_cmpR op_ne (pv 0) pe_str (nomark _))))) (pss_one (ps_ret pe_non)) pss_nil)
      (pss_one (ps_ret (pe_callTy call_int_str rfl (T.f 31) (by decide +kernel) (pa_cons (pv 0) pa_nil))))))), ?_⟩
    dsimp only [tSeq, tAsg]
    have hf : (figS x).length ≤ sizeLine := by
      unfold figS
      split
      · exact Nat.le_trans (cutS_length _ _ _) hz
      · exact hz
    have hfc : okC (figS x) := fun c hc => hok c (figS_mem hc)
    have no : okF (tl x) = false → ∀ H', Ext H H' → Q .non H' := fun e => by rw [numV_no e] at q; exact q
    refine ⟨.str x, rfl, ?_⟩
    refine ⟨.str x, rfl, 1, rfl, x, rfl, hz, rfl, _, rfl, iteB (fun hc => ?br1) (fun hc => ?br2)⟩
    case' br1 =>
      have hfig : figS x = cutS x (some 1) none := by
        unfold figS
        rw [← vstr_eq, if_pos hc]
      rw [hfig] at hf hfc
      refine ⟨.str x, rfl, 1, rfl, x, rfl, hz, ?_⟩
      revert hfig hf hfc
      generalize cutS x (some 1) none = y
      intro hf hfc hfig
      have okf := fun h => no (ok_false (x := x) (by rw [hfig]; exact h))
      have okt := numV_ok (x := x)
      rw [hfig] at okt
    case' br2 =>
      have hfig : figS x = x := by
        unfold figS
        rw [← vstr_eq, if_neg (by rw [hc]; exact Bool.false_ne_true)]
      have okf := fun h => no (ok_false (x := x) (by rw [hfig]; exact h))
      have okt := numV_ok (x := x)
      rw [hfig] at okt hf hfc
    all_goals
      refine ⟨_, rfl, _, _, rfl, ⟨hf, rfl⟩, 0, _, rfl, rfl, _, rfl, iteB (fun h1 => ?_) (fun h1 => ?_)⟩
      rotate_left
      · exact ⟨false, rfl, okf (fun z => absurd z.1 (by have := decF h1; omega)) H .rfl'⟩
      refine ⟨_, 41, rfl, rfl, _, rfl, iteB (fun h2 => ?_) (fun h2 => ?_)⟩
      · refine okf (fun z => ?_) H .rfl'
        rw [Bool.not_eq_true'] at h2
        have := decF h2
        omega
      rw [Bool.not_eq_false'] at h2
      have l1 := decT h1
      have l2 := decT h2
      dsimp only [tTest, tOp]
      refine tlc_filter (fun R r => ⟨_, rfl, _, rfl, r⟩) _ (fun c => V.str ⟨#[c]⟩) (fun c => V.str ⟨#[c]⟩) (fun c => !digB c) (walk_strM _) (by rw [Array.length_toList]; exact hf) (fun _ _ => True.intro) (fun c H1 hc1 e1 QT QF ht hff => ⟨rfl, .str ⟨#[c]⟩, rfl, c, Str.ofString "0123456789", rfl, rfl, _, rfl, ?_⟩) fun D H1 hD e1 hl => ?_
      · rw [dig_mem]
        exact iteB (fun z => ⟨_, rfl, ht z H1 .rfl'⟩) (fun z => hff z H1 .rfl')
      refine ⟨by show 0 ≤ _; exact Nat.zero_le _, fun pe hpe => ?_⟩
      have eP := Ext.upd (o := .lst []) hpe
      refine ⟨.list (((tl _).filter fun c => !digB c).map fun c => PyData.str ⟨#[c]⟩), .list [], .lst (.inl (.inl (eP _ _ hl))) (dp_signs _), .lst (.inl (.inl upd_same)) .nil, ?_, rfl, _, rfl, iteB (fun h3 => ?_) (fun h3 => ?_)⟩
      · exact sh_signs fun c hc1 => hfc c (List.mem_filter.mp hc1).1
      · refine okf (fun z => ?_) _ (e1.trans eP)
        rw [eqv_nil, none_left.mpr z.2.2.1] at h3
        cases h3
      rw [eqv_nil, Bool.not_eq_false', List.isEmpty_iff, List.map_eq_nil_iff] at h3
      have h3 := none_left.mp h3
      obtain ⟨c, r, hcr⟩ := cons_of (show 1 ≤ _ from Int.ofNat_le.mp (show ((1 : Nat) : Int) ≤ _ from l1))
      refine ⟨_, rfl, _, _, c, rfl, rfl, hf, atI_zero hcr, rfl, _, rfl, iteB (fun h4 => ?_) (fun h4 => ?_)⟩
      · rw [chr_eq tl0] at h4
        have hc48 : c = 48 := decT h4
        refine ⟨.str x, rfl, rfl, _, rfl, iteB (fun h5 => ?_) (fun h5 => ?_)⟩
        · refine okf (fun z => ?_) _ (e1.trans eP)
          rw [vstr_eq, Bool.not_eq_true'] at h5
          refine decF h5 (eq_tl.mpr ?_)
          rw [tl0]
          exact z.2.2.2 (by rw [hcr, hc48]; rfl)
        · rw [vstr_eq, Bool.not_eq_false'] at h5
          obtain ⟨n, e1', e2, e3⟩ := okt (by omega) (by omega) h3 fun _ => by rw [decT h5, tl0]
          rw [e3] at q
          exact ⟨.str x, rfl, x, n, rfl, e1', e2, q _ (e1.trans eP)⟩
      · rw [chr_eq tl0] at h4
        refine iteB (fun z => by cases z) (fun _ => ?_)
        obtain ⟨n, e1', e2, e3⟩ := okt (by omega) (by omega) h3 fun z => by
          rw [hcr] at z
          exact absurd (Option.some.inj z) (decF h4)
        rw [e3] at q
        exact ⟨.str x, rfl, x, n, rfl, e1', e2, q _ (e1.trans eP)⟩
end
end F89
set_option Elab.async false
set_option linter.all false
set_option maxRecDepth 100000
set_option maxHeartbeats 2000000
namespace F89
open PySem PySem.Spec L2 HX TL
open PyProof.Rows hiding St
section
variable {P : Program} {w : World} {K : PySem.W.Frag} {mg : Str → Option Value} {base : Heap}
/-! ### _law_text -/
theorem sorted_of {ks L L' : List (Addr × List Int)} (hL1 : ∀ p ∈ L, p ∈ ks) (hL2 : ∀ p ∈ ks, p.2 ∈ L.map (·.2)) (pm : L'.Perm L) (nd : (L'.map (·.2)).Nodup) (pw : L'.Pairwise (fun q r => q.2 ≤ r.2)) : SortedOf (L'.map (·.2)) (ks.map (·.2)) := by
  have hLm : ∀ q ∈ L', q ∈ ks := fun q hq => hL1 q (pm.mem_iff.mp hq)
  refine ⟨?_, fun r => ⟨fun hr => ?_, fun hr => ?_⟩⟩
  · rw [List.pairwise_map]
    rw [List.nodup_iff_pairwise_ne, List.pairwise_map] at nd
    exact (pw.and nd).imp fun h => lt_of_le_ne h.1 h.2
  · obtain ⟨q, hq, rfl⟩ := List.mem_map.mp hr
    exact List.mem_map_of_mem (hLm q hq)
  · obtain ⟨q, hq, rfl⟩ := List.mem_map.mp hr
    obtain ⟨q2, hq2, e⟩ := List.mem_map.mp (hL2 q hq)
    exact List.mem_map.mpr ⟨q2, pm.mem_iff.mpr hq2, e⟩
def spText (K : PySem.W.Frag) : Sp := fun vs H Q _ => ∃ pn pr names ks, vs = [.ref pn, .ref pr] ∧ SqL K H pn (List.map V.str names) ∧ colsF names = true ∧ RowsAt K H pr ks ∧ ks.length < 64 ∧ (∀ q ∈ ks, q.2.length = names.length) ∧ (∀ q ∈ ks, okT q.2) ∧
  ∀ H' R, Ext H H' → SortedOf R (ks.map (·.2)) → Q (.str (textF names R)) H'
theorem scText : FnScope ["_law_names_here", "_law_rows", "_law_lines", "_law_row", "_law_one"] ["_law_names_here", "_law_rows"] (defScope sText) := ⟨rfl, rfl, rfl, by decide +kernel, rfl, by decide +kernel, by decide +kernel⟩
theorem ok_text (T : Top K mg) : FnR P w K mg base CX0 1 (He.ga K "_law_text") (spText K) := by
  obtain ⟨fd, F⟩ := T.says.def_ 21 (d := dText) rfl
  have b : Binds K fd ["_law_names_here", "_law_rows"] [] := F.bindsN fun _ _ _ _ _ _ us hl => match us, hl with | [_, _], _ => rfl
  refine flat (FunD.ok F scText (fun vs H Q E h => ?_) (fun cdv A outer s H vs Q E hr h => ?_)) b
  · obtain ⟨p, m, names, ks, rfl, _⟩ := h
    rfl
  · obtain ⟨pn, pr, names, ks, rfl, hn, hc, hrs, h64, hw, hok, q⟩ := h
    obtain ⟨c8, c100⟩ := cols_len hc
    have h8 := (cols_names hc).1
    refine ⟨_, pss_cons (ps_set (i := 2) scText.nd rfl (Or.inl rfl) (pe_lst (pa_cons (pe_join pe_str (pv 0)) pa_nil)))
      (pss_cons (ps_for (passes_of rfl) rfl (pi_list (pe_callB (HX.cr_sortedS rfl (r64 hr)) rfl (T.f 37) (by decide +kernel) (pa_cons (pe_callTy (cr_setOfT rfl (r64 hr)) rfl (T.f 35) (by decide +kernel) (pa_cons (pv 1) pa_nil)) pa_nil))) (pg_name (i := 3) scText.nd rfl (Or.inl rfl))
        (pss_one (ps_expr (pe_bm PySem.F.plainAttrs_list PySem.F.slot_list_append PySem.F.type_list_append mt_append (pv 2) (pa_cons (pe_join pe_str (pe_lc (own := [("_law_one", 4)]) rfl scText.nd (pi_tup (pv 3)) (bk ["_law_names_here", "_law_rows", "_law_lines", "_law_row", "_law_one"] (defScope sText) [("_law_one", 4)])
          (fun _ _ _ _ _ => pg_name (i := 4) scText.nd rfl (Or.inl rfl)) (fun _ _ _ _ _ => pts_nil) (fun _ _ _ _ _ => pe_callTy call_str_int rfl (T.f 28) (by decide +kernel) (pa_cons (pv 4) pa_nil)))) pa_nil)))))
      (pss_one (ps_ret (pe_join pe_str (pv 2))))), ?_⟩
    have hsum : ∀ ws : List Str, (∀ x ∈ ws, x.length ≤ 8) → ws.length ≤ 8 → (ws.map (·.length)).sum + ws.length * sC.length ≤ 16777216 := fun ws h1 h2 => by
      have := sum_le 8 ws h1
      rw [lenC]
      omega
    refine ⟨⟨_, rfl⟩, .ref pn, rfl, sC, pn, names, rfl, rfl, .inl hn, hsum names c8 h8, by show 1 ≤ _; decide, fun pl hpl => ?_⟩
    have e1 : Ext H (upd H pl (.lst [V.str (Txt.join sC names)])) := Ext.upd hpl
    dsimp only [tSeq]
    refine tfor_any (fun J H1 => ∃ (L' : List (Addr × List Int)) (sp : Addr), J = Itl K sp ∧ sp ≠ pl ∧ SortedOf (L'.map (·.2)) (ks.map (·.2)) ∧ (∀ q ∈ L', q ∈ ks) ∧ L'.length < 64 ∧ Ext (upd H pl (.lst [V.str (Txt.join sC names)])) H1 ∧ H1 sp = some (.lst (L'.map fun q => V.ref q.1)))
      (fun R hR => ⟨.ref pr, rfl, pr, ks, rfl, (hrs.1.ext e1), (fun q hq => (hrs.2 q hq).ext e1), h64, fun sa L hsa hL1 hL2 => ?_⟩) ?_
    · have e5 := Ext.upd (o := SetTO P w sa L) hsa
      refine ⟨sa, L, rfl, upd_same, fun q hq => ((hrs.2 q (hL1 q hq)).ext e1).ext e5, fun q hq r hr => by rw [hw q (hL1 q hq), hw r (hL1 r hr)], fun L' p pm nd h64' pw hp => ?_⟩
      exact ⟨p, rfl, ⟨_, .inl (.inl upd_same)⟩, hR _ _ ⟨L', p, rfl, (fun z => by subst z; exact absurd ((e5 _ _ upd_same).symm.trans hp) (by intro c; cases c)), sorted_of hL1 hL2 pm nd pw, fun q hq => hL1 q (pm.mem_iff.mp hq), h64', e5.trans (Ext.upd hp), upd_same⟩⟩
    · rintro J H1 ⟨L', sp, rfl, hne, hS, hLm, h64', e2, hsp⟩
      have hpl1 : H1 pl = some (.lst [V.str (Txt.join sC names)]) := e2 _ _ upd_same
      refine tfor_it (fun R r => r) (walk_listM L' fun q => V.ref q.1) (Pv := fun i σ' H' => ∃ o1 o2, σ' = [some (.ref pn), some (.ref pr), some (.ref pl), o1, o2] ∧ ExtO pl H1 H' ∧ H' pl = some (.lst ((Txt.join sC names :: (L'.take i).map fun q => lineF q.2).map V.str))) ⟨none, none, rfl, ExtO.rfl', hpl1⟩
        (fun i σ' H' _ ⟨_, _, _, e, _⟩ => SqL_offL (.inl (.inl hsp)) hne e) ?_ ?_
      · rintro i x σ' H' H2 hi ⟨o1, o2, rfl, e, hl⟩ ⟨rfl, y, hy, rfl⟩
        have hm : y ∈ L' := List.mem_of_getElem? hy
        have hT : SqT K H1 y.1 (y.2.map V.int) := ((hrs.2 y (hLm y hm)).ext e1).ext e2
        have hT2 : SqT K H2 y.1 (y.2.map V.int) := SqT_offL hT hpl1 e
        have hy8 := hok y (hLm y hm)
        refine ⟨.ref pl, rfl, .inl ⟨rfl, _, .inl (.inl hl)⟩, ⟨_, rfl⟩, ?_⟩
        refine tlc_map (fun R r => ⟨.ref y.1, rfl, y.1, rfl, ⟨_, hT2⟩, r⟩) y.2 V.int (fun n => V.str (texF n)) (walk_tupM y.2 V.int) (by have := hy8.1; rw [sizeLine_eq]; omega) (fun H' e => hT2.ext e) (fun z H3 hz e3 Q' hq => ⟨rfl, .int z, rfl, z, rfl, tex_log (hy8.2 z hz), hq H3 .rfl'⟩) fun D H3 hD e3 hl3 => ?_
        refine ⟨sC, D, y.2.map texF, rfl, rfl, .inl (.inl (.inl (by rw [hl3, List.map_map]; rfl))), ?_, pl, _, _, rfl, rfl, e3 _ _ hl, ?_, ?_⟩
        · have := sum_le 42 (y.2.map texF) fun x hx => by
            obtain ⟨v, hv, rfl⟩ := List.mem_map.mp hx
            exact tex_len (hy8.2 v hv)
          rw [lenC]
          rw [List.length_map] at *
          have := hy8.1
          omega
        · rw [List.length_map, List.length_cons, List.length_map, List.length_take, sizeLine_eq]
          omega
        · refine ⟨_, _, rfl, (e.trans (ExtO.of e3)).trans ExtO.upd, ?_⟩
          rw [upd_same, List.take_add_one, hy, List.map_append]
          show some (HO.lst _) = some (HO.lst _)
          rw [List.map_cons, List.map_cons, List.map_append]
          rfl
      · rintro σ' H' ⟨o1, o2, rfl, e, hl⟩
        rw [List.take_length] at hl
        have hok2 : okRows (L'.map (·.2)) := ⟨by rw [List.length_map]; omega, fun r hr => by
          obtain ⟨q, hq, rfl⟩ := List.mem_map.mp hr
          exact hok q (hLm q hq)⟩
        refine ⟨⟨_, rfl⟩, .ref pl, rfl, sN, pl, Txt.join sC names :: L'.map fun q => lineF q.2, rfl, rfl, .inl (.inl (.inl hl)), ?_, ?_⟩
        · have hs := sum_le 400 (Txt.join sC names :: L'.map fun q => lineF q.2) fun x hx => by
            rcases List.mem_cons.mp hx with e | hx
            · rw [e]
              omega
            · obtain ⟨r, hr, rfl⟩ := List.mem_map.mp hx
              exact line_len (hok r (hLm r hr))
          rw [lenN]
          rw [List.length_cons, List.length_map] at *
          omega
        · have := q H' (L'.map (·.2)) ((((ExtO.of e1).trans (ExtO.of e2)).trans e).ext hpl) hS
          unfold textF at this
          rw [List.map_map] at this
          exact this
end
end F89
set_option Elab.async false
set_option linter.all false
set_option maxRecDepth 100000
set_option maxHeartbeats 2000000
namespace F89
open PySem PySem.Spec L2 HX TL
open PyProof.Rows hiding St
/-! ### texts within bounds -/
def nl (t : Str) : Nat := (tl t).count 10
def goodT (B L : Nat) (t : Str) : Prop := t.length ≤ B ∧ okC t ∧ nl t ≤ L
theorem goodT.mono {B L B' L' : Nat} {t : Str} (h : goodT B L t) (h1 : B ≤ B') (h2 : L ≤ L') : goodT B' L' t := ⟨by have := h.1; omega, h.2.1, by have := h.2.2; omega⟩
theorem goodT.cut {B L : Nat} {t : Str} (h : goodT B L t) (lo hi : Option Int) : goodT B L (cutS t lo hi) := by
  have hs : (tl (cutS t lo hi)).Sublist (tl t) := (List.take_sublist _ _).trans (List.drop_sublist _ _)
  refine ⟨Nat.le_trans (cutS_length _ _ _) h.1, fun c hc => h.2.1 c (hs.subset hc), Nat.le_trans (hs.count_le 10) h.2.2⟩
theorem goodT.app {B L B' L' : Nat} {a b : Str} (h : goodT B L a) (k : goodT B' L' b) : goodT (B + B') (L + L') (a ++ b) := by
  refine ⟨by rw [len_app]; have := h.1; have := k.1; omega, fun c hc => ?_, ?_⟩
  · rw [tl_append] at hc
    rcases List.mem_append.mp hc with hc | hc
    · exact h.2.1 c hc
    · exact k.2.1 c hc
  · unfold nl
    rw [tl_append, List.count_append]
    have h1 := h.2.2
    have k1 := k.2.2
    unfold nl at h1 k1
    omega
theorem goodT_chr {c : Nat} (h : c < 1114112) : goodT 1 1 ⟨#[c]⟩ := by
  refine ⟨Nat.le_refl 1, fun d hd => ?_, ?_⟩
  · have : d = c := by simpa using hd
    omega
  · show [c].count 10 ≤ 1
    exact Nat.le_trans (List.count_le_length) (Nat.le_refl 1)
def goodB (B L : Nat) (t : Str) : Bool := decide (t.length ≤ B) && ((tl t).all (fun c => decide (c < 1114112)) && decide (nl t ≤ L))
theorem goodB_ok {B L : Nat} {t : Str} (h : goodB B L t = true) : goodT B L t := by
  unfold goodB at h
  simp only [Bool.and_eq_true, decide_eq_true_eq, List.all_eq_true] at h
  exact ⟨h.1, h.2.1, h.2.2⟩
/-! lines -/
theorem spl_count : ∀ (l acc : List Nat), (spl [10] 0 acc l).length = l.count 10 + 1
  | [], acc => rfl
  | c :: r, acc => by
    by_cases h : c = 10
    · subst h
      have e : spl [10] 0 acc (10 :: r) = acc :: spl [10] 0 [] r := spl_hit rfl
      rw [e, List.length_cons, spl_count r [], List.count_cons_self]
    · have hp : pre [10] (c :: r) = false := pre_of_head [] r h
      rw [spl_miss hp, spl_count r (acc ++ [c]), List.count_cons_of_ne h]
theorem split_count (t : Str) : (Txt.split t sN).length = nl t + 1 := by
  have h := split_spl t sN (by rw [tlN]; exact List.cons_ne_nil _ _) (kind_ok (by decide +kernel))
  have h2 := congrArg List.length h
  rw [List.length_map, tlN, spl_count] at h2
  exact h2
theorem mem_join (y : Str) {c : Nat} : ∀ {ws : List Str} {w : Str}, w ∈ ws → c ∈ tl w → c ∈ tl (Str.join y ws)
  | [x], w, h, hc => by
    rw [List.mem_singleton.mp h] at hc
    exact hc
  | x :: b :: t, w, h, hc => by
    have e : Str.join y (x :: b :: t) = x ++ y ++ Str.join y (b :: t) := rfl
    rw [e, tl_append, tl_append]
    rcases List.mem_cons.mp h with z | z
    · rw [z] at hc
      exact List.mem_append_left _ (List.mem_append_left _ hc)
    · exact List.mem_append_right _ (mem_join y z hc)
theorem nl_app (a b : Str) : nl (a ++ b) = nl a + nl b := by
  unfold nl
  rw [tl_append, List.count_append]
theorem nl_join : ∀ ws : List Str, ws ≠ [] → nl (Str.join sN ws) + 1 = (ws.map nl).sum + ws.length
  | [], h => absurd rfl h
  | [x], _ => by
    show nl x + 1 = nl x + 0 + 1
    omega
  | x :: b :: t, _ => by
    have e : Str.join sN (x :: b :: t) = x ++ sN ++ Str.join sN (b :: t) := rfl
    have ih := nl_join (b :: t) (List.cons_ne_nil _ _)
    have h1 : nl sN = 1 := by decide +kernel
    rw [e, nl_app, nl_app, h1, List.map_cons, List.sum_cons, List.length_cons]
    omega
theorem sum_zero : ∀ {l : List Nat}, l.sum = 0 → ∀ x ∈ l, x = 0
  | [], _ => fun _ h => absurd h List.not_mem_nil
  | a :: r, h => fun x hx => by
    rw [List.sum_cons] at h
    rcases List.mem_cons.mp hx with z | z
    · omega
    · exact sum_zero (by omega) x z
def goodLs (B L : Nat) (ls : List Str) : Prop := (∀ l ∈ ls, okC l ∧ nl l = 0) ∧ (ls.map (·.length)).sum + ls.length ≤ B ∧ ls.length ≤ L
theorem split_good {B L : Nat} {t : Str} (h : goodT B L t) : goodLs (B + 1) (L + 1) (Txt.split t sN) := by
  have hj := PySem.StrLaws.join_split t sN
  have hne := split_ne t sN (by rw [tlN]; exact List.cons_ne_nil _ _) (by decide +kernel)
  have h1 := nl_join _ hne
  have h2 := split_count t
  have h3 := sum_join sN lenN (Txt.split t sN)
  rw [hj] at h1 h3
  have h0 : ((Txt.split t sN).map nl).sum = 0 := by omega
  refine ⟨fun l hl => ⟨fun c hc => h.2.1 c ?_, sum_zero h0 _ (List.mem_map_of_mem hl)⟩, by have := h.1; omega, by have := h.2.2; omega⟩
  have := mem_join sN hl hc
  rw [hj] at this
  exact this
theorem join_good {B L : Nat} {ls : List Str} (h : goodLs B L ls) : goodT B L (Txt.join sN ls) := by
  rw [join_eq]
  refine ⟨Nat.le_trans (join_sum sN lenN ls) h.2.1, fun c hc => ?_, ?_⟩
  · have key : ∀ ws : List Str, (∀ w ∈ ws, okC w) → ∀ c ∈ tl (Str.join sN ws), c < 1114112 := by
      intro ws
      induction ws with
      | nil => intro _ c hc; cases hc
      | cons x r ih =>
        intro hw c hc
        cases r with
        | nil => exact hw x (List.mem_cons_self ..) c hc
        | cons b t =>
          have e : Str.join sN (x :: b :: t) = x ++ sN ++ Str.join sN (b :: t) := rfl
          rw [e, tl_append, tl_append] at hc
          rcases List.mem_append.mp hc with hc | hc
          · rcases List.mem_append.mp hc with hc | hc
            · exact hw x (List.mem_cons_self ..) c hc
            · rw [tlN, List.mem_singleton] at hc
              omega
          · exact ih (fun w hwm => hw w (List.mem_cons_of_mem _ hwm)) c hc
    exact key ls (fun w hw => (h.1 w hw).1) c hc
  · by_cases hne : ls = []
    · rw [hne]
      exact Nat.zero_le _
    · have h1 := nl_join ls hne
      have h0 : (ls.map nl).sum = 0 := by
        have : ∀ ws : List Str, (∀ w ∈ ws, nl w = 0) → (ws.map nl).sum = 0 := by
          intro ws
          induction ws with
          | nil => intro _; rfl
          | cons x r ih =>
            intro hw
            rw [List.map_cons, List.sum_cons, hw x (List.mem_cons_self ..), ih fun w hwm => hw w (List.mem_cons_of_mem _ hwm)]
        exact this ls fun w hw => (h.1 w hw).2
      have := h.2.2
      omega
/-- a list whose items are of two others -/
theorem sum_app (a b : List Str) : ((a ++ b).map (·.length)).sum = (a.map (·.length)).sum + (b.map (·.length)).sum := by rw [List.map_append, List.sum_append]
theorem goodLs.take {B L : Nat} {ls : List Str} (h : goodLs B L ls) (n : Nat) : goodLs B L (ls.take n) := by
  have e := congrArg (fun z => (List.map (fun x : Str => x.length) z).sum) (List.take_append_drop n ls)
  have e2 := congrArg List.length (List.take_append_drop n ls)
  rw [List.length_append] at e2
  have e3 : ((ls.take n).map (·.length)).sum + ((ls.drop n).map (·.length)).sum = (ls.map (·.length)).sum := by rw [← sum_app]; exact e
  refine ⟨fun l hl => h.1 l (List.mem_of_mem_take hl), ?_, ?_⟩
  · have := h.2.1
    omega
  · have := h.2.2
    omega
theorem goodLs.drop {B L : Nat} {ls : List Str} (h : goodLs B L ls) (n : Nat) : goodLs B L (ls.drop n) := by
  have e := congrArg (fun z => (List.map (fun x : Str => x.length) z).sum) (List.take_append_drop n ls)
  have e2 := congrArg List.length (List.take_append_drop n ls)
  rw [List.length_append] at e2
  have e3 : ((ls.take n).map (·.length)).sum + ((ls.drop n).map (·.length)).sum = (ls.map (·.length)).sum := by rw [← sum_app]; exact e
  refine ⟨fun l hl => h.1 l (List.mem_of_mem_drop hl), ?_, ?_⟩
  · have := h.2.1
    omega
  · have := h.2.2
    omega
theorem goodLs.app {B L B' L' : Nat} {a b : List Str} (h : goodLs B L a) (k : goodLs B' L' b) : goodLs (B + B') (L + L') (a ++ b) := by
  refine ⟨fun l hl => ?_, ?_, ?_⟩
  · rcases List.mem_append.mp hl with hl | hl
    · exact h.1 l hl
    · exact k.1 l hl
  · rw [sum_app, List.length_append]
    have := h.2.1
    have := k.2.1
    omega
  · rw [List.length_append]
    have := h.2.2
    have := k.2.2
    omega
theorem goodLs.one {B : Nat} {x : Str} (h : goodT B 0 x) : goodLs (B + 1) 1 [x] := by
  refine ⟨fun l hl => ?_, ?_, Nat.le_refl 1⟩
  · rw [List.mem_singleton.mp hl]
    exact ⟨h.2.1, by have := h.2.2; omega⟩
  · show x.length + 0 + 1 ≤ B + 1
    have := h.1
    omega
theorem goodLs.item {B L : Nat} {ls : List Str} (h : goodLs B L ls) {x : Str} (hx : x ∈ ls) : goodT B 0 x := by
  refine ⟨?_, (h.1 x hx).1, by rw [(h.1 x hx).2]; exact Nat.le_refl 0⟩
  have key : ∀ (ws : List Str), x ∈ ws → x.length ≤ (ws.map (·.length)).sum := by
    intro ws
    induction ws with
    | nil => intro h; cases h
    | cons a r ih =>
      intro hm
      rw [List.map_cons, List.sum_cons]
      rcases List.mem_cons.mp hm with z | z
      · rw [z]
        omega
      · have := ih z
        omega
  have := key ls hx
  have := h.2.1
  omega
theorem set_eq {α : Type} {ls : List α} {j : Nat} (h : j < ls.length) (x : α) : ls.set j x = ls.take j ++ [x] ++ ls.drop (j + 1) := by
  rw [List.set_eq_take_append_cons_drop, if_pos h, List.append_assoc]
  rfl
def signsT : Str := Str.ofString "0123456789,-\n a+" ++ Str.ofString "_"
theorem signs_ok : (tl signsT).length = 17 ∧ ∀ c ∈ tl signsT, c < 1114112 := by
  have h : decide ((tl signsT).length = 17) && (tl signsT).all (fun c => decide (c < 1114112)) = true := by decide +kernel
  simp only [Bool.and_eq_true, decide_eq_true_eq, List.all_eq_true] at h
  exact h
def oddsL : List Str := [Str.ofString "", Str.ofString "0", Str.ofString "-", Str.ofString "01", Str.ofString "-0", Str.ofString "+1", Str.ofString "1" ++ Txt.mul (Str.ofString "0") 40, Str.ofString ",", Str.ofString "a", Str.ofString "-1,-1", Str.ofString "7,7,7", Str.ofString "a,b"]
theorem odds_ok : ∀ x ∈ oddsL, goodT 41 0 x := by
  have h : oddsL.all (goodB 41 0) = true := by decide +kernel
  rw [List.all_eq_true] at h
  exact fun x hx => goodB_ok (h x hx)
theorem mul_ok : MulOk (Str.ofString "0") 40 := by
  refine ⟨by decide, fun _ _ => ?_, fun _ _ => ?_⟩
  · decide +kernel
  · decide +kernel
end F89
set_option Elab.async false
set_option linter.all false
set_option maxRecDepth 100000
set_option maxHeartbeats 2000000
namespace F89
open PySem PySem.Spec L2 HX TL
open PyProof.Rows hiding St
theorem updN {p l : Addr} {H H' : Hp} {o : HO} (e : ExtO p H H') (h : H l = none) : ExtO p H (upd H' l o) := fun b u nb hb => by
  rw [upd_ne (ne_of_none hb h)]
  exact e b u nb hb
theorem cut_take {α : Type} (ls : List α) (f : α → V) (n : Nat) : cutV (ls.map f) none (some (n : Int)) = (ls.take n).map f := by
  unfold cutV
  rw [HT.sIx_none, HT.sIx_nat, List.drop_zero, Nat.sub_zero, List.map_take, ← List.take_take, List.take_length]
theorem cut_drop {α : Type} (ls : List α) (f : α → V) (n : Nat) : cutV (ls.map f) (some (n : Int)) none = (ls.drop n).map f := by
  unfold cutV
  rw [HT.sIx_none, HT.sIx_nat, List.map_drop]
  rw [List.take_of_length_le (by rw [List.length_drop]; exact Nat.le_refl _)]
  rcases Nat.lt_or_ge n (ls.map f).length with h | h
  · rw [Nat.min_eq_left (Nat.le_of_lt h)]
  · rw [Nat.min_eq_right h, List.drop_length, List.drop_eq_nil_of_le h]
theorem sumOk {B L : Nat} {ls : List Str} (h : goodLs B L ls) (hB : B ≤ 100000) : (ls.map (·.length)).sum + ls.length * sN.length ≤ 16777216 := by
  rw [lenN]
  have := h.2.1
  omega
theorem goodLs.mono {B L B' L' : Nat} {ls : List Str} (h : goodLs B L ls) (h1 : B ≤ B') (h2 : L ≤ L') : goodLs B' L' ls := ⟨h.1, by have := h.2.1; omega, by have := h.2.2; omega⟩
theorem logB {m : Int} (h : m.natAbs < 2 ^ 64) : m.natAbs.log2 < 9000 := by
  rcases Nat.eq_zero_or_pos m.natAbs with e | e
  · rw [e]
    decide
  · exact Nat.lt_of_lt_of_le ((Nat.log2_lt (by omega)).mpr h) (by decide)
section
variable {P : Program} {w : World} {K : PySem.W.Frag} {mg : Str → Option Value} {base : Heap}
/-! ### _law_spoilt -/
def spSpoilt : Sp := fun vs H Q _ => ∃ p t B L, vs = [.ref p, .str t] ∧ WellAt H p ∧ goodT B L t ∧ B ≤ 20000 ∧ L ≤ 100 ∧ ∀ t' H', ExtO p H H' → WellAt H' p → goodT (3 * B + 100) (2 * L + 3) t' → Q (.str t') H'
theorem scSpoilt : FnScope ["_law_well_here", "_law_text_here", "_law_way", "_law_at", "_law_sign", "_law_lines", "_law_to", "_law_odd"] ["_law_well_here", "_law_text_here"] (defScope sSpoilt) := ⟨rfl, rfl, rfl, by decide +kernel, rfl, by decide +kernel, by decide +kernel⟩
theorem ok_spoilt (T : Top K mg) : FnR P w K mg base CX0 2 (He.ga K "_law_spoilt") spSpoilt := by
  obtain ⟨fd, F⟩ := T.says.def_ 22 (d := dSpoilt) rfl
  have b : Binds K fd ["_law_well_here", "_law_text_here"] [] := F.bindsN fun _ _ _ _ _ _ us hl => match us, hl with | [_, _], _ => rfl
  refine flat (FunD.ok F scSpoilt (fun vs H Q E h => ?_) (fun cdv A outer s H vs Q E hr h => ?_)) b
  · obtain ⟨p, t, B, L, rfl, _⟩ := h
    rfl
  · obtain ⟨p, t, B, L, rfl, hw, hg, hB, hL, q⟩ := h
    refine ⟨_, pss_cons (ps_set (i := 2) scSpoilt.nd rfl (Or.inl rfl) (pe_f0 (ok_draw T) hr (T.g 18) (kDraw T) (pa_cons (pv 0) (pa_cons pe_int pa_nil))))
      (pss_cons (ps_set (i := 3) scSpoilt.nd rfl (Or.inl rfl) (pe_f0 (ok_draw T) hr (T.g 18) (kDraw T) (pa_cons (pv 0) (pa_cons (pe_op op_add (pe_callB call_len rfl (T.f 29) (by decide +kernel) (pa_cons (pv 1) pa_nil)) pe_int) pa_nil))))
      (pss_cons (ps_set (i := 4) scSpoilt.nd rfl (Or.inl rfl) (pe_ix ix_str (pe_op op_add_str pe_str pe_str) (pe_f0 (ok_draw T) hr (T.g 18) (kDraw T) (pa_cons (pv 0) (pa_cons pe_int pa_nil))) (fun _ _ => rfl)))
      (pss_cons (ps_set (i := 5) scSpoilt.nd rfl (Or.inl rfl) (pe_split (pv 1) pe_str))
      (pss_cons (ps_set (i := 6) scSpoilt.nd rfl (Or.inl rfl) (pe_f0 (ok_draw T) hr (T.g 18) (kDraw T) (pa_cons (pv 0) (pa_cons (pe_callB call_len rfl (T.f 29) (by decide +kernel) (pa_cons (pv 5) pa_nil)) pa_nil))))
      (pss_cons (ps_if (pt_cmpR op_eq (pv 2) pe_int (nomark _)) (pss_one (ps_ret (pe_op op_add_str (pe_op op_add_str (pe_slice sl_str (pv 1) po_none (po_some (pv 3))) (pv 4)) (pe_slice sl_str (pv 1) (po_some (pv 3)) po_none)))) pss_nil)
      (pss_cons (ps_if (pt_cmpR op_eq (pv 2) pe_int (nomark _)) (pss_one (ps_ret (pe_op op_add_str (pe_slice sl_str (pv 1) po_none (po_some (pv 3))) (pe_slice sl_str (pv 1) (po_some (pe_op op_add (pv 3) pe_int)) po_none)))) pss_nil)
      (pss_cons (ps_if (pt_cmpR op_eq (pv 2) pe_int (nomark _)) (pss_one (ps_ret (pe_op op_add_str (pe_op op_add_str (pe_slice sl_str (pv 1) po_none (po_some (pv 3))) (pv 4)) (pe_slice sl_str (pv 1) (po_some (pe_op op_add (pv 3) pe_int)) po_none)))) pss_nil)
      (pss_cons (ps_set (i := 7) scSpoilt.nd rfl (Or.inl rfl) (pe_ix ix_list (pe_lst (pa_cons pe_str (pa_cons pe_str (pa_cons pe_str (pa_cons pe_str (pa_cons pe_str (pa_cons pe_str (pa_cons (pe_op op_add_str pe_str (pe_op op_mul_str pe_str pe_int)) (pa_cons pe_str (pa_cons pe_str (pa_cons pe_str (pa_cons pe_str (pa_cons pe_str pa_nil)))))))))))))
        (pe_f0 (ok_draw T) hr (T.g 18) (kDraw T) (pa_cons (pv 0) (pa_cons pe_int pa_nil))) (fun _ _ => rfl)))
      (pss_cons (ps_if (pt_cmpR op_eq (pv 2) pe_int (nomark _)) (pss_one (ps_expr (pe_bm PySem.F.plainAttrs_list PySem.F.slot_list_insert PySem.F.type_list_insert mt_insert (pv 5) (pa_cons (pv 6) (pa_cons (pv 7) pa_nil)))))
        (pss_one (ps_if (pt_cmpR op_eq (pv 2) pe_int (nomark _)) (pss_one (ps_asg (pe_op op_add_str (pe_ix ix_list (pv 5) (pv 6) (fun _ _ => rfl)) (pv 7)) (pg_sub (pv 5) (pv 6) set_list)))
        (pss_one (ps_if (pt_cmpR op_eq (pv 2) pe_int (nomark _)) (pss_one (ps_expr (pe_bm PySem.F.plainAttrs_list PySem.F.slot_list_insert PySem.F.type_list_insert mt_insert (pv 5) (pa_cons (pv 6) (pa_cons (pe_ix ix_list (pv 5) (pe_f0 (ok_draw T) hr (T.g 18) (kDraw T) (pa_cons (pv 0) (pa_cons (pe_callB call_len rfl (T.f 29) (by decide +kernel) (pa_cons (pv 5) pa_nil)) pa_nil))) (fun _ _ => rfl)) pa_nil)))))
        (pss_one (ps_if (pt_cmpR op_eq (pv 2) pe_int (nomark _)) (pss_one (ps_set (i := 5) scSpoilt.nd rfl (Or.inl rfl) (pe_op op_cat (pe_slice sl_list (pv 5) po_none (po_some (pv 6))) (pe_slice sl_list (pv 5) (po_some (pe_op op_add (pv 6) pe_int)) po_none)))) pss_nil)))))))
      (pss_one (ps_ret (pe_join pe_str (pv 5))))))))))))), ?_⟩
    have hz : t.length ≤ sizeLine := by have := hg.1; rw [sizeLine_eq]; omega
    refine ⟨.ref p, rfl, p, 8, rfl, hw, by decide, by decide, fun way H1 e1 w1 l1 u1 => ?_⟩
    refine ⟨.ref p, rfl, .str t, rfl, .str t, t.length, rfl, ⟨hz, rfl⟩, (t.length : Int), 1, rfl, rfl, p, _, rfl, w1, by omega, ?_, fun ati H2 e2 w2 l2 u2 => ?_⟩
    · have := hg.1
      exact logB (by omega)
    obtain ⟨a, rfl⟩ : ∃ a : Nat, ati = (a : Int) := ⟨ati.toNat, by omega⟩
    refine ⟨_, _, rfl, rfl, by decide, .ref p, rfl, p, 17, rfl, w2, by decide, by decide, fun sg H3 e3 w3 l3 u3 => ?_⟩
    obtain ⟨n3, rfl⟩ : ∃ n3 : Nat, sg = (n3 : Int) := ⟨sg.toNat, by omega⟩
    obtain ⟨c, hc⟩ : ∃ c, (tl signsT)[n3]? = some c := ⟨_, List.getElem?_eq_getElem (by rw [signs_ok.1]; omega)⟩
    have hcs : c < 1114112 := signs_ok.2 c (List.mem_of_getElem? hc)
    refine ⟨signsT, _, c, rfl, rfl, by decide +kernel, atI_nat hc, ?_⟩
    refine ⟨.str t, rfl, ⟨t, rfl⟩, t, sN, rfl, rfl, by rw [lenN]; rfl, by have := hg.1; rw [sizeLine_eq]; omega, fun pl hpl => ?_⟩
    have npl := w3.ne hpl
    have e03 : ExtO p H H3 := (e1.trans e2).trans e3
    have hplH : H pl = none := ExtO.new e03 (Ne.symm npl) hpl
    have gls := split_good hg
    have hlc := split_count t
    generalize hls : Txt.split t sN = ls at gls hlc ⊢
    have hll : 1 ≤ ls.length ∧ ls.length ≤ 101 := by
      have := hg.2.2
      omega
    refine ⟨.ref p, rfl, .ref pl, rfl, .ref pl, ls.length, rfl, .inl ⟨_, .inl (.inl upd_same), by rw [List.length_map]⟩, p, _, rfl, w3.upd npl, by omega, logB (by omega), fun to H5 e5 w5 l5 u5 => ?_⟩
    obtain ⟨n, rfl⟩ : ∃ n : Nat, to = (n : Int) := ⟨to.toNat, by omega⟩
    have hp5 : H5 pl = some (.lst (ls.map V.str)) := e5 _ _ (Ne.symm npl) upd_same
    have e05 : ExtO p H H5 := (updN e03 hplH).trans e5
    have g1 := hg.cut none (some (a : Int))
    have g2 := hg.cut (some (a : Int)) none
    have g3 := hg.cut (some ((a : Int) + 1)) none
    have gc := goodT_chr hcs
    have hB1 := g1.1
    have hB2 := g2.1
    have hB3 := g3.1
    have hB4 := gc.1
    refine ⟨.int way, rfl, rfl, _, rfl, iteB (fun _ => ?_) (fun _ => ?_)⟩
    · refine ⟨.str t, rfl, .int (a : Int), rfl, (a : Int), rfl, t, rfl, hz, .str ⟨#[c]⟩, rfl, _, _, rfl, rfl, by rw [sizeLine_eq]; omega, .str t, rfl, .int (a : Int), rfl, (a : Int), rfl, t, rfl, hz, _, _, rfl, rfl, by rw [len_app, sizeLine_eq]; omega, ?_⟩
      exact q _ _ e05 w5 (((g1.app gc).app g2).mono (by omega) (by omega))
    refine ⟨.int way, rfl, rfl, _, rfl, iteB (fun _ => ?_) (fun _ => ?_)⟩
    · refine ⟨.str t, rfl, .int (a : Int), rfl, (a : Int), rfl, t, rfl, hz, .str t, rfl, .int (a : Int), rfl, (a : Int), 1, rfl, rfl, (a : Int) + 1, rfl, t, rfl, hz, _, _, rfl, rfl, by rw [sizeLine_eq]; omega, ?_⟩
      exact q _ _ e05 w5 ((g1.app g3).mono (by omega) (by omega))
    refine ⟨.int way, rfl, rfl, _, rfl, iteB (fun _ => ?_) (fun _ => ?_)⟩
    · refine ⟨.str t, rfl, .int (a : Int), rfl, (a : Int), rfl, t, rfl, hz, .str ⟨#[c]⟩, rfl, _, _, rfl, rfl, by rw [sizeLine_eq]; omega, .str t, rfl, .int (a : Int), rfl, (a : Int), 1, rfl, rfl, (a : Int) + 1, rfl, t, rfl, hz, _, _, rfl, rfl, by rw [len_app, sizeLine_eq]; omega, ?_⟩
      exact q _ _ e05 w5 (((g1.app gc).app g3).mono (by omega) (by omega))
    refine ⟨_, _, rfl, rfl, mul_ok, _, _, rfl, rfl, by decide +kernel, by show 12 ≤ _; decide, fun po hpo => ?_⟩
    have npo := w5.ne hpo
    have e6 : Ext H5 (upd H5 po (.lst (oddsL.map V.str))) := Ext.upd hpo
    refine ⟨.ref p, rfl, p, 12, rfl, w5.ext e6, by decide, by decide, fun od H7 e7 w7 l7 u7 => ?_⟩
    obtain ⟨n7, rfl⟩ : ∃ n7 : Nat, od = (n7 : Int) := ⟨od.toNat, by omega⟩
    obtain ⟨o, ho⟩ : ∃ o, oddsL[n7]? = some o := ⟨_, List.getElem?_eq_getElem (show n7 < oddsL.length by show n7 < 12; omega)⟩
    have go := odds_ok o (List.mem_of_getElem? ho)
    refine ⟨po, oddsL.map V.str, _, .str o, rfl, rfl, .inl (.inl (e7 _ _ (Ne.symm npo) upd_same)), atI_nat (by rw [List.getElem?_map, ho]; rfl), ?_⟩
    have e07 : ExtO p H H7 := (e05.trans (ExtO.of e6)).trans e7
    have hp7 : H7 pl = some (.lst (ls.map V.str)) := e7 _ _ (Ne.symm npl) (e6 _ _ hp5)
    have tk := gls.take n
    have dk := gls.drop n
    have dk1 := gls.drop (n + 1)
    have hln : ls.length < sizeLine := by rw [sizeLine_eq]; omega
    refine ⟨.int way, rfl, rfl, _, rfl, iteB (fun _ => ?_) (fun _ => ?_)⟩
    · refine ⟨.ref pl, rfl, .inl ⟨rfl, _, .inl (.inl hp7)⟩, .int (n : Int), rfl, .str o, rfl, pl, ls.map V.str, (n : Int), .str o, rfl, rfl, hp7, by rw [List.length_map]; exact hln, by omega, by omega, ?_⟩
      have gg : goodLs (3 * B + 100) (2 * L + 3) (ls.take n ++ [o] ++ ls.drop n) := ((tk.app (goodLs.one go)).app dk).mono (by omega) (by omega)
      refine ⟨⟨_, rfl⟩, .ref pl, rfl, sN, pl, ls.take n ++ [o] ++ ls.drop n, rfl, rfl, .inl (.inl (.inl ?_)), sumOk gg (by omega), q _ _ (updN e07 hplH) (w7.upd npl) (join_good gg)⟩
      rw [upd_same, Int.toNat_natCast, List.map_append, List.map_append, List.map_take, List.map_drop]
      rfl
    refine ⟨.int way, rfl, rfl, _, rfl, iteB (fun _ => ?_) (fun _ => ?_)⟩
    · have hn : n < ls.length := by omega
      have hx : ls[n]? = some ls[n] := List.getElem?_eq_getElem hn
      have gx := gls.item (List.getElem_mem hn)
      have hxl := gx.1
      have hol := go.1
      refine ⟨.ref pl, rfl, .int (n : Int), rfl, pl, ls.map V.str, (n : Int), .str ls[n], rfl, rfl, .inl (.inl hp7), atI_nat (by rw [List.getElem?_map, hx]; rfl), .str o, rfl, _, _, rfl, rfl, by rw [sizeLine_eq]; omega, .ref pl, rfl, .int (n : Int), rfl, pl, ls.map V.str, (n : Int), n, rfl, rfl, hp7, ?_, ?_⟩
      · unfold ixN
        rw [if_pos (by omega), if_pos (by rw [List.length_map]; omega), Int.toNat_natCast]
      have gg : goodLs (3 * B + 100) (2 * L + 3) (ls.set n (ls[n] ++ o)) := by
        rw [set_eq hn]
        exact ((tk.app (goodLs.one (gx.app go))).app dk1).mono (by omega) (by omega)
      refine ⟨⟨_, rfl⟩, .ref pl, rfl, sN, pl, ls.set n (ls[n] ++ o), rfl, rfl, .inl (.inl (.inl ?_)), sumOk gg (by omega), q _ _ (updN e07 hplH) (w7.upd npl) (join_good gg)⟩
      rw [upd_same, List.map_set]
    refine ⟨.int way, rfl, rfl, _, rfl, iteB (fun _ => ?_) (fun _ => ?_)⟩
    · refine ⟨.ref pl, rfl, .inl ⟨rfl, _, .inl (.inl hp7)⟩, .int (n : Int), rfl, .ref pl, rfl, .ref p, rfl, .ref pl, rfl, .ref pl, ls.length, rfl, .inl ⟨_, .inl (.inl hp7), by rw [List.length_map]⟩, p, _, rfl, w7, by omega, logB (by omega), fun r8 H8 e8 w8 l8 u8 => ?_⟩
      obtain ⟨n8, rfl⟩ : ∃ n8 : Nat, r8 = (n8 : Int) := ⟨r8.toNat, by omega⟩
      have hn : n8 < ls.length := by omega
      have hx : ls[n8]? = some ls[n8] := List.getElem?_eq_getElem hn
      have gx := gls.item (List.getElem_mem hn)
      have hp8 : H8 pl = some (.lst (ls.map V.str)) := e8 _ _ (Ne.symm npl) hp7
      refine ⟨pl, ls.map V.str, _, .str ls[n8], rfl, rfl, .inl (.inl hp8), atI_nat (by rw [List.getElem?_map, hx]; rfl), pl, ls.map V.str, (n : Int), .str ls[n8], rfl, rfl, hp8, by rw [List.length_map]; exact hln, by omega, by omega, ?_⟩
      have gg : goodLs (3 * B + 100) (2 * L + 3) (ls.take n ++ [ls[n8]] ++ ls.drop n) := ((tk.app (goodLs.one gx)).app dk).mono (by omega) (by omega)
      refine ⟨⟨_, rfl⟩, .ref pl, rfl, sN, pl, ls.take n ++ [ls[n8]] ++ ls.drop n, rfl, rfl, .inl (.inl (.inl ?_)), sumOk gg (by omega), q _ _ (updN (e07.trans e8) hplH) (w8.upd npl) (join_good gg)⟩
      rw [upd_same, Int.toNat_natCast, List.map_append, List.map_append, List.map_take, List.map_drop]
      rfl
    refine ⟨.int way, rfl, rfl, _, rfl, iteB (fun _ => ?_) (fun _ => ?_)⟩
    · refine ⟨.ref pl, rfl, .int (n : Int), rfl, (n : Int), rfl, pl, ls.map V.str, rfl, .inl (.inl hp7), fun p1 hp1 => ?_⟩
      rw [cut_take]
      have e8 := Ext.upd (o := .lst ((ls.take n).map V.str)) hp1
      refine ⟨.ref pl, rfl, .int (n : Int), rfl, (n : Int), 1, rfl, rfl, (n : Int) + 1, rfl, pl, ls.map V.str, rfl, .inl (.inl (e8 _ _ hp7)), fun p2 hp2 => ?_⟩
      rw [show (n : Int) + 1 = ((n + 1 : Nat) : Int) by omega, cut_drop]
      have e9 := Ext.upd (o := .lst ((ls.drop (n + 1)).map V.str)) hp2
      refine ⟨p1, p2, _, _, rfl, rfl, e9 _ _ upd_same, upd_same, ?_, fun p3 hp3 => ?_⟩
      · rw [List.length_map, List.length_map, List.length_take, List.length_drop]
        omega
      have gg : goodLs (3 * B + 100) (2 * L + 3) (ls.take n ++ ls.drop (n + 1)) := (tk.app dk1).mono (by omega) (by omega)
      refine ⟨⟨_, rfl⟩, .ref p3, rfl, sN, p3, ls.take n ++ ls.drop (n + 1), rfl, rfl, .inl (.inl (.inl ?_)), sumOk gg (by omega), q _ _ (((e07.trans (ExtO.of e8)).trans (ExtO.of e9)).trans (ExtO.of (Ext.upd hp3))) (((w7.ext e8).ext e9).ext (Ext.upd hp3)) (join_good gg)⟩
      rw [upd_same, List.map_append]
    · have gg : goodLs (3 * B + 100) (2 * L + 3) ls := gls.mono (by omega) (by omega)
      exact ⟨⟨_, rfl⟩, .ref pl, rfl, sN, pl, ls, rfl, rfl, .inl (.inl (.inl hp7)), sumOk gg (by omega), q _ _ e07 w7 (join_good gg)⟩
end
end F89
set_option Elab.async false
set_option linter.all false
set_option maxRecDepth 100000
set_option maxHeartbeats 2000000
namespace F89
open PySem PySem.Spec L2 HX TL
open PyProof.Rows hiding St
def dL (r : List Int) : PyData := .list (r.map .int)
theorem dp_L {K : PySem.W.Frag} {H : Hp} {p : Addr} {r : List Int} (h : SqL K H p (r.map V.int)) : Dp K H (.ref p) (dL r) := .lst h (dp_ints r)
theorem alike_dL (q r : List Int) : PySem.W.alike (dL q) (dL r) = true := by
  unfold dL
  simp only [PySem.W.alike]
  exact PySem.W.alike_ints q r
theorem depth_dL (q : List Int) : (dL q).depth ≤ 1 := by
  unfold dL
  rw [PyData.depth, PySem.W.depth_ints]
  omega
theorem dataLt_dL (q r : List Int) : PySem.W.dataLt (dL q) (dL r) = decide (q < r) := by
  unfold dL
  rw [PySem.W.dataLt_list]
  exact PySem.W.dataLt_ints q r
def stopV (t : Str) : V := match stopF t with
  | none => .non
  | some k => .int (k : Nat)
theorem stopV_some {t : Str} {k : Nat} (h : stopF t = some k) : stopV t = .int (k : Nat) := by
  unfold stopV
  rw [h]
theorem stopV_none {t : Str} (h : stopF t = none) : stopV t = .non := by
  unfold stopV
  rw [h]
theorem rep_words (l : Str) : (List.replicate (if (!decide (l = sE)) = true then (1 : Int) else 0).toNat ((Txt.split l sC).map V.str)).flatten = (wordsF l).map V.str := by
  unfold wordsF
  by_cases h : l = sE
  · rw [if_pos h, h]
    rfl
  · rw [if_neg h, decide_eq_false h]
    show (List.replicate 1 ((Txt.split l sC).map V.str)).flatten = _
    rw [List.replicate_one, List.flatten_singleton]
theorem low_mem (c : Nat) : decide (c ∈ (Str.ofString "abcdefghijklmnopqrstuvwxyz").cps.toList) = lowB c := by
  rw [← low_set, Bool.eq_iff_iff, decide_eq_true_eq, Array.contains_iff_mem]
  exact Array.mem_toList_iff
theorem low_left {x : Str} : ((tl x).filter fun c => !lowB c) = [] ↔ (tl x).all lowB = true := by
  rw [List.filter_eq_nil_iff, List.all_eq_true]
  constructor
  · intro h c hc
    have := h c hc
    simpa using this
  · intro h c hc
    rw [h c hc]
    decide
theorem words_ok {l w : Str} (h : okC l) (hw : w ∈ wordsF l) : okC w := fun c hc => by
  have := mem_join sC hw hc
  rw [← join_eq, words_join] at this
  exact h c this
theorem nodup_lt (xs : List Str) : (onces xs).length < xs.length ↔ ¬ xs.Nodup := by
  have h1 := onces_le xs
  have h2 := onces_len xs
  constructor
  · intro h n
    have := h2.mpr n
    omega
  · intro h
    rcases Nat.lt_or_ge (onces xs).length xs.length with z | z
    · exact z
    · exact absurd (h2.mp (by omega)) h
section
variable {P : Program} {w : World} {K : PySem.W.Frag} {mg : Str → Option Value} {base : Heap}
def AheadAt (H : Hp) (v : V) (a : Option (List Int)) : Prop := (a = none ∧ v = .non) ∨ ∃ r p, a = some r ∧ v = .ref p ∧ H p = some (.lst (r.map V.int))
theorem AheadAt.ext {H H' : Hp} {v : V} {a : Option (List Int)} (h : AheadAt H v a) (e : Ext H H') : AheadAt H' v a := by
  rcases h with h | ⟨r, p, h1, h2, h3⟩
  · exact .inl h
  · exact .inr ⟨r, p, h1, h2, e _ _ h3⟩
def spStop : Sp := fun vs H Q _ => ∃ t, vs = [.str t] ∧ t.length ≤ 100000 ∧ okC t ∧ ∀ H', Ext H H' → Q (stopV t) H'
theorem scStop : FnScope ["_law_text_here", "_law_lines", "_law_names_here", "_law_name", "_law_ahead", "_law_at", "_law_line", "_law_row", "_law_sign", "_law_word"] ["_law_text_here"] (defScope sStop) := ⟨rfl, rfl, rfl, by decide +kernel, rfl, by decide +kernel, by decide +kernel⟩
theorem ok_stop (T : Top K mg) : FnR P w K mg base CX0 2 (He.ga K "_law_stop") spStop := by
  obtain ⟨fd, F⟩ := T.says.def_ 24 (d := dStop) rfl
  have b : Binds K fd ["_law_text_here"] [] := F.bindsN fun _ _ _ _ _ _ us hl => match us, hl with | [_], _ => rfl
  refine flat (FunD.ok F scStop (fun vs H Q E h => ?_) (fun cdv A outer s H vs Q E hr h => ?_)) b
  · obtain ⟨t, rfl, _⟩ := h
    rfl
  · obtain ⟨t, rfl, hz, hok, q⟩ := h
    refine ⟨_, pss_cons (ps_set (i := 1) scStop.nd rfl (Or.inl rfl) (pe_split (pv 0) pe_str))
      (pss_cons (ps_set (i := 2) scStop.nd rfl (Or.inl rfl) (pe_op op_rep (pe_split (pe_ix ix_list (pv 1) pe_int (fun _ _ => rfl)) pe_str) (pe_callTy call_int1 rfl (T.f 31) (by decide +kernel) (pa_cons (pe_cmpR op_ne (pe_ix ix_list (pv 1) pe_int (fun _ _ => rfl)) pe_str (nomark _)) pa_nil))))
      (pss_cons (ps_if (PW.pt (pw_or (pt_cmpR op_gt (pe_callB call_len rfl (T.f 29) (by decide +kernel) (pa_cons (pv 2) pa_nil)) pe_int (nomark _)) (pw_or1 (pt_cmpR op_lt (pe_lenSetS (T.f 29) (T.f 35) (pv 2)) (pe_callB call_len rfl (T.f 29) (by decide +kernel) (pa_cons (pv 2) pa_nil)) (nomark _))))) (pss_one (ps_ret pe_int)) pss_nil)
      (pss_cons (ps_for (passes_of rfl) rfl (pi_list (pv 2)) (pg_name (i := 3) scStop.nd rfl (Or.inl rfl))
        (pss_one (ps_if (PW.pt (pw_or (pt_not (pt_chain op_lt op_lt pe_int (pe_callB call_len rfl (T.f 29) (by decide +kernel) (pa_cons (pv 3) pa_nil)) pe_int))
          (pw_or1 (pt_cmpR (op_neD (r64 hr)) (pe_lc (own := [("_law_sign", 8)]) rfl scStop.nd (pi_str (pv 3)) (bk ["_law_text_here", "_law_lines", "_law_names_here", "_law_name", "_law_ahead", "_law_at", "_law_line", "_law_row", "_law_sign", "_law_word"] (defScope sStop) [("_law_sign", 8)])
            (fun _ _ _ _ _ => pg_name (i := 8) scStop.nd rfl (Or.inl rfl)) (fun _ _ _ _ _ => pts_one (pt_cmpR op_notIn_sign (pv 8) pe_str rfl)) (fun _ _ _ _ _ => pv 8)) (pe_lst pa_nil) (nomark _))))) (pss_one (ps_ret pe_int)) pss_nil)))
      (pss_cons (ps_set (i := 4) scStop.nd rfl (Or.inl rfl) pe_non)
      (pss_cons (ps_for (passes_of rfl) rfl (pi_enumK (T.f 36) (pa_cons (pe_slice sl_list (pv 1) (po_some pe_int) po_none) pa_nil) (pk_cons pe_int pk_nil)) (pg_tup rfl (pgs_cons (pg_name (i := 5) scStop.nd rfl (Or.inl rfl)) (pgs_cons (pg_name (i := 6) scStop.nd rfl (Or.inl rfl)) pgs_nil)))
        (pss_cons (ps_setLc (i := 7) (own := [("_law_word", 9)]) rfl scStop.nd rfl rfl rfl (pi_list (pe_op op_rep (pe_split (pv 6) pe_str) (pe_callTy call_int1 rfl (T.f 31) (by decide +kernel) (pa_cons (pe_cmpR op_ne (pv 6) pe_str (nomark _)) pa_nil)))) (bk ["_law_text_here", "_law_lines", "_law_names_here", "_law_name", "_law_ahead", "_law_at", "_law_line", "_law_row", "_law_sign", "_law_word"] (defScope sStop) [("_law_word", 9)])
            (fun _ _ _ _ _ => pg_name (i := 9) scStop.nd rfl (Or.inl rfl)) (fun _ _ _ _ _ => pts_nil) (fun _ _ _ _ _ => pe_f0 (ok_number T) hr (T.g 23) (kNumber T) (pa_cons (pv 9) pa_nil)))
        (pss_cons (ps_if (PW.pt (pw_or (pt_cmpR op_in_seq pe_non (pv 7) rfl) (pw_or (pt_cmpR op_ne (pe_callB call_len rfl (T.f 29) (by decide +kernel) (pa_cons (pv 7) pa_nil)) (pe_callB call_len rfl (T.f 29) (by decide +kernel) (pa_cons (pv 2) pa_nil)) (nomark _))
            (pw_or1 (PW.pt (pw_and (pt_cmpR op_notN (pv 4) pe_non (nomark _)) (pw_and1 (pt_cmpR (op_leD (r64 hr)) (pv 7) (pv 4) (nomark _))))))))) (pss_one (ps_ret (pv 5))) pss_nil)
        (pss_one (ps_set (i := 4) scStop.nd rfl (Or.inl rfl) (pv 7))))))
      (pss_one (ps_ret pe_non))))))), ?_⟩
    refine ⟨.str t, rfl, ⟨t, rfl⟩, t, sN, rfl, rfl, by rw [lenN]; rfl, by rw [sizeLine_eq]; omega, fun pl hpl => ?_⟩
    have hhl := head_le t
    have hspl : ∀ w, w ∈ headF t :: tailF t → okC w := fun w hw c hc => by
      have hj := PySem.StrLaws.join_split t sN
      rw [split_cons] at hj
      have := mem_join sN hw hc
      rw [hj] at this
      exact hok c this
    rw [split_cons]
    have e1 := Ext.upd (o := .lst ((headF t :: tailF t).map V.str)) hpl
    have hwl := words_len (headF t)
    have h63 : ∀ c : Bool, -(2 ^ 63) ≤ (if c = true then (1 : Int) else 0) ∧ (if c = true then (1 : Int) else 0) < 2 ^ 63 ∧ (if c = true then (1 : Int) else 0).toNat ≤ 1 := fun c => by cases c <;> decide
    have hsl : ∀ l : Str, l.length ≤ 100000 → ∀ c : Bool, ((Txt.split l sC).map V.str).length * (if c = true then (1 : Int) else 0).toNat ≤ sizeLine := fun l hl c => by
      have h1 := split_len (x := l) lenC
      have h2 := Nat.mul_le_mul_left ((Txt.split l sC).map V.str).length (h63 c).2.2
      rw [List.length_map, Nat.mul_one] at h2
      rw [List.length_map, sizeLine_eq]
      omega
    refine ⟨.ref pl, rfl, pl, _, 0, .str (headF t), rfl, rfl, .inl (.inl upd_same), atI_zero rfl, ⟨_, rfl⟩, headF t, sC, rfl, rfl, by rw [lenC]; rfl, by rw [sizeLine_eq]; omega, fun p1 hp1 => ?_⟩
    have e2 := Ext.upd (o := .lst ((Txt.split (headF t) sC).map V.str)) hp1
    refine ⟨.ref pl, rfl, pl, _, 0, .str (headF t), rfl, rfl, .inl (.inl (e2 _ _ upd_same)), atI_zero rfl, rfl, .inr ⟨_, rfl, p1, _, _, rfl, rfl, upd_same, (h63 _).1, (h63 _).2.1, hsl _ (by omega) _, fun pn hpn => ?_⟩⟩
    rw [vstr_eq, rep_words]
    have e3 := Ext.upd (o := .lst ((wordsF (headF t)).map V.str)) hpn
    have eH := (e1.trans e2).trans e3
    have hpl2 := e3 _ _ (e2 _ _ (upd_same (H := H) (a := pl) (o := .lst ((headF t :: tailF t).map V.str))))
    have hpn2 := upd_same (H := upd (upd H pl (.lst ((headF t :: tailF t).map V.str))) p1 (.lst ((Txt.split (headF t) sC).map V.str))) (a := pn) (o := .lst ((wordsF (headF t)).map V.str))
    revert eH hpl2 hpn2
    generalize upd (upd (upd H pl (.lst ((headF t :: tailF t).map V.str))) p1 (.lst ((Txt.split (headF t) sC).map V.str))) pn (.lst ((wordsF (headF t)).map V.str)) = H2
    intro eH hpl2 hpn2
    have no : colsF (wordsF (headF t)) = false → ∀ H', Ext H2 H' → Q (.int 0) H' := fun hc H' e' => by
      have := q H' (eH.trans e')
      rw [stopV_some (k := 0) (by rw [stop_eq, if_neg (by rw [hc]; exact Bool.false_ne_true)])] at this
      exact this
    have hcf : ∀ b, (colsF (wordsF (headF t)) = b) = (((decide ((wordsF (headF t)).length ≤ 8)) && ((wordsF (headF t)).all nameF && decide (wordsF (headF t)).Nodup)) = b) := fun b => rfl
    refine ⟨.ref pn, rfl, .ref pn, (wordsF (headF t)).length, rfl, .inl ⟨_, .inl (.inl hpn2), by rw [List.length_map]⟩, _, 8, rfl, rfl, _, rfl, iteB (fun h8 => iteB (fun _ => ?_) (fun z => by cases z)) (fun h8 => ?_)⟩
    · refine no ?_ H2 .rfl'
      rw [hcf, decide_eq_false (by have := decT h8; omega)]
      rfl
    have n8 : (wordsF (headF t)).length ≤ 8 := by have := decF h8; omega
    refine ⟨.ref pn, rfl, pn, wordsF (headF t), rfl, .inl (.inl hpn2), by omega, .ref pn, rfl, .ref pn, (wordsF (headF t)).length, rfl, .inl ⟨_, .inl (.inl hpn2), by rw [List.length_map]⟩, _, _, rfl, rfl, _, rfl, iteB (fun hd => ?_) (fun hd => ?_)⟩
    · refine no ?_ H2 .rfl'
      rw [hcf, decide_eq_false (p := (wordsF (headF t)).Nodup) ((nodup_lt _).mp (by have := decT hd; omega)), Bool.and_false, Bool.and_false]
    have hnd : (wordsF (headF t)).Nodup := by
      by_cases z : (wordsF (headF t)).Nodup
      · exact z
      · exact absurd ((nodup_lt _).mpr z) (by have := decF hd; omega)
    dsimp only [tNext, tSeq]
    refine tfor_it (fun R r => ⟨.ref pn, rfl, pn, rfl, ⟨_, .inl (.inl hpn2)⟩, r⟩) (walk_listM (wordsF (headF t)) V.str) (Pv := fun i σ' H' => ∃ o, σ' = [some (.str t), some (.ref pl), some (.ref pn), o, none, none, none, none, none, none] ∧ Ext H2 H' ∧ ∀ x ∈ (wordsF (headF t)).take i, nameF x = true) ⟨none, rfl, .rfl', fun x hx => by cases hx⟩
      (fun i σ' H' _ ⟨_, _, e, _⟩ => .inl (.inl (e _ _ hpn2))) ?_ ?_
    · rintro i x σ' H' H3 hi ⟨o, rfl, e, hgood⟩ ⟨rfl, y, hy, rfl⟩
      have hym : y ∈ wordsF (headF t) := List.mem_of_getElem? hy
      have hyl := words_mem hym
      have hyz : y.length ≤ sizeLine := by rw [sizeLine_eq]; omega
      have hyok := words_ok (hspl _ (List.mem_cons_self ..)) hym
      have bad : nameF y = false → ∀ H', Ext H2 H' → Q (.int 0) H' := fun hb => no (by
        rw [hcf]
        have : (wordsF (headF t)).all nameF = false := by
          rw [List.all_eq_false]
          exact ⟨y, hym, by rw [hb]; exact Bool.false_ne_true⟩
        rw [this, Bool.false_and, Bool.and_false])
      have nf : ∀ b, (nameF y = b) = ((decide (1 ≤ y.length) && (decide (y.length ≤ 8) && (tl y).all lowB)) = b) := fun b => rfl
      refine ⟨.str y, rfl, .str y, y.length, rfl, ⟨hyz, rfl⟩, 0, _, rfl, rfl, _, rfl, iteB (fun h1 => ?_) (fun h1 => ?_)⟩
      rotate_left
      · refine ⟨false, rfl, bad ?_ _ e⟩
        rw [nf, decide_eq_false (by have := decF h1; omega)]
        rfl
      refine ⟨_, 9, rfl, rfl, _, rfl, iteB (fun h2 => iteB (fun _ => ?_) (fun z => by cases z)) (fun h2 => ?_)⟩
      · refine bad ?_ _ e
        rw [Bool.not_eq_true'] at h2
        rw [nf, decide_eq_false (p := y.length ≤ 8) (by have := decF h2; omega), Bool.false_and, Bool.and_false]
      rw [Bool.not_eq_false'] at h2
      have l1 := decT h1
      have l2 := decT h2
      dsimp only [tTest, tOp]
      refine tlc_filter (fun R r => ⟨_, rfl, _, rfl, r⟩) _ (fun c => V.str ⟨#[c]⟩) (fun c => V.str ⟨#[c]⟩) (fun c => !lowB c) (walk_strM y) (by rw [Array.length_toList]; exact hyz) (fun _ _ => True.intro) (fun c H1 hc1 e1 QT QF ht hff => ⟨rfl, .str ⟨#[c]⟩, rfl, c, Str.ofString "abcdefghijklmnopqrstuvwxyz", rfl, rfl, _, rfl, ?_⟩) fun D H4 hD e4 hl => ?_
      · rw [low_mem]
        exact iteB (fun z => ⟨_, rfl, ht z H1 .rfl'⟩) (fun z => hff z H1 .rfl')
      refine ⟨by show 0 ≤ _; exact Nat.zero_le _, fun pe hpe => ?_⟩
      have eP := Ext.upd (o := .lst []) hpe
      refine ⟨.list (((tl y).filter fun c => !lowB c).map fun c => PyData.str ⟨#[c]⟩), .list [], .lst (.inl (.inl (eP _ _ hl))) (dp_signs _), .lst (.inl (.inl upd_same)) .nil, ?_, rfl, _, rfl, iteB (fun h3 => ?_) (fun h3 => ?_)⟩
      · exact sh_signs fun c hc1 => hyok c (List.mem_filter.mp hc1).1
      · refine bad ?_ _ ((e.trans e4).trans eP)
        cases hb : nameF y with
        | false => rfl
        | true =>
          rw [nf] at hb
          simp only [Bool.and_eq_true] at hb
          rw [eqv_nil, low_left.mpr hb.2.2] at h3
          cases h3
      · rw [eqv_nil, Bool.not_eq_false', List.isEmpty_iff, List.map_eq_nil_iff] at h3
        have h3 := low_left.mp h3
        refine ⟨_, rfl, (e.trans e4).trans eP, fun x hx => ?_⟩
        rw [List.take_add_one, hy] at hx
        rcases List.mem_append.mp hx with hx | hx
        · exact hgood x hx
        · have : x = y := by simpa using hx
          rw [this, nf, decide_eq_true (by omega), decide_eq_true (by omega), h3]
          rfl
    rintro σ' H' ⟨o3, rfl, e, hgood⟩
    rw [List.take_length] at hgood
    have hc : colsF (wordsF (headF t)) = true := by
      rw [hcf, decide_eq_true n8, List.all_eq_true.mpr hgood, decide_eq_true hnd]
      rfl
    dsimp only [tSeq, tAsg, tC, gName, List.set]
    refine tfor_new (J := fun p => IteK K 1 p) (o := .lst ((tailF t).map V.str)) (n := ((tailF t).map V.str).length) (fun R r => ⟨.ref pl, rfl, 1, rfl, pl, _, rfl, .inl (.inl (e _ _ hpl2)), fun p2 hp2 => by
        rw [cut_tail]
        exact ⟨p2, _, 1, rfl, rfl, .inl (.inl upd_same), by decide, r p2 hp2⟩⟩) (fun p => walk_enumK (xs := (tailF t).map V.str))
      (fun p i σ' H3 => ∃ (o3 o5 o6 o7 : Option V) (va : V) (ao : Option (List Int)), σ' = [some (.str t), some (.ref pl), some (.ref pn), o3, some va, o5, o6, o7, none, none] ∧ Ext H' H3 ∧ H3 p = some (.lst ((tailF t).map V.str)) ∧ AheadAt H3 va ao ∧ (∀ r, ao = some r → r.length ≤ 100001) ∧
        rowsF (wordsF (headF t)).length 1 none (tailF t) = rowsF (wordsF (headF t)).length (1 + i) ao ((tailF t).drop i))
      ?_ ?_ ?_ ?_
    · intro p hp
      exact ⟨o3, none, none, none, .non, none, rfl, Ext.upd hp, upd_same, .inl ⟨rfl, rfl⟩, (fun r z => by cases z), rfl⟩
    · rintro p i σ' H3 hp hi ⟨o3, o5, o6, o7, va, ao, rfl, e, h1, _⟩
      exact .inl (.inl h1)
    · rintro p i x σ' H3 H4 hp hi ⟨o3, o5, o6, o7, va, ao, rfl, e3', hp3, hah, hal, hst⟩ ⟨T', x1, y1, rfl, hT, rfl, hx1, hy1⟩
      cases (Option.some.inj hx1 : _ = x1)
      have hy2 : ((tailF t).map V.str)[i]? = some y1 := hy1
      rw [List.getElem?_map] at hy2
      obtain ⟨l, hl, rfl⟩ := Option.map_eq_some_iff.mp hy2
      have hlm : l ∈ tailF t := List.mem_of_getElem? hl
      have hll := tail_le hlm
      have hlok := hspl l (List.mem_cons_of_mem _ hlm)
      obtain ⟨hil, hie⟩ := List.getElem?_eq_some_iff.mp hl
      have hdrop : (tailF t).drop i = l :: (tailF t).drop (i + 1) := by rw [List.drop_eq_getElem_cons hil, hie]
      rw [hdrop] at hst
      have eT : Ext H3 (upd H3 T' (.tup [.int (1 + (i : Nat)), V.str l])) := Ext.upd hT
      have hwl2 := words_len l
      have bad : rowF l = none ∨ (∃ r, rowF l = some r ∧ okRow (wordsF (headF t)).length ao r = false) → ∀ Hx, Ext H3 Hx → Q (.int (1 + (i : Int))) Hx := fun hb Hx ex => by
        have := q Hx (eH.trans (e.trans (e3'.trans ex)))
        rw [stopV_some (k := 1 + i) (by rw [stop_eq, if_pos hc, hst, rowsF_bad hb])] at this
        rw [show (1 + (i : Int)) = ((1 + i : Nat) : Int) by omega]
        exact this
      refine ⟨T', _, rfl, .inl (.inl upd_same), rfl, _, _, rfl, _, _, rfl, rfl, ?_⟩
      try dsimp only [tSeq, tAsg]
      refine tlc_any (fun J H5 => ∃ p3, J = Itl K p3 ∧ Ext H3 H5 ∧ H5 p3 = some (.lst ((wordsF l).map V.str))) (fun R hR => ⟨.str l, rfl, ⟨_, rfl⟩, l, sC, rfl, rfl, by rw [lenC]; rfl, by rw [sizeLine_eq]; omega, fun p1 hp1 => ⟨.str l, rfl, rfl, .inr ⟨_, rfl, p1, _, _, rfl, rfl, upd_same, (h63 _).1, (h63 _).2.1, hsl _ (by omega) _, fun p3 hp3' => ?_⟩⟩⟩) ?_
      · rw [vstr_eq, rep_words]
        exact ⟨p3, rfl, ⟨_, .inl (.inl upd_same)⟩, hR _ _ ⟨p3, rfl, (eT.trans (Ext.upd hp1)).trans (Ext.upd hp3'), upd_same⟩⟩
      rintro J H5 ⟨p3, rfl, e5, hp5⟩
      refine tlc_map (fun R r => r) (wordsF l) V.str numV (walk_listM _ _) (by rw [sizeLine_eq]; omega) (fun H6 e6 => .inl (.inl (e6 _ _ hp5))) (fun y H6 hy e6 Q' hq => ⟨rfl, .str y, rfl, y, rfl, by have := words_mem hy; omega, words_ok hlok hy, fun H7 e7 => hq H7 e7⟩) fun D H6 hD e6 hl6 => ?_
      have e36 : Ext H3 H6 := e5.trans e6
      refine ⟨.ref D, rfl, D, _, rfl, .inl (.inl (.inl hl6)), rfl, by rw [numV_map]; exact flat_opt _, _, rfl, iteB (fun hn => iteB (fun _ => ?_) (fun z => by cases z)) (fun hn => ?_)⟩
      · exact ⟨_, rfl, bad (.inl (row_none.mp hn)) H6 e36⟩
      cases hr' : rowF l with
      | none =>
        have := row_none.mpr hr'
        exact absurd (hn.symm.trans this) Bool.false_ne_true
      | some r =>
        rw [row_some hr'] at hl6
        have hrl : r.length = (wordsF l).length := by
          have := congrArg List.length (row_some hr')
          rw [List.length_map, List.length_map] at this
          exact this.symm
        refine ⟨.ref D, rfl, .ref D, r.length, rfl, .inl ⟨_, .inl (.inl hl6), by rw [List.length_map]⟩, .ref pn, rfl, .ref pn, (wordsF (headF t)).length, rfl, .inl ⟨_, .inl (.inl (e36 _ _ (e3' _ _ (e _ _ hpn2)))), by rw [List.length_map]⟩, rfl, _, rfl, iteB (fun h2 => iteB (fun _ => ?_) (fun z => by cases z)) (fun h2 => ?_)⟩
        · refine ⟨_, rfl, bad (.inr ⟨r, hr', ?_⟩) H6 e36⟩
          unfold okRow
          rw [Bool.not_eq_true'] at h2
          rw [decide_eq_false (fun z => decF h2 (by rw [z])), Bool.false_and]
        · rw [Bool.not_eq_false'] at h2
          have hlen2 : r.length = (wordsF (headF t)).length := by
            have := V.int.inj (decT h2)
            omega
          have hah6 := hah.ext e36
          have go : okRow (wordsF (headF t)).length ao r = true → ∃ (o3 o5 o6 o7 : Option V) (va' : V) (ao : Option (List Int)), [some (.str t), some (.ref pl), some (.ref pn), o3, some (V.ref D), some (V.int (1 + (i : Int))), some (V.str l), some (V.ref D), none, none] = [some (.str t), some (.ref pl), some (.ref pn), o3, some va', o5, o6, o7, none, none] ∧ Ext H' H6 ∧ H6 p = some (.lst ((tailF t).map V.str)) ∧ AheadAt H6 va' ao ∧ (∀ r, ao = some r → r.length ≤ 100001) ∧
              rowsF (wordsF (headF t)).length 1 none (tailF t) = rowsF (wordsF (headF t)).length (1 + (i + 1)) ao ((tailF t).drop (i + 1)) := fun hk =>
            ⟨o3, _, _, _, V.ref D, some r, rfl, e3'.trans e36, e36 _ _ hp3, .inr ⟨r, D, rfl, rfl, hl6⟩, (fun r2 z => by cases z; omega), by rw [hst, rowsF_good hr' hk, Nat.add_assoc]⟩
          rcases hah6 with ⟨rfl, rfl⟩ | ⟨ra, pa, rfl, rfl, hpa⟩
          · refine ⟨.non, rfl, rfl, _, rfl, iteB (fun z => absurd z (by decide)) (fun _ => iteB (fun z => by cases z) (fun _ => ?_))⟩
            have hk : okRow (wordsF (headF t)).length none r = true := by
              unfold okRow
              rw [decide_eq_true hlen2]
              rfl
            obtain ⟨o3', h⟩ := go hk
            exact ⟨.ref D, rfl, o3, _, _, _, V.ref D, some r, rfl, e3'.trans e36, e36 _ _ hp3, .inr ⟨r, D, rfl, rfl, hl6⟩, (fun r2 z => by cases z; omega), by rw [hst, rowsF_good hr' hk, Nat.add_assoc]⟩
          · refine ⟨.ref pa, rfl, rfl, _, rfl, iteB (fun _ => ?_) (fun z => absurd (show (!decide (V.ref pa = V.non)) = true by rw [decide_eq_false (by intro c; cases c)]; rfl) (by rw [z]; exact Bool.false_ne_true))⟩
            refine ⟨.ref D, rfl, .ref pa, rfl, dL r, dL ra, dp_L (.inl (.inl hl6)), dp_L (.inl (.inl hpa)), alike_dL _ _, (by intro c; cases c), Nat.le_trans (depth_dL r) (by decide), _, rfl, ?_⟩
            rw [dataLt_dL]
            refine iteB (fun h4 => ?_) (fun h4 => ?_)
            · refine ⟨_, rfl, bad (.inr ⟨r, hr', ?_⟩) H6 e36⟩
              unfold okRow
              rw [Bool.not_eq_true'] at h4
              show (_ && decide (ra < r)) = false
              rw [h4, Bool.and_false]
            · rw [Bool.not_eq_false'] at h4
              have hk : okRow (wordsF (headF t)).length (some ra) r = true := by
                unfold okRow
                rw [decide_eq_true hlen2]
                exact h4
              exact ⟨.ref D, rfl, o3, _, _, _, V.ref D, some r, rfl, e3'.trans e36, e36 _ _ hp3, .inr ⟨r, D, rfl, rfl, hl6⟩, (fun r2 z => by cases z; omega), by rw [hst, rowsF_good hr' hk, Nat.add_assoc]⟩
    · rintro p σ' H3 hp ⟨o3, o5, o6, o7, va, ao, rfl, e3', hp3, hah, hal, hst⟩
      rw [List.length_map, List.drop_length] at hst
      have := q H3 (eH.trans (e.trans e3'))
      rw [stopV_none (by rw [stop_eq, if_pos hc, hst]; rfl)] at this
      exact this
end
end F89
set_option Elab.async false
set_option linter.all false
set_option maxRecDepth 100000
set_option maxHeartbeats 2000000
namespace F89
open PySem PySem.Spec L2 HX TL PySem.NumText
open PyProof.Rows hiding St
theorem digitsVal_lt : ∀ l : List Nat, AllDigits l → digitsVal l < 10 ^ l.length := by
  intro l
  induction l using snoc_ind with
  | h0 => intro _; exact Nat.one_pos
  | h1 l c ih =>
    intro hd
    have h1 := ih fun d hdm => hd d (List.mem_append_left _ hdm)
    have hc := hd c (by simp)
    rw [digitsVal_snoc, List.length_append, List.length_singleton, Nat.pow_succ]
    omega
theorem numF_lt {x : Str} {n : Int} (h : numF x = some n) : n.natAbs < 10 ^ 41 := by
  unfold numF at h
  split at h
  · rename_i hk
    obtain ⟨h1, h2, h3, h4⟩ := okF_iff.mp hk
    have hn : valF (tl x) = n := Option.some.inj h
    have key : ∀ l : List Nat, AllDigits l → l.length ≤ 40 → digitsVal l < 10 ^ 41 := fun l hd hl => Nat.lt_of_lt_of_le (digitsVal_lt l hd) (Nat.pow_le_pow_right (by decide) (by omega))
    rcases figs_or (tl x) with ⟨r, e, f, v⟩ | ⟨e, f, v⟩
    · rw [f] at h2 h3
      have := key r (allDig h3) h2
      omega
    · rw [f] at h2 h3
      have := key (tl x) (allDig h3) h2
      omega
  · cases h
theorem row_lt {l : Str} {r : List Int} (h : rowF l = some r) : ∀ v ∈ r, v.natAbs < 10 ^ 41 := by
  have h2 := allS_some.mp h
  intro v hv
  have : some v ∈ (wordsF l).map numF := by
    rw [h2]
    exact List.mem_map_of_mem hv
  obtain ⟨x, _, hx⟩ := List.mem_map.mp this
  exact numF_lt hx
theorem read_rows {t : Str} (h : stopF t = none) (h64 : (tailF t).length < 64) : colsF (wordsF (headF t)) = true ∧ okRows ((tailF t).map rowG) := by
  rw [stop_eq] at h
  split at h
  · rename_i hc
    have hr := rows_none h
    have h8 := (cols_names hc).1
    refine ⟨hc, by rw [List.length_map]; omega, fun r hrm => ?_⟩
    obtain ⟨l, hl, rfl⟩ := List.mem_map.mp hrm
    have := hr l hl
    exact ⟨by rw [this.2]; exact h8, row_lt this.1⟩
  · cases h
def ansV (t : Str) : List V := match stopF t with
  | none => [.str (Str.ofString "read"), .str t]
  | some k => [.str (Str.ofString "refused"), .int (k : Nat), .bl false]
section
variable {P : Program} {w : World} {K : PySem.W.Frag} {mg : Str → Option Value} {base : Heap}
def spAnswer (K : PySem.W.Frag) : Sp := fun vs H Q _ => ∃ v, vs = [v] ∧ ((Odd K H v ∧ ∀ H' p, Ext H H' → H p = none → H' p = some (.tup [.str (Str.ofString "refused"), .int (-1), .bl false]) → Q (.ref p) H') ∨
  ∃ t, v = .str t ∧ okText t ∧ ∀ H' p, Ext H H' → H p = none → H' p = some (.tup (ansV t)) → Q (.ref p) H')
theorem scAnswer : FnScope ["_law_text_here", "e"] ["_law_text_here"] (defScope sAnswer) := ⟨rfl, rfl, rfl, by decide +kernel, rfl, by decide +kernel, by decide +kernel⟩
theorem ok_answer (T : Top K mg) : FnR P w K mg base CX0 7 (He.ga K "_law_answer") (spAnswer K) := by
  obtain ⟨fd, F⟩ := T.says.def_ 25 (d := dAnswer) rfl
  have b : Binds K fd ["_law_text_here"] [] := F.bindsN fun _ _ _ _ _ _ us hl => match us, hl with | [_], _ => rfl
  refine flat (FunD.ok F scAnswer (fun vs H Q E h => ?_) (fun cdv A outer s H vs Q E hr h => ?_)) b
  · obtain ⟨t, rfl, _⟩ := h
    rfl
  · obtain ⟨v, rfl, h⟩ := h
    have r2 : Room 2 _ := hr.mono (by decide)
    refine ⟨_, pss_one (ps_try_fst (i := 1) (c := .ref (He.ga K "NoText"))
        (tb := fun W => tRet (tTup (tCons (tC (.str (Str.ofString "read"))) (tCons (tCallF (spShow K) (fun _ _ _ _ => False) (tCons (tCallF (spRead K) (WE W) (tCons (tVar 0) tNil)) tNil)) tNil))))
        (ts := fun a cls d => tRet (tTup (tCons (tC (.str (Str.ofString "refused"))) (tCons (tXf a cls d (He.ga K "NoText") "at" (tVar 1)) (tCons (tCB (rIsEO K a (He.ga K "NoText") cls d) (tCons (tVar 1) (tCons (tTup (tCons (tC (.ref (He.ga K "NoColumns"))) (tCons (tC (.ref (He.ga K "NoRow"))) tNil))) tNil))) tNil)))))
        rfl rfl scAnswer.nd rfl rfl ⟨rfl, by decide, Or.inl (T.g 3)⟩
        (fun W pn xe tk _ => pss_one (ps_ret (by exact (pe_tup (pa_cons pe_str (pa_cons (pe_f0 (ok_show T) r2 (T.g 14) (kShowTable T) (pa_cons (pe_callF (ok_read T) hr rfl (T.g 16) (kReadTable T) (fun σ => L2.passAt tk σ) (pa_cons (pv 0) pa_nil)) pa_nil)) pa_nil))))))
        (fun a oe cls d pn hz hf => pss_one (ps_ret (by exact (pe_tup (pa_cons pe_str (pa_cons (pe_xf T.err.xf (He.noat_ok (T.says.fact 54 rfl)) hz hf (pv 1)) (pa_cons (pe_callB (call_isEO T.err.errK hz hf) rfl (T.f 27) (by decide +kernel) (pa_cons (pv 1) (pa_cons (pe_tup (pa_cons (pe_gC (T.g 1)) (pa_cons (pe_gC (T.g 2)) pa_nil))) pa_nil))) pa_nil)))))))), ?_⟩
    have refuse : ∀ (at_ : Int) (H' : Hp) (d : Addr), Ext H H' → H' d = some (.xd [("at", .int at_)]) → (∀ H2 p, Ext H H2 → H p = none → H2 p = some (.tup [.str (Str.ofString "refused"), .int at_, .bl false]) → Q (.ref p) H2) →
        wFst K (.ref (He.ga K "NoText")) 1 (fun a cls d => tRet (tTup (tCons (tC (.str (Str.ofString "refused"))) (tCons (tXf a cls d (He.ga K "NoText") "at" (tVar 1)) (tCons (tCB (rIsEO K a (He.ga K "NoText") cls d) (tCons (tVar 1) (tCons (tTup (tCons (tC (.ref (He.ga K "NoColumns"))) (tCons (tC (.ref (He.ga K "NoRow"))) tNil))) tNil))) tNil)))))
          { nx := fun _ H' => Q .non H', rt := Q } (.ref (He.ga K "NoText")) (some d) (L2.start ["_law_text_here", "e"] [v]) H' := by
      intro at_ H' d e hx k
      refine ⟨He.exm_ok (T.says.fact 52 rfl), fun a ha => ?_⟩
      refine ⟨.ref a, rfl, rfl, rfl, d, _, .int at_, rfl, hx, rfl, .ref a, rfl, by show 2 ≤ _; decide, fun tp htp => ?_⟩
      have e1 := Ext.upd (o := .tup [V.ref (He.ga K "NoColumns"), V.ref (He.ga K "NoRow")]) htp
      refine ⟨tp, _, _, false, d, _, rfl, rfl, rfl, e1 _ _ hx, upd_same, .cons (.own _) (.cons (.own _) .nil), T.ex1.2.2.2, by show 3 ≤ _; decide, fun p hp => ?_⟩
      exact k _ p ((e.trans e1).trans (Ext.upd hp)) (Ext.new (e.trans e1) hp) upd_same
    rcases h with ⟨odd, q⟩ | ⟨t, rfl, hok, q⟩
    · exact ⟨v, rfl, v, rfl, .inl ⟨odd, fun H' d e hd hx => refuse (-1) H' d e hx q⟩⟩
    · refine ⟨.str t, rfl, .str t, rfl, .inr ⟨t, rfl, hok, fun k hk H' d e hd hx => refuse (k : Int) H' d e hx ?_, fun hn H' a e ha hT => ?_⟩⟩
      · unfold ansV at q
        rw [hk] at q
        exact q
      · obtain ⟨hc, hR⟩ := read_rows hn hok.2
        refine ⟨a, _, _, rfl, hT, hc, hR, fun H2 e2 => ⟨by show 2 ≤ _; decide, fun p hp => ?_⟩⟩
        unfold ansV at q
        rw [hn] at q
        rw [text_back hn]
        exact q _ p ((e.trans e2).trans (Ext.upd hp)) (Ext.new (e.trans e2) hp) upd_same
end
end F89
set_option Elab.async false
set_option linter.all false
set_option maxRecDepth 100000
set_option maxHeartbeats 4000000
namespace F89
open PySem PySem.Spec L2 HX TL
open PyProof.Rows hiding St
theorem takes00 {X : Cx} : L2.Takes X (fun _ _ _ _ => False) := fun _ _ x => by
  obtain ⟨_, _, _, _, _, _, _, _, _, _, _, _, _, _, _, _, z⟩ := x
  exact z.elim
/-- the scope of the comprehension of rows -/
def scO : Scope := match defBody sLaw with
  | .For _ _ body _ _ :: _ => match body.getD 2 (.Pass ⟨0, 0, 0, 0⟩) with
    | .Assign _ (.ListComp _ _ sc _) _ => sc
    | _ => defScope sLaw
  | _ => defScope sLaw
def scR : Scope := { scO with names := scO.names.map fun q => if q.2 == NameKind.free then (q.1, NameKind.cell) else q }
def scI : Scope := match defBody sLaw with
  | .For _ _ body _ _ :: _ => match body.getD 2 (.Pass ⟨0, 0, 0, 0⟩) with
    | .Assign _ (.ListComp (.Call _ (.ListComp _ _ sc _ :: _) _ _) _ _ _) _ => sc
    | _ => defScope sLaw
  | _ => defScope sLaw
def rTupOf (K : PySem.W.Frag) : List V → Hp → VK → Prop := fun xs H Q => ∃ p ys, xs = [.ref p] ∧ ((SqL K H p ys ∧ ∀ l, H l = none → Q (.ref l) (upd H l (.tup ys))) ∨ (SqT K H p ys ∧ Q (.ref p) H))
abbrev nLaw : List Str := ["_law_script", "_law_cell", "_law_well_here", "_law_names_here", "_law_rows", "_law_table", "_law_text_here", "_law_again", "_law_spoilt_here", "_law_one", "_law_at", "_law_due", "_law_odd", "_law_name", "_law_k"]
theorem SqT_off2 {K : PySem.W.Frag} {H H' : Hp} {q p D : Addr} {xs zs ys : List V} (h : SqT K H q xs) (hD : H D = some (.lst zs)) (hp : H p = some (.lst ys)) (e : Ext2 D p H H') : SqT K H' q xs := by
  rcases h with (h | ⟨o, h⟩) | h
  · exact .inl (.inl (e _ _ (ne_of h hD (by intro z; cases z)) (ne_of h hp (by intro z; cases z)) h))
  · exact .inl (.inr ⟨o, e _ _ (ne_of h hD (by intro z; cases z)) (ne_of h hp (by intro z; cases z)) h⟩)
  · exact .inr h
def okV (i : Int) : Prop := i.natAbs < 10 ^ 40
def RowR (K : PySem.W.Frag) (m : Nat) (v : V) (H : Hp) : Prop := ∃ q r, v = .ref q ∧ SqT K H q (List.map V.int r) ∧ r.length = m ∧ ∀ x ∈ r, okV x
theorem rows_of {K : PySem.W.Frag} {m : Nat} {H : Hp} {α : Type} : ∀ {src : List α} {ys : List V}, Paired (fun _ v => RowR K m v H) src ys → ∃ ks : List (Addr × List Int), ys = ks.map (fun q => V.ref q.1) ∧ (∀ q ∈ ks, SqT K H q.1 (q.2.map V.int)) ∧ (∀ q ∈ ks, q.2.length = m) ∧ (∀ q ∈ ks, ∀ x ∈ q.2, okV x) ∧ ks.length = src.length
  | [], _, .nil => ⟨[], rfl, fun q h => (nomatch h), fun q h => (nomatch h), fun q h => (nomatch h), rfl⟩
  | _ :: _, _, .cons ⟨q, r, hv, hq, hm, hb⟩ t => by
    obtain ⟨ks, h1, h2, h3, h4, h5⟩ := rows_of t
    refine ⟨(q, r) :: ks, by rw [hv, h1]; rfl, fun x hx => ?_, fun x hx => ?_, fun x hx => ?_, by rw [List.length_cons, List.length_cons, h5]⟩
    · rcases List.mem_cons.mp hx with z | z
      · rw [z]; exact hq
      · exact h2 x z
    · rcases List.mem_cons.mp hx with z | z
      · rw [z]; exact hm
      · exact h3 x z
    · rcases List.mem_cons.mp hx with z | z
      · rw [z]; exact hb
      · exact h4 x z
theorem ints_of {α : Type} : ∀ {src : List α} {ys : List V}, Paired (fun _ v => ∃ i, v = V.int i ∧ okV i) src ys → ∃ r : List Int, ys = r.map V.int ∧ r.length = src.length ∧ ∀ x ∈ r, okV x
  | [], _, .nil => ⟨[], rfl, rfl, fun x h => (nomatch h)⟩
  | _ :: _, _, .cons ⟨i, hv, hb⟩ t => by
    obtain ⟨r, h1, h2, h3⟩ := ints_of t
    refine ⟨i :: r, by rw [hv, h1]; rfl, by rw [List.length_cons, List.length_cons, h2], fun x hx => ?_⟩
    rcases List.mem_cons.mp hx with z | z
    · rw [z]; exact hb
    · exact h3 x z
theorem okC_name {x : Str} (h : nameF x = true) : okC x := fun c hc => by
  unfold nameF at h
  simp only [Bool.and_eq_true, decide_eq_true_eq, List.all_eq_true] at h
  have := h.2.2 c hc
  unfold lowB at this
  rw [Bool.and_eq_true, decide_eq_true_eq, decide_eq_true_eq] at this
  omega
theorem okC_tex (n : Int) : okC (texF n) := fun c hc => by
  rw [tl_texF] at hc
  have key : ∀ d ∈ numL n.natAbs, d < 1114112 := fun d hd => by
    have := numL_digits n.natAbs d hd
    omega
  split at hc
  · rcases List.mem_cons.mp hc with z | z
    · omega
    · exact key c z
  · exact key c hc
theorem okC_join {ws : List Str} (h : ∀ w ∈ ws, okC w) : okC (Txt.join sC ws) := by
  rw [join_eq]
  induction ws with
  | nil => intro c hc; cases hc
  | cons x r ih =>
    intro c hc
    cases r with
    | nil => exact h x (List.mem_cons_self ..) c hc
    | cons b t =>
      have e : Str.join sC (x :: b :: t) = x ++ sC ++ Str.join sC (b :: t) := rfl
      rw [e, tl_append, tl_append] at hc
      rcases List.mem_append.mp hc with hc | hc
      · rcases List.mem_append.mp hc with hc | hc
        · exact h x (List.mem_cons_self ..) c hc
        · rw [tlC, List.mem_singleton] at hc
          omega
      · exact ih (fun w hwm => h w (List.mem_cons_of_mem _ hwm)) c hc
theorem text_good {names : List Str} {R : List (List Int)} (hc : colsF names = true) (hR : ∀ r ∈ R, okT r) (hl : R.length ≤ 10) : goodT 5000 11 (textF names R) := by
  obtain ⟨h8, hn, _⟩ := cols_names hc
  have h10 : (10 : Nat) ∉ tl sC := by rw [tlC]; decide
  unfold textF
  refine join_good ⟨fun l hlm => ?_, ?_, by rw [List.length_cons, List.length_map]; omega⟩
  · rcases List.mem_cons.mp hlm with z | z
    · rw [z]
      exact ⟨okC_join fun w hw => okC_name (hn w hw), List.count_eq_zero.mpr (join_free h10 fun w hw => not_in_name (hn w hw) (by decide))⟩
    · obtain ⟨r, hr, rfl⟩ := List.mem_map.mp z
      refine ⟨okC_join fun w hw => ?_, List.count_eq_zero.mpr (join_free h10 fun w hw => ?_)⟩
      · obtain ⟨v, _, rfl⟩ := List.mem_map.mp hw
        exact okC_tex v
      · obtain ⟨v, _, rfl⟩ := List.mem_map.mp hw
        exact tex_free v (by decide)
  · have h1 := sum_le 400 (Txt.join sC names :: R.map lineF) fun x hx => by
      rcases List.mem_cons.mp hx with z | z
      · rw [z]
        have := (cols_len hc).2
        omega
      · obtain ⟨r, hr, rfl⟩ := List.mem_map.mp z
        exact line_len (hR r hr)
    rw [List.length_cons, List.length_map] at *
    omega
theorem okText_of {t : Str} (h : goodT 100000 63 t) : okText t := by
  refine ⟨h.1, ?_⟩
  have h1 := split_count t
  rw [split_cons, List.length_cons] at h1
  have := h.2.2
  omega
def dA (t : Str) : PyData := match stopF t with
  | none => .tuple [.str (Str.ofString "read"), .str t]
  | some k => .tuple [.str (Str.ofString "refused"), .int (k : Nat), .bool false]
def dB : PyData := .tuple [.str (Str.ofString "refused"), .int (-1), .bool false]
theorem dp_A {K : PySem.W.Frag} {H : Hp} {p : Addr} {t : Str} (h : H p = some (.tup (ansV t))) : Dp K H (.ref p) (dA t) := by
  unfold ansV at h
  unfold dA
  cases hs : stopF t with
  | none =>
    rw [hs] at h
    exact .tup (.inl (.inl h)) (.cons (.str _) (.cons (.str _) .nil))
  | some k =>
    rw [hs] at h
    exact .tup (.inl (.inl h)) (.cons (.str _) (.cons (.int _) (.cons (.bl _) .nil)))
theorem sh_A {t : Str} (h : okC t) : SeqAt.shaped (dA t) = true := by
  unfold dA
  cases hs : stopF t with
  | none =>
    unfold SeqAt.shaped
    rw [Bool.and_eq_true, decide_eq_true_eq]
    refine ⟨?_, by show (1 : Nat) ≤ 64; decide⟩
    show (PyData.strOk (Str.ofString "read") && (PyData.strOk t && true)) = true
    rw [low_ok h]
    decide +kernel
  | some k =>
    unfold SeqAt.shaped
    rw [Bool.and_eq_true, decide_eq_true_eq]
    refine ⟨?_, by show (1 : Nat) ≤ 64; decide⟩
    show (PyData.strOk (Str.ofString "refused") && (true && (true && true))) = true
    decide +kernel
theorem sh_B : SeqAt.shaped dB = true := by
  unfold SeqAt.shaped
  rw [Bool.and_eq_true, decide_eq_true_eq]
  refine ⟨?_, by decide⟩
  show (PyData.strOk (Str.ofString "refused") && (true && (true && true))) = true
  decide +kernel
section
variable {P : Program} {w : World} {K : PySem.W.Frag} {mg : Str → Option Value} {base : Heap}
def spLaw (K : PySem.W.Frag) : Sp := fun vs H Q _ => ∃ (a : Addr) (ns : List Int), vs = [.ref a] ∧ SqL K H a (ns.map V.int) ∧ ns.length ≤ 63 ∧ ∀ H', Q (.bl true) H'
theorem scLaw : FnScope nLaw ["_law_script"] (defScope sLaw) := ⟨rfl, rfl, rfl, by decide +kernel, rfl, by decide +kernel, by decide +kernel⟩
theorem ok_law {f : Addr} {fd : FuncData} (T : Top K mg) (F : FunD K "law" "law" (defArgs sLaw) (defBody sLaw) (defScope sLaw) [] [] f fd) : FnOk P w K mg base CX0 8 f fd ["_law_script"] (spLaw K) := by
  refine FunD.ok F scLaw (fun vs H Q E h => ?_) (fun cdv A outer s H vs Q E hr h => ?_)
  · obtain ⟨a, ns, rfl, _⟩ := h
    rfl
  · obtain ⟨a, ns, rfl, hs, h63, q⟩ := h
    have r1 : Room 1 _ := hr.mono (by decide)
    have r2 : Room 2 _ := hr.mono (by decide)
    have r5 : Room 5 _ := hr.mono (by decide)
    have r6 : Room 6 _ := hr.mono (by decide)
    refine ⟨_, pss_cons (ps_for (passes_of rfl) rfl (pi_list (pe_op op_cat (pe_lst (pa_cons pe_int pa_nil)) (pe_slice sl_list (pv 0) po_none (po_some pe_int)))) (pg_name (i := 1) scLaw.nd rfl (Or.inl rfl))
      (pss_cons (ps_set (i := 2) scLaw.nd rfl (Or.inr rfl) (pe_f0 (ok_well T) r1 (T.g 17) (kWell T) (pa_cons (pv 1) pa_nil)))
      (pss_cons (ps_set (i := 3) scLaw.nd rfl (Or.inr rfl) (pe_f0 (ok_names T) r2 (T.g 19) (kNames T) (pa_cons (pv 2) (pa_cons (pe_f0 (ok_draw T) r1 (T.g 18) (kDraw T) (pa_cons (pv 2) (pa_cons pe_int pa_nil))) pa_nil))))
      (pss_cons (ps_setLc (i := 4) (own := [("_law_k", 14)]) (te := tCB (rTupOf K) (tCons (tLc (iList K (tVar 3)) (gName 13) tYes (tCallF spValue (fun _ _ _ _ => False) (tCons (tVar 2) tNil)) ([("_law_name", 13)].map (·.2))) tNil)) rfl scLaw.nd rfl rfl rfl (pi_range1 rfl (T.f 38) (pa_cons (pe_f0 (ok_draw T) r1 (T.g 18) (kDraw T) (pa_cons (pv 2) (pa_cons pe_int pa_nil))) pa_nil)) (bk nLaw (defScope sLaw) [("_law_k", 14)])
          (fun _ _ _ _ _ => pg_name (i := 14) scLaw.nd rfl (Or.inl rfl)) (fun _ _ _ _ _ => pts_nil)
          (fun _ _ _ _ _ => pe_callTy call_tuple_of rfl (T.f 33) (by decide +kernel) (pa_cons (pe_lc (own := [("_law_name", 13)]) rfl scLaw.nd (pi_list (pv 3)) (bk nLaw scR [("_law_name", 13)] (scope := scI))
            (fun _ _ _ _ _ => pg_name (i := 13) scLaw.nd rfl (Or.inl rfl)) (fun _ _ _ _ _ => pts_nil) (fun _ _ _ _ _ => pe_f0 (ok_value T) r2 (T.g 20) (kValue T) (pa_cons (pv 2) pa_nil))) pa_nil)))
      (pss_cons (ps_set (i := 5) scLaw.nd rfl (Or.inl rfl) (pe_make (He.mkr_ok (T.says.fact 51 rfl)) (ok_init T) r5 rfl (T.g 4) (bInit T) .nil ps0 (pa_cons (pv 3) (pa_cons (pe_op op_cat (pv 4) (pe_slice sl_list (pv 4) po_none (po_some pe_int))) pa_nil))))
      (pss_cons (ps_set (i := 6) scLaw.nd rfl (Or.inl rfl) (pe_f0 (ok_text T) r1 (T.g 21) (kText T) (pa_cons (pv 3) (pa_cons (pv 4) pa_nil))))
      (pss_cons (ps_set (i := 7) scLaw.nd rfl (Or.inl rfl) (pe_callF (ok_read T) r6 rfl (T.g 16) (kReadTable T) (fun σ => L2.passAt takes00 σ) (pa_cons (pv 6) pa_nil)))
      (pss_cons (ps_if (PW.pt (pw_or (pt_cmpR op_ne (pe_f0 (ok_show T) r2 (T.g 14) (kShowTable T) (pa_cons (pv 5) pa_nil)) (pv 6) (nomark _)) (pw_or (pt_not (pt_val (pe_callB call_isi rfl (T.f 27) (by decide +kernel) (pa_cons (pv 7) (pa_cons (pe_gC (T.g 4)) pa_nil)))))
          (pw_or1 (pt_cmpR (op_neO (E := fun _ _ _ => False) T.eqT (ok_tabEq T) r2 pass00) (pv 7) (pv 5) (nomark _)))))) (pss_one (ps_ret pe_bl)) pss_nil)
      (pss_cons (ps_if (PW.pt (pw_or (pt_cmpR (op_neD (r64 hr)) (pe_meth0 (pv 7) T.cT (He.meth_ok (T.says.fact 48 rfl)) (ok_columns T) r1 (bColumns T) .nil ps0) (pv 3) (nomark _))
          (pw_or1 (pt_cmpR (op_neD (r64 hr)) (pe_meth0 (pv 7) T.cT (He.meth_ok (T.says.fact 49 rfl)) (ok_rows T) r1 (bRows T) .nil ps0) (pe_callB (HX.cr_sortedS rfl (r64 hr)) rfl (T.f 37) (by decide +kernel) (pa_cons (pe_callTy (cr_setOfT rfl (r64 hr)) rfl (T.f 35) (by decide +kernel) (pa_cons (pv 4) pa_nil)) pa_nil)) (nomark _))))) (pss_one (ps_ret pe_bl)) pss_nil)
      (pss_cons (ps_set (i := 8) scLaw.nd rfl (Or.inl rfl) (pe_f0 (ok_spoilt T) r2 (T.g 22) (kSpoilt T) (pa_cons (pv 2) (pa_cons (pv 6) pa_nil))))
      (pss_cons (ps_for (passes_of rfl) rfl (pi_list (pe_lst (pa_cons (pv 8) (pa_cons (pe_f0 (ok_spoilt T) r2 (T.g 22) (kSpoilt T) (pa_cons (pv 2) (pa_cons (pv 8) pa_nil))) (pa_cons (pe_op op_add_str (pv 6) pe_str) (pa_cons (pe_op op_add_str (pv 6) pe_str) pa_nil)))))) (pg_name (i := 9) scLaw.nd rfl (Or.inl rfl))
        (pss_cons (ps_set (i := 10) scLaw.nd rfl (Or.inl rfl) (pe_f0 (ok_stop T) r2 (T.g 24) (kStop T) (pa_cons (pv 9) pa_nil)))
        (pss_cons (ps_set (i := 11) scLaw.nd rfl (Or.inl rfl) (pe_tup (pa_cons pe_str (pa_cons (pv 10) (pa_cons pe_bl pa_nil)))))
        (pss_cons (ps_if (pt_cmpR op_isN (pv 10) pe_non (nomark _)) (pss_one (ps_set (i := 11) scLaw.nd rfl (Or.inl rfl) (pe_tup (pa_cons pe_str (pa_cons (pv 9) pa_nil))))) pss_nil)
        (pss_one (ps_if (pt_cmpR (op_neD (r64 hr)) (pe_f0 (ok_answer T) hr (T.g 25) (kAnswer T) (pa_cons (pv 9) pa_nil)) (pv 11) (nomark _)) (pss_one (ps_ret pe_bl)) pss_nil))))))
      (pss_cons (ps_set (i := 12) scLaw.nd rfl (Or.inl rfl) (pe_ix ix_list (pe_lst (pa_cons pe_non (pa_cons pe_int (pa_cons (pe_lst (pa_cons pe_str pa_nil)) (pa_cons (pe_tup (pa_cons pe_str pa_nil)) (pa_cons pe_bl (pa_cons pe_dnewK pa_nil))))))) (pe_f0 (ok_draw T) r1 (T.g 18) (kDraw T) (pa_cons (pv 2) (pa_cons pe_int pa_nil))) (fun _ _ => rfl)))
      (pss_one (ps_if (pt_cmpR (op_neD (r64 hr)) (pe_f0 (ok_answer T) hr (T.g 25) (kAnswer T) (pa_cons (pv 12) pa_nil)) (pe_tup (pa_cons pe_str (pa_cons (pe_un un_neg pe_int) (pa_cons pe_bl pa_nil)))) (nomark _)) (pss_one (ps_ret pe_bl)) pss_nil))))))))))))))
      (pss_one (ps_ret pe_bl)), ?_⟩
    dsimp only [tSeq]
    refine tfor_any (fun J H1 => ∃ pf, J = Itl K pf ∧ Ext H H1 ∧ H1 pf = some (.lst (((0 : Int) :: ns.take 12).map V.int))) (fun R hR => ⟨by show 1 ≤ _; decide, fun p1 hp1 => ⟨.ref a, rfl, 12, rfl, a, _, rfl, hs.ext (Ext.upd hp1), fun p2 hp2 => ⟨p1, p2, _, _, rfl, rfl, Ext.upd hp2 _ _ upd_same, upd_same, ?_, fun pf hpf => ⟨pf, rfl, ⟨_, .inl (.inl upd_same)⟩, hR _ _ ⟨pf, rfl, ((Ext.upd hp1).trans (Ext.upd hp2)).trans (Ext.upd hpf), ?_⟩⟩⟩⟩⟩) ?_
    · have := cutV_length (ns.map V.int) none (some 12)
      rw [List.length_map] at this
      rw [sizeLine_eq]
      show 1 + _ ≤ _
      omega
    · rw [upd_same]
      have := cut_take ns V.int 12
      show some (HO.lst ([V.int 0] ++ cutV (ns.map V.int) none (some 12))) = _
      rw [show (some (12 : Int)) = some ((12 : Nat) : Int) from rfl, this]
      rfl
    rintro J H1 ⟨pf, rfl, e1, hpf⟩
    refine tfor_it (fun R r => r) (walk_listM ((0 : Int) :: ns.take 12) V.int) (Pv := fun i σ' H' => ∃ o1 o2 o3 o4 o5 o6 o7 o8 o9 o10 o11 o12 : Option V, σ' = [some (.ref a), o1, o2, o3, o4, o5, o6, o7, o8, o9, o10, o11, o12, none, none] ∧ Ext H1 H')
      ⟨none, none, none, none, none, none, none, none, none, none, none, none, rfl, .rfl'⟩ (fun i σ' H' _ ⟨_, _, _, _, _, _, _, _, _, _, _, _, _, e⟩ => .inl (.inl (e _ _ hpf))) ?_ (fun σ' H' _ => q H')
    rintro i x σ' H' H0 hi ⟨o1, o2, o3, o4, o5, o6, o7, o8, o9, o10, o11, o12, rfl, e⟩ ⟨rfl, cell, hy, rfl⟩
    refine ⟨.int cell, rfl, cell, rfl, fun p Hw ew hp0 hw => ?_⟩
    refine ⟨.ref p, rfl, .ref p, rfl, p, 9, rfl, hw, by decide, by decide, fun m Hd ed wd ld ud => ⟨p, m, rfl, wd, ld, by omega, fun names Hn pn en wn hpn hnl hcols => ?_⟩⟩
    obtain ⟨n8, hnm, hnd⟩ := cols_names hcols
    have npn : pn ≠ p := Ne.symm (wd.ne hpn)
    dsimp only [gName, tSeq, tAsg]
    refine tlc_any (fun J H1 => ∃ n : Nat, n < 8 ∧ J = Itr 0 n ∧ ExtO p Hn H1 ∧ WellAt H1 p) (fun R hR => ⟨.ref p, rfl, p, 8, rfl, wn, by decide, by decide, fun r Hr er wr lr ur => ⟨r, rfl, by omega, by omega, hR _ _ ⟨r.toNat, by omega, rfl, er, wr⟩⟩⟩) ?_
    rintro J Hr ⟨n, hn8, rfl, er, wr⟩
    have hnr : Hr pn = some (.lst (names.map V.str)) := er _ _ npn hnl
    refine tlc_well (p := p) (fun R r => r) (List.range n) (fun y => V.int (0 + (y : Nat))) (fun _ v H => RowR K names.length v H) walk_rangeM (by rw [List.length_range, sizeLine_eq]; omega) (fun _ _ => True.intro) wr ?_ ?_ ?_
    · rintro k v D zs Ha Hb ⟨q1, r, h1, h2, h3, h4⟩ hD hW e2
      obtain ⟨ys, hW⟩ := hW.lst
      exact ⟨q1, r, h1, SqT_off2 h2 hD hW e2, h3, h4⟩
    · intro k Hk hk ek wk Q' hQ
      refine ⟨rfl, ?_⟩
      have hnk : Hk pn = some (.lst (names.map V.str)) := ek _ _ npn hnr
      dsimp only [tCB, tCons]
      refine tlc_well (p := p) (fun R r => ⟨.ref pn, rfl, pn, rfl, ⟨_, .inl (.inl hnk)⟩, r⟩) names V.str (fun _ v _ => ∃ i, v = V.int i ∧ okV i) (walk_listM names V.str) (by rw [sizeLine_eq]; omega) (fun H9 e9 => .inl (.inl (e9 _ _ npn hnk))) wk (fun _ _ _ _ _ _ h _ _ _ => h)
        (fun y H9 hy9 e9 w9 Q9 hQ9 => ⟨rfl, .ref p, rfl, p, rfl, w9, fun j H10 e10 w10 hlt => hQ9 _ H10 e10 w10 ⟨j, rfl, hlt⟩⟩) fun D H9 ys hD e9 w9 hl9 hP => ?_
      obtain ⟨r, hys, hrl, hrb⟩ := ints_of hP
      rw [hys] at hl9
      exact ⟨D, _, rfl, .inl ⟨.inl (.inl hl9), fun l hl => hQ _ _ (e9.trans (ExtO.of (Ext.upd hl))) (w9.ext (Ext.upd hl)) ⟨l, r, rfl, .inl (.inl upd_same), hrl, hrb⟩⟩⟩
    intro D Hs ys hD es ws hDl hP
    obtain ⟨ks, hys, hks, hkw, hkb, hkl⟩ := rows_of hP
    rw [hys] at hDl
    rw [List.length_range] at hkl
    have eHs : ExtO p Hw Hs := ((ed.trans en).trans er).trans es
    have hns : Hs pn = some (.lst (names.map V.str)) := es _ _ npn hnr
    have hok : ∀ q ∈ ks, okT q.2 := fun q hq => ⟨by rw [hkw q hq]; exact n8, fun v hv => Nat.lt_of_lt_of_le (hkb q hq v hv) (Nat.pow_le_pow_right (by decide) (by decide))⟩
    refine ⟨.ref pn, rfl, .ref D, rfl, .ref D, rfl, 2, rfl, D, _, rfl, .inl (.inl hDl), fun p2 hp2 => ⟨D, p2, _, _, rfl, rfl, Ext.upd hp2 _ _ hDl, upd_same, ?_, fun p3 hp3 x dx hx hdx hne => ?_⟩⟩
    · have := cutV_length (ks.map fun q => V.ref q.1) none (some 2)
      rw [List.length_map] at this
      rw [List.length_map, sizeLine_eq]
      omega
    have ec2 : Ext Hs (upd (upd Hs p2 (.lst (cutV (ks.map fun q => V.ref q.1) none (some 2)))) p3 (.lst ((ks.map fun q => V.ref q.1) ++ cutV (ks.map fun q => V.ref q.1) none (some 2)))) := (Ext.upd hp2).upd' hp3
    have hcut : (ks.map fun q => V.ref q.1) ++ cutV (ks.map fun q => V.ref q.1) none (some 2) = (ks ++ ks.take 2).map fun q => V.ref q.1 := by
      have := cut_take ks (fun q => V.ref q.1) 2
      rw [show (some (2 : Int)) = some ((2 : Nat) : Int) from rfl, this, List.map_append]
    rw [hcut] at ec2 hx hdx ⊢
    have eMk := (Ext.upd (o := .own x) hdx).upd' (p := x) (o := .ins (He.ga K "Table") dx []) (by rw [upd_ne (Ne.symm hne)]; exact hx)
    have emem : ∀ q, q ∈ ks ++ ks.take 2 → q ∈ ks := fun q hq => by
      rcases List.mem_append.mp hq with z | z
      · exact z
      · exact List.mem_of_mem_take z
    refine ⟨x, pn, p3, dx, names, ks ++ ks.take 2, rfl, upd_same, .inl (.inl (eMk _ _ (ec2 _ _ hns))), fun y hy => by have := (cols_len hcols).1 y hy; rw [sizeLine_eq]; omega, hcols, ⟨.inl (.inl (eMk _ _ upd_same)), fun q hq => ((hks q (emem q hq)).ext ec2).ext eMk⟩, ?_, fun q hq => hkw q (emem q hq), fun H5 R x5 hT hS => ⟨rfl, ?_⟩⟩
    · rw [List.length_append, List.length_take]
      omega
    have e5 : Ext Hs H5 := ec2.trans (((ExtO.of eMk).trans x5).ext hx)
    have hS' : SortedOf R (ks.map (·.2)) := ⟨hS.1, fun r => by
      rw [hS.2, List.map_append, List.mem_append]
      constructor
      · intro z
        rcases z with z | z
        · exact z
        · obtain ⟨q, hq, rfl⟩ := List.mem_map.mp z
          exact List.mem_map_of_mem (List.mem_of_mem_take hq)
      · exact .inl⟩
    refine ⟨.ref pn, rfl, .ref D, rfl, pn, D, names, ks, rfl, .inl (.inl (e5 _ _ hns)), hcols, ⟨.inl (.inl (e5 _ _ hDl)), fun q hq => (hks q hq).ext e5⟩, by omega, hkw, hok, fun H6 R6 e6 hS6 => ?_⟩
    rw [sorted_uniq hS6 hS']
    have hRm : ∀ r ∈ R, ∃ q ∈ ks, q.2 = r := fun r hr => List.mem_map.mp ((hS'.2 r).mp hr)
    have hRw : ∀ r ∈ R, r.length = names.length := fun r hr => by
      obtain ⟨q, hq, rfl⟩ := hRm r hr
      exact hkw q hq
    have hRb : ∀ r ∈ R, ∀ v ∈ r, v.natAbs < 10 ^ 40 := fun r hr => by
      obtain ⟨q, hq, rfl⟩ := hRm r hr
      exact hkb q hq
    have hRt : ∀ r ∈ R, okT r := fun r hr => by
      obtain ⟨q, hq, rfl⟩ := hRm r hr
      exact hok q hq
    have hRl : R.length ≤ 10 := by
      have irr : R.Nodup := List.Pairwise.imp (fun {a b} (h : a < b) (e : a = b) => List.lt_irrefl b (by rw [e] at h; exact h)) hS'.1
      have := nodup_len R (ks.map (·.2)) irr fun r hr => (hS'.2 r).mp hr
      rw [List.length_map] at this
      omega
    obtain ⟨th1, th2, th3⟩ := text_there hcols hS'.1 hRw hRb
    have gtx := text_good hcols hRt hRl
    refine ⟨.str (textF names R), rfl, .str (textF names R), rfl, .inr ⟨textF names R, rfl, okText_of (gtx.mono (by decide) (by decide)), fun k hk => (by rw [th1] at hk; cases hk), fun _ H7 ag e7 hag hTa => ?_⟩⟩
    rw [th2, th3] at hTa
    have e67 : Ext H5 H7 := e6.trans e7
    refine ⟨.ref x, rfl, x, names, R, rfl, hT.ext e67, hcols, ⟨by omega, hRt⟩, fun H8 e8 => ⟨.str (textF names R), rfl, rfl, _, rfl, iteB (fun z => by rw [decide_eq_true rfl] at z; cases z) (fun _ => ?_)⟩⟩
    have hT8 := hT.ext (e67.trans e8)
    have hTa8 := hTa.ext e8
    obtain ⟨dx1, ln1, lh1, ks1, t1, t2, t3, t4⟩ := hT8
    obtain ⟨dx2, ln2, lh2, ks2, u1, u2, u3, u4⟩ := hTa8
    refine ⟨.ref ag, rfl, _, _, _, _, true, rfl, .own _, T.tyT u1, by unfold PySem.W.kitOne; rw [if_pos (beq_self_eq_true _)], true, rfl, iteB (fun z => by cases z) (fun _ => ?_)⟩
    refine ⟨.ref ag, rfl, .ref x, rfl, ag, x, dx2, dx1, _, _, rfl, rfl, u1, t1, ag, x, names, R, rfl, ⟨dx2, ln2, lh2, ks2, u1, u2, u3, u4⟩, ⟨dx1, ln1, lh1, ks1, t1, t2, t3, t4⟩, hnm, true, rfl, _, rfl, iteB (fun z => by cases z) (fun _ => ?_)⟩
    have e58 : Ext Hs H8 := e5.trans (e67.trans e8)
    refine ⟨.ref ag, rfl, ag, dx2, _, rfl, u1, rfl, ag, names, R, rfl, ⟨dx2, ln2, lh2, ks2, u1, u2, u3, u4⟩, fun l hl => ?_⟩
    have el := Ext.upd (o := .lst (names.map V.str)) hl
    refine ⟨.ref pn, rfl, dS names, dS names, dp_S (.inl (.inl upd_same)), dp_S (.inl (.inl (el _ _ (e58 _ _ hns)))), sh_S hnm, sh_S hnm, _, rfl, iteB (fun z => by rw [eqv_same (sh_S hnm)] at z; cases z) (fun _ => ?_)⟩
    refine ⟨.ref ag, rfl, ag, dx2, _, rfl, el _ _ u1, rfl, ag, dx2, ln2, lh2, ks2, rfl, el _ _ u1, u3.ext el, fun l2 hl2 => ?_⟩
    have el2 := Ext.upd (o := .lst (ks2.map fun q => V.ref q.1)) hl2
    have e5l : Ext Hs (upd (upd H8 l (.lst (names.map V.str))) l2 (.lst (ks2.map fun q => V.ref q.1))) := e58.trans (el.trans el2)
    refine ⟨.ref D, rfl, D, ks, rfl, .inl (.inl (e5l _ _ hDl)), fun q hq => (hks q hq).ext e5l, by omega, fun sa L hsa hL1 hL2 => ?_⟩
    have esa := Ext.upd (o := SetTO P w sa L) hsa
    refine ⟨sa, L, rfl, upd_same, fun q hq => ((hks q (hL1 q hq)).ext e5l).ext esa, fun q hq r hr => by rw [hkw q (hL1 q hq), hkw r (hL1 r hr)], fun L' p4 pm nd h64' pw hp4 => ?_⟩
    have ep4 := Ext.upd (o := .lst (L'.map fun q => V.ref q.1)) hp4
    have hL' : L'.map (·.2) = R := sorted_uniq (sorted_of hL1 hL2 pm nd pw) hS'
    have hLm : ∀ q ∈ L', q ∈ ks := fun q hq => hL1 q (pm.mem_iff.mp hq)
    have d1 : Dp K (upd (upd (upd (upd H8 l (.lst (names.map V.str))) l2 (.lst (ks2.map fun q => V.ref q.1))) sa (SetTO P w sa L)) p4 (.lst (L'.map fun q => V.ref q.1))) (.ref l2) (dR R) := by
      rw [u4]
      exact dp_R ⟨.inl (.inl (ep4 _ _ (esa _ _ upd_same))), fun q hq => ((((u3.2 q hq).ext el).ext el2).ext esa).ext ep4⟩
    have d2 : Dp K (upd (upd (upd (upd H8 l (.lst (names.map V.str))) l2 (.lst (ks2.map fun q => V.ref q.1))) sa (SetTO P w sa L)) p4 (.lst (L'.map fun q => V.ref q.1))) (.ref p4) (dR R) := by
      rw [← hL']
      exact dp_R ⟨.inl (.inl upd_same), fun q hq => (((hks q (hLm q hq)).ext e5l).ext esa).ext ep4⟩
    refine ⟨dR R, dR R, d1, d2, sh_R R, sh_R R, _, rfl, iteB (fun z => by rw [eqv_same (sh_R R)] at z; cases z) (fun _ => ?_)⟩
    have eS4 := e5l.trans (esa.trans ep4)
    clear d1 d2
    revert eS4
    generalize upd (upd (upd (upd H8 l (.lst (names.map V.str))) l2 (.lst (ks2.map fun q => V.ref q.1))) sa (SetTO P w sa L)) p4 (.lst (L'.map fun q => V.ref q.1)) = Hx
    intro eS4
    refine ⟨.ref p, rfl, .str (textF names R), rfl, p, textF names R, 5000, 11, rfl, ws.ext eS4, gtx, by decide, by decide, fun s1 H9 e9 w9 g1 => ?_⟩
    have eH9 : ExtO p Hw H9 := (eHs.trans (ExtO.of eS4)).trans e9
    dsimp only [tNext, gName, tSeq, tAsg]
    refine tfor_any (fun J H1 => ∃ (pf : Addr) (ones : List Str), J = Itl K pf ∧ (∀ o ∈ ones, goodT 100000 63 o) ∧ ones.length ≤ 4 ∧ ExtO p H9 H1 ∧ WellAt H1 p ∧ H1 pf = some (.lst (ones.map V.str)))
      (fun R' hR => ⟨.str s1, rfl, .ref p, rfl, .str s1, rfl, p, s1, 15100, 25, rfl, w9, g1, by decide, by decide, fun s2 H10 e10 w10 g2 => ⟨.str (textF names R), rfl, _, _, rfl, rfl, ?_, .str (textF names R), rfl, _, _, rfl, rfl, ?_, by show 4 ≤ _; decide, fun pf hpf => ⟨pf, rfl, ⟨_, .inl (.inl upd_same)⟩,
        hR _ _ ⟨pf, [s1, s2, textF names R ++ Str.ofString "\n", textF names R ++ Str.ofString "\n9"], rfl, ?_, Nat.le_refl 4, e10.trans (ExtO.of (Ext.upd hpf)), w10.ext (Ext.upd hpf), upd_same⟩⟩⟩⟩) ?_
    · have := gtx.1
      rw [sizeLine_eq, lenN]
      omega
    · have := gtx.1
      have l9 : (Str.ofString "\n9").length = 2 := by decide +kernel
      rw [sizeLine_eq, l9]
      omega
    · have ga : goodT 2 1 (Str.ofString "\n") := goodB_ok (by decide +kernel)
      have gb : goodT 2 1 (Str.ofString "\n9") := goodB_ok (by decide +kernel)
      intro o ho
      rcases List.mem_cons.mp ho with z | ho
      · rw [z]
        exact g1.mono (by decide) (by decide)
      rcases List.mem_cons.mp ho with z | ho
      · rw [z]
        exact g2.mono (by decide) (by decide)
      rcases List.mem_cons.mp ho with z | ho
      · rw [z]
        exact (gtx.app ga).mono (by decide) (by decide)
      rcases List.mem_cons.mp ho with z | ho
      · rw [z]
        exact (gtx.app gb).mono (by decide) (by decide)
      · cases ho
    rintro J H11 ⟨pf, ones, rfl, hones, h4, e11, w11, hpf⟩
    refine tfor_it (fun R r => r) (walk_listM ones V.str) (Pv := fun i σ' H' => ∃ q9 q10 q11 : Option V, σ' = [some (.ref a), some (.int cell), some (.ref p), some (.ref pn), some (.ref D), some (.ref x), some (.str (textF names R)), some (.ref ag), some (.str s1), q9, q10, q11, o12, none, none] ∧ Ext H11 H')
      ⟨o9, o10, o11, rfl, .rfl'⟩ (fun i σ' H' _ ⟨_, _, _, _, e⟩ => .inl (.inl (e _ _ hpf))) ?_ ?_
    · rintro i2 x2 σ' H' H12 hi2 ⟨q9, q10, q11, rfl, e12⟩ ⟨rfl, one, hy2, rfl⟩
      have gone := hones one (List.mem_of_getElem? hy2)
      have hoT := okText_of gone
      refine ⟨.str one, rfl, one, rfl, gone.1, gone.2.1, fun H13 e13 => ?_⟩
      have last : ∀ (pe : Addr) (v10 : V) (H14 : Hp), Ext H13 H14 → H14 pe = some (.tup (ansV one)) → ∀ H15 pa, Ext H14 H15 → H15 pa = some (.tup (ansV one)) → Dp K H15 (.ref pa) (dA one) ∧ Dp K H15 (.ref pe) (dA one) := fun pe v10 H14 e14 hpe H15 pa e15 hpa => ⟨dp_A hpa, dp_A (e15 _ _ hpe)⟩
      cases hst : stopF one with
      | none =>
        rw [stopV_none hst]
        refine ⟨.non, rfl, by show 3 ≤ _; decide, fun pd hpd => ⟨.non, rfl, rfl, _, rfl, iteB (fun _ => ?_) (fun z => absurd rfl (decF z))⟩⟩
        refine ⟨.str one, rfl, by show 2 ≤ _; decide, fun pe hpe => ?_⟩
        have e14 := (Ext.upd hpd).upd' (o := .tup [V.str (Str.ofString "read"), V.str one]) hpe
        refine ⟨.str one, rfl, .str one, rfl, .inr ⟨one, rfl, hoT, fun H15 pa e15 hpa hpav => ?_⟩⟩
        obtain ⟨da, db⟩ := last pe .non _ e14 (by rw [upd_same]; unfold ansV; rw [hst]) H15 pa e15 hpav
        exact ⟨.ref pe, rfl, dA one, dA one, da, db, sh_A gone.2.1, sh_A gone.2.1, _, rfl, iteB (fun z => by rw [eqv_same (sh_A gone.2.1)] at z; cases z) (fun _ => ⟨_, _, _, rfl, ((e12.trans e13).trans e14).trans e15⟩)⟩
      | some k =>
        rw [stopV_some hst]
        refine ⟨.int (k : Nat), rfl, by show 3 ≤ _; decide, fun pe hpe => ⟨.int (k : Nat), rfl, rfl, _, rfl, iteB (fun z => absurd (decT z) (by intro c; cases c)) (fun _ => ?_)⟩⟩
        have e14 := Ext.upd (o := .tup [V.str (Str.ofString "refused"), V.int (k : Nat), V.bl false]) hpe
        refine ⟨.str one, rfl, .str one, rfl, .inr ⟨one, rfl, hoT, fun H15 pa e15 hpa hpav => ?_⟩⟩
        obtain ⟨da, db⟩ := last pe (.int (k : Nat)) _ e14 (by rw [upd_same]; unfold ansV; rw [hst]) H15 pa e15 hpav
        exact ⟨.ref pe, rfl, dA one, dA one, da, db, sh_A gone.2.1, sh_A gone.2.1, _, rfl, iteB (fun z => by rw [eqv_same (sh_A gone.2.1)] at z; cases z) (fun _ => ⟨_, _, _, rfl, ((e12.trans e13).trans e14).trans e15⟩)⟩
    · rintro σ' H12 ⟨q9, q10, q11, rfl, e12⟩
      have w12 := w11.ext e12
      have eH12 : ExtO p Hw H12 := (eH9.trans e11).trans (ExtO.of e12)
      refine ⟨by show 1 ≤ _; decide, fun l1 hl1 => ⟨by show 1 ≤ _; decide, fun t1 ht1 d1 hd1 => ⟨by show 6 ≤ _; decide, fun lo hlo => ?_⟩⟩⟩
      have ea := Ext.upd (o := .lst [V.str (Str.ofString "a")]) hl1
      have eb := Ext.upd (o := .tup [V.str (Str.ofString "a")]) ht1
      have ec := Ext.upd (o := .dK []) hd1
      have ed' := Ext.upd (o := .lst [V.non, V.int 7, V.ref l1, V.ref t1, V.bl true, V.ref d1]) hlo
      have eall := ((ea.trans eb).trans ec).trans ed'
      have npl := ((((w12.ext ea).ext eb).ext ec)).ne hlo
      refine ⟨.ref p, rfl, p, 6, rfl, w12.ext eall, by decide, by decide, fun r H14 e14 w14 l14 u14 => ?_⟩
      have hlo14 := e14 _ _ (Ne.symm npl) (upd_same (H := upd (upd (upd H12 l1 (.lst [V.str (Str.ofString "a")])) t1 (.tup [V.str (Str.ofString "a")])) d1 (.dK [])) (a := lo) (o := .lst [V.non, V.int 7, V.ref l1, V.ref t1, V.bl true, V.ref d1]))
      obtain ⟨v, hv, hodd⟩ : ∃ v, atI [V.non, V.int 7, V.ref l1, V.ref t1, V.bl true, V.ref d1] r = some v ∧ Odd K H14 v := by
        rcases (show r = 0 ∨ r = 1 ∨ r = 2 ∨ r = 3 ∨ r = 4 ∨ r = 5 by omega) with z | z | z | z | z | z
        · subst z
          exact ⟨_, rfl, _, .base .non, rfl⟩
        · subst z
          exact ⟨_, rfl, _, .base (.int 7), rfl⟩
        · subst z
          exact ⟨_, rfl, _, .base (.lst (e14 _ _ (Ne.symm (w12.ne hl1)) (ed' _ _ (ec _ _ (eb _ _ upd_same))))), rfl⟩
        · subst z
          exact ⟨_, rfl, _, .base (.tup (e14 _ _ (Ne.symm ((w12.ext ea).ne ht1)) (ed' _ _ (ec _ _ upd_same)))), rfl⟩
        · subst z
          exact ⟨_, rfl, _, .base (.bl true), rfl⟩
        · subst z
          exact ⟨_, rfl, _, .base (.dK (e14 _ _ (Ne.symm (((w12.ext ea).ext eb).ne hd1)) (ed' _ _ upd_same))), rfl⟩
      refine ⟨lo, _, r, v, rfl, rfl, .inl (.inl hlo14), hv, ?_⟩
      refine ⟨v, rfl, v, rfl, .inl ⟨hodd, fun H15 pa e15 hpa hpav => ⟨1, rfl, by show 3 ≤ _; decide, fun pe hpe => ?_⟩⟩⟩
      have e16 := Ext.upd (o := .tup [V.str (Str.ofString "refused"), V.int (-1), V.bl false]) hpe
      refine ⟨dB, dB, .tup (.inl (.inl (e16 _ _ hpav))) (.cons (.str _) (.cons (.int _) (.cons (.bl _) .nil))), .tup (.inl (.inl upd_same)) (.cons (.str _) (.cons (.int _) (.cons (.bl _) .nil))), sh_B, sh_B, _, rfl, iteB (fun z => by rw [eqv_same sh_B] at z; cases z) (fun _ => ?_)⟩
      have eF : ExtO p Hw _ := ((eH12.trans (ExtO.of eall)).trans e14).trans (ExtO.of (e15.trans e16))
      exact ⟨_, _, _, _, _, _, _, _, _, _, _, _, rfl, e.trans (((ExtO.of ew).trans eF).ext hp0)⟩
end
end F89
set_option Elab.async false
set_option linter.all false
set_option maxRecDepth 100000
set_option maxHeartbeats 0
namespace F89
open PySem PySem.Spec PyProof.Rows L2
theorem facts {P : Program} {w : World} {K : PySem.W.Frag} {h : Heap} {mg : Str → Option Value} {f : Addr} (X : K.In h) (G : h.Ns mainGlobals mg) (hfa : mg ("law" : Str) = some (.ref f)) (c : He.SaysD fa fn K) (m : ex K = true) :
    ∃ fd : FuncData, (∀ (s : Shared) (v : Value), BindsTo s fd ⟨[v], []⟩ [("_law_script", v)]) ∧ ∀ base : Heap, K.In base → base.Ns mainGlobals mg → FnOk P w K mg base L2.CX0 8 f fd ["_law_script"] (spLaw K) := by
  obtain ⟨fd, F⟩ := c.def_ 26 (d := dLaw) rfl
  have e := hfa.symm.trans (He.glo_ok X G (c.fact 26 (f := .glo "law") rfl))
  cases e
  have b := FunD.bindsA (ps := ["_law_script"]) F fun _ _ _ _ _ _ us hl => match us, hl with | [_], _ => rfl
  have T : Top K mg := ⟨fun x h => He.glo_ok X G h, fun x h => He.free_ok X G h, fun x i h => He.int_ok X G h, fun x z h => He.str_ok X G h, c, m⟩
  exact ⟨fd, fun s v => b s [v] rfl, fun base _ _ => ok_law T F⟩
end F89
open PySem PySem.W PySem.Calls PyProof.Rows
theorem PySem.Challenge.cw_foldbough_k89_tables_as_texts_holds : PySem.Challenge.rw_foldbough_k89_tables_as_texts.Holds := by
  w_on; o_law
  refine HandSHeadRun.head_any (r := OpenLaw.row PySem.Challenge.rw_foldbough_k89_tables_as_texts) (q := view (OpenLaw.row PySem.Challenge.rw_foldbough_k89_tables_as_texts).prog [38]) (H := F89.hk) (ob := F89.ob) (M := 3000) (loose := F89.loose) (d := HandSHeadRun.topDef (OpenLaw.row PySem.Challenge.rw_foldbough_k89_tables_as_texts).prog 38) (kwd := []) F89.ob_eq
    (by kernel_rfl) (fun s => by kernel_rfl) F89.run (by kernel_rfl) (by kernel_rfl) (by kernel_rfl) (by rfl) (by first | assumption | decide +kernel) (by decide +kernel) ⟨rfl, rfl, rfl, rfl, rfl, by decide +kernel⟩ ?hw ?hc
  case hw => w_witness2
  case hc =>
    refine L2.walk_ofE (l := PySem.Challenge.rw_foldbough_k89_tables_as_texts) (n := 63) (k := 8) (x := "_law_script") (CX := L2.CX0) rfl (by decide) (by kernel_rfl) ⟨rfl, by decide, by decide⟩ ?F (fun _ _ _ _ z => z)
    intro w mg fa h Y G hmg0
    obtain ⟨K, KX, c, m⟩ := Y
    have hmg : mg ("law" : PySem.Str) = some (.ref fa) := by
      have e : (HandSHeadRun.topDef (OpenLaw.row PySem.Challenge.rw_foldbough_k89_tables_as_texts).prog 38).name = ("law" : PySem.Str) := by kernel_rfl
      rw [← e]
      exact hmg0
    obtain ⟨fd, hb, hF⟩ := F89.facts (P := (PySem.Challenge.rw_foldbough_k89_tables_as_texts).prog) (w := w) KX G hmg c m
    exact ⟨K, fd, F89.spLaw K, KX, hb, fun H a ns hl _ hS => ⟨a, ns, rfl, hS, hl, fun _ => rfl⟩, hF⟩
