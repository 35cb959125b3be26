import PyProof.Rows.All
import Wide.All
import OpenK.AllK
import Wide.FinOn
import KE.KStateDown
import HandS.ForMost
import HandS.ForExc
import HandS.Flow
import HandS.Walk
import HandS.IsInst
import HandS.Defaults
import HandS.Style
import HandS.More
import HandS.Codes
import HandS.ExcInit
import HandS.ExcIs
import HandS.ClsMeth
import HandS.HeadHook1
import HandS.Ends
import HandS.Words
import HandS.WordsExc
import HandS.Head0
import HandS.Head1
import HandS.Head2
import HandS.HeadEnd
import HandS.HeadHook2
import PyProof.Rows.StrMeet
import PyProof.ReprLen
import PyProof.StrLawsRepr
import HandS.Text
import HandS.Strs
import HandS.TupSets
import HandS.Dict
import KE.KExcIs
import HandS.ExcField
import HandS.HotCalls
import HandS.ExcOwn
import PyProof.ReprRoads
import HandS.DictComp
import PySem.Challenge.RW_stillmain_k68_whole_jobs_on_a_board
set_option Elab.async false
set_option linter.all false
set_option maxRecDepth 100000
set_option maxHeartbeats 0
namespace Sm
open PySem PySem.Spec PyProof.Rows L2
/-! ### the text by places -/
def top (i : Nat) : Stmt := PySem.Challenge.pw_stillmain_k68_whole_jobs_on_a_board.main.body.getD i (.Pass ⟨0, 0, 0, 0⟩)
abbrev sXWrong_init : Stmt := inClass (top 3) 0
abbrev sXThere_init : Stmt := inClass (top 4) 0
abbrev sXLacks_init : Stmt := inClass (top 5) 0
abbrev sXTooMany_init : Stmt := inClass (top 6) 0
abbrev sXInUse_init : Stmt := inClass (top 7) 0
abbrev sXHeld_init : Stmt := inClass (top 8) 0
abbrev sXStuck_init : Stmt := inClass (top 9) 0
abbrev sXNotNow_init : Stmt := inClass (top 10) 0
abbrev s_is_name : Stmt := top 16
abbrev s_is_position : Stmt := top 17
abbrev s_are_names : Stmt := top 18
abbrev s_is_stretch : Stmt := top 19
abbrev s_wrong_unless : Stmt := top 24
abbrev s_lacks_unless : Stmt := top 25
abbrev s_is_crew : Stmt := top 26
abbrev sB_init : Stmt := inClass (top 27) 0
abbrev sB_hands_beside : Stmt := inClass (top 27) 1
abbrev sB_refuse_held : Stmt := inClass (top 27) 2
abbrev sB_refuse_stuck : Stmt := inClass (top 27) 3
abbrev sB_add : Stmt := inClass (top 27) 4
abbrev sB_crew : Stmt := inClass (top 27) 6
abbrev sB_leave : Stmt := inClass (top 27) 7
abbrev sB_turn : Stmt := inClass (top 27) 8
abbrev sB_stick : Stmt := inClass (top 27) 9
abbrev sB_mend : Stmt := inClass (top 27) 10
abbrev sB_hold : Stmt := inClass (top 27) 11
abbrev sB_free : Stmt := inClass (top 27) 12
abbrev sB_devices : Stmt := inClass (top 27) 13
abbrev sB_jobs : Stmt := inClass (top 27) 14
abbrev sB_stands : Stmt := inClass (top 27) 15
abbrev sB_home : Stmt := inClass (top 27) 16
abbrev sB_is_stuck : Stmt := inClass (top 27) 17
abbrev sB_jobs_on : Stmt := inClass (top 27) 18
abbrev sB_tags : Stmt := inClass (top 27) 19
abbrev sB_crew_of : Stmt := inClass (top 27) 20
abbrev sB_held_by : Stmt := inClass (top 27) 21
abbrev s_need : Stmt := top 30
abbrev s_are_apart : Stmt := top 31
abbrev sJ_init : Stmt := inClass (top 32) 0
abbrev sJ_need_phase : Stmt := inClass (top 32) 1
abbrev sJ_need_alone : Stmt := inClass (top 32) 2
abbrev sJ_hangs_at : Stmt := inClass (top 32) 3
abbrev sJ_steps_still : Stmt := inClass (top 32) 4
abbrev sJ_steps_trial : Stmt := inClass (top 32) 5
abbrev sJ_steps_away : Stmt := inClass (top 32) 6
abbrev sJ_steps : Stmt := inClass (top 32) 7
abbrev sJ_step : Stmt := inClass (top 32) 8
abbrev sJ_settle : Stmt := inClass (top 32) 9
abbrev sJ_begin : Stmt := inClass (top 32) 10
abbrev sJ_give : Stmt := inClass (top 32) 11
abbrev sJ_try_out : Stmt := inClass (top 32) 12
abbrev sJ_go_on : Stmt := inClass (top 32) 13
abbrev sJ_put_by : Stmt := inClass (top 32) 14
abbrev sJ_end : Stmt := inClass (top 32) 15
abbrev sJ_sign_on : Stmt := inClass (top 32) 16
abbrev sJ_sign_off : Stmt := inClass (top 32) 17
abbrev sJ_hand_over : Stmt := inClass (top 32) 18
abbrev sJ_called : Stmt := inClass (top 32) 19
abbrev sJ_phase : Stmt := inClass (top 32) 20
abbrev sJ_stretch : Stmt := inClass (top 32) 21
abbrev sJ_switches : Stmt := inClass (top 32) 22
abbrev sJ_drains : Stmt := inClass (top 32) 23
abbrev sJ_crew_now : Stmt := inClass (top 32) 24
abbrev s_lbag : Stmt := top 34
abbrev s_ltake : Stmt := top 35
abbrev s_lalike : Stmt := top 36
abbrev s_lname : Stmt := top 37
abbrev s_lnames : Stmt := top 38
abbrev s_lfresh : Stmt := top 39
abbrev s_lhands : Stmt := top 40
abbrev s_lsteps : Stmt := top 41
abbrev s_ldue_step : Stmt := top 42
abbrev s_ldue_crew : Stmt := top 43
abbrev s_ldue_board : Stmt := top 44
abbrev s_ldue : Stmt := top 45
abbrev s_lover : Stmt := top 46
abbrev s_ldo_step : Stmt := top 47
abbrev s_ldo_job : Stmt := top 48
abbrev s_ldo : Stmt := top 49
abbrev s_lcall : Stmt := top 50
abbrev s_lcall_job : Stmt := top 51
abbrev s_lclass : Stmt := top 52
abbrev s_lsay : Stmt := top 53
abbrev s_lsame_device : Stmt := top 54
abbrev s_lsame_job : Stmt := top 55
abbrev s_lsame : Stmt := top 56
abbrev s_lone : Stmt := top 57
abbrev s_lworld : Stmt := top 58
abbrev s_llaid : Stmt := top 59
abbrev s_lsome : Stmt := top 60
abbrev s_lbegin : Stmt := top 61
abbrev s_lnatural : Stmt := top 62
abbrev s_lany : Stmt := top 63
abbrev s_ldeed : Stmt := top 64
abbrev s_lended : Stmt := top 65
abbrev s_law : Stmt := top 66
/-! ### a def of the text; what it keeps; its calls -/
/-- a global def of the text -/
def FnT (K : PySem.W.Frag) (mg : Str → Option Value) (x : Str) (st : Stmt) (ps : List Str) : Prop :=
  ∃ f fd, FunD K x x (defArgs st) (defBody st) (defScope st) [] [] f fd ∧ mg x = some (.ref f) ∧ Binds K fd ps []
/-- a method of the class at C -/
def MtT (K : PySem.W.Frag) (C : Addr) (m qual : Str) (st : Stmt) (ps : List Str) : Prop :=
  ∃ f fd, FunD K m qual (defArgs st) (defBody st) (defScope st) [] [] f fd ∧ Meth K C m f ∧ Binds K fd ps []
section
variable (P : Program) (w : World) (K : PySem.W.Frag) (mg : Str → Option Value) (base : Heap)
/-- the global x keeps sp -/
def GFn (CX : CXT) (k : Nat) (x : Str) (ps : List Str) (sp : Sp) : Prop :=
  ∃ f fd, FnOk P w K mg base CX k f fd ps sp ∧ mg x = some (.ref f) ∧ PySem.W.keepIn K (.ref f) = true ∧ Binds K fd ps []
/-- the method m of the class at C keeps sp -/
def MFn (CX : CXT) (k : Nat) (C : Addr) (m : Str) (ps : List Str) (sp : Sp) : Prop :=
  ∃ f fd, FnOk P w K mg base CX k f fd ps sp ∧ Meth K C m f ∧ Binds K fd ps []
end
section
variable {P : Program} {w : World} {K : PySem.W.Frag} {mg : Str → Option Value} {base : Heap} {x m qual : Str} {st : Stmt} {ps N : List Str} {C : Addr} {CX : CXT} {k : Nat} {sp : Sp}
theorem FnT.ok (F : FnT K mg x st ps) (S : FnScope N ps (defScope st)) (len : ∀ vs H Q E, sp vs H Q E → vs.length = ps.length)
    (hbody : ∀ (f : Addr) (cdv : Value) (A : Around) (outer : List Env) (s : Shared) (H : Hp) (vs : List V) (Q : VK) (E : XK), Room k (A.deeper (envOfC x (defScope st) s.heap.objs.size f cdv)) → sp vs H Q E →
      ∃ t, PSs (cxOf CX P w K mg base N x (defScope st) f cdv A outer s H E) (defBody st) t ∧ t { nx := fun _ H' => Q .non H', rt := Q } (start N vs) H) : GFn P w K mg base CX (k + 1) x ps sp := by
  obtain ⟨f, fd, F, hm, hb⟩ := F
  exact ⟨f, fd, F.ok S len (hbody f), hm, F.kp, hb⟩
theorem MtT.ok (F : MtT K C m qual st ps) (S : FnScope N ps (defScope st)) (len : ∀ vs H Q E, sp vs H Q E → vs.length = ps.length)
    (hbody : ∀ (f : Addr) (cdv : Value) (A : Around) (outer : List Env) (s : Shared) (H : Hp) (vs : List V) (Q : VK) (E : XK), Room k (A.deeper (envOfC qual (defScope st) s.heap.objs.size f cdv)) → sp vs H Q E →
      ∃ t, PSs (cxOf CX P w K mg base N qual (defScope st) f cdv A outer s H E) (defBody st) t ∧ t { nx := fun _ H' => Q .non H', rt := Q } (start N vs) H) : MFn P w K mg base CX (k + 1) C m ps sp := by
  obtain ⟨f, fd, F, hm, hb⟩ := F
  exact ⟨f, fd, F.ok S len (hbody f), hm, hb⟩
/-- the same of a def that lets nothing out -/
theorem FnT.ok0 (F : FnT K mg x st ps) (S : FnScope N ps (defScope st)) (len : ∀ vs H Q E, sp vs H Q E → vs.length = ps.length)
    (hbody : ∀ (f : Addr) (cdv : Value) (A : Around) (outer : List Env) (s : Shared) (H : Hp) (vs : List V) (Q : VK) (E : XK), Room k (A.deeper (envOfC x (defScope st) s.heap.objs.size f cdv)) → sp vs H Q E →
      ∃ t, PSs (cxOf CX0 P w K mg base N x (defScope st) f cdv A outer s H E).nox (defBody st) t ∧ t { nx := fun _ H' => Q .non H', rt := Q } (start N vs) H) : GFn P w K mg base CX0 (k + 1) x ps sp :=
  F.ok S len fun f cdv A outer s H vs Q E hr h => let ⟨t, h1, h2⟩ := hbody f cdv A outer s H vs Q E hr h; ⟨t, h1.nox, h2⟩
theorem MtT.ok0 (F : MtT K C m qual st ps) (S : FnScope N ps (defScope st)) (len : ∀ vs H Q E, sp vs H Q E → vs.length = ps.length)
    (hbody : ∀ (f : Addr) (cdv : Value) (A : Around) (outer : List Env) (s : Shared) (H : Hp) (vs : List V) (Q : VK) (E : XK), Room k (A.deeper (envOfC qual (defScope st) s.heap.objs.size f cdv)) → sp vs H Q E →
      ∃ t, PSs (cxOf CX0 P w K mg base N qual (defScope st) f cdv A outer s H E).nox (defBody st) t ∧ t { nx := fun _ H' => Q .non H', rt := Q } (start N vs) H) : MFn P w K mg base CX0 (k + 1) C m ps sp :=
  F.ok S len fun f cdv A outer s H vs Q E hr h => let ⟨t, h1, h2⟩ := hbody f cdv A outer s H vs Q E hr h; ⟨t, h1.nox, h2⟩
theorem GFn.mono {j : Nat} (h : GFn P w K mg base CX j x ps sp) (hj : j ≤ k) : GFn P w K mg base CX k x ps sp := let ⟨f, fd, F, r⟩ := h; ⟨f, fd, F.mono hj, r⟩
theorem MFn.mono {j : Nat} (h : MFn P w K mg base CX j C m ps sp) (hj : j ≤ k) : MFn P w K mg base CX k C m ps sp := let ⟨f, fd, F, r⟩ := h; ⟨f, fd, F.mono hj, r⟩
end
section
variable {X : Cx} {CX : CXT} {k : Nat} {ps : List Str} {sp : Sp} {E : XK} {C : Addr} {x m : Str} {p pos apos : Pos} {e o : Expr} {es : List Expr} {ta : TE} {t : TA}
theorem pe_fn (F : GFn X.prog X.w X.K X.mg X.base CX k x ps sp) (hr : Room k X.A) (hx : Passes CX X E) (ha : PA X (e :: es) t) (hg : Gl X x := by rfl)
    (hdb : (x == ("__debug__" : Str)) = false := by decide) (he : starEach (e :: es) X.env = (false, eval e X.env) :: starEach es X.env := by rfl) (hpl : (backTo pos (starEach es X.env)).any (·.1) = false := by rfl) :
    PE X (.Call (.Name x p) (e :: es) [] pos) (tCall sp [] E t) := by
  obtain ⟨f, fd, F, hm, hk, hb⟩ := F
  exact pe_call F hr hg hm hk hb .nil hx ha hdb he hpl
theorem pe_fn0 (F : GFn X.prog X.w X.K X.mg X.base CX k x ps sp) (hr : Room k X.A) (hx : Passes CX X E) (hg : Gl X x := by rfl) (hdb : (x == ("__debug__" : Str)) = false := by decide) :
    PE X (.Call (.Name x p) [] [] pos) (tCall sp [] E tNil) := by
  obtain ⟨f, fd, F, hm, hk, hb⟩ := F
  exact pe_call0 F hr hg hm hk hb .nil hx hdb
theorem pe_mth {pl : Sem Bool} (he : PE X o ta) (c : Cls X.K C) (F : MFn X.prog X.w X.K X.mg X.base CX k C m ps sp) (hr : Room k X.A) (hx : Passes CX X E) (ha : PA X (e :: es) t)
    (hst : starEach (e :: es) X.env = (false, eval e X.env) :: starEach es X.env := by rfl) (hpl : (backTo pos (starEach es X.env)).any (·.1) = false := by rfl)
    (ht : eval (.Call (.Attribute o m apos) (e :: es) [] pos) X.env = (do
      let ov ← eval o X.env
      standAt apos.atName
      let (f, first) ← holding [ov] (getMethod ov m pl)
      callWith pos f first (backTo pos (starEach (e :: es) X.env)) (backToKw pos (keywordEach [] X.env))) := by rfl) :
    PE X (.Call (.Attribute o m apos) (e :: es) [] pos) (tMeth C m sp [] E ta t) := by
  obtain ⟨f, fd, F, hm, hb⟩ := F
  exact pe_meth he c hm F hr hb .nil hx ha hst hpl ht
theorem pe_mth0 {pl : Sem Bool} (he : PE X o ta) (c : Cls X.K C) (F : MFn X.prog X.w X.K X.mg X.base CX k C m ps sp) (hr : Room k X.A) (hx : Passes CX X E)
    (ht : eval (.Call (.Attribute o m apos) [] [] pos) X.env = (do
      let ov ← eval o X.env
      standAt apos.atName
      let (f, first) ← holding [ov] (getMethod ov m pl)
      callWith pos f first (backTo pos (starEach [] X.env)) (backToKw pos (keywordEach [] X.env))) := by rfl) :
    PE X (.Call (.Attribute o m apos) [] [] pos) (tMeth C m sp [] E ta tNil) := by
  obtain ⟨f, fd, F, hm, hb⟩ := F
  exact pe_meth0 he c hm F hr hb .nil hx ht
end
theorem sz_of {n : Nat} (h : n ≤ 100000) : n ≤ sizeLine := Nat.le_trans h (by decide)
theorem sz_lt {n : Nat} (h : n < 100000) : n < sizeLine := Nat.lt_of_lt_of_le h (by decide)
/-! ### names -/
def abc : Str := "abcdefghijklmnopqrstuvwxyz"
def IsName (x : Str) : Prop := 1 ≤ x.length ∧ x.length ≤ 8 ∧ ∀ c ∈ x.cps.toList, c ∈ abc.cps.toList
def IsPos (x : Str) : Prop := x = "open" ∨ x = "shut"
/-- names, no two alike -/
structure Names (l : List Str) (n : Nat) : Prop where
  all : ∀ x ∈ l, IsName x
  nd : l.Nodup
  len : l.length ≤ n
def vstrs (l : List Str) : List V := l.map V.str
/-! ### what the top has written -/
abbrev cB (K : PySem.W.Frag) : Addr := He.ga K "Board"
abbrev cJ (K : PySem.W.Frag) : Addr := He.ga K "Job"
abbrev cX (K : PySem.W.Frag) (x : Str) : Addr := He.ga K x
/-- a class of the text that is made by its __init__ -/
def MkT (K : PySem.W.Frag) (mg : Str → Option Value) (C : Addr) (x qual : Str) (st : Stmt) (ps : List Str) : Prop :=
  ∃ f fd, FunD K "__init__" qual (defArgs st) (defBody st) (defScope st) [] [] f fd ∧ Mk K C f ∧ mg x = some (.ref C) ∧ Binds K fd ps []
/-- the refusals that may be met -/
def seven : List Str := ["There", "Lacks", "Stuck", "TooMany", "Held", "NotNow", "Wrong"]
/-- a class of refusals: x its name, fld its field -/
structure ExcT (K : PySem.W.Frag) (mg : Str → Option Value) (x fld qual : Str) (st : Stmt) : Prop where
  o : OexC K (cX K x)
  no : PySem.W.findIn K (.ref (cX K x)) fld = some none
  ini : ∃ f fd, FunD K "__init__" qual (defArgs st) (defBody st) (defScope st) [] [] f fd ∧ PySem.W.findIn K (.ref (cX K x)) "__init__" = some (some (.ref f)) ∧ PySem.W.typeIn K (.ref f) = some (.type "function") ∧ Binds K fd ["self", fld] []
  gm : mg x = some (.ref (cX K x))
  exm : PySem.W.exmOne K (.ref (cX K x)) (.ref (cX K "MainsError")) = some true
  ec : ExcC K (cX K x)
  kit : ∀ y ∈ seven, PySem.W.kitOne K (.ref (cX K x)) (.ref (cX K y)) = some (decide (x = y))
  kve : PySem.W.kitOne K (.ref (cX K x)) (.type "ValueError") = some true
/-- MainsError -/
structure MeT (K : PySem.W.Frag) (mg : Str → Option Value) : Prop where
  gm : mg "MainsError" = some (.ref (cX K "MainsError"))
  rd : ∃ mc, ClX.CRead K (cX K "MainsError") mc ∧ PySem.W.findCls K (.ref (cX K "MainsError")) mc "__init__" = some (.val (.builtin "ValueError.__init__"))
structure Txt (K : PySem.W.Frag) (mg : Str → Option Value) : Prop where
  b_isinstance : mg "isinstance" = none
  b_str : mg "str" = none
  b_list : mg "list" = none
  b_len : mg "len" = none
  b_sorted : mg "sorted" = none
  b_set : mg "set" = none
  b_dict : mg "dict" = none
  b_abs : mg "abs" = none
  b_min : mg "min" = none
  b_range : mg "range" = none
  b_enumerate : mg "enumerate" = none
  b_int : mg "int" = none
  b_repr : mg "repr" = none
  b_all : mg "all" = none
  b_ValueError : mg "ValueError" = none
  g_LETTERS : ∃ t, mg "LETTERS" = some (.str abc t)
  g_LONGEST : ∃ t, mg "LONGEST" = some (.int 8 t)
  g_MOST_NAMES : ∃ t, mg "MOST_NAMES" = some (.int 60 t)
  g_MOST_STRETCH : ∃ t, mg "MOST_STRETCH" = some (.int 24 t)
  g_MOST_DEVICES : ∃ t, mg "MOST_DEVICES" = some (.int 52 t)
  g_MOST_JOBS : ∃ t, mg "MOST_JOBS" = some (.int 8 t)
  g_MOST_HANDS_board : ∃ t, mg "MOST_HANDS_board" = some (.int 6 t)
  g_MOST_HANDS_job : ∃ t, mg "MOST_HANDS_job" = some (.int 6 t)
  g_Board : mg "Board" = some (.ref (cB K))
  clB : Cls K (cB K)
  iB : C8.InsC K (cB K)
  nB_stand_of : NoAttr K (cB K) "stand_of"
  nB_home_of : NoAttr K (cB K) "home_of"
  nB_fast : NoAttr K (cB K) "fast"
  nB_marks_of : NoAttr K (cB K) "marks_of"
  nB_crew_rows : NoAttr K (cB K) "crew_rows"
  clJ : Cls K (cJ K)
  nJ_at_board : NoAttr K (cJ K) "at_board"
  nJ_named : NoAttr K (cJ K) "named"
  nJ_about : NoAttr K (cJ K) "about"
  nJ_now : NoAttr K (cJ K) "now"
  nJ_ending : NoAttr K (cJ K) "ending"
  nJ_cutting : NoAttr K (cJ K) "cutting"
  nJ_emptying : NoAttr K (cJ K) "emptying"
  x_Wrong : ExcT K mg "Wrong" "at" "Wrong.__init__" sXWrong_init
  x_There : ExcT K mg "There" "name" "There.__init__" sXThere_init
  x_Lacks : ExcT K mg "Lacks" "name" "Lacks.__init__" sXLacks_init
  x_TooMany : ExcT K mg "TooMany" "most" "TooMany.__init__" sXTooMany_init
  x_InUse : ExcT K mg "InUse" "name" "InUse.__init__" sXInUse_init
  x_Held : ExcT K mg "Held" "hands" "Held.__init__" sXHeld_init
  x_Stuck : ExcT K mg "Stuck" "name" "Stuck.__init__" sXStuck_init
  x_NotNow : ExcT K mg "NotNow" "job" "NotNow.__init__" sXNotNow_init
  f_is_name : FnT K mg "is_name" s_is_name ["thing"]
  f_is_position : FnT K mg "is_position" s_is_position ["thing"]
  f_are_names : FnT K mg "are_names" s_are_names ["thing"]
  f_is_stretch : FnT K mg "is_stretch" s_is_stretch ["thing"]
  f_wrong_unless : FnT K mg "wrong_unless" s_wrong_unless ["at", "good"]
  f_lacks_unless : FnT K mg "lacks_unless" s_lacks_unless ["name", "some"]
  f_is_crew : FnT K mg "is_crew" s_is_crew ["thing"]
  k_B : MkT K mg (cB K) "Board" "Board.__init__" sB_init ["self"]
  m_B_hands_beside : MtT K (cB K) "hands_beside" "Board.hands_beside" sB_hands_beside ["self", "device", "job"]
  m_B_refuse_held : MtT K (cB K) "refuse_held" "Board.refuse_held" sB_refuse_held ["self", "device", "job"]
  m_B_refuse_stuck : MtT K (cB K) "refuse_stuck" "Board.refuse_stuck" sB_refuse_stuck ["self", "device"]
  m_B_add : MtT K (cB K) "add" "Board.add" sB_add ["self", "device", "position"]
  m_B_crew : MtT K (cB K) "crew" "Board.crew" sB_crew ["self", "job", "hands"]
  m_B_leave : MtT K (cB K) "leave" "Board.leave" sB_leave ["self", "job"]
  m_B_turn : MtT K (cB K) "turn" "Board.turn" sB_turn ["self", "device", "position"]
  m_B_stick : MtT K (cB K) "stick" "Board.stick" sB_stick ["self", "device"]
  m_B_mend : MtT K (cB K) "mend" "Board.mend" sB_mend ["self", "device"]
  m_B_hold : MtT K (cB K) "hold" "Board.hold" sB_hold ["self", "device", "position", "job"]
  m_B_free : MtT K (cB K) "free" "Board.free" sB_free ["self", "device", "job"]
  m_B_devices : MtT K (cB K) "devices" "Board.devices" sB_devices ["self"]
  m_B_jobs : MtT K (cB K) "jobs" "Board.jobs" sB_jobs ["self"]
  m_B_stands : MtT K (cB K) "stands" "Board.stands" sB_stands ["self", "device"]
  m_B_home : MtT K (cB K) "home" "Board.home" sB_home ["self", "device"]
  m_B_is_stuck : MtT K (cB K) "is_stuck" "Board.is_stuck" sB_is_stuck ["self", "device"]
  m_B_jobs_on : MtT K (cB K) "jobs_on" "Board.jobs_on" sB_jobs_on ["self", "device"]
  m_B_tags : MtT K (cB K) "tags" "Board.tags" sB_tags ["self", "device"]
  m_B_crew_of : MtT K (cB K) "crew_of" "Board.crew_of" sB_crew_of ["self", "job"]
  m_B_held_by : MtT K (cB K) "held_by" "Board.held_by" sB_held_by ["self", "job"]
  f_need : FnT K mg "need" s_need ["at", "good"]
  f_are_apart : FnT K mg "are_apart" s_are_apart ["ones", "others"]
  k_J : MkT K mg (cJ K) "Job" "Job.__init__" sJ_init ["self", "board", "name", "hand", "rooms"]
  m_J_need_phase : MtT K (cJ K) "need_phase" "Job.need_phase" sJ_need_phase ["self", "some"]
  m_J_need_alone : MtT K (cJ K) "need_alone" "Job.need_alone" sJ_need_alone ["self"]
  m_J_hangs_at : MtT K (cJ K) "hangs_at" "Job.hangs_at" sJ_hangs_at ["self", "device", "position"]
  m_J_steps_still : MtT K (cJ K) "steps_still" "Job.steps_still" sJ_steps_still ["self"]
  m_J_steps_trial : MtT K (cJ K) "steps_trial" "Job.steps_trial" sJ_steps_trial ["self"]
  m_J_steps_away : MtT K (cJ K) "steps_away" "Job.steps_away" sJ_steps_away ["self"]
  m_J_steps : MtT K (cJ K) "steps" "Job.steps" sJ_steps ["self"]
  m_J_step : MtT K (cJ K) "step" "Job.step" sJ_step ["self"]
  m_J_settle : MtT K (cJ K) "settle" "Job.settle" sJ_settle ["self"]
  m_J_begin : MtT K (cJ K) "begin" "Job.begin" sJ_begin ["self", "switches", "drains"]
  m_J_give : MtT K (cJ K) "give" "Job.give" sJ_give ["self"]
  m_J_try_out : MtT K (cJ K) "try_out" "Job.try_out" sJ_try_out ["self"]
  m_J_go_on : MtT K (cJ K) "go_on" "Job.go_on" sJ_go_on ["self"]
  m_J_put_by : MtT K (cJ K) "put_by" "Job.put_by" sJ_put_by ["self"]
  m_J_end : MtT K (cJ K) "end" "Job.end" sJ_end ["self"]
  m_J_sign_on : MtT K (cJ K) "sign_on" "Job.sign_on" sJ_sign_on ["self", "hand"]
  m_J_sign_off : MtT K (cJ K) "sign_off" "Job.sign_off" sJ_sign_off ["self", "hand"]
  m_J_hand_over : MtT K (cJ K) "hand_over" "Job.hand_over" sJ_hand_over ["self", "one", "other"]
  m_J_called : MtT K (cJ K) "called" "Job.called" sJ_called ["self"]
  m_J_phase : MtT K (cJ K) "phase" "Job.phase" sJ_phase ["self"]
  m_J_stretch : MtT K (cJ K) "stretch" "Job.stretch" sJ_stretch ["self"]
  m_J_switches : MtT K (cJ K) "switches" "Job.switches" sJ_switches ["self"]
  m_J_drains : MtT K (cJ K) "drains" "Job.drains" sJ_drains ["self"]
  m_J_crew_now : MtT K (cJ K) "crew_now" "Job.crew_now" sJ_crew_now ["self"]
  f_l_bag : FnT K mg "_law_bag" s_lbag ["_law_script"]
  f_l_take : FnT K mg "_law_take" s_ltake ["_law_bag_here", "_law_many"]
  f_l_alike : FnT K mg "_law_alike" s_lalike ["_law_found", "_law_due_here"]
  f_l_name : FnT K mg "_law_name" s_lname ["_law_bag_here"]
  f_l_names : FnT K mg "_law_names" s_lnames ["_law_bag_here", "_law_many"]
  f_l_fresh : FnT K mg "_law_fresh" s_lfresh []
  f_l_hands : FnT K mg "_law_hands" s_lhands ["_law_m", "_law_jobs"]
  f_l_steps : FnT K mg "_law_steps" s_lsteps ["_law_m", "_law_job"]
  f_l_due_step : FnT K mg "_law_due_step" s_ldue_step ["_law_m", "_law_job"]
  f_l_due_crew : FnT K mg "_law_due_crew" s_ldue_crew ["_law_m", "_law_deed_here"]
  f_l_due_board : FnT K mg "_law_due_board" s_ldue_board ["_law_m", "_law_deed_here"]
  f_l_due : FnT K mg "_law_due" s_ldue ["_law_m", "_law_deed_here"]
  f_l_over : FnT K mg "_law_over" s_lover ["_law_m", "_law_job"]
  f_l_do_step : FnT K mg "_law_do_step" s_ldo_step ["_law_m", "_law_job"]
  f_l_do_job : FnT K mg "_law_do_job" s_ldo_job ["_law_m", "_law_deed_here"]
  f_l_do : FnT K mg "_law_do" s_ldo ["_law_m", "_law_deed_here"]
  f_l_call : FnT K mg "_law_call" s_lcall ["_law_board", "_law_here", "_law_deed_here"]
  f_l_call_job : FnT K mg "_law_call_job" s_lcall_job ["_law_job", "_law_deed_here"]
  f_l_class : FnT K mg "_law_class" s_lclass ["_law_e"]
  f_l_say : FnT K mg "_law_say" s_lsay ["_law_board", "_law_here", "_law_deed_here"]
  f_l_same_device : FnT K mg "_law_same_device" s_lsame_device ["_law_board", "_law_m", "_law_name_here"]
  f_l_same_job : FnT K mg "_law_same_job" s_lsame_job ["_law_here", "_law_m", "_law_name_here"]
  f_l_same : FnT K mg "_law_same" s_lsame ["_law_board", "_law_here", "_law_m"]
  f_l_one : FnT K mg "_law_one" s_lone ["_law_bag_here", "_law_some_here"]
  f_l_world : FnT K mg "_law_world" s_lworld ["_law_bag_here"]
  f_l_laid : FnT K mg "_law_laid" s_llaid ["_law_bag_here", "_law_board", "_law_m", "_law_world_here"]
  f_l_some : FnT K mg "_law_some" s_lsome ["_law_bag_here", "_law_some_here"]
  f_l_begin : FnT K mg "_law_begin" s_lbegin ["_law_bag_here", "_law_m", "_law_world_here", "_law_job"]
  f_l_natural : FnT K mg "_law_natural" s_lnatural ["_law_bag_here", "_law_m", "_law_world_here", "_law_job"]
  f_l_any : FnT K mg "_law_any" s_lany ["_law_bag_here", "_law_m", "_law_world_here", "_law_job"]
  f_l_deed : FnT K mg "_law_deed" s_ldeed ["_law_bag_here", "_law_m", "_law_world_here"]
  f_l_ended : FnT K mg "_law_ended" s_lended ["_law_job", "_law_name_here"]
  me : MeT K mg
end Sm
namespace Sm
open PySem PySem.Spec PyProof.Rows L2
def dXWrong_init : He.DefD := ⟨("Wrong", some "__init__"), "__init__", "Wrong.__init__", defArgs sXWrong_init, defBody sXWrong_init, defScope sXWrong_init, [], []⟩
def dXThere_init : He.DefD := ⟨("There", some "__init__"), "__init__", "There.__init__", defArgs sXThere_init, defBody sXThere_init, defScope sXThere_init, [], []⟩
def dXLacks_init : He.DefD := ⟨("Lacks", some "__init__"), "__init__", "Lacks.__init__", defArgs sXLacks_init, defBody sXLacks_init, defScope sXLacks_init, [], []⟩
def dXTooMany_init : He.DefD := ⟨("TooMany", some "__init__"), "__init__", "TooMany.__init__", defArgs sXTooMany_init, defBody sXTooMany_init, defScope sXTooMany_init, [], []⟩
def dXInUse_init : He.DefD := ⟨("InUse", some "__init__"), "__init__", "InUse.__init__", defArgs sXInUse_init, defBody sXInUse_init, defScope sXInUse_init, [], []⟩
def dXHeld_init : He.DefD := ⟨("Held", some "__init__"), "__init__", "Held.__init__", defArgs sXHeld_init, defBody sXHeld_init, defScope sXHeld_init, [], []⟩
def dXStuck_init : He.DefD := ⟨("Stuck", some "__init__"), "__init__", "Stuck.__init__", defArgs sXStuck_init, defBody sXStuck_init, defScope sXStuck_init, [], []⟩
def dXNotNow_init : He.DefD := ⟨("NotNow", some "__init__"), "__init__", "NotNow.__init__", defArgs sXNotNow_init, defBody sXNotNow_init, defScope sXNotNow_init, [], []⟩
def d_is_name : He.DefD := ⟨("is_name", none), "is_name", "is_name", defArgs s_is_name, defBody s_is_name, defScope s_is_name, [], []⟩
def d_is_position : He.DefD := ⟨("is_position", none), "is_position", "is_position", defArgs s_is_position, defBody s_is_position, defScope s_is_position, [], []⟩
def d_are_names : He.DefD := ⟨("are_names", none), "are_names", "are_names", defArgs s_are_names, defBody s_are_names, defScope s_are_names, [], []⟩
def d_is_stretch : He.DefD := ⟨("is_stretch", none), "is_stretch", "is_stretch", defArgs s_is_stretch, defBody s_is_stretch, defScope s_is_stretch, [], []⟩
def d_wrong_unless : He.DefD := ⟨("wrong_unless", none), "wrong_unless", "wrong_unless", defArgs s_wrong_unless, defBody s_wrong_unless, defScope s_wrong_unless, [], []⟩
def d_lacks_unless : He.DefD := ⟨("lacks_unless", none), "lacks_unless", "lacks_unless", defArgs s_lacks_unless, defBody s_lacks_unless, defScope s_lacks_unless, [], []⟩
def d_is_crew : He.DefD := ⟨("is_crew", none), "is_crew", "is_crew", defArgs s_is_crew, defBody s_is_crew, defScope s_is_crew, [], []⟩
def dB_init : He.DefD := ⟨("Board", some "__init__"), "__init__", "Board.__init__", defArgs sB_init, defBody sB_init, defScope sB_init, [], []⟩
def dB_hands_beside : He.DefD := ⟨("Board", some "hands_beside"), "hands_beside", "Board.hands_beside", defArgs sB_hands_beside, defBody sB_hands_beside, defScope sB_hands_beside, [], []⟩
def dB_refuse_held : He.DefD := ⟨("Board", some "refuse_held"), "refuse_held", "Board.refuse_held", defArgs sB_refuse_held, defBody sB_refuse_held, defScope sB_refuse_held, [], []⟩
def dB_refuse_stuck : He.DefD := ⟨("Board", some "refuse_stuck"), "refuse_stuck", "Board.refuse_stuck", defArgs sB_refuse_stuck, defBody sB_refuse_stuck, defScope sB_refuse_stuck, [], []⟩
def dB_add : He.DefD := ⟨("Board", some "add"), "add", "Board.add", defArgs sB_add, defBody sB_add, defScope sB_add, [], []⟩
def dB_crew : He.DefD := ⟨("Board", some "crew"), "crew", "Board.crew", defArgs sB_crew, defBody sB_crew, defScope sB_crew, [], []⟩
def dB_leave : He.DefD := ⟨("Board", some "leave"), "leave", "Board.leave", defArgs sB_leave, defBody sB_leave, defScope sB_leave, [], []⟩
def dB_turn : He.DefD := ⟨("Board", some "turn"), "turn", "Board.turn", defArgs sB_turn, defBody sB_turn, defScope sB_turn, [], []⟩
def dB_stick : He.DefD := ⟨("Board", some "stick"), "stick", "Board.stick", defArgs sB_stick, defBody sB_stick, defScope sB_stick, [], []⟩
def dB_mend : He.DefD := ⟨("Board", some "mend"), "mend", "Board.mend", defArgs sB_mend, defBody sB_mend, defScope sB_mend, [], []⟩
def dB_hold : He.DefD := ⟨("Board", some "hold"), "hold", "Board.hold", defArgs sB_hold, defBody sB_hold, defScope sB_hold, [], []⟩
def dB_free : He.DefD := ⟨("Board", some "free"), "free", "Board.free", defArgs sB_free, defBody sB_free, defScope sB_free, [], []⟩
def dB_devices : He.DefD := ⟨("Board", some "devices"), "devices", "Board.devices", defArgs sB_devices, defBody sB_devices, defScope sB_devices, [], []⟩
def dB_jobs : He.DefD := ⟨("Board", some "jobs"), "jobs", "Board.jobs", defArgs sB_jobs, defBody sB_jobs, defScope sB_jobs, [], []⟩
def dB_stands : He.DefD := ⟨("Board", some "stands"), "stands", "Board.stands", defArgs sB_stands, defBody sB_stands, defScope sB_stands, [], []⟩
def dB_home : He.DefD := ⟨("Board", some "home"), "home", "Board.home", defArgs sB_home, defBody sB_home, defScope sB_home, [], []⟩
def dB_is_stuck : He.DefD := ⟨("Board", some "is_stuck"), "is_stuck", "Board.is_stuck", defArgs sB_is_stuck, defBody sB_is_stuck, defScope sB_is_stuck, [], []⟩
def dB_jobs_on : He.DefD := ⟨("Board", some "jobs_on"), "jobs_on", "Board.jobs_on", defArgs sB_jobs_on, defBody sB_jobs_on, defScope sB_jobs_on, [], []⟩
def dB_tags : He.DefD := ⟨("Board", some "tags"), "tags", "Board.tags", defArgs sB_tags, defBody sB_tags, defScope sB_tags, [], []⟩
def dB_crew_of : He.DefD := ⟨("Board", some "crew_of"), "crew_of", "Board.crew_of", defArgs sB_crew_of, defBody sB_crew_of, defScope sB_crew_of, [], []⟩
def dB_held_by : He.DefD := ⟨("Board", some "held_by"), "held_by", "Board.held_by", defArgs sB_held_by, defBody sB_held_by, defScope sB_held_by, [], []⟩
def d_need : He.DefD := ⟨("need", none), "need", "need", defArgs s_need, defBody s_need, defScope s_need, [], []⟩
def d_are_apart : He.DefD := ⟨("are_apart", none), "are_apart", "are_apart", defArgs s_are_apart, defBody s_are_apart, defScope s_are_apart, [], []⟩
def dJ_init : He.DefD := ⟨("Job", some "__init__"), "__init__", "Job.__init__", defArgs sJ_init, defBody sJ_init, defScope sJ_init, [], []⟩
def dJ_need_phase : He.DefD := ⟨("Job", some "need_phase"), "need_phase", "Job.need_phase", defArgs sJ_need_phase, defBody sJ_need_phase, defScope sJ_need_phase, [], []⟩
def dJ_need_alone : He.DefD := ⟨("Job", some "need_alone"), "need_alone", "Job.need_alone", defArgs sJ_need_alone, defBody sJ_need_alone, defScope sJ_need_alone, [], []⟩
def dJ_hangs_at : He.DefD := ⟨("Job", some "hangs_at"), "hangs_at", "Job.hangs_at", defArgs sJ_hangs_at, defBody sJ_hangs_at, defScope sJ_hangs_at, [], []⟩
def dJ_steps_still : He.DefD := ⟨("Job", some "steps_still"), "steps_still", "Job.steps_still", defArgs sJ_steps_still, defBody sJ_steps_still, defScope sJ_steps_still, [], []⟩
def dJ_steps_trial : He.DefD := ⟨("Job", some "steps_trial"), "steps_trial", "Job.steps_trial", defArgs sJ_steps_trial, defBody sJ_steps_trial, defScope sJ_steps_trial, [], []⟩
def dJ_steps_away : He.DefD := ⟨("Job", some "steps_away"), "steps_away", "Job.steps_away", defArgs sJ_steps_away, defBody sJ_steps_away, defScope sJ_steps_away, [], []⟩
def dJ_steps : He.DefD := ⟨("Job", some "steps"), "steps", "Job.steps", defArgs sJ_steps, defBody sJ_steps, defScope sJ_steps, [], []⟩
def dJ_step : He.DefD := ⟨("Job", some "step"), "step", "Job.step", defArgs sJ_step, defBody sJ_step, defScope sJ_step, [], []⟩
def dJ_settle : He.DefD := ⟨("Job", some "settle"), "settle", "Job.settle", defArgs sJ_settle, defBody sJ_settle, defScope sJ_settle, [], []⟩
def dJ_begin : He.DefD := ⟨("Job", some "begin"), "begin", "Job.begin", defArgs sJ_begin, defBody sJ_begin, defScope sJ_begin, [], []⟩
def dJ_give : He.DefD := ⟨("Job", some "give"), "give", "Job.give", defArgs sJ_give, defBody sJ_give, defScope sJ_give, [], []⟩
def dJ_try_out : He.DefD := ⟨("Job", some "try_out"), "try_out", "Job.try_out", defArgs sJ_try_out, defBody sJ_try_out, defScope sJ_try_out, [], []⟩
def dJ_go_on : He.DefD := ⟨("Job", some "go_on"), "go_on", "Job.go_on", defArgs sJ_go_on, defBody sJ_go_on, defScope sJ_go_on, [], []⟩
def dJ_put_by : He.DefD := ⟨("Job", some "put_by"), "put_by", "Job.put_by", defArgs sJ_put_by, defBody sJ_put_by, defScope sJ_put_by, [], []⟩
def dJ_end : He.DefD := ⟨("Job", some "end"), "end", "Job.end", defArgs sJ_end, defBody sJ_end, defScope sJ_end, [], []⟩
def dJ_sign_on : He.DefD := ⟨("Job", some "sign_on"), "sign_on", "Job.sign_on", defArgs sJ_sign_on, defBody sJ_sign_on, defScope sJ_sign_on, [], []⟩
def dJ_sign_off : He.DefD := ⟨("Job", some "sign_off"), "sign_off", "Job.sign_off", defArgs sJ_sign_off, defBody sJ_sign_off, defScope sJ_sign_off, [], []⟩
def dJ_hand_over : He.DefD := ⟨("Job", some "hand_over"), "hand_over", "Job.hand_over", defArgs sJ_hand_over, defBody sJ_hand_over, defScope sJ_hand_over, [], []⟩
def dJ_called : He.DefD := ⟨("Job", some "called"), "called", "Job.called", defArgs sJ_called, defBody sJ_called, defScope sJ_called, [], []⟩
def dJ_phase : He.DefD := ⟨("Job", some "phase"), "phase", "Job.phase", defArgs sJ_phase, defBody sJ_phase, defScope sJ_phase, [], []⟩
def dJ_stretch : He.DefD := ⟨("Job", some "stretch"), "stretch", "Job.stretch", defArgs sJ_stretch, defBody sJ_stretch, defScope sJ_stretch, [], []⟩
def dJ_switches : He.DefD := ⟨("Job", some "switches"), "switches", "Job.switches", defArgs sJ_switches, defBody sJ_switches, defScope sJ_switches, [], []⟩
def dJ_drains : He.DefD := ⟨("Job", some "drains"), "drains", "Job.drains", defArgs sJ_drains, defBody sJ_drains, defScope sJ_drains, [], []⟩
def dJ_crew_now : He.DefD := ⟨("Job", some "crew_now"), "crew_now", "Job.crew_now", defArgs sJ_crew_now, defBody sJ_crew_now, defScope sJ_crew_now, [], []⟩
def d_lbag : He.DefD := ⟨("_law_bag", none), "_law_bag", "_law_bag", defArgs s_lbag, defBody s_lbag, defScope s_lbag, [], []⟩
def d_ltake : He.DefD := ⟨("_law_take", none), "_law_take", "_law_take", defArgs s_ltake, defBody s_ltake, defScope s_ltake, [], []⟩
def d_lalike : He.DefD := ⟨("_law_alike", none), "_law_alike", "_law_alike", defArgs s_lalike, defBody s_lalike, defScope s_lalike, [], []⟩
def d_lname : He.DefD := ⟨("_law_name", none), "_law_name", "_law_name", defArgs s_lname, defBody s_lname, defScope s_lname, [], []⟩
def d_lnames : He.DefD := ⟨("_law_names", none), "_law_names", "_law_names", defArgs s_lnames, defBody s_lnames, defScope s_lnames, [], []⟩
def d_lfresh : He.DefD := ⟨("_law_fresh", none), "_law_fresh", "_law_fresh", defArgs s_lfresh, defBody s_lfresh, defScope s_lfresh, [], []⟩
def d_lhands : He.DefD := ⟨("_law_hands", none), "_law_hands", "_law_hands", defArgs s_lhands, defBody s_lhands, defScope s_lhands, [], []⟩
def d_lsteps : He.DefD := ⟨("_law_steps", none), "_law_steps", "_law_steps", defArgs s_lsteps, defBody s_lsteps, defScope s_lsteps, [], []⟩
def d_ldue_step : He.DefD := ⟨("_law_due_step", none), "_law_due_step", "_law_due_step", defArgs s_ldue_step, defBody s_ldue_step, defScope s_ldue_step, [], []⟩
def d_ldue_crew : He.DefD := ⟨("_law_due_crew", none), "_law_due_crew", "_law_due_crew", defArgs s_ldue_crew, defBody s_ldue_crew, defScope s_ldue_crew, [], []⟩
def d_ldue_board : He.DefD := ⟨("_law_due_board", none), "_law_due_board", "_law_due_board", defArgs s_ldue_board, defBody s_ldue_board, defScope s_ldue_board, [], []⟩
def d_ldue : He.DefD := ⟨("_law_due", none), "_law_due", "_law_due", defArgs s_ldue, defBody s_ldue, defScope s_ldue, [], []⟩
def d_lover : He.DefD := ⟨("_law_over", none), "_law_over", "_law_over", defArgs s_lover, defBody s_lover, defScope s_lover, [], []⟩
def d_ldo_step : He.DefD := ⟨("_law_do_step", none), "_law_do_step", "_law_do_step", defArgs s_ldo_step, defBody s_ldo_step, defScope s_ldo_step, [], []⟩
def d_ldo_job : He.DefD := ⟨("_law_do_job", none), "_law_do_job", "_law_do_job", defArgs s_ldo_job, defBody s_ldo_job, defScope s_ldo_job, [], []⟩
def d_ldo : He.DefD := ⟨("_law_do", none), "_law_do", "_law_do", defArgs s_ldo, defBody s_ldo, defScope s_ldo, [], []⟩
def d_lcall : He.DefD := ⟨("_law_call", none), "_law_call", "_law_call", defArgs s_lcall, defBody s_lcall, defScope s_lcall, [], []⟩
def d_lcall_job : He.DefD := ⟨("_law_call_job", none), "_law_call_job", "_law_call_job", defArgs s_lcall_job, defBody s_lcall_job, defScope s_lcall_job, [], []⟩
def d_lclass : He.DefD := ⟨("_law_class", none), "_law_class", "_law_class", defArgs s_lclass, defBody s_lclass, defScope s_lclass, [], []⟩
def d_lsay : He.DefD := ⟨("_law_say", none), "_law_say", "_law_say", defArgs s_lsay, defBody s_lsay, defScope s_lsay, [], []⟩
def d_lsame_device : He.DefD := ⟨("_law_same_device", none), "_law_same_device", "_law_same_device", defArgs s_lsame_device, defBody s_lsame_device, defScope s_lsame_device, [], []⟩
def d_lsame_job : He.DefD := ⟨("_law_same_job", none), "_law_same_job", "_law_same_job", defArgs s_lsame_job, defBody s_lsame_job, defScope s_lsame_job, [], []⟩
def d_lsame : He.DefD := ⟨("_law_same", none), "_law_same", "_law_same", defArgs s_lsame, defBody s_lsame, defScope s_lsame, [], []⟩
def d_lone : He.DefD := ⟨("_law_one", none), "_law_one", "_law_one", defArgs s_lone, defBody s_lone, defScope s_lone, [], []⟩
def d_lworld : He.DefD := ⟨("_law_world", none), "_law_world", "_law_world", defArgs s_lworld, defBody s_lworld, defScope s_lworld, [], []⟩
def d_llaid : He.DefD := ⟨("_law_laid", none), "_law_laid", "_law_laid", defArgs s_llaid, defBody s_llaid, defScope s_llaid, [], []⟩
def d_lsome : He.DefD := ⟨("_law_some", none), "_law_some", "_law_some", defArgs s_lsome, defBody s_lsome, defScope s_lsome, [], []⟩
def d_lbegin : He.DefD := ⟨("_law_begin", none), "_law_begin", "_law_begin", defArgs s_lbegin, defBody s_lbegin, defScope s_lbegin, [], []⟩
def d_lnatural : He.DefD := ⟨("_law_natural", none), "_law_natural", "_law_natural", defArgs s_lnatural, defBody s_lnatural, defScope s_lnatural, [], []⟩
def d_lany : He.DefD := ⟨("_law_any", none), "_law_any", "_law_any", defArgs s_lany, defBody s_lany, defScope s_lany, [], []⟩
def d_ldeed : He.DefD := ⟨("_law_deed", none), "_law_deed", "_law_deed", defArgs s_ldeed, defBody s_ldeed, defScope s_ldeed, [], []⟩
def d_lended : He.DefD := ⟨("_law_ended", none), "_law_ended", "_law_ended", defArgs s_lended, defBody s_lended, defScope s_lended, [], []⟩
def d_law : He.DefD := ⟨("law", none), "law", "law", defArgs s_law, defBody s_law, defScope s_law, [], []⟩
def fn0 : List He.DefD := [dXWrong_init, dXThere_init, dXLacks_init, dXTooMany_init, dXInUse_init, dXHeld_init, dXStuck_init, dXNotNow_init, d_is_name, d_is_position, d_are_names, d_is_stretch, d_wrong_unless, d_lacks_unless, d_is_crew, dB_init, dB_hands_beside, dB_refuse_held, dB_refuse_stuck, dB_add, dB_crew, dB_leave, dB_turn, dB_stick, dB_mend, dB_hold, dB_free, dB_devices, dB_jobs, dB_stands]
def fn1 : List He.DefD := [dB_home, dB_is_stuck, dB_jobs_on, dB_tags, dB_crew_of, dB_held_by, d_need, d_are_apart, dJ_init, dJ_need_phase, dJ_need_alone, dJ_hangs_at, dJ_steps_still, dJ_steps_trial, dJ_steps_away, dJ_steps, dJ_step, dJ_settle, dJ_begin, dJ_give, dJ_try_out, dJ_go_on, dJ_put_by, dJ_end, dJ_sign_on, dJ_sign_off, dJ_hand_over, dJ_called, dJ_phase, dJ_stretch]
def fn2 : List He.DefD := [dJ_switches, dJ_drains, dJ_crew_now, d_lbag, d_ltake, d_lalike, d_lname, d_lnames, d_lfresh, d_lhands, d_lsteps, d_ldue_step, d_ldue_crew, d_ldue_board, d_ldue, d_lover, d_ldo_step, d_ldo_job, d_ldo, d_lcall, d_lcall_job, d_lclass, d_lsay, d_lsame_device, d_lsame_job, d_lsame, d_lone, d_lworld, d_llaid, d_lsome]
def fn3 : List He.DefD := [d_lbegin, d_lnatural, d_lany, d_ldeed, d_lended, d_law]
def fn : List He.DefD := fn0 ++ fn1 ++ fn2 ++ fn3
def loose0 : List PySem.Str := ["_wall", "MainsError", "Wrong", "There", "Lacks", "TooMany", "InUse", "Held", "Stuck", "NotNow", "LETTERS", "LONGEST", "MOST_NAMES", "MOST_STRETCH", "is_name", "is_position", "are_names", "is_stretch", "MOST_DEVICES", "MOST_JOBS", "MOST_HANDS_board", "wrong_unless", "lacks_unless", "is_crew", "Board", "MOST_HANDS_job", "need", "are_apart", "Job", "_law_bag"]
def loose1 : List PySem.Str := ["_law_take", "_law_alike", "_law_name", "_law_names", "_law_fresh", "_law_hands", "_law_steps", "_law_due_step", "_law_due_crew", "_law_due_board", "_law_due", "_law_over", "_law_do_step", "_law_do_job", "_law_do", "_law_call", "_law_call_job", "_law_class", "_law_say", "_law_same_device", "_law_same_job", "_law_same", "_law_one", "_law_world", "_law_laid", "_law_some", "_law_begin", "_law_natural", "_law_any", "_law_deed"]
def loose2 : List PySem.Str := ["_law_ended"]
def loose : List PySem.Str := loose0 ++ loose1 ++ loose2
def fa0 : List He.Fa := [.free "isinstance", .free "str", .free "list", .free "len", .free "sorted", .free "set", .free "dict", .free "abs", .free "min", .free "range", .free "enumerate", .free "int", .free "repr", .free "all", .free "ValueError", .str "LETTERS" abc, .int "LONGEST" 8, .int "MOST_NAMES" 60, .int "MOST_STRETCH" 24, .int "MOST_DEVICES" 52, .int "MOST_JOBS" 8, .int "MOST_HANDS_board" 6, .int "MOST_HANDS_job" 6, .glo "Board", .cls "Board", .noat "Board" "stand_of", .noat "Board" "home_of", .noat "Board" "fast", .noat "Board" "marks_of", .noat "Board" "crew_rows"]
def fa1 : List He.Fa := [.cls "Job", .noat "Job" "at_board", .noat "Job" "named", .noat "Job" "about", .noat "Job" "now", .noat "Job" "ending", .noat "Job" "cutting", .noat "Job" "emptying", .glo "Wrong", .meth "Wrong" "__init__", .exm "Wrong" "MainsError" true, .glo "There", .meth "There" "__init__", .exm "There" "MainsError" true, .glo "Lacks", .meth "Lacks" "__init__", .exm "Lacks" "MainsError" true, .glo "TooMany", .meth "TooMany" "__init__", .exm "TooMany" "MainsError" true, .glo "InUse", .meth "InUse" "__init__", .exm "InUse" "MainsError" true, .glo "Held", .meth "Held" "__init__", .exm "Held" "MainsError" true, .glo "Stuck", .meth "Stuck" "__init__", .exm "Stuck" "MainsError" true, .glo "NotNow"]
def fa2 : List He.Fa := [.meth "NotNow" "__init__", .exm "NotNow" "MainsError" true, .glo "is_name", .glo "is_position", .glo "are_names", .glo "is_stretch", .glo "wrong_unless", .glo "lacks_unless", .glo "is_crew", .mkr "Board", .meth "Board" "hands_beside", .meth "Board" "refuse_held", .meth "Board" "refuse_stuck", .meth "Board" "add", .meth "Board" "crew", .meth "Board" "leave", .meth "Board" "turn", .meth "Board" "stick", .meth "Board" "mend", .meth "Board" "hold", .meth "Board" "free", .meth "Board" "devices", .meth "Board" "jobs", .meth "Board" "stands", .meth "Board" "home", .meth "Board" "is_stuck", .meth "Board" "jobs_on", .meth "Board" "tags", .meth "Board" "crew_of", .meth "Board" "held_by"]
def fa3 : List He.Fa := [.glo "need", .glo "are_apart", .glo "Job", .mkr "Job", .meth "Job" "need_phase", .meth "Job" "need_alone", .meth "Job" "hangs_at", .meth "Job" "steps_still", .meth "Job" "steps_trial", .meth "Job" "steps_away", .meth "Job" "steps", .meth "Job" "step", .meth "Job" "settle", .meth "Job" "begin", .meth "Job" "give", .meth "Job" "try_out", .meth "Job" "go_on", .meth "Job" "put_by", .meth "Job" "end", .meth "Job" "sign_on", .meth "Job" "sign_off", .meth "Job" "hand_over", .meth "Job" "called", .meth "Job" "phase", .meth "Job" "stretch", .meth "Job" "switches", .meth "Job" "drains", .meth "Job" "crew_now", .glo "_law_bag", .glo "_law_take"]
def fa4 : List He.Fa := [.glo "_law_alike", .glo "_law_name", .glo "_law_names", .glo "_law_fresh", .glo "_law_hands", .glo "_law_steps", .glo "_law_due_step", .glo "_law_due_crew", .glo "_law_due_board", .glo "_law_due", .glo "_law_over", .glo "_law_do_step", .glo "_law_do_job", .glo "_law_do", .glo "_law_call", .glo "_law_call_job", .glo "_law_class", .glo "_law_say", .glo "_law_same_device", .glo "_law_same_job", .glo "_law_same", .glo "_law_one", .glo "_law_world", .glo "_law_laid", .glo "_law_some", .glo "_law_begin", .glo "_law_natural", .glo "_law_any", .glo "_law_deed", .glo "_law_ended"]
def fa5 : List He.Fa := [.glo "MainsError", .glo "law"]
def fa : List He.Fa := fa0 ++ fa1 ++ fa2 ++ fa3 ++ fa4 ++ fa5
/-! ### facts that no word of the head's tells -/
section
variable {K : PySem.W.Frag} {C : Addr}
/-- an own class of errors over ValueError -/
def oexB (K : PySem.W.Frag) (C : Addr) : Bool := match K.lookup C with
  | some ⟨.type t, _, .cls cd, sl⟩ => decide (t = "type") && (cd.hasDict && (!cd.hasDel && ((match cd.mro with
    | .ref a :: bm => decide (a = C) && PySem.HandSPX.refsVE bm
    | _ => false) && (match sl.toList with
    | [_, _, _, _, some (.builtin n), _] => decide (n = "ValueError.__new__")
    | _ => false))))
  | _ => false
theorem oexB_ok (h : oexB K C = true) : ∃ nm q N bs bm sn sub ab col dd k0 k1 k2 k3 k5, K.lookup C = some (excClassObj nm q C N bs bm true sn sub ab col dd k0 k1 k2 k3 k5 "ValueError.__new__") ∧ PySem.HandSPX.refsVE bm = true := by
  unfold oexB at h
  split at h
  · rename_i t od cd sl q
    obtain ⟨h1, h⟩ := He.ba h
    obtain ⟨h2, h⟩ := He.ba h
    obtain ⟨h3, h⟩ := He.ba h
    obtain ⟨h4, h5⟩ := He.ba h
    obtain ⟨nm, bs, mro, ns, qn, hd, sn, sub, ab, col, del⟩ := cd
    have e1 := of_decide_eq_true h1
    have e2 : hd = true := h2
    have e3 : del = false := by
      cases del with
      | true => cases h3
      | false => rfl
    split at h4
    · rename_i a bm e4
      have e4 : mro = .ref a :: bm := e4
      obtain ⟨h6, h7⟩ := He.ba h4
      have e6 := of_decide_eq_true h6
      split at h5
      · rename_i k0 k1 k2 k3 n k5 e5
        have e8 := of_decide_eq_true h5
        have e9 : sl = #[k0, k1, k2, k3, some (.builtin n), k5] := Array.ext' e5
        subst e1 e2 e3 e4 e6 e8 e9
        exact ⟨nm, qn, ns, bs, bm, sn, sub, ab, col, od, k0, k1, k2, k3, k5, q, h7⟩
      · cases h5
    · cases h4
  · cases h
/-- how the class of an object is told, of its class -/
def askB (K : PySem.W.Frag) (C : Addr) : Bool := He.eqO (PySem.W.findIn K (.ref C) "__class__") (some (some (.builtin "object.__class__"))) && (He.eqO (PySem.W.specialIn K (.builtin "object.__class__") "__get__") (some (some (.builtin "getset_descriptor.__get__"))) &&
  (decide (PySem.W.takesIn K (.builtin "object.__class__") = some true) && decide (PySem.W.mroIn K C (.type "object") = some true)))
def insB (K : PySem.W.Frag) (C : Addr) : Bool := askB K C && decide (PySem.W.kitOne K (.ref C) (.ref C) = some true)
theorem insB_ok (c : Cls K C) (h : insB K C = true) : C8.InsC K C := by
  obtain ⟨h1, h2⟩ := He.ba h
  obtain ⟨h3, h4⟩ := He.ba h1
  obtain ⟨h5, h6⟩ := He.ba h4
  obtain ⟨h7, h8⟩ := He.ba h6
  exact ⟨c, He.eqO_ok h3, He.eqO_ok h5, of_decide_eq_true h7, of_decide_eq_true h8, of_decide_eq_true h2⟩
def excB (K : PySem.W.Frag) (x fld : Str) : Bool := oexB K (He.ga K x) && (He.eqO (PySem.W.findIn K (.ref (He.ga K x)) "__setattr__") (some (some (.builtin "object.__setattr__"))) && (decide (PySem.W.subIn K (.ref (He.ga K x)) (.type "BaseException") = some true) &&
  (decide (PySem.W.typeIn K (.ref (He.ga K x)) = some (.type "type")) && (PySem.W.keepIn K (.ref (He.ga K x)) && (He.eqO (PySem.W.findIn K (.ref (He.ga K x)) fld) (some none) && (He.eqO (PySem.W.findIn K (.ref (He.ga K x)) "__getattribute__") (some (some (.builtin "BaseException.__getattribute__"))) &&
  (He.eqO (PySem.W.findIn K (.ref (He.ga K x)) "__getattr__") (some none) && (PySem.W.hasDictIn K (He.ga K x) && (askB K (He.ga K x) && ((seven.all fun y => decide (PySem.W.kitOne K (.ref (He.ga K x)) (.ref (He.ga K y)) = some (decide (x = y)))) &&
  decide (PySem.W.kitOne K (.ref (He.ga K x)) (.type "ValueError") = some true)))))))))))
theorem excB_ok {mg : Str → Option Value} {x fld qual : Str} {st : Stmt} {d : He.DefD} (g : mg x = some (.ref (He.ga K x))) (m : Meth K (He.ga K x) "__init__" (He.ma K (He.ga K x) "__init__")) (xm : PySem.W.exmOne K (.ref (He.ga K x)) (.ref (He.ga K "MainsError")) = some true) (h : excB K x fld = true)
    (hd : ∃ fd, FunD K "__init__" qual (defArgs st) (defBody st) (defScope st) [] [] (He.ma K (He.ga K x) "__init__") fd) (hb : ∀ {fd}, FunD K "__init__" qual (defArgs st) (defBody st) (defScope st) [] [] (He.ma K (He.ga K x) "__init__") fd → Binds K fd ["self", fld] []) : ExcT K mg x fld qual st := by
  obtain ⟨h1, h⟩ := He.ba h
  obtain ⟨h2, h⟩ := He.ba h
  obtain ⟨h3, h⟩ := He.ba h
  obtain ⟨h4, h⟩ := He.ba h
  obtain ⟨h5, h⟩ := He.ba h
  obtain ⟨h6, h⟩ := He.ba h
  obtain ⟨h7, h⟩ := He.ba h
  obtain ⟨h8, h⟩ := He.ba h
  obtain ⟨h9, h⟩ := He.ba h
  obtain ⟨h10, h⟩ := He.ba h
  obtain ⟨h11, h12⟩ := He.ba h
  obtain ⟨a1, h13⟩ := He.ba h10
  obtain ⟨a2, h14⟩ := He.ba h13
  obtain ⟨a3, a4⟩ := He.ba h14
  obtain ⟨fd, F⟩ := hd
  exact {
    o := ⟨oexB_ok h1, He.eqO_ok h2, of_decide_eq_true h3, of_decide_eq_true h4, h5⟩
    no := He.eqO_ok h6
    ini := ⟨_, fd, F, m.at_, eq_of_beq m.fn, hb F⟩
    gm := g
    exm := xm
    ec := ⟨He.eqO_ok h7, He.eqO_ok h8, of_decide_eq_true h3, h9, He.eqO_ok a1, He.eqO_ok a2, of_decide_eq_true a3, of_decide_eq_true a4⟩
    kit := fun y hy => of_decide_eq_true (List.all_eq_true.mp h11 y hy)
    kve := of_decide_eq_true h12 }
def meB (K : PySem.W.Frag) (C : Addr) : Bool := PySem.W.readsIn K C (.type "type") && (He.eqO (PySem.W.specialIn K (.ref C) "__getattribute__") (some (some (.builtin "type.__getattribute__"))) && (match PySem.W.findCls K (.ref C) (.type "type") "__init__" with
  | some (.val v) => decide (v = .builtin "ValueError.__init__")
  | _ => false))
theorem meB_ok (h : meB K C = true) : ∃ mc, ClX.CRead K C mc ∧ PySem.W.findCls K (.ref C) mc "__init__" = some (.val (.builtin "ValueError.__init__")) := by
  obtain ⟨h1, h⟩ := He.ba h
  obtain ⟨h2, h3⟩ := He.ba h
  refine ⟨_, ⟨h1, He.eqO_ok h2⟩, ?_⟩
  split at h3
  · rename_i v e
    rw [e, of_decide_eq_true h3]
  · cases h3
end
def exl : List (PySem.W.Frag → Bool) := [fun K => insB K (He.ga K "Board"), fun K => excB K "Wrong" "at", fun K => excB K "There" "name", fun K => excB K "Lacks" "name", fun K => excB K "TooMany" "most", fun K => excB K "InUse" "name", fun K => excB K "Held" "hands", fun K => excB K "Stuck" "name", fun K => excB K "NotNow" "job", fun K => meB K (He.ga K "MainsError")]
def exA (K : PySem.W.Frag) : Bool := exl.all fun b => b K
theorem ex_at {K : PySem.W.Frag} {b : PySem.W.Frag → Bool} (e : exA K = true) (i : Nat) (h : exl[i]? = some b) : b K = true := List.all_eq_true.mp e b (List.mem_of_getElem? h)
/-! ### the run -/
abbrev R : PySem.W.OpenRow := PySem.W.OpenLaw.row PySem.Challenge.rw_stillmain_k68_whole_jobs_on_a_board
/-- the objects that the walk leans on: the globals, their functions' code, their classes' names, those functions' code -/
def gl1 (g : Addr → Option Obj) : List Addr := match g mainGlobals with
  | some o => He.refsO o
  | none => []
def ns1 (g : Addr → Option Obj) (a : Addr) : List Addr := match g a with
  | some ⟨_, _, .cls cd, _⟩ => [cd.ns]
  | _ => []
def cd1 (g : Addr → Option Obj) (a : Addr) : List Addr := match g a with
  | some ⟨_, _, .func fd, _⟩ => He.refV fd.code
  | _ => []
def me1 (g : Addr → Option Obj) (n : Addr) : List Addr := match g n with
  | some o => He.refsO o
  | none => []
def frM (g : Addr → Option Obj) : PySem.W.Frag := He.frG g (mainGlobals :: (gl1 g ++ ((gl1 g).flatMap (ns1 g) ++ (((gl1 g).flatMap (ns1 g)).flatMap (me1 g) ++ ((gl1 g).flatMap (cd1 g) ++ ((((gl1 g).flatMap (ns1 g)).flatMap (me1 g)).flatMap (cd1 g) ++ [cStatics]))))))
def obAt (g : Addr → Option Obj) : He.AlD × Bool := (He.obsD fa fn (frM g), exA (frM g))
def hkM : PySem.W.Hook where
  α := He.AlD × Bool
  obs := fun s => obAt s.heap.get?
  val := fun _ => (He.valD fn, true)
  says := fun _ hp => ∃ F : PySem.W.Frag, F.In hp ∧ He.SaysD fa fn F ∧ exA F = true
  of := fun _ _ z => ⟨_, He.frG_in, congrArg Prod.fst z, congrArg Prod.snd z⟩
  keeps := fun _ _ _ z k => let ⟨F, i, q⟩ := z; ⟨F, i.keeps k, q⟩
def obM (s : PySem.W.SharedT) : He.AlD × Bool := obAt (HandSHeadRun.getT s)
theorem obM_eq (s : PySem.W.SharedT) : obM s = hkM.obs s.abs := congrArg obAt (funext (HandSHeadRun.getT_eq s))
theorem runM (w : World) : HandSHeadRun.RunEq R (PySem.W.view R.prog [66]) hkM obM 6000 loose w := by
  intro os
  kernel_rfl
end Sm
namespace Sm
open PySem PySem.Spec PyProof.Rows L2
section
variable {P : Program} {w : World} {K : PySem.W.Frag} {mg : Str → Option Value} {base : Heap}
/-! ### constants and built-in names -/
section
variable {X : Cx} {pos : Pos}
theorem gl_LETTERS (T : Txt X.K X.mg) (hg : Gl X "LETTERS" := by rfl) : PE X (.Name "LETTERS" pos) (tC (.str abc)) := let ⟨t, h⟩ := T.g_LETTERS; pe_glob hg h ⟨t, rfl⟩
theorem gl_LONGEST (T : Txt X.K X.mg) (hg : Gl X "LONGEST" := by rfl) : PE X (.Name "LONGEST" pos) (tC (.int 8)) := let ⟨t, h⟩ := T.g_LONGEST; pe_glob hg h ⟨t, rfl⟩
theorem gl_MOST_NAMES (T : Txt X.K X.mg) (hg : Gl X "MOST_NAMES" := by rfl) : PE X (.Name "MOST_NAMES" pos) (tC (.int 60)) := let ⟨t, h⟩ := T.g_MOST_NAMES; pe_glob hg h ⟨t, rfl⟩
theorem gl_MOST_STRETCH (T : Txt X.K X.mg) (hg : Gl X "MOST_STRETCH" := by rfl) : PE X (.Name "MOST_STRETCH" pos) (tC (.int 24)) := let ⟨t, h⟩ := T.g_MOST_STRETCH; pe_glob hg h ⟨t, rfl⟩
theorem gl_MOST_DEVICES (T : Txt X.K X.mg) (hg : Gl X "MOST_DEVICES" := by rfl) : PE X (.Name "MOST_DEVICES" pos) (tC (.int 52)) := let ⟨t, h⟩ := T.g_MOST_DEVICES; pe_glob hg h ⟨t, rfl⟩
theorem gl_MOST_JOBS (T : Txt X.K X.mg) (hg : Gl X "MOST_JOBS" := by rfl) : PE X (.Name "MOST_JOBS" pos) (tC (.int 8)) := let ⟨t, h⟩ := T.g_MOST_JOBS; pe_glob hg h ⟨t, rfl⟩
theorem gl_MOST_HANDS_board (T : Txt X.K X.mg) (hg : Gl X "MOST_HANDS_board" := by rfl) : PE X (.Name "MOST_HANDS_board" pos) (tC (.int 6)) := let ⟨t, h⟩ := T.g_MOST_HANDS_board; pe_glob hg h ⟨t, rfl⟩
theorem gl_MOST_HANDS_job (T : Txt X.K X.mg) (hg : Gl X "MOST_HANDS_job" := by rfl) : PE X (.Name "MOST_HANDS_job" pos) (tC (.int 6)) := let ⟨t, h⟩ := T.g_MOST_HANDS_job; pe_glob hg h ⟨t, rfl⟩
theorem bl_str (T : Txt X.K X.mg) (hg : Gl X "str" := by rfl) : PE X (.Name "str" pos) (tC (.ty "str")) := pe_bltn hg T.b_str (u := .type "str") (by decide +kernel) rfl
theorem bl_list (T : Txt X.K X.mg) (hg : Gl X "list" := by rfl) : PE X (.Name "list" pos) (tC (.ty "list")) := pe_bltn hg T.b_list (u := .type "list") (by decide +kernel) rfl
end
theorem kit_str (K : PySem.W.Frag) : PySem.W.kitOne K (.type "str") (.type "str") = some true := by first | rfl | decide +kernel
theorem kit_list (K : PySem.W.Frag) : PySem.W.kitOne K (.type "list") (.type "list") = some true := by first | rfl | decide +kernel
theorem nlen {x : Str} (h : IsName x) : x.length ≤ sizeLine := sz_of (by have := h.2.1; omega)

/-! ### is_name: of a name -/
def spIsName : Sp := fun vs H Q _ => ∃ x, vs = [.str x] ∧ IsName x ∧ Q (.bl true) H
abbrev N_is_name : List Str := ["thing", "sign"]
theorem sc_is_name : FnScope N_is_name ["thing"] (defScope s_is_name) := ⟨rfl, rfl, rfl, by decide +kernel, rfl, by decide +kernel, by decide +kernel⟩
theorem ok_is_name (T : Txt K mg) : GFn P w K mg base CX0 1 "is_name" ["thing"] spIsName := by
  refine T.f_is_name.ok0 sc_is_name (fun vs H Q E h => ?_) (fun f cdv A outer s H vs Q E hr h => ?_)
  · obtain ⟨x, rfl, _⟩ := h
    rfl
  · obtain ⟨x, rfl, hx, k⟩ := h
    refine ⟨_, (pss_cons (ps_if (PW.pt (pw_or (pt_not (pt_val (pe_callB call_isi (by rfl) T.b_isinstance (by decide +kernel) (pa_cons (pv 0) (pa_cons (bl_str T) pa_nil))))) (pw_or1 (pt_not (pt_chain op_le op_le pe_int (pe_callB call_len_str (by rfl) T.b_len (by decide +kernel) (pa_cons (pv 0) pa_nil)) (gl_LONGEST T))))))
        (pss_one (ps_ret pe_bl))
        pss_nil)
      (pss_cons (ps_for PassesOwn.never rfl (pi_str (pv 0)) (pg_name (i := 1) sc_is_name.nd rfl (Or.inl rfl))
        (pss_one (ps_if (pt_cmpR op_notIn_sign (pv 1) (gl_LETTERS T) rfl)
        (pss_one (ps_ret pe_bl))
        pss_nil)))
      (pss_one (ps_ret pe_bl)))), ?_⟩
    obtain ⟨h1, h2, h3⟩ := id hx
    refine ⟨_, rfl, _, _, .type "str", .type "str", true, rfl, .ty "str", .base (.str x), kit_str K, true, rfl, iteF ?_⟩
    refine ⟨_, rfl, x, rfl, nlen hx, _, _, rfl, rfl, true, congrArg V.bl (decide_eq_true (by omega)), iteT ⟨_, _, rfl, rfl, true, congrArg V.bl (decide_eq_true (by omega)), iteF ?_⟩⟩
    refine ⟨_, rfl, x, rfl, for_it walk_str (fun i σ H' => H' = H ∧ ∃ v, σ = [some (.str x), v]) ⟨rfl, none, rfl⟩ (fun _ _ _ _ _ => trivial) ?_ ?_⟩
    · rintro i y σ H1 H2 hi ⟨rfl, v, rfl⟩ ⟨rfl, c, hc, rfl⟩
      have hm : c ∈ abc.cps.toList := h3 c (Array.mem_toList_iff.mpr (Array.mem_of_getElem? hc))
      refine ⟨_, rfl, c, abc, rfl, rfl, false, by simp [hm], iteF ⟨rfl, _, rfl⟩⟩
    · rintro σ H1 ⟨rfl, v, rfl⟩
      exact k

/-! ### is_position: of a position -/
def spIsPos : Sp := fun vs H Q _ => ∃ x, vs = [.str x] ∧ IsPos x ∧ Q (.bl true) H
abbrev N_is_position : List Str := ["thing"]
theorem sc_is_position : FnScope N_is_position ["thing"] (defScope s_is_position) := ⟨rfl, rfl, rfl, by decide +kernel, rfl, by decide +kernel, by decide +kernel⟩
theorem ok_is_position (T : Txt K mg) : GFn P w K mg base CX0 1 "is_position" ["thing"] spIsPos := by
  refine T.f_is_position.ok0 sc_is_position (fun vs H Q E h => ?_) (fun f cdv A outer s H vs Q E hr h => ?_)
  · obtain ⟨x, rfl, _⟩ := h
    rfl
  · obtain ⟨x, rfl, hx, k⟩ := h
    refine ⟨_, pss_one (ps_ret (pe_and (pe_callB call_isi (by rfl) T.b_isinstance (by decide +kernel) (pa_cons (pv 0) (pa_cons (bl_str T) pa_nil))) (pe_one (pe_or (pe_cmpR op_eq (pv 0) pe_str (nomark _)) (pe_one (pe_cmpR op_eq (pv 0) pe_str (nomark _))))))), ?_⟩
    refine ⟨_, rfl, _, _, .type "str", .type "str", true, rfl, .ty "str", .base (.str x), kit_str K, true, rfl, iteT ?_⟩
    rcases hx with rfl | rfl
    · exact ⟨_, rfl, rfl, _, rfl, iteT k⟩
    · exact ⟨_, rfl, rfl, _, rfl, iteF ⟨_, rfl, rfl, k⟩⟩

/-! ### wrong_unless, need: of what is good -/
def spNeed : Sp := fun vs H Q _ => ∃ n : Int, vs = [.int n, .bl true] ∧ Q .non H
abbrev N_need : List Str := ["at", "good"]
theorem sc_wrong_unless : FnScope N_need ["at", "good"] (defScope s_wrong_unless) := ⟨rfl, rfl, rfl, by decide +kernel, rfl, by decide +kernel, by decide +kernel⟩
theorem ok_wrong_unless (T : Txt K mg) : GFn P w K mg base CX0 1 "wrong_unless" ["at", "good"] spNeed := by
  refine T.f_wrong_unless.ok0 sc_wrong_unless (fun vs H Q E h => ?_) (fun f cdv A outer s H vs Q E hr h => ?_)
  · obtain ⟨x, rfl, _⟩ := h
    rfl
  · obtain ⟨x, rfl, k⟩ := h
    exact ⟨_, pss_one (ps_if (pt_not (pt_val (pv 1))) pss_never pss_nil), _, rfl, true, rfl, iteF k⟩
theorem sc_need : FnScope N_need ["at", "good"] (defScope s_need) := ⟨rfl, rfl, rfl, by decide +kernel, rfl, by decide +kernel, by decide +kernel⟩
theorem ok_need (T : Txt K mg) : GFn P w K mg base CX0 1 "need" ["at", "good"] spNeed := by
  refine T.f_need.ok0 sc_need (fun vs H Q E h => ?_) (fun f cdv A outer s H vs Q E hr h => ?_)
  · obtain ⟨x, rfl, _⟩ := h
    rfl
  · obtain ⟨x, rfl, k⟩ := h
    exact ⟨_, pss_one (ps_if (pt_not (pt_val (pv 1))) pss_never pss_nil), _, rfl, true, rfl, iteF k⟩
end
end Sm
namespace Sm
open PySem PySem.Spec PyProof.Rows L2
/-! ### MainsError.__init__(self, ..): found in the chain of its bases -/
section
variable {X : Cx} {e : Expr} {es : List Expr} {ta : TA} {p1 p2 pos : Pos}
theorem pe_meinit {pl : Sem Bool} (T : MeT X.K X.mg) (ha : PA X (e :: es) ta) (hg : Gl X "MainsError" := by rfl)
    (hc : eval (.Call (.Attribute (.Name "MainsError" p1) "__init__" p2) (e :: es) [] pos) X.env = (do
      let ov ← eval (.Name "MainsError" p1) X.env
      standAt p2.atName
      let (f, first) ← holding [ov] (getMethod ov "__init__" pl)
      callWith pos f first (backTo pos (starEach (e :: es) X.env)) (backToKw pos (keywordEach [] X.env))) := by rfl)
    (he : starEach (e :: es) X.env = (false, eval e X.env) :: starEach es X.env := by rfl) (hpl : (backTo pos (starEach es X.env)).any (·.1) = false := by rfl) :
    PE X (.Call (.Attribute (.Name "MainsError" p1) "__init__" p2) (e :: es) [] pos) (tVeI X.K ta) := by
  obtain ⟨mc, r, hf⟩ := T.rd
  refine ⟨fun pins s σ H Q I h => ?_⟩
  refine PySem.W.methodCall_KW (ld_glob I hg T.gm ?_ (by decide)) hc
  refine PySem.W.method_cls I.kIn r.ga (PySem.W.cls_value I.kIn r.rd hf (by decide +kernel) ?_)
  show wpAny _ _ (callWith pos (Value.builtin "ValueError.__init__") [] (backTo pos (starEach (e :: es) X.env)) []) _ _ _
  refine PyProof.Rows.callWith_method1 (thn (ha.run pos pins _ σ H _ (I.tok _) h) fun us s1 hh => ?_) he hpl
  obtain ⟨vs, H1, I1, r1, a, C, ws, ev, hl, O, ea, q⟩ := hh
  subst ev
  cases r1 with
  | @cons _ u0 _ ur ra rw' =>
    obtain rfl : u0 = Value.ref a := ra
    have hlen : ur.length ≤ sizeLine := by
      rw [← Paired.length rw', sizeLine_eq]
      omega
    exact oinit_ok O I1 ea hlen fun s' J => ⟨.non, H1, J, rfl, q⟩
end
/-! ### a refusal is made -/
section
variable {P : Program} {w : World} {K : PySem.W.Frag} {mg : Str → Option Value} {base : Heap}
/-- X.__init__(self, v): the field is set -/
def spXI (K : PySem.W.Frag) (x fld : Str) : Sp := fun vs H Q _ => ∃ a v, vs = [.ref a, v] ∧ H a = some (exo a (cX K x) none) ∧
  ∀ dx, H dx = none → dx ≠ a → Q .non (upd (upd H dx (exd dx [(fld, v)])) a (exo a (cX K x) (some dx)))
def KXi (P : Program) (w : World) (K : PySem.W.Frag) (mg : Str → Option Value) (base : Heap) (x fld : Str) : Prop :=
  ∃ f fd, FnOk P w K mg base CX0 1 f fd ["self", fld] (spXI K x fld) ∧ PySem.W.findIn K (.ref (cX K x)) "__init__" = some (some (.ref f)) ∧ PySem.W.typeIn K (.ref f) = some (.type "function") ∧ Binds K fd ["self", fld] []
theorem read_xi {x fld : Str} {a : Addr} {v : V} {H : Hp} {Q : VK} {t : Str} (O : OexC K (cX K x)) (no : PySem.W.findIn K (.ref (cX K x)) fld = some none) (ha : H a = some (exo a (cX K x) none))
    (k : ∀ dx, H dx = none → dx ≠ a → Q .non (upd (upd H dx (exd dx [(fld, v)])) a (exo a (cX K x) (some dx)))) :
    tSeq (tDrop (tVeI K (tCons (tVar 0) (tCons (tC (.str t)) tNil)))) (tOst K fld (tVar 0) (tVar 1)) { nx := fun _ H' => Q .non H', rt := Q } [some (.ref a), some v] H :=
  ⟨_, rfl, a, cX K x, [.str t], rfl, (by show 1 ≤ 1000; decide), O, ha, v, rfl, _, rfl, a, cX K x, rfl, O, no, .inl ⟨ha, k⟩⟩
theorem sc_There : FnScope ["self", "name"] ["self", "name"] (defScope sXThere_init) := ⟨rfl, rfl, rfl, by decide +kernel, rfl, by decide +kernel, by decide +kernel⟩
theorem sc_Lacks : FnScope ["self", "name"] ["self", "name"] (defScope sXLacks_init) := ⟨rfl, rfl, rfl, by decide +kernel, rfl, by decide +kernel, by decide +kernel⟩
theorem sc_TooMany : FnScope ["self", "most"] ["self", "most"] (defScope sXTooMany_init) := ⟨rfl, rfl, rfl, by decide +kernel, rfl, by decide +kernel, by decide +kernel⟩
theorem sc_Held : FnScope ["self", "hands"] ["self", "hands"] (defScope sXHeld_init) := ⟨rfl, rfl, rfl, by decide +kernel, rfl, by decide +kernel, by decide +kernel⟩
theorem sc_Stuck : FnScope ["self", "name"] ["self", "name"] (defScope sXStuck_init) := ⟨rfl, rfl, rfl, by decide +kernel, rfl, by decide +kernel, by decide +kernel⟩
theorem sc_NotNow : FnScope ["self", "job"] ["self", "job"] (defScope sXNotNow_init) := ⟨rfl, rfl, rfl, by decide +kernel, rfl, by decide +kernel, by decide +kernel⟩
theorem len_xi {x fld : Str} (vs : List V) (H : Hp) (Q : VK) (E : XK) (h : spXI K x fld vs H Q E) : vs.length = (["self", fld] : List Str).length := by
  obtain ⟨a, v, rfl, _⟩ := h
  rfl
theorem ok_There_init (T : Txt K mg) : KXi P w K mg base "There" "name" := by
  obtain ⟨f, fd, F, h1, h2, hb⟩ := T.x_There.ini
  refine ⟨f, fd, F.ok sc_There len_xi (fun cdv A outer s H vs Q E hr h => ?_), h1, h2, hb⟩
  obtain ⟨a, v, rfl, ha, k⟩ := h
  exact ⟨_, pss_cons (ps_expr (pe_meinit T.me (pa_cons (pv 0) (pa_cons pe_str pa_nil)))) (pss_one (ps_ost (pv 0) (pv 1))), read_xi T.x_There.o T.x_There.no ha k⟩
theorem ok_Lacks_init (T : Txt K mg) : KXi P w K mg base "Lacks" "name" := by
  obtain ⟨f, fd, F, h1, h2, hb⟩ := T.x_Lacks.ini
  refine ⟨f, fd, F.ok sc_Lacks len_xi (fun cdv A outer s H vs Q E hr h => ?_), h1, h2, hb⟩
  obtain ⟨a, v, rfl, ha, k⟩ := h
  exact ⟨_, pss_cons (ps_expr (pe_meinit T.me (pa_cons (pv 0) (pa_cons pe_str pa_nil)))) (pss_one (ps_ost (pv 0) (pv 1))), read_xi T.x_Lacks.o T.x_Lacks.no ha k⟩
theorem ok_TooMany_init (T : Txt K mg) : KXi P w K mg base "TooMany" "most" := by
  obtain ⟨f, fd, F, h1, h2, hb⟩ := T.x_TooMany.ini
  refine ⟨f, fd, F.ok sc_TooMany len_xi (fun cdv A outer s H vs Q E hr h => ?_), h1, h2, hb⟩
  obtain ⟨a, v, rfl, ha, k⟩ := h
  exact ⟨_, pss_cons (ps_expr (pe_meinit T.me (pa_cons (pv 0) (pa_cons pe_str pa_nil)))) (pss_one (ps_ost (pv 0) (pv 1))), read_xi T.x_TooMany.o T.x_TooMany.no ha k⟩
theorem ok_Held_init (T : Txt K mg) : KXi P w K mg base "Held" "hands" := by
  obtain ⟨f, fd, F, h1, h2, hb⟩ := T.x_Held.ini
  refine ⟨f, fd, F.ok sc_Held len_xi (fun cdv A outer s H vs Q E hr h => ?_), h1, h2, hb⟩
  obtain ⟨a, v, rfl, ha, k⟩ := h
  exact ⟨_, pss_cons (ps_expr (pe_meinit T.me (pa_cons (pv 0) (pa_cons pe_str pa_nil)))) (pss_one (ps_ost (pv 0) (pv 1))), read_xi T.x_Held.o T.x_Held.no ha k⟩
theorem ok_Stuck_init (T : Txt K mg) : KXi P w K mg base "Stuck" "name" := by
  obtain ⟨f, fd, F, h1, h2, hb⟩ := T.x_Stuck.ini
  refine ⟨f, fd, F.ok sc_Stuck len_xi (fun cdv A outer s H vs Q E hr h => ?_), h1, h2, hb⟩
  obtain ⟨a, v, rfl, ha, k⟩ := h
  exact ⟨_, pss_cons (ps_expr (pe_meinit T.me (pa_cons (pv 0) (pa_cons pe_str pa_nil)))) (pss_one (ps_ost (pv 0) (pv 1))), read_xi T.x_Stuck.o T.x_Stuck.no ha k⟩
theorem ok_NotNow_init (T : Txt K mg) : KXi P w K mg base "NotNow" "job" := by
  obtain ⟨f, fd, F, h1, h2, hb⟩ := T.x_NotNow.ini
  refine ⟨f, fd, F.ok sc_NotNow len_xi (fun cdv A outer s H vs Q E hr h => ?_), h1, h2, hb⟩
  obtain ⟨a, v, rfl, ha, k⟩ := h
  exact ⟨_, pss_cons (ps_expr (pe_meinit T.me (pa_cons (pv 0) (pa_cons pe_str pa_nil)))) (pss_one (ps_ost (pv 0) (pv 1))), read_xi T.x_NotNow.o T.x_NotNow.no ha k⟩
end
/-- X(e): an exception of the class x whose own dict (new) holds the field -/
def tMkX (K : PySem.W.Frag) (x fld : Str) (ta : TA) : L2.St → Hp → XK → Prop := fun σ H Q => ta σ H fun vs H1 => ∃ v, vs = [v] ∧ ∀ d, H1 d = none → Q (.ref (cX K x)) (some d) (upd H1 d (.xd [(fld, v)]))
theorem exo_gone {H1 : Hp} {a d : Addr} {u1 u2 o : HO} {fs : List (Str × V)} (ha : H1 a = none) : upd (del (upd (upd (upd H1 a u1) d o) a u2) a) d (.xd fs) = upd H1 d (.xd fs) := by
  funext b
  by_cases hd : b = d
  · rw [hd, upd_same, upd_same]
  · rw [upd_ne hd, upd_ne hd]
    by_cases hb : b = a
    · rw [hb, del_same, ha]
    · rw [del_ne hb, upd_ne hb, upd_ne hd, upd_ne hb]
/-- arguments, closed under what follows from their wish -/
def tMon (ta : TA) : TA := fun σ H Q => ∃ R : List V → Hp → Prop, ta σ H R ∧ ∀ vs H1, R vs H1 → Q vs H1
theorem pa_mon {X : Cx} {es : List Expr} {ta : TA} (h : PA X es ta) : PA X es (tMon ta) := by
  refine ⟨fun pos pins s σ H Q I hq => ?_⟩
  obtain ⟨R, h1, h2⟩ := hq
  exact thn (h.run pos pins s σ H R I h1) fun us s1 ⟨vs, H1, I1, r, q⟩ => ⟨vs, H1, I1, r, h2 _ _ q⟩
section
variable {X : Cx} {a : Expr} {ta : TA} {x fld : Str} {p pos : Pos} {k : Nat}
/-- the rule, of every class of refusals -/
theorem pmk_x (G : KXi X.prog X.w X.K X.mg X.base x fld) (O : OexC X.K (cX X.K x)) (gm : X.mg x = some (.ref (cX X.K x))) (hr : Room (k + 2) X.A) (ha : PA X [a] ta) (hg : Gl X x) (hdb : (x == ("__debug__" : Str)) = false)
    (he : starEach (a :: []) X.env = (false, eval a X.env) :: starEach [] X.env := by rfl) (hpl : (backTo pos (starEach [] X.env)).any (·.1) = false := by rfl) :
    PMk X (.Call (.Name x p) [a] [] pos) (tMkX X.K x fld ta) := by
  obtain ⟨f, fd, F, iC, tI, hb⟩ := G
  have R := pmk_oex (pos := pos) (p := p) O iC tI F (hr.mono (by omega)) hb .nil pass0 hg gm (pa_mon ha) hdb he hpl
  intro pins s σ H Q I h
  refine R pins s σ H Q I ⟨_, h, fun vs H1 hh => ?_⟩
  obtain ⟨v, rfl, q⟩ := hh
  refine ⟨by show 1 ≤ 1000; decide, fun a ha => ⟨a, v, rfl, upd_same, fun dx hdx hne => ?_⟩⟩
  have hd1 : H1 dx = none := by rw [upd_ne hne] at hdx; exact hdx
  refine ⟨rfl, dx, [(fld, v)], upd_same, by rw [upd_ne hne, upd_same], hd1, ?_⟩
  rw [exo_gone ha]
  exact q dx hd1
end
section
variable {X : Cx} {a : Expr} {ta : TA} {p pos : Pos} {k : Nat}
theorem pmk_There (T : Txt X.K X.mg) (hr : Room (k + 2) X.A) (ha : PA X [a] ta) (hg : Gl X "There" := by rfl) (he : starEach (a :: []) X.env = (false, eval a X.env) :: starEach [] X.env := by rfl) (hpl : (backTo pos (starEach [] X.env)).any (·.1) = false := by rfl) :
    PMk X (.Call (.Name "There" p) [a] [] pos) (tMkX X.K "There" "name" ta) := pmk_x (ok_There_init T) T.x_There.o T.x_There.gm hr ha hg (by decide) he hpl
theorem pmk_Lacks (T : Txt X.K X.mg) (hr : Room (k + 2) X.A) (ha : PA X [a] ta) (hg : Gl X "Lacks" := by rfl) (he : starEach (a :: []) X.env = (false, eval a X.env) :: starEach [] X.env := by rfl) (hpl : (backTo pos (starEach [] X.env)).any (·.1) = false := by rfl) :
    PMk X (.Call (.Name "Lacks" p) [a] [] pos) (tMkX X.K "Lacks" "name" ta) := pmk_x (ok_Lacks_init T) T.x_Lacks.o T.x_Lacks.gm hr ha hg (by decide) he hpl
theorem pmk_TooMany (T : Txt X.K X.mg) (hr : Room (k + 2) X.A) (ha : PA X [a] ta) (hg : Gl X "TooMany" := by rfl) (he : starEach (a :: []) X.env = (false, eval a X.env) :: starEach [] X.env := by rfl) (hpl : (backTo pos (starEach [] X.env)).any (·.1) = false := by rfl) :
    PMk X (.Call (.Name "TooMany" p) [a] [] pos) (tMkX X.K "TooMany" "most" ta) := pmk_x (ok_TooMany_init T) T.x_TooMany.o T.x_TooMany.gm hr ha hg (by decide) he hpl
theorem pmk_Held (T : Txt X.K X.mg) (hr : Room (k + 2) X.A) (ha : PA X [a] ta) (hg : Gl X "Held" := by rfl) (he : starEach (a :: []) X.env = (false, eval a X.env) :: starEach [] X.env := by rfl) (hpl : (backTo pos (starEach [] X.env)).any (·.1) = false := by rfl) :
    PMk X (.Call (.Name "Held" p) [a] [] pos) (tMkX X.K "Held" "hands" ta) := pmk_x (ok_Held_init T) T.x_Held.o T.x_Held.gm hr ha hg (by decide) he hpl
theorem pmk_Stuck (T : Txt X.K X.mg) (hr : Room (k + 2) X.A) (ha : PA X [a] ta) (hg : Gl X "Stuck" := by rfl) (he : starEach (a :: []) X.env = (false, eval a X.env) :: starEach [] X.env := by rfl) (hpl : (backTo pos (starEach [] X.env)).any (·.1) = false := by rfl) :
    PMk X (.Call (.Name "Stuck" p) [a] [] pos) (tMkX X.K "Stuck" "name" ta) := pmk_x (ok_Stuck_init T) T.x_Stuck.o T.x_Stuck.gm hr ha hg (by decide) he hpl
theorem pmk_NotNow (T : Txt X.K X.mg) (hr : Room (k + 2) X.A) (ha : PA X [a] ta) (hg : Gl X "NotNow" := by rfl) (he : starEach (a :: []) X.env = (false, eval a X.env) :: starEach [] X.env := by rfl) (hpl : (backTo pos (starEach [] X.env)).any (·.1) = false := by rfl) :
    PMk X (.Call (.Name "NotNow" p) [a] [] pos) (tMkX X.K "NotNow" "job" ta) := pmk_x (ok_NotNow_init T) T.x_NotNow.o T.x_NotNow.gm hr ha hg (by decide) he hpl
end
/-! ### refusals -/
/-- a refusal with what it bears -/
inductive Rf where
  | there (n : Str) | lacks (n : Str) | tooMany (k : Int) | held (hs : List Str) | stuck (n : Str) | notNow (j : Str)
def Rf.nm : Rf → Str
  | .there _ => "There" | .lacks _ => "Lacks" | .tooMany _ => "TooMany" | .held _ => "Held" | .stuck _ => "Stuck" | .notNow _ => "NotNow"
def Rf.fld : Rf → Str
  | .there _ => "name" | .lacks _ => "name" | .tooMany _ => "most" | .held _ => "hands" | .stuck _ => "name" | .notNow _ => "job"
/-- the field's value -/
def Rf.is (H : Hp) (v : V) : Rf → Prop
  | .there n => v = .str n | .lacks n => v = .str n | .tooMany k => v = .int k | .stuck n => v = .str n | .notNow j => v = .str j
  | .held hs => ∃ l, v = .ref l ∧ H l = some (.lst (hs.map V.str))
/-- the wish E takes the refusal r, raised at H: what stood stands -/
def Threw (K : PySem.W.Frag) (r : Rf) (H : Hp) (E : XK) : Prop := ∀ (d : Addr) (H' : Hp) (v : V), Same H H' → H' d = some (.xd [(r.fld, v)]) → r.is H' v → E (.ref (cX K r.nm)) (some d) H'
theorem Same.new {H : Hp} {p : Addr} {o : HO} (h : H p = none) : Same H (upd H p o) := fun a u e => by
  rw [upd_ne (ne_of_none e h)]
  exact e
theorem Threw.mono {K : PySem.W.Frag} {r : Rf} {H H1 : Hp} {E : XK} (s : Same H H1) (h : Threw K r H E) : Threw K r H1 E := fun d H' v s' => h d H' v (s.trans s')
/-- at a raise of a name -/
theorem Threw.raise {K : PySem.W.Frag} {r : Rf} {H : Hp} {E : XK} {v : V} {x fld : Str} (h : Threw K r H E) (hx : x = r.nm) (hf : fld = r.fld) (hv : ∀ d, H d = none → r.is (upd H d (.xd [(fld, v)])) v) (d : Addr) (hd : H d = none) :
    E (.ref (cX K x)) (some d) (upd H d (.xd [(fld, v)])) := by
  subst hx hf
  exact h d _ v (Same.new hd) upd_same (hv d hd)
end Sm
namespace Sm
open PySem PySem.Spec PyProof.Rows L2
/-! ### dicts by their keys and a function -/
def dk (ks : List Str) (g : Str → V) : List (Key × V) := ks.map fun k => (Sum.inr k, g k)
def ups {α : Type} (g : Str → α) (k : Str) (v : α) : Str → α := fun j => if j = k then v else g j
theorem ups_same {α : Type} {g : Str → α} {k : Str} {v : α} : ups g k v k = v := if_pos rfl
theorem ups_ne {α : Type} {g : Str → α} {k j : Str} {v : α} (h : j ≠ k) : ups g k v j = g j := if_neg h
theorem dk_keys (ks : List Str) (g : Str → V) : (dk ks g).map (·.1) = ks.map Sum.inr := by
  unfold dk
  rw [List.map_map]
  rfl
theorem dk_len (ks : List Str) (g : Str → V) : (dk ks g).length = ks.length := by
  unfold dk
  rw [List.length_map]
theorem dk_cons (k : Str) (ks : List Str) (g : Str → V) : dk (k :: ks) g = (Sum.inr k, g k) :: dk ks g := rfl
theorem inr_ne {a b : Str} (h : a ≠ b) : ¬ (Sum.inr a : Key) = Sum.inr b := fun e => h (Sum.inr.inj e)
theorem dk_val (g : Str → V) (k : Str) : ∀ ks : List Str, valV (dk ks g) (Sum.inr k : Key) = if k ∈ ks then some (g k) else none
  | [] => rfl
  | a :: r => by
    rw [dk_cons]
    by_cases e : a = k
    · subst e
      rw [valV_pos rfl, if_pos List.mem_cons_self]
    · rw [valV_neg (inr_ne e), dk_val g k r]
      by_cases h : k ∈ r
      · rw [if_pos h, if_pos (List.mem_cons_of_mem _ h)]
      · rw [if_neg h, if_neg fun m => (List.mem_cons.mp m).elim (fun z => e z.symm) h]
theorem dk_congr {g g' : Str → V} : ∀ {ks : List Str}, (∀ k ∈ ks, g k = g' k) → dk ks g = dk ks g'
  | [], _ => rfl
  | a :: r, h => by
    rw [dk_cons, dk_cons, h a List.mem_cons_self, dk_congr fun k hk => h k (List.mem_cons_of_mem _ hk)]
theorem dk_put_new {ks : List Str} {g : Str → V} {k : Str} {v : V} (h : k ∉ ks) : putK (dk ks g) (Sum.inr k : Key) v = dk (ks ++ [k]) (ups g k v) := by
  rw [putK_new v (by rw [dk_val, if_neg h])]
  unfold dk
  rw [List.map_append]
  congr 1
  · exact dk_congr (ks := ks) (g := g) (g' := ups g k v) fun j hj => (ups_ne (g := g) (v := v) fun e => h (by rw [← e]; exact hj)).symm
  · show [((Sum.inr k : Key), v)] = [(Sum.inr k, ups g k v k)]
    rw [ups_same]
theorem dk_put_old {ks : List Str} {g : Str → V} {k : Str} {v : V} (h : k ∈ ks) : putK (dk ks g) (Sum.inr k : Key) v = dk ks (ups g k v) := by
  unfold putK
  have ha : ((dk ks g).any fun kv => decide (kv.1 = (Sum.inr k : Key))) = true := by
    rw [valV_any, dk_val, if_pos h]
    rfl
  rw [if_pos ha]
  unfold dk
  rw [List.map_map]
  refine List.map_congr_left fun j _ => ?_
  show (if (Sum.inr j : Key) = Sum.inr k then ((Sum.inr j : Key), v) else (Sum.inr j, g j)) = (Sum.inr j, ups g k v j)
  by_cases e : j = k
  · subst e
    rw [if_pos rfl, ups_same]
  · rw [if_neg (inr_ne e), ups_ne e]
theorem dk_drop (g : Str → V) (k : Str) : ∀ ks : List Str, dropK (dk ks g) (Sum.inr k : Key) = dk (ks.filter fun j => decide (j ≠ k)) g
  | [] => rfl
  | a :: r => by
    rw [dk_cons]
    by_cases e : a = k
    · rw [dropK_pos (by show (Sum.inr a : Key) = Sum.inr k; rw [e]), dk_drop g k r, List.filter_cons_of_neg (by simp [e])]
    · rw [dropK_neg (inr_ne e), dk_drop g k r, List.filter_cons_of_pos (by simp [e]), dk_cons]
section
variable {H : Hp} {a : Addr} {ks : List Str} {g : Str → V} {k : Str} {v : V}
theorem dgi (h : Rd H a (.dK (dk ks g))) : DGet H a (.str k) (if k ∈ ks then some (g k) else none) := .inl ⟨_, Sum.inr k, h, rfl, (dk_val g k ks).symm⟩
theorem dg (h : Rd H a (.dK (dk ks g))) (hk : k ∈ ks) : DGet H a (.str k) (some (g k)) := by
  have z := dgi (k := k) h
  rw [if_pos hk] at z
  exact z
theorem dgs (h : H a = some (.dK (dk ks g))) (hk : k ∈ ks) : DGet H a (.str k) (some (g k)) := dg (.inl h) hk
theorem isS {c : Prop} [Decidable c] {x : V} : (if c then some x else none).isSome = decide c := by
  by_cases h : c
  · rw [if_pos h, decide_eq_true h]; rfl
  · rw [if_neg h, decide_eq_false h]; rfl
theorem dp_new (h : H a = some (.dK (dk ks g))) (hl : ks.length < 1000) (hk : k ∉ ks) : DPut H a (.str k) v (upd H a (.dK (dk (ks ++ [k]) (ups g k v)))) := by
  have z := DPut.k (k := Sum.inr k) (v := v) h (by rw [dk_len]; exact sz_lt (by omega))
  rw [dk_put_new hk] at z
  exact z
theorem dp_old (h : H a = some (.dK (dk ks g))) (hl : ks.length < 1000) (hk : k ∈ ks) : DPut H a (.str k) v (upd H a (.dK (dk ks (ups g k v)))) := by
  have z := DPut.k (k := Sum.inr k) (v := v) h (by rw [dk_len]; exact sz_lt (by omega))
  rw [dk_put_old hk] at z
  exact z
end
/-- d[k] = v, the keys that stand then -/
def addk (ks : List Str) (k : Str) : List Str := if k ∈ ks then ks else ks ++ [k]
theorem dp {H : Hp} {a : Addr} {ks : List Str} {g : Str → V} {k : Str} {v : V} (h : H a = some (.dK (dk ks g))) (hl : ks.length < 1000) : DPut H a (.str k) v (upd H a (.dK (dk (addk ks k) (ups g k v)))) := by
  unfold addk
  by_cases hk : k ∈ ks
  · rw [if_pos hk]
    exact dp_old h hl hk
  · rw [if_neg hk]
    exact dp_new h hl hk
theorem addk_in {ks : List Str} {k : Str} (h : k ∈ ks) : addk ks k = ks := if_pos h
theorem addk_out {ks : List Str} {k : Str} (h : k ∉ ks) : addk ks k = ks ++ [k] := if_neg h
theorem mem_addk {ks : List Str} {k j : Str} : j ∈ addk ks k ↔ j ∈ ks ∨ j = k := by
  by_cases h : k ∈ ks
  · rw [addk_in h]
    exact ⟨.inl, fun z => z.elim id fun e => e ▸ h⟩
  · rw [addk_out h]
    simp
theorem nd_addk {ks : List Str} {k : Str} (h : ks.Nodup) : (addk ks k).Nodup := by
  by_cases hk : k ∈ ks
  · rw [addk_in hk]; exact h
  · rw [addk_out hk]; exact nd_snoc h hk
/-! ### what a dict is for: its role -/
inductive Ro where
  | no | st | ho | fa | mk | ro | md (d : Str) | m | pl | hm | tg | cw | jb | pp (j : Str) | hr
  deriving DecidableEq
def Ro.isB : Ro → Bool
  | .st => true | .ho => true | .fa => true | .mk => true | .ro => true | .md _ => true
  | _ => false
def Ro.isM : Ro → Bool
  | .m => true | .pl => true | .hm => true | .tg => true | .cw => true | .jb => true | .pp _ => true
  | _ => false
/-- all that stood stands, but the dicts of these roles -/
def Kp (ow : Addr → Ro) (p : Ro → Bool) (H H' : Hp) : Prop := ∀ a o, H a = some o → (p (ow a) = false ∨ ∀ kvs, o ≠ .dK kvs) → H' a = some o
section
variable {ow : Addr → Ro} {p q : Ro → Bool} {H H1 H2 : Hp} {a b : Addr} {o u : HO} {kvs : List (Key × V)}
theorem Kp.same (h : Same H H1) : Kp ow p H H1 := fun a o e _ => h a o e
theorem Kp.refl : Kp ow p H H := fun a o e _ => e
theorem Kp.trans (h : Kp ow p H H1) (k : Kp ow p H1 H2) : Kp ow p H H2 := fun a o e z => k a o (h a o e z) z
theorem Kp.upd (h : Kp ow p H H1) (hp : p (ow a) = true) (ha : H1 a = some (.dK kvs)) : Kp ow p H (upd H1 a u) := fun b o e z => by
  have hb := h b o e z
  have ne : b ≠ a := by
    rintro rfl
    rcases z with z | z
    · rw [hp] at z; cases z
    · rw [ha] at hb; exact z kvs (Option.some.inj hb).symm
  rw [upd_ne ne]
  exact hb
theorem Kp.new (h : Kp ow p H H1) (ha : H1 a = none) : Kp ow p H (L2.upd H1 a u) := fun b o e z => by
  have hb := h b o e z
  rw [upd_ne (ne_of_none hb ha)]
  exact hb
theorem ro_ne {r s : Ro} (h1 : ow a = r) (h2 : ow b = s) (d : r ≠ s) : a ≠ b := fun e => d (by rw [← h1, ← h2, e])
theorem up_ro {r s : Ro} (hb : H b = some o) (h1 : ow b = r) (h2 : ow a = s) (d : r ≠ s) : upd H a u b = some o := by rw [upd_ne (ro_ne h1 h2 d)]; exact hb
theorem up_k (hb : H b = some o) (ha : H a = some u) (d : o ≠ u) {u' : HO} : upd H a u' b = some o := by rw [upd_ne (ne_of hb ha d)]; exact hb
end
/-! ### the board -/
structure BA where
  (bd dx st ho fa mr ro : Addr)
  md : Str → Addr
  cr : Str → Addr
structure BS where
  devs : List Str
  pl : Str → Str
  hm : Str → Str
  fs : List Str
  ms : Str → List Str
  jobs : List Str
  cw : Str → List Str
def bfs (st ho fa mk ro : Addr) : List (Str × V) := [("stand_of", .ref st), ("home_of", .ref ho), ("fast", .ref fa), ("marks_of", .ref mk), ("crew_rows", .ref ro)]
abbrev BA.fs (x : BA) : List (Str × V) := bfs x.st x.ho x.fa x.mr x.ro
/-- what a board is -/
structure BOk (B : BS) : Prop where
  dv : Names B.devs 24
  pl : ∀ d ∈ B.devs, IsPos (B.pl d)
  hm : ∀ d ∈ B.devs, IsPos (B.hm d)
  fs : B.fs.Nodup ∧ ∀ d ∈ B.fs, d ∈ B.devs
  ms : ∀ d ∈ B.devs, (B.ms d).Nodup ∧ ∀ j ∈ B.ms d, j ∈ B.jobs
  jb : Names B.jobs 8
  cw : ∀ j ∈ B.jobs, Names (B.cw j) 6 ∧ B.cw j ≠ []
structure BAt (K : PySem.W.Frag) (ow : Addr → Ro) (x : BA) (B : BS) (H : Hp) : Prop where
  ob : H x.bd = some (.ins (cB K) x.dx x.fs)
  st : H x.st = some (.dK (dk B.devs fun d => .str (B.pl d)))
  ho : H x.ho = some (.dK (dk B.devs fun d => .str (B.hm d)))
  fa : H x.fa = some (.dK (dk B.fs fun _ => .bl true))
  mr : H x.mr = some (.dK (dk B.devs fun d => .ref (x.md d)))
  md : ∀ d ∈ B.devs, H (x.md d) = some (.dK (dk (B.ms d) fun _ => .bl true))
  ro : H x.ro = some (.dK (dk B.jobs fun j => .ref (x.cr j)))
  cr : ∀ j ∈ B.jobs, H (x.cr j) = some (.lst ((B.cw j).map V.str))
  rst : ow x.st = .st
  rho : ow x.ho = .ho
  rfa : ow x.fa = .fa
  rmk : ow x.mr = .mk
  rro : ow x.ro = .ro
  rmd : ∀ d ∈ B.devs, ow (x.md d) = .md d
theorem BAt.keep {K : PySem.W.Frag} {ow : Addr → Ro} {x : BA} {B : BS} {H H' : Hp} {p : Ro → Bool} (b : BAt K ow x B H) (k : Kp ow p H H') (hp : ∀ r, r.isB = true → p r = false) : BAt K ow x B H' where
  ob := k _ _ b.ob (.inr fun _ z => nomatch z)
  st := k _ _ b.st (.inl (by rw [b.rst]; exact hp _ rfl))
  ho := k _ _ b.ho (.inl (by rw [b.rho]; exact hp _ rfl))
  fa := k _ _ b.fa (.inl (by rw [b.rfa]; exact hp _ rfl))
  mr := k _ _ b.mr (.inl (by rw [b.rmk]; exact hp _ rfl))
  md := fun d hd => k _ _ (b.md d hd) (.inl (by rw [b.rmd d hd]; exact hp _ rfl))
  ro := k _ _ b.ro (.inl (by rw [b.rro]; exact hp _ rfl))
  cr := fun j hj => k _ _ (b.cr j hj) (.inr fun _ z => nomatch z)
  rst := b.rst
  rho := b.rho
  rfa := b.rfa
  rmk := b.rmk
  rro := b.rro
  rmd := b.rmd
theorem BAt.same {K : PySem.W.Frag} {ow : Addr → Ro} {x : BA} {B : BS} {H H' : Hp} (b : BAt K ow x B H) (k : Same H H') : BAt K ow x B H' := b.keep (p := fun _ => false) (Kp.same k) fun _ _ => rfl
theorem bf_st {st ho fa mk ro : Addr} : (bfs st ho fa mk ro).lookup ("stand_of" : Str) = some (V.ref st) := by rfl
theorem bf_ho {st ho fa mk ro : Addr} : (bfs st ho fa mk ro).lookup ("home_of" : Str) = some (V.ref ho) := by rfl
theorem bf_fa {st ho fa mk ro : Addr} : (bfs st ho fa mk ro).lookup ("fast" : Str) = some (V.ref fa) := by rfl
theorem bf_mk {st ho fa mk ro : Addr} : (bfs st ho fa mk ro).lookup ("marks_of" : Str) = some (V.ref mk) := by rfl
theorem bf_ro {st ho fa mk ro : Addr} : (bfs st ho fa mk ro).lookup ("crew_rows" : Str) = some (V.ref ro) := by rfl
theorem bf_no {st ho fa mk ro : Addr} {m : Str} (h : (["stand_of", "home_of", "fast", "marks_of", "crew_rows"] : List Str).all (fun y => !(m == y)) = true) : (bfs st ho fa mk ro).lookup m = none := by
  simp only [List.all_cons, List.all_nil, Bool.and_true, Bool.and_eq_true, Bool.not_eq_true'] at h
  simp [bfs, List.lookup, h]
end Sm
namespace Sm
open PySem PySem.Spec PyProof.Rows L2
/-! ### sorting -/
def leS (a b : Str) : Bool := !ltCps b.cps.toList a.cps.toList
theorem leS_iff {a b : Str} : leS a b = true ↔ a.cps.toList ≤ b.cps.toList := by
  unfold leS
  rw [ltCps_eq, Bool.not_eq_true', decide_eq_false_iff_not]
  exact List.not_lt
theorem leS_trans (a b c : Str) (h1 : leS a b = true) (h2 : leS b c = true) : leS a c = true := leS_iff.mpr (List.le_trans (leS_iff.mp h1) (leS_iff.mp h2))
theorem leS_total (a b : Str) : (leS a b || leS b a) = true := by
  rw [Bool.or_eq_true, leS_iff, leS_iff]
  exact List.le_total _ _
theorem str_ext {a b : Str} (h : a.cps.toList = b.cps.toList) : a = b := by
  obtain ⟨x⟩ := a
  obtain ⟨y⟩ := b
  exact congrArg Str.mk (Array.toList_inj.mp h)
theorem leS_anti {a b : Str} (h1 : leS a b = true) (h2 : leS b a = true) : a = b := str_ext (List.le_antisymm (leS_iff.mp h1) (leS_iff.mp h2))
def srt (l : List Str) : List Str := l.mergeSort leS
theorem srt_perm (l : List Str) : (srt l).Perm l := List.mergeSort_perm l leS
theorem srt_pw (l : List Str) : (srt l).Pairwise fun a b => leS a b = true := List.pairwise_mergeSort leS_trans leS_total l
theorem rising_pw : ∀ {l : List Str} {p : Str}, risingS p l = true → (p :: l).Pairwise fun a b => leS a b = true
  | [], p, _ => by simp
  | x :: r, p, h => by
    have h1 : (!ltCps x.cps.toList p.cps.toList && risingS x r) = true := h
    rw [Bool.and_eq_true] at h1
    have ih := rising_pw h1.2
    refine List.pairwise_cons.mpr ⟨fun b hb => ?_, ih⟩
    rcases List.mem_cons.mp hb with rfl | hb
    · exact h1.1
    · exact leS_trans p x b h1.1 ((List.pairwise_cons.mp ih).1 b hb)
theorem sorted_pw {l : List Str} (h : sortedS l = true) : l.Pairwise fun a b => leS a b = true := by
  cases l with
  | nil => exact List.Pairwise.nil
  | cons x r => exact rising_pw h
theorem srt_eq {ys xs : List Str} (hp : ys.Perm xs) (hs : sortedS ys = true) : ys = srt xs :=
  List.Perm.eq_of_pairwise (fun _ _ _ _ h1 h2 => leS_anti h1 h2) (sorted_pw hs) (srt_pw xs) (hp.trans (srt_perm xs).symm)
theorem srt_congr {xs ys : List Str} (h : xs.Perm ys) : srt xs = srt ys :=
  List.Perm.eq_of_pairwise (fun _ _ _ _ h1 h2 => leS_anti h1 h2) (srt_pw xs) (srt_pw ys) ((srt_perm xs).trans (h.trans (srt_perm ys).symm))
theorem srt_set {xs ys : List Str} (h1 : xs.Nodup) (h2 : ys.Nodup) (h : ∀ a, a ∈ xs ↔ a ∈ ys) : srt xs = srt ys := srt_congr ((List.perm_ext_iff_of_nodup h1 h2).mpr h)
theorem mem_srt {l : List Str} {a : Str} : a ∈ srt l ↔ a ∈ l := (srt_perm l).mem_iff
theorem len_srt (l : List Str) : (srt l).length = l.length := (srt_perm l).length_eq
theorem nd_srt {l : List Str} (h : l.Nodup) : (srt l).Nodup := (srt_perm l).nodup_iff.mpr h
theorem srt_nil_iff {l : List Str} : srt l = [] ↔ l = [] := by
  constructor
  · intro h
    have := len_srt l
    rw [h] at this
    exact List.length_eq_zero_iff.mp this.symm
  · rintro rfl
    exact List.length_eq_zero_iff.mp (len_srt [])
/-! ### each once -/
def dd : List Str → List Str
  | [] => []
  | a :: r => addk' (dd r) a
where addk' (l : List Str) (a : Str) : List Str := if a ∈ l then l else a :: l
theorem mem_dd {a : Str} : ∀ {l : List Str}, a ∈ dd l ↔ a ∈ l
  | [] => Iff.rfl
  | b :: r => by
    show a ∈ (if b ∈ dd r then dd r else b :: dd r) ↔ _
    by_cases h : b ∈ dd r
    · rw [if_pos h, mem_dd (l := r), List.mem_cons]
      exact ⟨.inr, fun z => z.elim (fun e => by rw [e]; exact mem_dd.mp h) id⟩
    · rw [if_neg h, List.mem_cons, List.mem_cons, mem_dd (l := r)]
theorem nd_dd : ∀ (l : List Str), (dd l).Nodup
  | [] => List.nodup_nil
  | b :: r => by
    show (if b ∈ dd r then dd r else b :: dd r).Nodup
    by_cases h : b ∈ dd r
    · rw [if_pos h]; exact nd_dd r
    · rw [if_neg h]; exact List.nodup_cons.mpr ⟨h, nd_dd r⟩
theorem len_dd : ∀ (l : List Str), (dd l).length ≤ l.length
  | [] => Nat.le_refl _
  | b :: r => by
    show (if b ∈ dd r then dd r else b :: dd r).length ≤ r.length + 1
    by_cases h : b ∈ dd r
    · rw [if_pos h]; exact Nat.le_succ_of_le (len_dd r)
    · rw [if_neg h]; exact Nat.succ_le_succ (len_dd r)
/-- the hands of all these jobs, sorted, each once -/
def hset (cw : Str → List Str) (js : List Str) : List Str := srt (dd (js.flatMap cw))
theorem hset_of {cw : Str → List Str} {js : List Str} {xs : List Str} (hn : xs.Nodup) (h : ∀ a, a ∈ xs ↔ ∃ j ∈ js, a ∈ cw j) : srt xs = hset cw js :=
  srt_set hn (nd_dd _) fun a => by rw [h, mem_dd, List.mem_flatMap]
theorem hset_congr {cw : Str → List Str} {js js' : List Str} (h : ∀ j, j ∈ js ↔ j ∈ js') : hset cw js = hset cw js' :=
  hset_of (nd_dd _) fun a => by
    rw [mem_dd, List.mem_flatMap]
    exact ⟨fun ⟨j, h1, h2⟩ => ⟨j, (h j).mp h1, h2⟩, fun ⟨j, h1, h2⟩ => ⟨j, (h j).mpr h1, h2⟩⟩
theorem hset_nil {cw : Str → List Str} {js : List Str} (hc : ∀ j ∈ js, cw j ≠ []) : hset cw js = [] ↔ js = [] := by
  unfold hset
  rw [srt_nil_iff]
  constructor
  · intro h
    cases js with
    | nil => rfl
    | cons j r =>
      cases e : cw j with
      | nil => exact absurd e (hc j List.mem_cons_self)
      | cons a t =>
        have : a ∈ dd ((j :: r).flatMap cw) := mem_dd.mpr (List.mem_flatMap.mpr ⟨j, List.mem_cons_self, by rw [e]; exact List.mem_cons_self⟩)
        rw [h] at this
        cases this
  · rintro rfl
    rfl
theorem flat_len {cw : Str → List Str} {n : Nat} : ∀ {js : List Str}, (∀ j ∈ js, (cw j).length ≤ n) → (js.flatMap cw).length ≤ js.length * n
  | [], _ => by simp
  | j :: r, h => by
    rw [List.flatMap_cons, List.length_append, List.length_cons, Nat.succ_mul]
    have h1 := h j List.mem_cons_self
    have h2 := flat_len fun k hk => h k (List.mem_cons_of_mem _ hk)
    omega
theorem nd_len {l m : List Str} (h : l.Nodup) (hs : ∀ a ∈ l, a ∈ m) : l.length ≤ m.length := by
  have : ∀ (l m : List Str), l.Nodup → (∀ a ∈ l, a ∈ m) → l.length ≤ m.length := by
    intro l
    induction l with
    | nil => intro m _ _; exact Nat.zero_le _
    | cons a r ih =>
      intro m hn hs
      obtain ⟨h1, h2⟩ := List.nodup_cons.mp hn
      have hm : a ∈ m := hs a List.mem_cons_self
      have q := ih (m.erase a) h2 fun b hb => by
        have hne : b ≠ a := fun e => h1 (e ▸ hb)
        exact (List.mem_erase_of_ne hne).mpr (hs b (List.mem_cons_of_mem _ hb))
      rw [List.length_erase_of_mem hm] at q
      have : 0 < m.length := List.length_pos_of_mem hm
      rw [List.length_cons]
      omega
  exact this l m h hs
theorem inV_str {x : Str} : ∀ {l : List Str}, inV (.str x) (l.map V.str) = decide (x ∈ l)
  | [] => rfl
  | a :: r => by
    have ih := inV_str (x := x) (l := r)
    show inV (.str x) (V.str a :: r.map V.str) = _
    by_cases h : a = x
    · subst h
      simp [inV, eqV]
    · have h' : ¬ x = a := fun e => h e.symm
      simp only [List.mem_cons, h', false_or]
      rw [← ih]
      simp [inV, eqV, h]
theorem flat_strs' (l : List Str) : (l.map V.str).all flatV = true := by
  rw [List.all_map, List.all_eq_true]
  intro _ _
  rfl
end Sm
namespace Sm
open PySem PySem.Spec PyProof.Rows L2
/-! ### small data: depth, the most signs that it is shown in -/
/-- a short word of plain signs -/
def WOk (x : Str) : Prop := x.length ≤ 8 ∧ ∀ c ∈ x.cps.toList, c < 128
instance (x : Str) : Decidable (WOk x) := inferInstanceAs (Decidable (_ ∧ _))
theorem abc_lt : ∀ c ∈ abc.cps.toList, c < 128 := by decide +kernel
theorem IsName.w {x : Str} (h : IsName x) : WOk x := ⟨h.2.1, fun c hc => abc_lt c (h.2.2 c hc)⟩
theorem IsPos.w {x : Str} (h : IsPos x) : WOk x := by
  rcases h with rfl | rfl <;> decide +kernel
inductive SmD : Nat → Nat → PyData → Prop
  | non {n b : Nat} (h : 90 ≤ b) : SmD n b .none
  | bool {n b : Nat} (x : Bool) (h : 90 ≤ b) : SmD n b (.bool x)
  | int {n b : Nat} (i : Int) (hi : i.natAbs ≤ 1000) (h : 90 ≤ b) : SmD n b (.int i)
  | str {n b : Nat} (x : Str) (hx : WOk x) (h : 90 ≤ b) : SmD n b (.str x)
  | list {n b c : Nat} {xs : List PyData} (hx : ∀ x ∈ xs, SmD n b x) (h : xs.length * (b + 2) + 3 ≤ c) : SmD (n + 1) c (.list xs)
  | tuple {n b c : Nat} {xs : List PyData} (hx : ∀ x ∈ xs, SmD n b x) (h : xs.length * (b + 2) + 3 ≤ c) : SmD (n + 1) c (.tuple xs)
theorem SmD.mono {n m b c : Nat} {d : PyData} (h : SmD n b d) (hm : n ≤ m) (hc : b ≤ c) : SmD m c d := by
  induction h generalizing m c with
  | non h => exact .non (by omega)
  | bool x h => exact .bool x (by omega)
  | int i hi h => exact .int i hi (by omega)
  | str x hx h => exact .str x hx (by omega)
  | list hx h ih =>
    obtain ⟨m', rfl⟩ : ∃ m', m = m' + 1 := ⟨m - 1, by omega⟩
    exact .list (fun x hx => ih x hx (by omega) (Nat.le_refl _)) (by omega)
  | tuple hx h ih =>
    obtain ⟨m', rfl⟩ : ∃ m', m = m' + 1 := ⟨m - 1, by omega⟩
    exact .tuple (fun x hx => ih x hx (by omega) (Nat.le_refl _)) (by omega)
/-- what the library asks of data -/
structure DOk (n b : Nat) (d : PyData) : Prop where
  lay : d.canLay0 = true
  dep : d.depth ≤ n
  sh : d.showable = true
  nd : d.hasDict = false
  len : d.shown.length ≤ b
structure DOks (n b : Nat) (ds : List PyData) : Prop where
  lay : PyData.canLayAll0 ds = true
  dep : PyData.depthAll ds ≤ n
  sh : PyData.showableAll ds = true
  nd : PyData.hasDictAll ds = false
  len : ((PyData.shownAll ds).map (·.length)).sum ≤ ds.length * b
  n_ : (PyData.shownAll ds).length = ds.length
theorem doks {n b : Nat} : ∀ {ds : List PyData}, (∀ d ∈ ds, DOk n b d) → DOks n b ds
  | [], _ => ⟨by simp only [PyData.canLayAll0], by simp only [PyData.depthAll]; exact Nat.zero_le _, by simp only [PyData.showableAll], by simp only [PyData.hasDictAll], by simp [PyData.shownAll], by simp [PyData.shownAll]⟩
  | d :: r, h => by
    have h1 := h d List.mem_cons_self
    have h2 := doks fun e he => h e (List.mem_cons_of_mem _ he)
    refine ⟨?_, ?_, ?_, ?_, ?_, ?_⟩
    · simp only [PyData.canLayAll0, h1.lay, h2.lay, Bool.and_self]
    · simp only [PyData.depthAll]
      exact Nat.max_le.mpr ⟨h1.dep, h2.dep⟩
    · simp only [PyData.showableAll, h1.sh, h2.sh, Bool.and_self]
    · simp only [PyData.hasDictAll, h1.nd, h2.nd, Bool.or_self]
    · simp only [PyData.shownAll, List.map_cons, List.sum_cons, List.length_cons]
      rw [Nat.succ_mul]
      have := h1.len
      have := h2.len
      omega
    · simp only [PyData.shownAll, List.length_cons, h2.n_]
theorem lt_log {i : Int} (h : i.natAbs ≤ 1000) : i.natAbs.log2 < 1920 := by
  by_cases e : i.natAbs = 0
  · rw [e]; decide
  · have h1 : i.natAbs.log2 ≤ 1000 := Nat.le_trans (Nat.log2_le_self _) h
    omega
theorem SmD.ok {n b : Nat} {d : PyData} (h : SmD n b d) : DOk n b d := by
  induction h with
  | non h => exact ⟨rfl, Nat.zero_le _, rfl, rfl, Nat.le_trans (by decide +kernel) h⟩
  | bool x h => exact ⟨rfl, Nat.zero_le _, rfl, rfl, Nat.le_trans (by cases x <;> decide +kernel) h⟩
  | int i hi h => exact ⟨rfl, Nat.zero_le _, by simp only [PyData.showable, decide_eq_true_iff]; exact lt_log hi, rfl, Nat.le_trans (PyData.shown_int_le (by omega)) (by omega)⟩
  | str x hx h =>
    refine ⟨?_, Nat.zero_le _, rfl, rfl, ?_⟩
    · simp only [PyData.canLay0, PyData.strOk, Array.all_eq_true_iff_forall_mem, decide_eq_true_iff]
      intro c hc
      have := hx.2 c (Array.mem_toList_iff.mpr hc)
      omega
    · have h1 := StrLaws.reprText_len x fun c hc => by have := hx.2 c hc; omega
      have h2 := hx.1
      rw [PyData.shown_str]
      omega
  | @list n b c xs hx h ih =>
    have D := doks ih
    refine ⟨by simp only [PyData.canLay0]; exact D.lay, by simp only [PyData.depth]; have := D.dep; omega, by simp only [PyData.showable]; exact D.sh, by simp only [PyData.hasDict]; exact D.nd, ?_⟩
    have h1 := listText_len_le (PyData.shownAll xs)
    have h2 := D.len
    rw [D.n_] at h1
    simp only [PyData.shown]
    rw [Nat.mul_add] at h
    omega
  | @tuple n b c xs hx h ih =>
    have D := doks ih
    refine ⟨by simp only [PyData.canLay0]; exact D.lay, by simp only [PyData.depth]; have := D.dep; omega, by simp only [PyData.showable]; exact D.sh, by simp only [PyData.hasDict]; exact D.nd, ?_⟩
    have h1 := tupleText_len_le (PyData.shownAll xs)
    have h2 := D.len
    rw [D.n_] at h1
    simp only [PyData.shown]
    rw [Nat.mul_add] at h
    omega
theorem SmD.shaped {n b : Nat} {d : PyData} (h : SmD n b d) (hn : n ≤ 64) : SeqAt.shaped d = true := by
  unfold SeqAt.shaped
  rw [h.ok.lay, decide_eq_true (Nat.le_trans h.ok.dep hn)]
  rfl
theorem SmD.refl {n b : Nat} {d : PyData} (h : SmD n b d) : PyData.eqv d d = true := SeqAt.eqv_refl d h.ok.lay
/-! ### lists of words -/
def dS (l : List Str) : PyData := .list (l.map PyData.str)
theorem sm_strs {l : List Str} (hw : ∀ x ∈ l, WOk x) {c : Nat} (h : l.length * 92 + 3 ≤ c) : SmD 1 c (dS l) :=
  .list (n := 0) (b := 90) (fun d hd => by
    obtain ⟨x, hx, rfl⟩ := List.mem_map.mp hd
    exact .str x (hw x hx) (Nat.le_refl _)) (by rw [List.length_map]; exact h)
theorem dpL {K : PySem.W.Frag} {H : Hp} {a : Addr} {l : List Str} (h : SqL K H a (l.map V.str)) : Dp K H (.ref a) (dS l) := by
  refine .lst h ?_
  clear h
  induction l with
  | nil => exact .nil
  | cons x r ih => exact .cons (.str x) ih
theorem eqv_nil {l : List Str} : PyData.eqv (dS l) (.list []) = decide (l = []) := by
  cases l with
  | nil => rfl
  | cons a r => rfl
end Sm
namespace Sm
open PySem PySem.Spec PyProof.Rows L2
theorem bl_true {c : Prop} [Decidable c] {Q : VK} {H : Hp} (h : c) (q : Q (.bl true) H) : Q (.bl (decide c)) H := by rw [decide_eq_true h]; exact q
theorem bl_false {c : Prop} [Decidable c] {Q : VK} {H : Hp} (h : ¬ c) (q : Q (.bl false) H) : Q (.bl (decide c)) H := by rw [decide_eq_false h]; exact q
/-! ### lists by their places -/
theorem take_more {α : Type} {l : List α} {i : Nat} {x : α} (h : l[i]? = some x) : l.take (i + 1) = l.take i ++ [x] := by
  rw [List.take_add_one, h]
  rfl
theorem strs_at {l : List Str} {i : Nat} {y : V} (h : (l.map V.str)[i]? = some y) : ∃ x, l[i]? = some x ∧ y = .str x := by
  rw [List.getElem?_map] at h
  cases e : l[i]? with
  | none => rw [e] at h; cases h
  | some x => rw [e] at h; exact ⟨x, rfl, (Option.some.inj h).symm⟩
theorem mem_at {α : Type} {l : List α} {i : Nat} {x : α} (h : l[i]? = some x) : x ∈ l := List.mem_of_getElem? h
theorem not_in_take {l : List Str} {i : Nat} {x : Str} (hn : l.Nodup) (h : l[i]? = some x) : x ∉ l.take i := fun hm => by
  obtain ⟨j, hj⟩ := List.getElem?_of_mem hm
  have hlt : j < i := by
    have := (List.getElem?_eq_some_iff.mp hj).1
    rw [List.length_take] at this
    omega
  rw [List.getElem?_take_of_lt hlt] at hj
  exact absurd (nd_ix hn hj h) (by omega)
theorem dk_at {ks : List Str} {g : Str → V} {i : Nat} {k : Key} {v : V} (h : (dk ks g)[i]? = some (k, v)) : ∃ x, ks[i]? = some x ∧ k = Sum.inr x ∧ v = g x := by
  unfold dk at h
  rw [List.getElem?_map] at h
  cases e : ks[i]? with
  | none => rw [e] at h; cases h
  | some x =>
    rw [e] at h
    obtain ⟨h1, h2⟩ := Prod.mk.inj (Option.some.inj h)
    exact ⟨x, rfl, h1.symm, h2.symm⟩
section
variable {P : Program} {w : World} {K : PySem.W.Frag} {mg : Str → Option Value} {base : Heap}
/-! ### are_names, is_stretch, is_crew: of such lists -/
def spNames (K : PySem.W.Frag) : Sp := fun vs H Q _ => ∃ (a : Addr) (l : List Str), vs = [.ref a] ∧ SqL K H a (l.map V.str) ∧ TyX K H (.ref a) (.type "list") ∧ Names l 60 ∧ ∀ H', Same H H' → Q (.bl true) H'
abbrev N_are_names : List Str := ["thing", "seen", "name"]
theorem sc_are_names : FnScope N_are_names ["thing"] (defScope s_are_names) := ⟨rfl, rfl, rfl, by decide +kernel, rfl, by decide +kernel, by decide +kernel⟩
theorem ok_are_names (T : Txt K mg) : GFn P w K mg base CX0 2 "are_names" ["thing"] (spNames K) := by
  refine T.f_are_names.ok0 sc_are_names (fun vs H Q E h => ?_) (fun f cdv A outer s H vs Q E hr h => ?_)
  · obtain ⟨x, l, rfl, _⟩ := h
    rfl
  · obtain ⟨a, l, rfl, hs, ty, hl, k⟩ := h
    have hu := hu_of hr
    refine ⟨_, (pss_cons (ps_if (PW.pt (pw_or (pt_not (pt_val (pe_callB call_isi (by rfl) T.b_isinstance (by decide +kernel) (pa_cons (pv 0) (pa_cons (bl_list T) pa_nil))))) (pw_or1 (pt_cmpR op_gt (pe_callB call_len_seq (by rfl) T.b_len (by decide +kernel) (pa_cons (pv 0) pa_nil)) (gl_MOST_NAMES T) (nomark _)))))
        (pss_one (ps_ret pe_bl))
        pss_nil)
      (pss_cons (ps_set (i := 1) sc_are_names.nd rfl (Or.inl rfl) pe_dnewK)
      (pss_cons (ps_for PassesOwn.never rfl (pi_list (pv 0)) (pg_name (i := 2) sc_are_names.nd rfl (Or.inl rfl))
        (pss_cons (ps_if (PW.pt (pw_or (pt_not (pt_val (pe_fn (ok_is_name T) (hr.mono (by decide)) pass0 (pa_cons (pv 2) pa_nil)))) (pw_or1 (pt_cmp (pc_din hu (pv 2) (pv 1))))))
        (pss_one (ps_ret pe_bl))
        pss_nil)
      (pss_one (ps_dput hu (pv 1) (pv 2) pe_bl rfl))))
      (pss_one (ps_ret pe_bl))))), ?_⟩
    refine ⟨_, rfl, _, _, .type "list", .type "list", true, rfl, .ty "list", ty, kit_list K, true, rfl, iteF ?_⟩
    refine ⟨_, rfl, a, _, rfl, .inl hs, _, _, rfl, rfl, false, congrArg V.bl (decide_eq_false (by have := hl.len; rw [List.length_map]; omega)), iteF ?_⟩
    intro d hd
    refine ⟨_, rfl, a, rfl, ⟨_, (Same.new hd).seq hs⟩, for_it walk_list (fun i σ H' => Same H H' ∧ H' d = some (.dK (dk (l.take i) fun _ => .bl true)) ∧ ∃ v, σ = [some (.ref a), some (.ref d), v]) ⟨Same.new hd, upd_same, none, rfl⟩ (fun _ _ _ _ h => h.1.seq hs) ?_ ?_⟩
    · rintro i y σ H1 H2 hi ⟨s1, h1, v, rfl⟩ ⟨rfl, hy⟩
      obtain ⟨x, hx, rfl⟩ := strs_at hy
      refine ⟨_, rfl, x, rfl, hl.all x (mem_at hx), true, rfl, iteF ?_⟩
      refine ⟨_, rfl, _, rfl, d, _, rfl, dgi (.inl h1), _, rfl, ?_⟩
      rw [isS, decide_eq_false (not_in_take hl.nd hx)]
      refine iteF ?_
      refine ⟨_, rfl, _, rfl, d, _, rfl, dp_new h1 (by rw [List.length_take]; have := hl.len; omega) (not_in_take hl.nd hx), fun b o e => ?_, ?_, _, rfl⟩
      · rw [upd_ne (ne_of_none e hd)]
        exact s1 b o e
      · rw [upd_same, take_more hx]
        congr 2
        exact dk_congr fun j _ => by unfold ups; by_cases e : j = x <;> simp [e]
    · rintro σ H1 ⟨s1, h1, v, rfl⟩
      exact k H1 s1
/-- of a stretch -/
def spStretch (K : PySem.W.Frag) : Sp := fun vs H Q _ => ∃ (a : Addr) (l : List Str), vs = [.ref a] ∧ SqL K H a (l.map V.str) ∧ TyX K H (.ref a) (.type "list") ∧ Names l 24 ∧ l ≠ [] ∧ ∀ H', Same H H' → Q (.bl true) H'
abbrev N_is_stretch : List Str := ["thing"]
theorem sc_is_stretch : FnScope N_is_stretch ["thing"] (defScope s_is_stretch) := ⟨rfl, rfl, rfl, by decide +kernel, rfl, by decide +kernel, by decide +kernel⟩
theorem Names.mono {l : List Str} {n m : Nat} (h : Names l n) (hm : n ≤ m) : Names l m := ⟨h.all, h.nd, Nat.le_trans h.len hm⟩
theorem pos_len {l : List Str} (h : l ≠ []) : 1 ≤ l.length := List.length_pos_iff.mpr h
theorem ok_is_stretch (T : Txt K mg) : GFn P w K mg base CX0 3 "is_stretch" ["thing"] (spStretch K) := by
  refine T.f_is_stretch.ok0 sc_is_stretch (fun vs H Q E h => ?_) (fun f cdv A outer s H vs Q E hr h => ?_)
  · obtain ⟨x, l, rfl, _⟩ := h
    rfl
  · obtain ⟨a, l, rfl, hs, ty, hl, hne, k⟩ := h
    refine ⟨_, (pss_one (ps_ret (pe_and (pe_fn (ok_are_names T) (hr.mono (by decide)) pass0 (pa_cons (pv 0) pa_nil)) (pe_one (pe_chain op_le op_le pe_int (pe_callB call_len_seq (by rfl) T.b_len (by decide +kernel) (pa_cons (pv 0) pa_nil)) (gl_MOST_STRETCH T)))))), ?_⟩
    have h1 := pos_len hne
    have h2 := hl.len
    refine ⟨_, rfl, a, l, rfl, hs, ty, hl.mono (by decide), fun H1 s1 => ⟨true, rfl, iteT ?_⟩⟩
    refine ⟨_, rfl, a, _, rfl, .inl (s1.seq hs), _, _, rfl, rfl, true, congrArg V.bl (decide_eq_true (by rw [List.length_map]; omega)), iteT ⟨_, _, rfl, rfl, ?_⟩⟩
    exact bl_true (Q := Q) (by rw [List.length_map]; omega) (k H1 s1)
def spCrew (K : PySem.W.Frag) : Sp := fun vs H Q _ => ∃ (a : Addr) (l : List Str), vs = [.ref a] ∧ SqL K H a (l.map V.str) ∧ TyX K H (.ref a) (.type "list") ∧ Names l 6 ∧ l ≠ [] ∧ ∀ H', Same H H' → Q (.bl true) H'
theorem sc_is_crew : FnScope N_is_stretch ["thing"] (defScope s_is_crew) := ⟨rfl, rfl, rfl, by decide +kernel, rfl, by decide +kernel, by decide +kernel⟩
theorem ok_is_crew (T : Txt K mg) : GFn P w K mg base CX0 3 "is_crew" ["thing"] (spCrew K) := by
  refine T.f_is_crew.ok0 sc_is_crew (fun vs H Q E h => ?_) (fun f cdv A outer s H vs Q E hr h => ?_)
  · obtain ⟨x, l, rfl, _⟩ := h
    rfl
  · obtain ⟨a, l, rfl, hs, ty, hl, hne, k⟩ := h
    refine ⟨_, (pss_one (ps_ret (pe_and (pe_fn (ok_are_names T) (hr.mono (by decide)) pass0 (pa_cons (pv 0) pa_nil)) (pe_one (pe_chain op_le op_le pe_int (pe_callB call_len_seq (by rfl) T.b_len (by decide +kernel) (pa_cons (pv 0) pa_nil)) (gl_MOST_HANDS_board T)))))), ?_⟩
    have h1 := pos_len hne
    have h2 := hl.len
    refine ⟨_, rfl, a, l, rfl, hs, ty, hl.mono (by decide), fun H1 s1 => ⟨true, rfl, iteT ?_⟩⟩
    refine ⟨_, rfl, a, _, rfl, .inl (s1.seq hs), _, _, rfl, rfl, true, congrArg V.bl (decide_eq_true (by rw [List.length_map]; omega)), iteT ⟨_, _, rfl, rfl, ?_⟩⟩
    exact bl_true (Q := Q) (by rw [List.length_map]; omega) (k H1 s1)
/-! ### are_apart: of such -/
def spApart (K : PySem.W.Frag) : Sp := fun vs H Q _ => ∃ (a b : Addr) (l m : List Str), vs = [.ref a, .ref b] ∧ SqL K H a (l.map V.str) ∧ SqL K H b (m.map V.str) ∧ (∀ x ∈ l, x ∉ m) ∧ Q (.bl true) H
abbrev N_are_apart : List Str := ["ones", "others", "name"]
theorem sc_are_apart : FnScope N_are_apart ["ones", "others"] (defScope s_are_apart) := ⟨rfl, rfl, rfl, by decide +kernel, rfl, by decide +kernel, by decide +kernel⟩
theorem ok_are_apart (T : Txt K mg) : GFn P w K mg base CX0 1 "are_apart" ["ones", "others"] (spApart K) := by
  refine T.f_are_apart.ok0 sc_are_apart (fun vs H Q E h => ?_) (fun f cdv A outer s H vs Q E hr h => ?_)
  · obtain ⟨x, y, l, m, rfl, _⟩ := h
    rfl
  · obtain ⟨a, b, l, m, rfl, ha, hb, hd, k⟩ := h
    refine ⟨_, (pss_cons (ps_for PassesOwn.never rfl (pi_list (pv 0)) (pg_name (i := 2) sc_are_apart.nd rfl (Or.inl rfl))
        (pss_one (ps_if (pt_cmpR op_in_seq (pv 2) (pv 1) rfl)
        (pss_one (ps_ret pe_bl))
        pss_nil)))
      (pss_one (ps_ret pe_bl))), ?_⟩
    refine ⟨_, rfl, a, rfl, ⟨_, ha⟩, for_it walk_list (fun i σ H' => H' = H ∧ ∃ v, σ = [some (.ref a), some (.ref b), v]) ⟨rfl, none, rfl⟩ (fun _ _ _ _ h => by rw [h.1]; exact ha) ?_ ?_⟩
    · rintro i y σ H1 H2 hi ⟨rfl, v, rfl⟩ ⟨rfl, hy⟩
      obtain ⟨x, hx, rfl⟩ := strs_at hy
      refine ⟨_, rfl, _, rfl, b, _, rfl, .inl hb, rfl, flat_strs' m, false, ?_, iteF ⟨rfl, _, rfl⟩⟩
      rw [if_neg Bool.false_ne_true, inV_str, decide_eq_false (hd x (mem_at hx))]
    · rintro σ H1 ⟨rfl, v, rfl⟩
      exact k
/-! ### lacks_unless -/
def spLacks0 : Sp := fun vs H Q _ => ∃ x a ks g, vs = [.str x, .ref a] ∧ Rd H a (.dK (dk ks g)) ∧ x ∈ ks ∧ Q .non H
def spLacks (K : PySem.W.Frag) : Sp := fun vs H Q E => ∃ x a ks g, vs = [.str x, .ref a] ∧ Rd H a (.dK (dk ks g)) ∧ (x ∈ ks → Q .non H) ∧ (x ∉ ks → Threw K (.lacks x) H E)
abbrev N_lacks_unless : List Str := ["name", "some"]
theorem sc_lacks_unless : FnScope N_lacks_unless ["name", "some"] (defScope s_lacks_unless) := ⟨rfl, rfl, rfl, by decide +kernel, rfl, by decide +kernel, by decide +kernel⟩
theorem ok_lacks_unless0 (T : Txt K mg) : GFn P w K mg base CX0 1 "lacks_unless" ["name", "some"] spLacks0 := by
  refine T.f_lacks_unless.ok0 sc_lacks_unless (fun vs H Q E h => ?_) (fun f cdv A outer s H vs Q E hr h => ?_)
  · obtain ⟨x, a, ks, g, rfl, _⟩ := h
    rfl
  · obtain ⟨x, a, ks, g, rfl, hd, hx, k⟩ := h
    have hu := hu_of hr
    refine ⟨_, (pss_one (ps_if (pt_cmp (pc_dnotin hu (pv 0) (pv 1))) pss_never pss_nil)), ?_⟩
    refine ⟨_, rfl, _, rfl, a, _, rfl, dgi hd, _, rfl, ?_⟩
    rw [isS, decide_eq_true hx]
    exact iteF k
theorem ok_lacks_unless (T : Txt K mg) : GFn P w K mg base (L2.CX P w) 4 "lacks_unless" ["name", "some"] (spLacks K) := by
  refine T.f_lacks_unless.ok sc_lacks_unless (fun vs H Q E h => ?_) (fun f cdv A outer s H vs Q E hr h => ?_)
  · obtain ⟨x, a, ks, g, rfl, _⟩ := h
    rfl
  · obtain ⟨x, a, ks, g, rfl, hd, k1, k2⟩ := h
    have hu := hu_of hr
    refine ⟨_, (pss_one (ps_if (pt_cmp (pc_dnotin hu (pv 0) (pv 1)))
      (pss_one (ps_raise rfl (takes_of rfl rfl rfl rfl) (pmk_Lacks T (k := 1) hr (by exact (pa_cons (pv 0) pa_nil)))))
      pss_nil)), ?_⟩
    refine ⟨_, rfl, _, rfl, a, _, rfl, dgi hd, _, rfl, ?_⟩
    rw [isS]
    by_cases hx : x ∈ ks
    · rw [decide_eq_true hx]
      exact iteF (k1 hx)
    · rw [decide_eq_false hx]
      exact iteT ⟨_, rfl, _, rfl, fun d hd => (k2 hx).raise rfl rfl (fun _ _ => rfl) d hd⟩
end
/-! ### statements that come often -/
section
variable {K : PySem.W.Frag} {σ : L2.St} {H : Hp} {D : Ends} {i : Nat} {x : Str} {n : Int} {E E' : XK} {f : Str}
theorem wuN (h : σ[i]? = some (some (.str x))) (hx : IsName x) (k : D.nx σ H) : tDrop (tCall spNeed [] E (tCons (tC (.int n)) (tCons (tCall spIsName [] E' (tCons (tVar i) tNil)) tNil))) D σ H := ⟨_, h, x, rfl, hx, n, rfl, k⟩
theorem wuP (h : σ[i]? = some (some (.str x))) (hx : IsPos x) (k : D.nx σ H) : tDrop (tCall spNeed [] E (tCons (tC (.int n)) (tCons (tCall spIsPos [] E' (tCons (tVar i) tNil)) tNil))) D σ H := ⟨_, h, x, rfl, hx, n, rfl, k⟩
end
end Sm
namespace Sm
open PySem PySem.Spec PyProof.Rows L2
/-- behind a lock all stands -/
theorem unlock {H H' : Hp} {d : Addr} {u f : HO} (hd : H d = some u) (s : Same (upd H d f) H') : Same H (upd H' d u) := fun b o e => by
  by_cases hb : b = d
  · subst hb
    rw [upd_same, ← hd]
    exact e
  · rw [upd_ne hb]
    exact s b o (by rw [upd_ne hb]; exact e)
theorem mut_dk {kvs : List (Key × V)} : Mut (some (.dK kvs)) := trivial
def optV : Option Str → V
  | none => .non
  | some j => .str j
/-- the jobs beside one -/
def oth (js : List Str) : Option Str → List Str
  | none => js
  | some j => js.filter fun a => decide (a ≠ j)
theorem oth_mem {js : List Str} {oj : Option Str} {a : Str} : a ∈ oth js oj ↔ a ∈ js ∧ V.str a ≠ optV oj := by
  cases oj with
  | none => exact ⟨fun h => ⟨h, fun z => nomatch z⟩, fun h => h.1⟩
  | some j =>
    show a ∈ js.filter (fun a => decide (a ≠ j)) ↔ _
    rw [List.mem_filter, decide_eq_true_iff]
    exact ⟨fun h => ⟨h.1, fun z => h.2 (V.str.inj z)⟩, fun h => ⟨h.1, fun z => h.2 (by rw [z]; rfl)⟩⟩
theorem iteNd {c : Prop} [Decidable c] {A B : Prop} (h1 : ¬ c → A) (h2 : c → B) : if (!decide c) = true then A else B := by
  by_cases h : c
  · rw [decide_eq_true h]; exact h2 h
  · rw [decide_eq_false h]; exact h1 h
theorem iteD {c : Prop} [Decidable c] {A B : Prop} (h1 : c → A) (h2 : ¬ c → B) : if decide c = true then A else B := by
  by_cases h : c
  · rw [decide_eq_true h]; exact h1 h
  · rw [decide_eq_false h]; exact h2 h
theorem scal_opt {a : Str} {oj : Option Str} : scal (.str a) (optV oj) = true := by cases oj <;> rfl
theorem bcrew_len {B : BS} (ok : BOk B) {js : List Str} (hn : js.Nodup) (hs : ∀ j ∈ js, j ∈ B.jobs) : (js.flatMap B.cw).length ≤ 48 := by
  have h1 := flat_len (cw := B.cw) (n := 6) (js := js) fun j hj => (ok.cw j (hs j hj)).1.len
  have h2 := nd_len hn hs
  have h3 := ok.jb.len
  omega
section
variable {P : Program} {w : World} {K : PySem.W.Frag} {mg : Str → Option Value} {base : Heap}
/-! ### hands_beside -/
def spHB (K : PySem.W.Frag) : Sp := fun vs H Q _ => ∃ ow x B d oj, vs = [.ref x.bd, .str d, optV oj] ∧ BAt K ow x B H ∧ BOk B ∧ d ∈ B.devs ∧
  ∀ H' p, Same H H' → H' p = some (.lst ((hset B.cw (oth (B.ms d) oj)).map V.str)) → Q (.ref p) H'
abbrev N_B_hands_beside : List Str := ["self", "device", "job", "found", "one", "hand"]
theorem sc_B_hands_beside : FnScope N_B_hands_beside ["self", "device", "job"] (defScope sB_hands_beside) := ⟨rfl, rfl, rfl, by decide +kernel, rfl, by decide +kernel, by decide +kernel⟩
theorem ok_B_hands_beside (T : Txt K mg) : MFn P w K mg base CX0 1 (cB K) "hands_beside" ["self", "device", "job"] (spHB K) := by
  refine T.m_B_hands_beside.ok0 sc_B_hands_beside (fun vs H Q E h => ?_) (fun f cdv A outer s H vs Q E hr h => ?_)
  · obtain ⟨ow, x, B, d, oj, rfl, _⟩ := h
    rfl
  · obtain ⟨ow, x, B, d, oj, rfl, b, ok, hd, k⟩ := h
    have hu := hu_of hr
    refine ⟨_, (pss_cons (ps_set (i := 3) sc_B_hands_beside.nd rfl (Or.inl rfl) pe_dnewK)
      (pss_cons (ps_lock (ps_for PassesOwn.never rfl (pi_keys (pe_dget hu (pe_fld (pv 0) rfl) (pv 1) (fun _ _ => rfl))) (pg_name (i := 4) sc_B_hands_beside.nd rfl (Or.inl rfl))
        (pss_one (ps_if (pt_cmpR op_ne (pv 4) (pv 2) (nomark _))
        (pss_one (ps_for PassesOwn.never rfl (pi_list (pe_dget hu (pe_fld (pv 0) rfl) (pv 4) (fun _ _ => rfl))) (pg_name (i := 5) sc_B_hands_beside.nd rfl (Or.inl rfl))
        (pss_one (ps_dput hu (pv 3) (pv 5) pe_bl rfl))))
        pss_nil))))
      (pss_one (ps_ret (pe_callB (call_sortedD rfl) (by rfl) T.b_sorted (by decide +kernel) (pa_cons (pv 3) pa_nil)))))), ?_⟩
    intro fa hfa
    have b1 := b.same (Same.new (o := .dK []) hfa)
    have hm := b1.md d hd
    have nfm : fa ≠ x.md d := ne_of_none (b.md d hd) hfa |>.symm
    refine ⟨x.md d, _, hm, mut_dk, fun od => ?_⟩
    -- within the lock
    have nb : ∀ {a : Addr} {o : HO}, (upd H fa (.dK [])) a = some o → a ≠ x.md d → (upd (upd H fa (.dK [])) (x.md d) (.frz od (.dK (dk (B.ms d) fun _ => .bl true)))) a = some o := fun e ne => by rw [upd_ne ne]; exact e
    have hob := nb b1.ob (ne_of b1.ob hm (by intro z; cases z))
    have hmk := nb b1.mr (ro_ne b.rmk (b.rmd d hd) (by intro z; cases z))
    have hro := nb b1.ro (ro_ne b.rro (b.rmd d hd) (by intro z; cases z))
    have hcr : ∀ j ∈ B.jobs, _ := fun j hj => nb (b1.cr j hj) (ne_of (b1.cr j hj) hm (by intro z; cases z))
    have hff := nb (upd_same (H := H) (a := fa) (o := .dK [])) nfm
    obtain ⟨mn, mj⟩ := ok.ms d hd
    refine ⟨_, rfl, _, _, _, _, _, rfl, hob, T.clB, T.nB_marks_of, bf_mk, _, rfl, x.mr, _, rfl, dgs hmk hd, x.md d, od, rfl, .inl ⟨_, upd_same, ?_⟩⟩
    refine for_it walk_keys (fun i σ H' => Same (upd H (x.md d) (.frz od (.dK (dk (B.ms d) fun _ => .bl true)))) H' ∧ (∃ fk, H' fa = some (.dK (dk fk fun _ => .bl true)) ∧ fk.Nodup ∧ ∀ a, a ∈ fk ↔ ∃ j ∈ oth ((B.ms d).take i) oj, a ∈ B.cw j) ∧
      ∃ v1 v2, σ = [some (.ref x.bd), some (.str d), some (optV oj), some (.ref fa), v1, v2])
      ⟨fun a o e => ?_, ⟨[], hff, List.nodup_nil, fun a => by cases oj <;> simp [oth]⟩, none, none, rfl⟩ (fun i σ H1 _ h => h.1 _ _ upd_same) ?_ ?_
    · by_cases ha : a = x.md d
      · subst ha
        rw [upd_same] at e ⊢
        exact e
      · rw [upd_ne ha] at e ⊢
        rw [upd_ne (ne_of_none e hfa)]
        exact e
    · -- a turn
      rintro i y σ H1 H2 hi ⟨s1, ⟨fk, hfk, fn, fm⟩, v1, v2, rfl⟩ ⟨rfl, k0, v0, hy, rfl⟩
      obtain ⟨j, hj, rfl, _⟩ := dk_at hy
      have hjm : j ∈ B.ms d := mem_at hj
      have hjj := mj j hjm
      have back : ∀ {a : Addr} {o : HO}, H a = some o → a ≠ x.md d → H2 a = some o := fun e ne => s1 _ _ (by rw [upd_ne ne]; exact e)
      have hob2 := back b.ob (ne_of b.ob (b.md d hd) (by intro z; cases z))
      have hro2 := back b.ro (ro_ne b.rro (b.rmd d hd) (by intro z; cases z))
      have hcr2 := back (b.cr j hjj) (ne_of (b.cr j hjj) (b.md d hd) (by intro z; cases z))
      refine ⟨_, rfl, _, rfl, scal_opt, _, rfl, ?_⟩
      refine iteNd (fun e => ?_) (fun e => ?_)
      rotate_left
      · refine ⟨s1, ⟨fk, hfk, fn, fun a => ?_⟩, _, _, rfl⟩
        rw [fm a]
        have : oth ((B.ms d).take (i + 1)) oj = oth ((B.ms d).take i) oj := by
          rw [take_more hj]
          cases oj with
          | none => cases e
          | some j' =>
            have e' : j = j' := V.str.inj e
            show (((B.ms d).take i ++ [j]).filter fun a => decide (a ≠ j')) = _
            rw [List.filter_append, e']
            simp [oth]
        rw [this]
      · have inner : ∀ a, (∃ j' ∈ oth ((B.ms d).take (i + 1)) oj, a ∈ B.cw j') ↔ (∃ j' ∈ oth ((B.ms d).take i) oj, a ∈ B.cw j') ∨ a ∈ B.cw j := fun a => by
          constructor
          · rintro ⟨j', h1, h2⟩
            rw [oth_mem, take_more hj, List.mem_append, List.mem_singleton] at h1
            rcases h1 with ⟨h1 | h1, h3⟩
            · exact .inl ⟨j', oth_mem.mpr ⟨h1, h3⟩, h2⟩
            · subst h1; exact .inr h2
          · rintro (⟨j', h1, h2⟩ | h2)
            · obtain ⟨h1, h3⟩ := oth_mem.mp h1
              exact ⟨j', oth_mem.mpr ⟨by rw [take_more hj, List.mem_append]; exact .inl h1, h3⟩, h2⟩
            · exact ⟨j, oth_mem.mpr ⟨by rw [take_more hj, List.mem_append]; exact .inr (List.mem_singleton.mpr rfl), e⟩, h2⟩
        refine ⟨_, rfl, _, _, _, _, _, rfl, hob2, T.clB, T.nB_crew_rows, bf_ro, _, rfl, x.ro, _, rfl, dgs hro2 hjj, x.cr j, rfl, ⟨_, SqL.of hcr2⟩, ?_⟩
        refine for_it walk_list (fun i' σ H' => Same (upd H (x.md d) (.frz od (.dK (dk (B.ms d) fun _ => .bl true)))) H' ∧ (∃ fk', H' fa = some (.dK (dk fk' fun _ => .bl true)) ∧ fk'.Nodup ∧ ∀ a, a ∈ fk' ↔ a ∈ fk ∨ a ∈ (B.cw j).take i') ∧
          ∃ v2, σ = [some (.ref x.bd), some (.str d), some (optV oj), some (.ref fa), some (.str j), v2])
          ⟨s1, ⟨fk, hfk, fn, fun a => by simp⟩, v2, rfl⟩ (fun i' σ H3 _ h => SqL.of (h.1 _ _ (by rw [upd_ne (ne_of (b.cr j hjj) (b.md d hd) (by intro z; cases z))]; exact b.cr j hjj))) ?_ ?_
        · rintro i' y' σ H3 H4 hi' ⟨s3, ⟨fk', hfk', fn', fm'⟩, v2', rfl⟩ ⟨rfl, hy'⟩
          obtain ⟨h, hh, rfl⟩ := strs_at hy'
          have hl : fk'.length < 1000 := by
            have h1 : ∀ a ∈ fk', a ∈ (B.ms d).flatMap B.cw := fun a ha => by
              rw [List.mem_flatMap]
              rcases (fm' a).mp ha with z | z
              · obtain ⟨j', q1, q2⟩ := (fm a).mp z
                exact ⟨j', List.mem_of_mem_take (oth_mem.mp q1).1, q2⟩
              · exact ⟨j, hjm, List.mem_of_mem_take z⟩
            have h2 := nd_len fn' h1
            have h3 := bcrew_len ok mn mj
            omega
          refine ⟨_, rfl, _, rfl, fa, _, rfl, dp hfk' hl, fun a o e => ?_, ⟨addk fk' h, ?_, nd_addk fn', fun a => ?_⟩, _, rfl⟩
          · have hne : a ≠ fa := by
              rintro rfl
              by_cases ha : a = x.md d
              · exact nfm ha
              · rw [upd_ne ha, hfa] at e; cases e
            rw [upd_ne hne]
            exact s3 a o e
          · rw [upd_same]
            congr 2
            exact dk_congr fun j _ => by unfold ups; by_cases e : j = h <;> simp [e]
          · rw [mem_addk, fm' a, take_more hh, List.mem_append, List.mem_singleton, or_assoc]
        · rintro σ H3 ⟨s3, ⟨fk', hfk', fn', fm'⟩, v2', rfl⟩
          refine ⟨s3, ⟨fk', hfk', fn', fun a => ?_⟩, _, _, rfl⟩
          rw [fm' a, List.length_map, List.take_length, fm a, inner a]
    · rintro σ H1 ⟨s1, ⟨fk, hfk, fn, fm⟩, v1, v2, rfl⟩
      refine ⟨s1 _ _ upd_same, ?_⟩
      have hl : fk.length < 64 := by
        have h1 : ∀ a ∈ fk, a ∈ (B.ms d).flatMap B.cw := fun a ha => by
          rw [List.mem_flatMap]
          obtain ⟨j', q1, q2⟩ := (fm a).mp ha
          exact ⟨j', List.mem_of_mem_take (oth_mem.mp q1).1, q2⟩
        have h2 := nd_len fn h1
        have h3 := bcrew_len ok mn mj
        omega
      have su : Same H (upd H1 (x.md d) (.dK (dk (B.ms d) fun _ => .bl true))) := unlock (b.md d hd) s1
      refine ⟨_, rfl, fa, _, fk, rfl, .inl (by rw [upd_ne nfm]; exact hfk), dk_keys _ _, hl, fun ys p hp hs hn => ?_⟩
      refine k _ p (su.trans (Same.new hn)) ?_
      rw [upd_same, srt_eq hp hs, hset_of fn fun a => ?_]
      rw [fm a, dk_len, List.take_length]
/-! ### refuse_held, refuse_stuck -/
def spRH (K : PySem.W.Frag) : Sp := fun vs H Q E => ∃ ow x B d oj, vs = [.ref x.bd, .str d, optV oj] ∧ BAt K ow x B H ∧ BOk B ∧ d ∈ B.devs ∧
  (oth (B.ms d) oj = [] → ∀ H', Same H H' → Q .non H') ∧ (oth (B.ms d) oj ≠ [] → Threw K (.held (hset B.cw (oth (B.ms d) oj))) H E)
abbrev N_B_refuse_held : List Str := ["self", "device", "job", "hands"]
theorem sc_B_refuse_held : FnScope N_B_refuse_held ["self", "device", "job"] (defScope sB_refuse_held) := ⟨rfl, rfl, rfl, by decide +kernel, rfl, by decide +kernel, by decide +kernel⟩
theorem hset_mem {cw : Str → List Str} {js : List Str} {a : Str} : a ∈ hset cw js ↔ ∃ j ∈ js, a ∈ cw j := by
  unfold hset
  rw [mem_srt, mem_dd, List.mem_flatMap]
theorem hset_len {cw : Str → List Str} {js : List Str} : (hset cw js).length ≤ (js.flatMap cw).length := by
  unfold hset
  rw [len_srt]
  exact len_dd _
theorem BOk.hands {B : BS} (ok : BOk B) {js : List Str} (hs : ∀ j ∈ js, j ∈ B.jobs) : ∀ a ∈ hset B.cw js, IsName a := fun a ha => by
  obtain ⟨j, hj, h⟩ := hset_mem.mp ha
  exact (ok.cw j (hs j hj)).1.all a h
theorem oth_sub {js : List Str} {oj : Option Str} {j : Str} (h : j ∈ oth js oj) : j ∈ js := (oth_mem.mp h).1
theorem oth_nd {js : List Str} {oj : Option Str} (h : js.Nodup) : (oth js oj).Nodup := by
  cases oj with
  | none => exact h
  | some j => exact h.sublist List.filter_sublist
theorem sm_hands {B : BS} (ok : BOk B) {d : Str} (hd : d ∈ B.devs) (oj : Option Str) : SmD 1 6000 (dS (hset B.cw (oth (B.ms d) oj))) := by
  obtain ⟨h1, h2⟩ := ok.ms d hd
  refine sm_strs (fun a ha => (ok.hands (fun j hj => h2 j (oth_sub hj)) a ha).w) ?_
  have h3 := hset_len (cw := B.cw) (js := oth (B.ms d) oj)
  have h4 := bcrew_len ok (oth_nd (oj := oj) h1) fun j hj => h2 j (oth_sub hj)
  omega
theorem ok_B_refuse_held (T : Txt K mg) : MFn P w K mg base (L2.CX P w) 4 (cB K) "refuse_held" ["self", "device", "job"] (spRH K) := by
  refine T.m_B_refuse_held.ok sc_B_refuse_held (fun vs H Q E h => ?_) (fun f cdv A outer s H vs Q E hr h => ?_)
  · obtain ⟨ow, x, B, d, oj, rfl, _⟩ := h
    rfl
  · obtain ⟨ow, x, B, d, oj, rfl, b, ok, hd, k1, k2⟩ := h
    refine ⟨_, (pss_cons (ps_set (i := 3) sc_B_refuse_held.nd rfl (Or.inl rfl) (pe_mth (pv 0) T.clB (ok_B_hands_beside T) (hr.mono (by decide)) pass0 (pa_cons (pv 1) (pa_cons (pv 2) pa_nil))))
      (pss_one (ps_if (pt_cmpR (op_neD hr.units) (pv 3) (pe_lst pa_nil) (nomark _))
        (pss_one (ps_raise rfl (takes_of rfl rfl rfl rfl) (pmk_Held T (k := 1) hr (by exact (pa_cons (pv 3) pa_nil)))))
        pss_nil))), ?_⟩
    refine ⟨_, rfl, _, _, _, rfl, b.ob, bf_no (by decide +kernel), _, rfl, _, rfl, ow, x, B, d, oj, rfl, b, ok, hd, fun H1 p s1 hp => ?_⟩
    refine ⟨_, rfl, (by show 0 ≤ sizeLine; exact Nat.zero_le _), fun q hq => ?_⟩
    have s2 := s1.trans (Same.new (o := .lst []) hq)
    have hp2 : (upd H1 q (.lst [])) p = _ := (Same.new hq) _ _ hp
    refine ⟨_, .list [], dpL (SqL.of hp2), .lst (xs := []) (SqL.of upd_same) .nil, (sm_hands ok hd oj).shaped (by decide), rfl, _, rfl, ?_⟩
    rw [eqv_nil]
    have hc : hset B.cw (oth (B.ms d) oj) = [] ↔ oth (B.ms d) oj = [] := hset_nil fun j hj => (ok.cw j ((ok.ms d hd).2 j (oth_mem.mp hj).1)).2
    by_cases e : oth (B.ms d) oj = []
    · rw [decide_eq_true (hc.mpr e)]
      exact iteF (k1 e _ s2)
    · rw [decide_eq_false fun z => e (hc.mp z)]
      refine iteT ⟨_, rfl, _, rfl, fun dd hdd => ?_⟩
      exact ((k2 e).mono s2).raise rfl rfl (fun d' hd' => ⟨p, rfl, (Same.new hd') _ _ hp2⟩) dd hdd
def spRS (K : PySem.W.Frag) : Sp := fun vs H Q E => ∃ ow x B d, vs = [.ref x.bd, .str d] ∧ BAt K ow x B H ∧
  (d ∉ B.fs → Q .non H) ∧ (d ∈ B.fs → Threw K (.stuck d) H E)
abbrev N_B_refuse_stuck : List Str := ["self", "device"]
theorem sc_B_refuse_stuck : FnScope N_B_refuse_stuck ["self", "device"] (defScope sB_refuse_stuck) := ⟨rfl, rfl, rfl, by decide +kernel, rfl, by decide +kernel, by decide +kernel⟩
theorem ok_B_refuse_stuck (T : Txt K mg) : MFn P w K mg base (L2.CX P w) 4 (cB K) "refuse_stuck" ["self", "device"] (spRS K) := by
  refine T.m_B_refuse_stuck.ok sc_B_refuse_stuck (fun vs H Q E h => ?_) (fun f cdv A outer s H vs Q E hr h => ?_)
  · obtain ⟨ow, x, B, d, rfl, _⟩ := h
    rfl
  · obtain ⟨ow, x, B, d, rfl, b, k1, k2⟩ := h
    have hu := hu_of hr
    refine ⟨_, (pss_one (ps_if (pt_cmp (pc_din hu (pv 1) (pe_fld (pv 0) rfl)))
      (pss_one (ps_raise rfl (takes_of rfl rfl rfl rfl) (pmk_Stuck T (k := 1) hr (by exact (pa_cons (pv 1) pa_nil)))))
      pss_nil)), ?_⟩
    refine ⟨_, rfl, _, rfl, _, _, _, _, _, rfl, b.ob, T.clB, T.nB_fast, bf_fa, x.fa, _, rfl, dgi (.inl b.fa), _, rfl, ?_⟩
    rw [isS]
    by_cases e : d ∈ B.fs
    · rw [decide_eq_true e]
      exact iteT ⟨_, rfl, _, rfl, fun dd hdd => (k2 e).raise rfl rfl (fun _ _ => rfl) dd hdd⟩
    · rw [decide_eq_false e]
      exact iteF (k1 e)
end
end Sm
namespace Sm
open PySem PySem.Spec PyProof.Rows L2
/-! ### tuples in lists -/
/-- the tuples stand -/
def KpT (H H' : Hp) : Prop := ∀ t xs, H t = some (.tup xs) → H' t = some (.tup xs)
theorem KpT.same {H H' : Hp} (h : Same H H') : KpT H H' := fun t xs e => h t _ e
theorem KpT.trans {H H1 H2 : Hp} (a : KpT H H1) (b : KpT H1 H2) : KpT H H2 := fun t xs e => b t xs (a t xs e)
theorem KpT.upd {H H1 : Hp} {a : Addr} {o u : HO} (h : KpT H H1) (ha : H1 a = some o) (ho : ∀ xs, o ≠ .tup xs) : KpT H (upd H1 a u) := fun t xs e => by
  have h1 := h t xs e
  rw [upd_ne (ne_of h1 ha fun z => ho xs z.symm)]
  exact h1
theorem Kp.tups {ow : Addr → Ro} {p : Ro → Bool} {H H' : Hp} (k : Kp ow p H H') : KpT H H' := fun t xs e => k t _ e (.inr fun _ z => nomatch z)
/-- v is a tuple of xs -/
def TupV (H : Hp) (v : V) (xs : List V) : Prop := ∃ t, v = .ref t ∧ H t = some (.tup xs)
/-- the items are tuples of the rows -/
abbrev Tups (H : Hp) : List V → List (List V) → Prop := Paired (TupV H)
theorem Tups.keep {H H' : Hp} (k : KpT H H') : ∀ {vs : List V} {rs : List (List V)}, Tups H vs rs → Tups H' vs rs
  | _, _, .nil => .nil
  | _, _, .cons ⟨t, e, h⟩ r => .cons ⟨t, e, k t _ h⟩ (Tups.keep k r)
theorem Paired.snoc {α β : Type} {F : α → β → Prop} {a : α} {b : β} (h : F a b) : ∀ {xs : List α} {ys : List β}, Paired F xs ys → Paired F (xs ++ [a]) (ys ++ [b])
  | _, _, .nil => .cons h .nil
  | _, _, .cons p r => .cons p (Paired.snoc h r)
theorem Paired.at {α β : Type} {F : α → β → Prop} {a : α} {i : Nat} : ∀ {xs : List α} {ys : List β}, Paired F xs ys → xs[i]? = some a → ∃ b, ys[i]? = some b ∧ F a b := by
  induction i with
  | zero =>
    intro xs ys h e
    cases h with
    | nil => cases e
    | cons p r =>
      cases Option.some.inj e
      exact ⟨_, rfl, p⟩
  | succ i ih =>
    intro xs ys h e
    cases h with
    | nil => cases e
    | cons p r => exact ih r (by simpa using e)
/-- data of rows of flat values -/
def flD : V → PyData
  | .bl b => .bool b
  | .int i => .int i
  | .str x => .str x
  | _ => .none
theorem dp_flat {K : PySem.W.Frag} {H : Hp} {v : V} (h : flatV v = true) : Dp K H v (flD v) := by
  cases v <;> first | exact .non | exact .bl _ | exact .int _ | exact .str _ | cases h
theorem dps_flat {K : PySem.W.Frag} {H : Hp} : ∀ {vs : List V}, vs.all flatV = true → DpAll K H vs (vs.map flD)
  | [], _ => .nil
  | v :: r, h => by
    rw [List.all_cons, Bool.and_eq_true] at h
    exact .cons (dp_flat h.1) (dps_flat h.2)
def rowD (r : List V) : PyData := .tuple (r.map flD)
theorem dps_rows {K : PySem.W.Frag} {H : Hp} : ∀ {vs : List V} {rs : List (List V)}, Tups H vs rs → (∀ r ∈ rs, r.all flatV = true) → DpAll K H vs (rs.map rowD)
  | _, _, .nil, _ => .nil
  | _, _, .cons ⟨t, e, h⟩ p, f => by
    subst e
    exact .cons (.tup (SqT.of h) (dps_flat (f _ List.mem_cons_self))) (dps_rows p fun r hr => f r (List.mem_cons_of_mem _ hr))
section
variable {P : Program} {w : World} {K : PySem.W.Frag} {mg : Str → Option Value} {base : Heap}
theorem lu0 {σ : L2.St} {H : Hp} {D : Ends} {i : Nat} {d : Str} {p a C dx : Addr} {fs : List (Str × V)} {f : Str} {ks : List Str} {g : Str → V} {E : XK} (hi : σ[i]? = some (some (.str d))) (h0 : σ[0]? = some (some (.ref p))) (ob : H p = some (.ins C dx fs))
    (c : Cls K C) (n : NoAttr K C f) (l : fs.lookup f = some (.ref a)) (hd : H a = some (.dK (dk ks g))) (hx : d ∈ ks) (k : D.nx σ H) : tDrop (tCall spLacks0 [] E (tCons (tVar i) (tCons (tFld K (tVar 0) f) tNil))) D σ H :=
  ⟨_, hi, _, h0, _, _, _, _, _, rfl, ob, c, n, l, d, a, ks, g, rfl, .inl hd, hx, k⟩
/-! ### what is told of a device -/
def spDev (K : PySem.W.Frag) (r : BS → Str → V) : Sp := fun vs H Q _ => ∃ ow x B d, vs = [.ref x.bd, .str d] ∧ BAt K ow x B H ∧ BOk B ∧ d ∈ B.devs ∧ Q (r B d) H
/-- .. that tells a new list -/
def spDevL (K : PySem.W.Frag) (r : BS → Str → List Str) : Sp := fun vs H Q _ => ∃ ow x B d, vs = [.ref x.bd, .str d] ∧ BAt K ow x B H ∧ BOk B ∧ d ∈ B.devs ∧ ∀ H' p, Same H H' → H' p = some (.lst ((r B d).map V.str)) → Q (.ref p) H'
abbrev N_B_stands : List Str := ["self", "device"]
theorem sc_B_stands : FnScope N_B_stands ["self", "device"] (defScope sB_stands) := ⟨rfl, rfl, rfl, by decide +kernel, rfl, by decide +kernel, by decide +kernel⟩
theorem ok_B_stands (T : Txt K mg) : MFn P w K mg base CX0 2 (cB K) "stands" ["self", "device"] (spDev K fun B d => .str (B.pl d)) := by
  refine T.m_B_stands.ok0 sc_B_stands (fun vs H Q E h => ?_) (fun f cdv A outer s H vs Q E hr h => ?_)
  · obtain ⟨ow, x, B, d, rfl, _⟩ := h
    rfl
  · obtain ⟨ow, x, B, d, rfl, b, ok, hd, k⟩ := h
    have hu := hu_of hr
    refine ⟨_, (pss_cons (ps_expr (pe_fn (ok_wrong_unless T) (hr.mono (by decide)) pass0 (pa_cons pe_int (pa_cons (pe_fn (ok_is_name T) (hr.mono (by decide)) pass0 (pa_cons (pv 1) pa_nil)) pa_nil))))
      (pss_cons (ps_expr (pe_fn (ok_lacks_unless0 T) (hr.mono (by decide)) pass0 (pa_cons (pv 1) (pa_cons (pe_fld (pv 0) rfl) pa_nil))))
      (pss_one (ps_ret (pe_dget hu (pe_fld (pv 0) rfl) (pv 1) (fun _ _ => rfl)))))), ?_⟩
    refine wuN rfl (ok.dv.all d hd) (lu0 rfl rfl b.ob T.clB T.nB_stand_of bf_st b.st hd ?_)
    exact ⟨_, rfl, _, _, _, _, _, rfl, b.ob, T.clB, T.nB_stand_of, bf_st, _, rfl, _, _, rfl, dgs b.st hd, k⟩
theorem sc_B_home : FnScope N_B_stands ["self", "device"] (defScope sB_home) := ⟨rfl, rfl, rfl, by decide +kernel, rfl, by decide +kernel, by decide +kernel⟩
theorem ok_B_home (T : Txt K mg) : MFn P w K mg base CX0 2 (cB K) "home" ["self", "device"] (spDev K fun B d => .str (B.hm d)) := by
  refine T.m_B_home.ok0 sc_B_home (fun vs H Q E h => ?_) (fun f cdv A outer s H vs Q E hr h => ?_)
  · obtain ⟨ow, x, B, d, rfl, _⟩ := h
    rfl
  · obtain ⟨ow, x, B, d, rfl, b, ok, hd, k⟩ := h
    have hu := hu_of hr
    refine ⟨_, (pss_cons (ps_expr (pe_fn (ok_wrong_unless T) (hr.mono (by decide)) pass0 (pa_cons pe_int (pa_cons (pe_fn (ok_is_name T) (hr.mono (by decide)) pass0 (pa_cons (pv 1) pa_nil)) pa_nil))))
      (pss_cons (ps_expr (pe_fn (ok_lacks_unless0 T) (hr.mono (by decide)) pass0 (pa_cons (pv 1) (pa_cons (pe_fld (pv 0) rfl) pa_nil))))
      (pss_one (ps_ret (pe_dget hu (pe_fld (pv 0) rfl) (pv 1) (fun _ _ => rfl)))))), ?_⟩
    refine wuN rfl (ok.dv.all d hd) (lu0 rfl rfl b.ob T.clB T.nB_stand_of bf_st b.st hd ?_)
    exact ⟨_, rfl, _, _, _, _, _, rfl, b.ob, T.clB, T.nB_home_of, bf_ho, _, rfl, _, _, rfl, dgs b.ho hd, k⟩
theorem sc_B_is_stuck : FnScope N_B_stands ["self", "device"] (defScope sB_is_stuck) := ⟨rfl, rfl, rfl, by decide +kernel, rfl, by decide +kernel, by decide +kernel⟩
theorem ok_B_is_stuck (T : Txt K mg) : MFn P w K mg base CX0 2 (cB K) "is_stuck" ["self", "device"] (spDev K fun B d => .bl (decide (d ∈ B.fs))) := by
  refine T.m_B_is_stuck.ok0 sc_B_is_stuck (fun vs H Q E h => ?_) (fun f cdv A outer s H vs Q E hr h => ?_)
  · obtain ⟨ow, x, B, d, rfl, _⟩ := h
    rfl
  · obtain ⟨ow, x, B, d, rfl, b, ok, hd, k⟩ := h
    have hu := hu_of hr
    refine ⟨_, (pss_cons (ps_expr (pe_fn (ok_wrong_unless T) (hr.mono (by decide)) pass0 (pa_cons pe_int (pa_cons (pe_fn (ok_is_name T) (hr.mono (by decide)) pass0 (pa_cons (pv 1) pa_nil)) pa_nil))))
      (pss_cons (ps_expr (pe_fn (ok_lacks_unless0 T) (hr.mono (by decide)) pass0 (pa_cons (pv 1) (pa_cons (pe_fld (pv 0) rfl) pa_nil))))
      (pss_one (ps_ret (pe_cmp (pc_din hu (pv 1) (pe_fld (pv 0) rfl)) rfl))))), ?_⟩
    refine wuN rfl (ok.dv.all d hd) (lu0 rfl rfl b.ob T.clB T.nB_stand_of bf_st b.st hd ?_)
    refine ⟨_, rfl, _, rfl, _, _, _, _, _, rfl, b.ob, T.clB, T.nB_fast, bf_fa, _, _, rfl, dgi (.inl b.fa), ?_⟩
    rw [isS]
    exact k
theorem sc_B_jobs_on : FnScope N_B_stands ["self", "device"] (defScope sB_jobs_on) := ⟨rfl, rfl, rfl, by decide +kernel, rfl, by decide +kernel, by decide +kernel⟩
theorem ok_B_jobs_on (T : Txt K mg) : MFn P w K mg base CX0 2 (cB K) "jobs_on" ["self", "device"] (spDevL K fun B d => srt (B.ms d)) := by
  refine T.m_B_jobs_on.ok0 sc_B_jobs_on (fun vs H Q E h => ?_) (fun f cdv A outer s H vs Q E hr h => ?_)
  · obtain ⟨ow, x, B, d, rfl, _⟩ := h
    rfl
  · obtain ⟨ow, x, B, d, rfl, b, ok, hd, k⟩ := h
    have hu := hu_of hr
    refine ⟨_, (pss_cons (ps_expr (pe_fn (ok_wrong_unless T) (hr.mono (by decide)) pass0 (pa_cons pe_int (pa_cons (pe_fn (ok_is_name T) (hr.mono (by decide)) pass0 (pa_cons (pv 1) pa_nil)) pa_nil))))
      (pss_cons (ps_expr (pe_fn (ok_lacks_unless0 T) (hr.mono (by decide)) pass0 (pa_cons (pv 1) (pa_cons (pe_fld (pv 0) rfl) pa_nil))))
      (pss_one (ps_ret (pe_callB (call_sortedD rfl) (by rfl) T.b_sorted (by decide +kernel) (pa_cons (pe_dget hu (pe_fld (pv 0) rfl) (pv 1) (fun _ _ => rfl)) pa_nil)))))), ?_⟩
    refine wuN rfl (ok.dv.all d hd) (lu0 rfl rfl b.ob T.clB T.nB_stand_of bf_st b.st hd ?_)
    obtain ⟨n1, n2⟩ := ok.ms d hd
    have h3 := nd_len n1 n2
    have h4 := ok.jb.len
    refine ⟨_, rfl, _, _, _, _, _, rfl, b.ob, T.clB, T.nB_marks_of, bf_mk, _, rfl, _, _, rfl, dgs b.mr hd, x.md d, _, B.ms d, rfl, .inl (b.md d hd), dk_keys _ _, by omega, fun ys p hp hs hn => ?_⟩
    refine k _ p (Same.new hn) ?_
    rw [upd_same, srt_eq hp hs]
/-! ### devices, jobs -/
def spAll (K : PySem.W.Frag) (r : BS → List Str) : Sp := fun vs H Q _ => ∃ ow x B, vs = [.ref x.bd] ∧ BAt K ow x B H ∧ BOk B ∧ ∀ H' p, Same H H' → H' p = some (.lst ((r B).map V.str)) → Q (.ref p) H'
abbrev N_B_devices : List Str := ["self"]
theorem sc_B_devices : FnScope N_B_devices ["self"] (defScope sB_devices) := ⟨rfl, rfl, rfl, by decide +kernel, rfl, by decide +kernel, by decide +kernel⟩
theorem ok_B_devices (T : Txt K mg) : MFn P w K mg base CX0 1 (cB K) "devices" ["self"] (spAll K fun B => srt B.devs) := by
  refine T.m_B_devices.ok0 sc_B_devices (fun vs H Q E h => ?_) (fun f cdv A outer s H vs Q E hr h => ?_)
  · obtain ⟨ow, x, B, rfl, _⟩ := h
    rfl
  · obtain ⟨ow, x, B, rfl, b, ok, k⟩ := h
    refine ⟨_, (pss_one (ps_ret (pe_callB (call_sortedD rfl) (by rfl) T.b_sorted (by decide +kernel) (pa_cons (pe_fld (pv 0) rfl) pa_nil)))), ?_⟩
    refine ⟨_, rfl, _, _, _, _, _, rfl, b.ob, T.clB, T.nB_stand_of, bf_st, x.st, _, B.devs, rfl, .inl b.st, dk_keys _ _, by have := ok.dv.len; omega, fun ys p hp hs hn => ?_⟩
    refine k _ p (Same.new hn) ?_
    rw [upd_same, srt_eq hp hs]
theorem sc_B_jobs : FnScope N_B_devices ["self"] (defScope sB_jobs) := ⟨rfl, rfl, rfl, by decide +kernel, rfl, by decide +kernel, by decide +kernel⟩
theorem ok_B_jobs (T : Txt K mg) : MFn P w K mg base CX0 1 (cB K) "jobs" ["self"] (spAll K fun B => srt B.jobs) := by
  refine T.m_B_jobs.ok0 sc_B_jobs (fun vs H Q E h => ?_) (fun f cdv A outer s H vs Q E hr h => ?_)
  · obtain ⟨ow, x, B, rfl, _⟩ := h
    rfl
  · obtain ⟨ow, x, B, rfl, b, ok, k⟩ := h
    refine ⟨_, (pss_one (ps_ret (pe_callB (call_sortedD rfl) (by rfl) T.b_sorted (by decide +kernel) (pa_cons (pe_fld (pv 0) rfl) pa_nil)))), ?_⟩
    refine ⟨_, rfl, _, _, _, _, _, rfl, b.ob, T.clB, T.nB_crew_rows, bf_ro, x.ro, _, B.jobs, rfl, .inl b.ro, dk_keys _ _, by have := ok.jb.len; omega, fun ys p hp hs hn => ?_⟩
    refine k _ p (Same.new hn) ?_
    rw [upd_same, srt_eq hp hs]
/-! ### of a job: crew_of, held_by -/
def spJobL (K : PySem.W.Frag) (r : BS → Str → List Str) : Sp := fun vs H Q _ => ∃ ow x B j, vs = [.ref x.bd, .str j] ∧ BAt K ow x B H ∧ BOk B ∧ j ∈ B.jobs ∧ ∀ H' p, Same H H' → H' p = some (.lst ((r B j).map V.str)) → H p = none → Q (.ref p) H'
abbrev N_B_crew_of : List Str := ["self", "job"]
theorem sc_B_crew_of : FnScope N_B_crew_of ["self", "job"] (defScope sB_crew_of) := ⟨rfl, rfl, rfl, by decide +kernel, rfl, by decide +kernel, by decide +kernel⟩
theorem ok_B_crew_of (T : Txt K mg) : MFn P w K mg base CX0 2 (cB K) "crew_of" ["self", "job"] (spJobL K fun B j => B.cw j) := by
  refine T.m_B_crew_of.ok0 sc_B_crew_of (fun vs H Q E h => ?_) (fun f cdv A outer s H vs Q E hr h => ?_)
  · obtain ⟨ow, x, B, j, rfl, _⟩ := h
    rfl
  · obtain ⟨ow, x, B, j, rfl, b, ok, hj, k⟩ := h
    have hu := hu_of hr
    refine ⟨_, (pss_cons (ps_expr (pe_fn (ok_wrong_unless T) (hr.mono (by decide)) pass0 (pa_cons pe_int (pa_cons (pe_fn (ok_is_name T) (hr.mono (by decide)) pass0 (pa_cons (pv 1) pa_nil)) pa_nil))))
      (pss_cons (ps_expr (pe_fn (ok_lacks_unless0 T) (hr.mono (by decide)) pass0 (pa_cons (pv 1) (pa_cons (pe_fld (pv 0) rfl) pa_nil))))
      (pss_one (ps_ret (pe_callTy call_list_of (by rfl) T.b_list (by decide +kernel) (pa_cons (pe_dget hu (pe_fld (pv 0) rfl) (pv 1) (fun _ _ => rfl)) pa_nil)))))), ?_⟩
    refine wuN rfl (ok.jb.all j hj) (lu0 rfl rfl b.ob T.clB T.nB_crew_rows bf_ro b.ro hj ?_)
    refine ⟨_, rfl, _, _, _, _, _, rfl, b.ob, T.clB, T.nB_crew_rows, bf_ro, _, rfl, _, _, rfl, dgs b.ro hj, x.cr j, _, rfl, .inl (SqL.of (b.cr j hj)), fun l hl => ?_⟩
    exact k _ l (Same.new hl) upd_same hl
abbrev N_B_held_by : List Str := ["self", "job", "device", "marks"]
theorem sc_B_held_by : FnScope N_B_held_by ["self", "job"] (defScope sB_held_by) := ⟨rfl, rfl, rfl, by decide +kernel, rfl, by decide +kernel, by decide +kernel⟩
theorem ok_B_held_by (T : Txt K mg) : MFn P w K mg base CX0 2 (cB K) "held_by" ["self", "job"] (spJobL K fun B j => srt (B.devs.filter fun d => decide (j ∈ B.ms d))) := by
  refine T.m_B_held_by.ok0 sc_B_held_by (fun vs H Q E h => ?_) (fun f cdv A outer s H vs Q E hr h => ?_)
  · obtain ⟨ow, x, B, j, rfl, _⟩ := h
    rfl
  · obtain ⟨ow, x, B, j, rfl, b, ok, hj, k⟩ := h
    have hu := hu_of hr
    refine ⟨_, (pss_cons (ps_expr (pe_fn (ok_wrong_unless T) (hr.mono (by decide)) pass0 (pa_cons pe_int (pa_cons (pe_fn (ok_is_name T) (hr.mono (by decide)) pass0 (pa_cons (pv 1) pa_nil)) pa_nil))))
      (pss_cons (ps_expr (pe_fn (ok_lacks_unless0 T) (hr.mono (by decide)) pass0 (pa_cons (pv 1) (pa_cons (pe_fld (pv 0) rfl) pa_nil))))
      (pss_one (ps_ret (pe_callB cr_sortedS (by rfl) T.b_sorted (by decide +kernel) (by exact (pa_cons (pe_lock (pe_lc (own := [("device", 2), ("marks", 3)]) (g := gTup K 2 (gCons (gName 2) (gCons (gName 3) gNil))) (by rfl) sc_B_held_by.nd (pi_items (pe_fld (pv 0) rfl)) (blkOk_by (own := [("device", 2), ("marks", 3)]) (N := N_B_held_by) (sc := defScope sB_held_by) (by decide +kernel)) (fun _ _ _ _ _ => (pg_tup (by rfl) (pgs_cons (pg_name (i := 2) sc_B_held_by.nd rfl (Or.inl rfl)) (pgs_cons (pg_name (i := 3) sc_B_held_by.nd rfl (Or.inl rfl)) pgs_nil)))) (fun _ _ _ _ _ => (pts_one (pt_cmp (pc_din hu (pv 1) (pv 3))))) (fun _ _ _ _ _ => (pv 2)))) pa_nil))))))), ?_⟩
    refine wuN rfl (ok.jb.all j hj) (lu0 rfl rfl b.ob T.clB T.nB_crew_rows bf_ro b.ro hj ?_)
    refine ⟨x.mr, _, b.mr, mut_dk, fun od => ?_⟩
    have nb : ∀ {a : Addr} {o : HO}, H a = some o → a ≠ x.mr → (upd H x.mr (.frz od (.dK (dk B.devs fun d => .ref (x.md d))))) a = some o := fun e ne => by rw [upd_ne ne]; exact e
    refine ⟨_, rfl, _, _, _, _, _, rfl, nb b.ob (ne_of b.ob b.mr (by intro z; cases z)), T.clB, T.nB_marks_of, bf_mk, x.mr, od, _, rfl, upd_same, fun L hL => ?_⟩
    have hL0 : H L = none := by
      by_cases e : L = x.mr
      · subst e; rw [upd_same] at hL; cases hL
      · rw [upd_ne e] at hL; exact hL
    refine lc_it walk_items (fun i H1 => Same (upd H x.mr (.frz od (.dK (dk B.devs fun d => .ref (x.md d))))) H1 ∧ H1 L = some (.lst (((B.devs.take i).filter fun d => decide (j ∈ B.ms d)).map V.str))) ⟨Same.new hL, upd_same⟩ (fun i H1 _ h => h.1 _ _ upd_same) ?_ ?_
    · rintro i y H1 H2 hi ⟨s1, h1⟩ ⟨t, u, v, rfl, ht, rfl, hu1, hv1⟩
      obtain ⟨d, hd, rfl, rfl⟩ : ∃ d, B.devs[i]? = some d ∧ u = .str d ∧ v = .ref (x.md d) := by
        have hu1' : Option.map (fun kv => kV kv.1) ((dk B.devs fun d => V.ref (x.md d))[i]?) = some u := hu1
        have hv1' : Option.map (fun kv => kv.2) ((dk B.devs fun d => V.ref (x.md d))[i]?) = some v := hv1
        cases e : (dk B.devs fun d => V.ref (x.md d))[i]? with
        | none => rw [e] at hu1'; cases hu1'
        | some kv =>
          obtain ⟨k0, v0⟩ := kv
          obtain ⟨d, hd, rfl, rfl⟩ := dk_at e
          rw [e] at hu1' hv1'
          exact ⟨d, hd, (Option.some.inj hu1').symm, (Option.some.inj hv1').symm⟩
      have hdm := mem_at hd
      have s2 := s1.trans (Same.new (o := .tup [.str d, .ref (x.md d)]) ht)
      have hLt : L ≠ t := ne_of_none h1 ht
      have hmd := s2 _ _ (nb (b.md d hdm) (ro_ne (b.rmd d hdm) b.rmk (by intro z; cases z)))
      refine ⟨t, _, rfl, SqT.of upd_same, rfl, _, _, rfl, _, _, rfl, rfl, rfl, ?_⟩
      refine ⟨_, rfl, _, rfl, x.md d, _, rfl, dgi (.inl hmd), _, rfl, ?_⟩
      rw [isS]
      refine iteD (fun e => ?_) (fun e => ?_)
      · refine ⟨_, rfl, _, by rw [upd_ne hLt]; exact h1, sz_lt (by rw [List.length_map]; have q1 := List.length_filter_le (fun d => decide (j ∈ B.ms d)) (B.devs.take i); have q2 := List.length_take_le' i B.devs; have q3 := ok.dv.len; omega), fun a o e' => ?_, ?_⟩
        · have hne : a ≠ L := by
            rintro rfl
            rw [hL] at e'; cases e'
          rw [upd_ne hne]
          exact s2 a o e'
        · rw [upd_same, take_more hd, List.filter_append, List.filter_cons_of_pos (by simpa using e), List.filter_nil, List.map_append]
          rfl
      · refine ⟨s2, ?_⟩
        rw [upd_ne hLt, h1, take_more hd, List.filter_append, List.filter_cons_of_neg (by simpa using e), List.filter_nil, List.append_nil]
    · rintro H1 ⟨s1, h1⟩
      rw [dk_len, List.take_length] at h1
      refine ⟨s1 _ _ upd_same, ?_⟩
      have su := unlock b.mr s1
      have nL : L ≠ x.mr := by
        rintro rfl
        rw [s1 _ _ upd_same] at h1; cases h1
      refine ⟨L, _, rfl, SqL.of (by rw [upd_ne nL]; exact h1), by have q1 := List.length_filter_le (fun d => decide (j ∈ B.ms d)) B.devs; have q3 := ok.dv.len; omega, fun ys p hp hs hn => ?_⟩
      refine k _ p (su.trans (Same.new hn)) ?_ (su.free hn)
      rw [upd_same, srt_eq hp hs]
/-! ### tags -/
def tagR (B : BS) (d : Str) : List (List V) := (srt (B.ms d)).flatMap fun j => (srt (B.cw j)).map fun h => [V.str j, V.str h]
def spTags (K : PySem.W.Frag) : Sp := fun vs H Q _ => ∃ ow x B d, vs = [.ref x.bd, .str d] ∧ BAt K ow x B H ∧ BOk B ∧ d ∈ B.devs ∧ ∀ H' p items, Same H H' → H' p = some (.lst items) → Tups H' items (tagR B d) → Q (.ref p) H'
abbrev N_B_tags : List Str := ["self", "device", "found", "job", "hand"]
theorem sc_B_tags : FnScope N_B_tags ["self", "device"] (defScope sB_tags) := ⟨rfl, rfl, rfl, by decide +kernel, rfl, by decide +kernel, by decide +kernel⟩
theorem Same.mut {H H' : Hp} {p : Addr} {o : HO} (e : Same H H') (h : H p = none) : Same H (upd H' p o) := fun a u ha => by
  rw [upd_ne (ne_of_none ha h)]
  exact e a u ha
theorem Tups.len {H : Hp} {vs : List V} {rs : List (List V)} (h : Tups H vs rs) : vs.length = rs.length := Paired.length h
theorem ok_B_tags (T : Txt K mg) : MFn P w K mg base CX0 2 (cB K) "tags" ["self", "device"] (spTags K) := by
  refine T.m_B_tags.ok0 sc_B_tags (fun vs H Q E h => ?_) (fun f cdv A outer s H vs Q E hr h => ?_)
  · obtain ⟨ow, x, B, d, rfl, _⟩ := h
    rfl
  · obtain ⟨ow, x, B, d, rfl, b, ok, hd, k⟩ := h
    have hu := hu_of hr
    refine ⟨_, (pss_cons (ps_expr (pe_fn (ok_wrong_unless T) (hr.mono (by decide)) pass0 (pa_cons pe_int (pa_cons (pe_fn (ok_is_name T) (hr.mono (by decide)) pass0 (pa_cons (pv 1) pa_nil)) pa_nil))))
      (pss_cons (ps_expr (pe_fn (ok_lacks_unless0 T) (hr.mono (by decide)) pass0 (pa_cons (pv 1) (pa_cons (pe_fld (pv 0) rfl) pa_nil))))
      (pss_cons (ps_set (i := 2) sc_B_tags.nd rfl (Or.inl rfl) (pe_lst pa_nil))
      (pss_cons (ps_for PassesOwn.never rfl (pi_list (pe_callB (call_sortedD rfl) (by rfl) T.b_sorted (by decide +kernel) (pa_cons (pe_dget hu (pe_fld (pv 0) rfl) (pv 1) (fun _ _ => rfl)) pa_nil))) (pg_name (i := 3) sc_B_tags.nd rfl (Or.inl rfl))
        (pss_one (ps_for PassesOwn.never rfl (pi_list (pe_callB cr_sortedS (by rfl) T.b_sorted (by decide +kernel) (pa_cons (pe_dget hu (pe_fld (pv 0) rfl) (pv 3) (fun _ _ => rfl)) pa_nil))) (pg_name (i := 4) sc_B_tags.nd rfl (Or.inl rfl))
        (pss_one (ps_expr (pe_bm PySem.F.plainAttrs_list PySem.F.slot_list_append PySem.F.type_list_append mt_append (pv 2) (pa_cons (pe_tup (pa_cons (pv 3) (pa_cons (pv 4) pa_nil))) pa_nil)))))))
      (pss_one (ps_ret (pv 2))))))), ?_⟩
    refine wuN rfl (ok.dv.all d hd) (lu0 rfl rfl b.ob T.clB T.nB_stand_of bf_st b.st hd ?_)
    refine ⟨by show 0 ≤ sizeLine; exact Nat.zero_le _, fun L hL => ?_⟩
    have s1 : Same H (upd H L (.lst [])) := Same.new hL
    have b1 := b.same s1
    obtain ⟨n1, n2⟩ := ok.ms d hd
    have h3 := nd_len n1 n2
    have h4 := ok.jb.len
    refine ⟨_, rfl, _, _, _, _, _, rfl, b1.ob, T.clB, T.nB_marks_of, bf_mk, _, rfl, _, _, rfl, dgs b1.mr hd, x.md d, _, B.ms d, rfl, .inl (b1.md d hd), dk_keys _ _, by omega, fun ys p hp hs hn => ?_⟩
    have ey := srt_eq hp hs
    subst ey
    have s2 : Same H (upd (upd H L (.lst [])) p (.lst ((srt (B.ms d)).map V.str))) := s1.trans (Same.new hn)
    have hLp : L ≠ p := ne_of_none (upd_same (H := H) (a := L)) hn
    -- what is found stands under a bound
    have bound : ∀ i, (((srt (B.ms d)).take i).flatMap fun j => (srt (B.cw j)).map fun h => [V.str j, V.str h]).length ≤ 48 := fun i => by
      have e : ∀ l : List Str, (l.flatMap fun j => (srt (B.cw j)).map fun h => [V.str j, V.str h]).length = (l.flatMap B.cw).length := by
        intro l
        induction l with
        | nil => rfl
        | cons a r ih => rw [List.flatMap_cons, List.flatMap_cons, List.length_append, List.length_append, ih, List.length_map, len_srt]
      rw [e]
      exact bcrew_len ok ((nd_srt n1).sublist (List.take_sublist _ _)) fun j hj => n2 j (mem_srt.mp (List.mem_of_mem_take hj))
    refine ⟨p, rfl, ⟨_, SqL.of upd_same⟩, for_it walk_list (fun i σ H' => Same H H' ∧ H' p = some (.lst ((srt (B.ms d)).map V.str)) ∧ (∃ items, H' L = some (.lst items) ∧ Tups H' items (((srt (B.ms d)).take i).flatMap fun j => (srt (B.cw j)).map fun h => [V.str j, V.str h])) ∧
      ∃ v1 v2, σ = [some (.ref x.bd), some (.str d), some (.ref L), v1, v2]) ⟨s2, upd_same, ⟨[], by rw [upd_ne hLp, upd_same], .nil⟩, none, none, rfl⟩ (fun i σ H1 _ h => SqL.of h.2.1) ?_ ?_⟩
    · rintro i y σ H1 H2 hi ⟨s3, hp3, ⟨items, hL3, ht3⟩, v1, v2, rfl⟩ ⟨rfl, hy⟩
      obtain ⟨j, hj, rfl⟩ := strs_at hy
      have hjj : j ∈ B.jobs := n2 j (mem_srt.mp (mem_at hj))
      have b3 := b.same s3
      have hcw := (ok.cw j hjj).1
      refine ⟨_, rfl, _, _, _, _, _, rfl, b3.ob, T.clB, T.nB_crew_rows, bf_ro, _, rfl, _, _, rfl, dgs b3.ro hjj, x.cr j, _, rfl, SqL.of (b3.cr j hjj), by have := hcw.len; omega, fun ys q hq hsq hnq => ?_⟩
      have ey := srt_eq hq hsq
      subst ey
      refine ⟨q, rfl, ⟨_, SqL.of upd_same⟩, for_it walk_list (fun i' σ H' => Same H H' ∧ H' p = some (.lst ((srt (B.ms d)).map V.str)) ∧ H' q = some (.lst ((srt (B.cw j)).map V.str)) ∧
        (∃ items, H' L = some (.lst items) ∧ Tups H' items ((((srt (B.ms d)).take i).flatMap fun j => (srt (B.cw j)).map fun h => [V.str j, V.str h]) ++ ((srt (B.cw j)).take i').map fun h => [V.str j, V.str h])) ∧
        ∃ v2, σ = [some (.ref x.bd), some (.str d), some (.ref L), some (.str j), v2])
        ⟨s3.trans (Same.new hnq), (Same.new hnq) _ _ hp3, upd_same, ⟨items, (Same.new hnq) _ _ hL3, by rw [List.take_zero, List.map_nil, List.append_nil]; exact ht3.keep (KpT.same (Same.new hnq))⟩, v2, rfl⟩ (fun i σ H1 _ h => SqL.of h.2.2.1) ?_ ?_⟩
      · rintro i' y' σ H3 H4 hi' ⟨s4, hp4, hq4, ⟨items', hL4, ht4⟩, v2', rfl⟩ ⟨rfl, hy'⟩
        obtain ⟨h, hh, rfl⟩ := strs_at hy'
        refine ⟨_, rfl, .inl ⟨rfl, _, SqL.of hL4⟩, _, rfl, _, rfl, by show 2 ≤ sizeLine; decide, fun t ht => ?_⟩
        have hLt : L ≠ t := ne_of_none hL4 ht
        have s5 := s4.trans (Same.new (o := .tup [.str j, .str h]) ht)
        refine ⟨L, items', _, rfl, rfl, by rw [upd_ne hLt]; exact hL4, sz_lt ?_, ?_⟩
        · rw [ht4.len, List.length_append, List.length_map]
          have q1 := bound i
          have q2 := List.length_take_le i' (srt (B.cw j))
          have q3 := hcw.len
          have q4 := len_srt (B.cw j)
          have q5 := List.length_take_le' i' (srt (B.cw j))
          omega
        · have hLq : L ≠ q := ne_of_none hL3 hnq
          refine ⟨Same.mut s5 hL, by rw [upd_ne hLp.symm]; exact (Same.new ht) _ _ hp4, by rw [upd_ne hLq.symm]; exact (Same.new ht) _ _ hq4, ⟨_, upd_same, ?_⟩, _, rfl⟩
          have kt : KpT H4 (upd (upd H4 t (.tup [.str j, .str h])) L (.lst (items' ++ [.ref t]))) := (KpT.same (Same.new ht)).upd (by rw [upd_ne hLt]; exact hL4) (by intro _ z; cases z)
          rw [take_more hh, List.map_append, ← List.append_assoc]
          exact Paired.snoc ⟨t, rfl, by rw [upd_ne hLt.symm, upd_same]⟩ (ht4.keep kt)
      · rintro σ H3 ⟨s4, hp4, hq4, ⟨items', hL4, ht4⟩, v2', rfl⟩
        refine ⟨s4, hp4, ⟨items', hL4, ?_⟩, _, _, rfl⟩
        rw [List.length_map, List.take_length] at ht4
        rw [take_more hj, List.flatMap_append, List.flatMap_cons, List.flatMap_nil, List.append_nil]
        exact ht4
    · rintro σ H1 ⟨s3, hp3, ⟨items, hL3, ht3⟩, v1, v2, rfl⟩
      rw [List.length_map, List.take_length] at ht3
      exact ⟨_, rfl, k H1 L items s3 hL3 ht3⟩
end
end Sm
namespace Sm
open PySem PySem.Spec PyProof.Rows L2
/-! ### the board's turns, abstract -/
def BS.add (B : BS) (d p : Str) : BS := { B with devs := B.devs ++ [d], pl := ups B.pl d p, hm := ups B.hm d p, ms := ups B.ms d [] }
def BS.crew (B : BS) (j : Str) (hs : List Str) : BS := { B with jobs := addk B.jobs j, cw := ups B.cw j hs }
def BS.leave (B : BS) (j : Str) : BS := { B with jobs := B.jobs.filter fun a => decide (a ≠ j) }
def BS.turn (B : BS) (d p : Str) : BS := { B with pl := ups B.pl d p, hm := ups B.hm d p }
def BS.stick (B : BS) (d : Str) : BS := { B with fs := addk B.fs d }
def BS.mend (B : BS) (d : Str) : BS := { B with fs := B.fs.filter fun a => decide (a ≠ d) }
def BS.hold (B : BS) (d p j : Str) : BS := { B with pl := ups B.pl d p, ms := ups B.ms d (addk (B.ms d) j) }
/-- .. where j is on d -/
def BS.free (B : BS) (d j : Str) : BS := { B with pl := ups B.pl d (if (B.ms d).length = 1 then B.hm d else B.pl d), ms := ups B.ms d ((B.ms d).filter fun a => decide (a ≠ j)) }
/-! ### the board's dicts change -/
section
variable {K : PySem.W.Frag} {ow : Addr → Ro} {x : BA} {B : BS} {H : Hp}
theorem BAt.upSt (b : BAt K ow x B H) {g : Str → V} {pl' : Str → Str} (hg : ∀ d ∈ B.devs, g d = .str (pl' d)) : BAt K ow x { B with pl := pl' } (upd H x.st (.dK (dk B.devs g))) where
  ob := up_k b.ob b.st (by intro z; cases z)
  st := by rw [upd_same, dk_congr hg]
  ho := up_ro b.ho b.rho b.rst (by intro z; cases z)
  fa := up_ro b.fa b.rfa b.rst (by intro z; cases z)
  mr := up_ro b.mr b.rmk b.rst (by intro z; cases z)
  md := fun d hd => up_ro (b.md d hd) (b.rmd d hd) b.rst (by intro z; cases z)
  ro := up_ro b.ro b.rro b.rst (by intro z; cases z)
  cr := fun j hj => up_k (b.cr j hj) b.st (by intro z; cases z)
  rst := b.rst
  rho := b.rho
  rfa := b.rfa
  rmk := b.rmk
  rro := b.rro
  rmd := b.rmd
theorem BAt.upHo (b : BAt K ow x B H) {g : Str → V} {hm' : Str → Str} (hg : ∀ d ∈ B.devs, g d = .str (hm' d)) : BAt K ow x { B with hm := hm' } (upd H x.ho (.dK (dk B.devs g))) where
  ob := up_k b.ob b.ho (by intro z; cases z)
  st := up_ro b.st b.rst b.rho (by intro z; cases z)
  ho := by rw [upd_same, dk_congr hg]
  fa := up_ro b.fa b.rfa b.rho (by intro z; cases z)
  mr := up_ro b.mr b.rmk b.rho (by intro z; cases z)
  md := fun d hd => up_ro (b.md d hd) (b.rmd d hd) b.rho (by intro z; cases z)
  ro := up_ro b.ro b.rro b.rho (by intro z; cases z)
  cr := fun j hj => up_k (b.cr j hj) b.ho (by intro z; cases z)
  rst := b.rst
  rho := b.rho
  rfa := b.rfa
  rmk := b.rmk
  rro := b.rro
  rmd := b.rmd
theorem BAt.upFa (b : BAt K ow x B H) {fs' : List Str} {g : Str → V} (hg : ∀ d ∈ fs', g d = .bl true) : BAt K ow x { B with fs := fs' } (upd H x.fa (.dK (dk fs' g))) where
  ob := up_k b.ob b.fa (by intro z; cases z)
  st := up_ro b.st b.rst b.rfa (by intro z; cases z)
  ho := up_ro b.ho b.rho b.rfa (by intro z; cases z)
  fa := by rw [upd_same, dk_congr hg]
  mr := up_ro b.mr b.rmk b.rfa (by intro z; cases z)
  md := fun d hd => up_ro (b.md d hd) (b.rmd d hd) b.rfa (by intro z; cases z)
  ro := up_ro b.ro b.rro b.rfa (by intro z; cases z)
  cr := fun j hj => up_k (b.cr j hj) b.fa (by intro z; cases z)
  rst := b.rst
  rho := b.rho
  rfa := b.rfa
  rmk := b.rmk
  rro := b.rro
  rmd := b.rmd
theorem BAt.upMd (b : BAt K ow x B H) {d0 : Str} (h0 : d0 ∈ B.devs) {js : List Str} {g : Str → V} (hg : ∀ d ∈ js, g d = .bl true) : BAt K ow x { B with ms := ups B.ms d0 js } (upd H (x.md d0) (.dK (dk js g))) where
  ob := up_k b.ob (b.md d0 h0) (by intro z; cases z)
  st := up_ro b.st b.rst (b.rmd d0 h0) (by intro z; cases z)
  ho := up_ro b.ho b.rho (b.rmd d0 h0) (by intro z; cases z)
  fa := up_ro b.fa b.rfa (b.rmd d0 h0) (by intro z; cases z)
  mr := up_ro b.mr b.rmk (b.rmd d0 h0) (by intro z; cases z)
  md := fun d hd => by
    show _ = some (HO.dK (dk (ups B.ms d0 js d) _))
    by_cases e : d = d0
    · subst e
      rw [upd_same, ups_same, dk_congr hg]
    · rw [ups_ne e]
      exact up_ro (b.md d hd) (b.rmd d hd) (b.rmd d0 h0) (by intro z; exact e (Ro.md.inj z))
  ro := up_ro b.ro b.rro (b.rmd d0 h0) (by intro z; cases z)
  cr := fun j hj => up_k (b.cr j hj) (b.md d0 h0) (by intro z; cases z)
  rst := b.rst
  rho := b.rho
  rfa := b.rfa
  rmk := b.rmk
  rro := b.rro
  rmd := b.rmd
theorem BAt.upRo (b : BAt K ow x B H) {j : Str} {hs : List Str} {l : Addr} {g : Str → V} (hl : H l = some (.lst (hs.map V.str))) (hg : ∀ k ∈ addk B.jobs j, g k = .ref (ups x.cr j l k)) :
    BAt K ow { x with cr := ups x.cr j l } (B.crew j hs) (upd H x.ro (.dK (dk (addk B.jobs j) g))) where
  ob := up_k b.ob b.ro (by intro z; cases z)
  st := up_ro b.st b.rst b.rro (by intro z; cases z)
  ho := up_ro b.ho b.rho b.rro (by intro z; cases z)
  fa := up_ro b.fa b.rfa b.rro (by intro z; cases z)
  mr := up_ro b.mr b.rmk b.rro (by intro z; cases z)
  md := fun d hd => up_ro (b.md d hd) (b.rmd d hd) b.rro (by intro z; cases z)
  ro := by
    show upd H x.ro _ x.ro = _
    rw [upd_same, dk_congr hg]
    rfl
  cr := fun k hk => by
    show upd H x.ro _ (ups x.cr j l k) = some (HO.lst ((ups B.cw j hs k).map V.str))
    by_cases e : k = j
    · subst e
      rw [ups_same, ups_same]
      exact up_k hl b.ro (by intro z; cases z)
    · rw [ups_ne e, ups_ne e]
      exact up_k (b.cr k ((mem_addk.mp hk).resolve_right e)) b.ro (by intro z; cases z)
  rst := b.rst
  rho := b.rho
  rfa := b.rfa
  rmk := b.rmk
  rro := b.rro
  rmd := b.rmd
theorem BAt.upLv (b : BAt K ow x B H) {j : Str} : BAt K ow x (B.leave j) (upd H x.ro (.dK (dk (B.jobs.filter fun a => decide (a ≠ j)) fun k => .ref (x.cr k)))) where
  ob := up_k b.ob b.ro (by intro z; cases z)
  st := up_ro b.st b.rst b.rro (by intro z; cases z)
  ho := up_ro b.ho b.rho b.rro (by intro z; cases z)
  fa := up_ro b.fa b.rfa b.rro (by intro z; cases z)
  mr := up_ro b.mr b.rmk b.rro (by intro z; cases z)
  md := fun d hd => up_ro (b.md d hd) (b.rmd d hd) b.rro (by intro z; cases z)
  ro := by rw [upd_same]; rfl
  cr := fun k hk => up_k (b.cr k (List.mem_filter.mp hk).1) b.ro (by intro z; cases z)
  rst := b.rst
  rho := b.rho
  rfa := b.rfa
  rmk := b.rmk
  rro := b.rro
  rmd := b.rmd
end
theorem ups_map {α β : Type} (f : α → β) (g : Str → α) (k : Str) (v : α) (j : Str) : ups (fun d => f (g d)) k (f v) j = f (ups g k v j) := by
  unfold ups
  by_cases e : j = k
  · rw [if_pos e, if_pos e]
  · rw [if_neg e, if_neg e]
theorem ups_id {α : Type} {g : Str → α} {k : Str} : ups g k (g k) = g := by
  funext j
  unfold ups
  by_cases e : j = k
  · rw [if_pos e, e]
  · rw [if_neg e]
theorem ups_bl {g : Str → V} (h : ∀ j, g j = .bl true) (k j : Str) : ups g k (.bl true) j = .bl true := by
  unfold ups
  by_cases e : j = k
  · rw [if_pos e]
  · rw [if_neg e, h]
section
variable {P : Program} {w : World} {K : PySem.W.Frag} {mg : Str → Option Value} {base : Heap}
theorem lu1 {σ : L2.St} {H : Hp} {D : Ends} {i : Nat} {d : Str} {p a C dx : Addr} {fs : List (Str × V)} {f : Str} {ks : List Str} {g : Str → V} {E : XK} (hi : σ[i]? = some (some (.str d))) (h0 : σ[0]? = some (some (.ref p))) (ob : H p = some (.ins C dx fs))
    (c : Cls K C) (n : NoAttr K C f) (l : fs.lookup f = some (.ref a)) (hd : H a = some (.dK (dk ks g))) (k1 : d ∈ ks → D.nx σ H) (k2 : d ∉ ks → Threw K (.lacks d) H E) : tDrop (tCall (spLacks K) [] E (tCons (tVar i) (tCons (tFld K (tVar 0) f) tNil))) D σ H :=
  ⟨_, hi, _, h0, _, _, _, _, _, rfl, ob, c, n, l, d, a, ks, g, rfl, .inl hd, k1, k2⟩
/-! ### turn -/
/-- what a turn of the board tells: refused by r, or the board B' -/
def BEnd (K : PySem.W.Frag) (ow : Addr → Ro) (x : BA) (H : Hp) (Q : VK) (B' : BS) : Prop := ∀ H' x', x'.bd = x.bd → Kp ow Ro.isB H H' → BAt K ow x' B' H' → Q .non H'
/-- why a device is not turned -/
def turnR (B : BS) (d p : Str) : Option Rf :=
  if d ∉ B.devs then some (.lacks d) else if B.ms d ≠ [] then some (.held (hset B.cw (B.ms d))) else if B.pl d ≠ p ∧ d ∈ B.fs then some (.stuck d) else none
def spTurn (K : PySem.W.Frag) : Sp := fun vs H Q E => ∃ ow x B d p, vs = [.ref x.bd, .str d, .str p] ∧ BAt K ow x B H ∧ BOk B ∧ IsName d ∧ IsPos p ∧
  (∀ r, turnR B d p = some r → Threw K r H E) ∧ (turnR B d p = none → BEnd K ow x H Q (B.turn d p))
abbrev N_B_turn : List Str := ["self", "device", "position"]
theorem sc_B_turn : FnScope N_B_turn ["self", "device", "position"] (defScope sB_turn) := ⟨rfl, rfl, rfl, by decide +kernel, rfl, by decide +kernel, by decide +kernel⟩
theorem ok_B_turn (T : Txt K mg) : MFn P w K mg base (L2.CX P w) 5 (cB K) "turn" ["self", "device", "position"] (spTurn K) := by
  refine T.m_B_turn.ok sc_B_turn (fun vs H Q E h => ?_) (fun f cdv A outer s H vs Q E hr h => ?_)
  · obtain ⟨ow, x, B, d, p, rfl, _⟩ := h
    rfl
  · obtain ⟨ow, x, B, d, p, rfl, b, ok, hn, hp, k2, k1⟩ := h
    have hu := hu_of hr
    refine ⟨_, (pss_cons (ps_expr (pe_fn (ok_wrong_unless T) (hr.mono (by decide)) pass0 (pa_cons pe_int (pa_cons (pe_fn (ok_is_name T) (hr.mono (by decide)) pass0 (pa_cons (pv 1) pa_nil)) pa_nil))))
    (pss_cons (ps_expr (pe_fn (ok_wrong_unless T) (hr.mono (by decide)) pass0 (pa_cons pe_int (pa_cons (pe_fn (ok_is_position T) (hr.mono (by decide)) pass0 (pa_cons (pv 2) pa_nil)) pa_nil))))
    (pss_cons (ps_expr (pe_fn (ok_lacks_unless T) (hr.mono (by decide)) (passes_call (takes_of rfl rfl rfl rfl) fun _ _ _ _ h => h) (pa_cons (pv 1) (pa_cons (pe_fld (pv 0) rfl) pa_nil))))
    (pss_cons (ps_expr (pe_mth (pv 0) T.clB (ok_B_refuse_held T) (hr.mono (by decide)) (passes_call (takes_of rfl rfl rfl rfl) fun _ _ _ _ h => h) (pa_cons (pv 1) (pa_cons pe_non pa_nil))))
    (pss_cons (ps_if (pt_cmpR op_ne (pe_dget hu (pe_fld (pv 0) rfl) (pv 1) (fun _ _ => rfl)) (pv 2) (nomark _))
      (pss_one (ps_expr (pe_mth (pv 0) T.clB (ok_B_refuse_stuck T) (hr.mono (by decide)) (passes_call (takes_of rfl rfl rfl rfl) fun _ _ _ _ h => h) (pa_cons (pv 1) pa_nil))))
      pss_nil)
    (pss_cons (ps_dput hu (pe_fld (pv 0) rfl) (pv 1) (pv 2) rfl)
    (pss_one (ps_dput hu (pe_fld (pv 0) rfl) (pv 1) (pv 2) rfl)))))))), ?_⟩
    have hl := ok.dv.len
    refine wuN rfl hn (wuP rfl hp (lu1 rfl rfl b.ob T.clB T.nB_stand_of bf_st b.st (fun hd => ?_) fun hd => k2 _ (if_pos hd)))
    refine ⟨_, rfl, _, _, _, rfl, b.ob, bf_no (by decide +kernel), _, rfl, ow, x, B, d, none, rfl, b, ok, hd, fun e H1 s1 => ?_, fun e => k2 _ ?_⟩
    rotate_left
    · unfold turnR
      have e' : B.ms d ≠ [] := e
      rw [if_neg (fun z => z hd), if_pos e']
      rfl
    have b1 := b.same s1
    have hms : B.ms d = [] := e
    have fin : (B.pl d ≠ p → d ∉ B.fs) → tSeq (sDPut (tFld K (tVar 0) "stand_of") (tVar 1) (tVar 2)) (sDPut (tFld K (tVar 0) "home_of") (tVar 1) (tVar 2)) { nx := fun _ H' => Q .non H', rt := Q } [some (.ref x.bd), some (.str d), some (.str p)] H1 := fun hf => by
      have kk := k1 (by
        unfold turnR
        rw [if_neg (fun z => z hd), if_neg (fun z => z hms), if_neg fun z => hf z.1 z.2])
      refine ⟨_, rfl, _, rfl, _, _, _, _, _, rfl, b1.ob, T.clB, T.nB_stand_of, bf_st, _, rfl, _, _, rfl, dp_old b1.st (by omega) hd, ?_⟩
      have b2 := b1.upSt (g := ups (fun d => V.str (B.pl d)) d (.str p)) (pl' := ups B.pl d p) fun a _ => ups_map V.str B.pl d p a
      have kp2 := (Kp.same (ow := ow) (p := Ro.isB) s1).upd (u := .dK (dk B.devs (ups (fun d => V.str (B.pl d)) d (.str p)))) (by rw [b1.rst]; rfl) b1.st
      refine ⟨_, rfl, _, rfl, _, _, _, _, _, rfl, b2.ob, T.clB, T.nB_home_of, bf_ho, _, rfl, _, _, rfl, dp_old b2.ho (by show B.devs.length < 1000; omega) hd, ?_⟩
      have b3 := b2.upHo (g := ups (fun d => V.str (B.hm d)) d (.str p)) (hm' := ups B.hm d p) fun a _ => ups_map V.str B.hm d p a
      exact kk _ x rfl (kp2.upd (by rw [b2.rho]; rfl) b2.ho) b3
    refine ⟨_, rfl, _, _, _, _, _, rfl, b1.ob, T.clB, T.nB_stand_of, bf_st, _, rfl, _, _, rfl, dgs b1.st hd, _, rfl, rfl, _, rfl, ?_⟩
    refine iteNd (fun hp' => ?_) (fun hp' => fin fun z => absurd (V.str.inj hp') z)
    have hne : B.pl d ≠ p := fun z => hp' (by rw [z])
    refine ⟨_, rfl, _, _, _, rfl, b1.ob, bf_no (by decide +kernel), _, rfl, ow, x, B, d, rfl, b1, fun hf => fin fun _ => hf, fun hf => ?_⟩
    refine (k2 _ ?_).mono s1
    unfold turnR
    rw [if_neg (fun z => z hd), if_neg (fun z => z hms), if_pos ⟨hne, hf⟩]
/-! ### stick, mend -/
def spLk (K : PySem.W.Frag) (f : BS → Str → BS) : Sp := fun vs H Q E => ∃ ow x B d, vs = [.ref x.bd, .str d] ∧ BAt K ow x B H ∧ BOk B ∧ IsName d ∧
  (d ∉ B.devs → Threw K (.lacks d) H E) ∧ (d ∈ B.devs → BEnd K ow x H Q (f B d))
theorem fs_len {B : BS} (ok : BOk B) : B.fs.length ≤ 24 := Nat.le_trans (nd_len ok.fs.1 ok.fs.2) ok.dv.len
theorem sc_B_stick : FnScope N_B_stands ["self", "device"] (defScope sB_stick) := ⟨rfl, rfl, rfl, by decide +kernel, rfl, by decide +kernel, by decide +kernel⟩
theorem ok_B_stick (T : Txt K mg) : MFn P w K mg base (L2.CX P w) 5 (cB K) "stick" ["self", "device"] (spLk K BS.stick) := by
  refine T.m_B_stick.ok sc_B_stick (fun vs H Q E h => ?_) (fun f cdv A outer s H vs Q E hr h => ?_)
  · obtain ⟨ow, x, B, d, rfl, _⟩ := h
    rfl
  · obtain ⟨ow, x, B, d, rfl, b, ok, hn, k2, k1⟩ := h
    have hu := hu_of hr
    refine ⟨_, (pss_cons (ps_expr (pe_fn (ok_wrong_unless T) (hr.mono (by decide)) pass0 (pa_cons pe_int (pa_cons (pe_fn (ok_is_name T) (hr.mono (by decide)) pass0 (pa_cons (pv 1) pa_nil)) pa_nil))))
    (pss_cons (ps_expr (pe_fn (ok_lacks_unless T) (hr.mono (by decide)) (passes_call (takes_of rfl rfl rfl rfl) fun _ _ _ _ h => h) (pa_cons (pv 1) (pa_cons (pe_fld (pv 0) rfl) pa_nil))))
    (pss_one (ps_dput hu (pe_fld (pv 0) rfl) (pv 1) pe_bl rfl)))), ?_⟩
    refine wuN rfl hn (lu1 rfl rfl b.ob T.clB T.nB_stand_of bf_st b.st (fun hd => ?_) k2)
    have hl := fs_len ok
    refine ⟨_, rfl, _, _, _, _, _, rfl, b.ob, T.clB, T.nB_fast, bf_fa, _, rfl, _, _, rfl, dp b.fa (by omega), ?_⟩
    exact k1 hd _ x rfl (Kp.refl.upd (by rw [b.rfa]; rfl) b.fa) (b.upFa fun a _ => ups_bl (fun _ => rfl) d a)
theorem sc_B_mend : FnScope N_B_stands ["self", "device"] (defScope sB_mend) := ⟨rfl, rfl, rfl, by decide +kernel, rfl, by decide +kernel, by decide +kernel⟩
theorem filter_out {l : List Str} {d : Str} (h : d ∉ l) : l.filter (fun a => decide (a ≠ d)) = l := List.filter_eq_self.mpr fun a ha => by
  rw [decide_eq_true_iff]
  rintro rfl
  exact h ha
theorem ok_B_mend (T : Txt K mg) : MFn P w K mg base (L2.CX P w) 5 (cB K) "mend" ["self", "device"] (spLk K BS.mend) := by
  refine T.m_B_mend.ok sc_B_mend (fun vs H Q E h => ?_) (fun f cdv A outer s H vs Q E hr h => ?_)
  · obtain ⟨ow, x, B, d, rfl, _⟩ := h
    rfl
  · obtain ⟨ow, x, B, d, rfl, b, ok, hn, k2, k1⟩ := h
    have hu := hu_of hr
    refine ⟨_, (pss_cons (ps_expr (pe_fn (ok_wrong_unless T) (hr.mono (by decide)) pass0 (pa_cons pe_int (pa_cons (pe_fn (ok_is_name T) (hr.mono (by decide)) pass0 (pa_cons (pv 1) pa_nil)) pa_nil))))
    (pss_cons (ps_expr (pe_fn (ok_lacks_unless T) (hr.mono (by decide)) (passes_call (takes_of rfl rfl rfl rfl) fun _ _ _ _ h => h) (pa_cons (pv 1) (pa_cons (pe_fld (pv 0) rfl) pa_nil))))
    (pss_one (ps_expr (pe_dpop2 (pe_fld (pv 0) rfl) (pv 1) pe_non (by exact ⟨rfl, rfl, rfl, rfl⟩)))))), ?_⟩
    refine wuN rfl hn (lu1 rfl rfl b.ob T.clB T.nB_stand_of bf_st b.st (fun hd => ?_) k2)
    refine ⟨_, rfl, _, _, _, _, _, rfl, b.ob, T.clB, T.nB_fast, bf_fa, _, rfl, .inl ⟨_, .inl b.fa⟩, _, rfl, _, Sum.inr d, b.fa, rfl, fun v hv => ?_, fun hv => ?_⟩
    · rw [dk_drop]
      exact k1 hd _ x rfl (Kp.refl.upd (by rw [b.rfa]; rfl) b.fa) (b.upFa fun a _ => rfl)
    · have hnf : d ∉ B.fs := fun z => by
        rw [dk_val, if_pos z] at hv
        cases hv
      have e : B.mend d = B := by
        unfold BS.mend
        rw [filter_out hnf]
      refine k1 hd _ x rfl Kp.refl ?_
      rw [e]
      exact b
/-! ### crew, leave -/
def spBCrew (K : PySem.W.Frag) : Sp := fun vs H Q E => ∃ ow x B j hs a, vs = [.ref x.bd, .str j, .ref a] ∧ BAt K ow x B H ∧ BOk B ∧ IsName j ∧ SqL K H a (hs.map V.str) ∧ TyX K H (.ref a) (.type "list") ∧ Names hs 6 ∧ hs ≠ [] ∧
  ((j ∉ B.jobs ∧ B.jobs.length = 8) → Threw K (.tooMany 8) H E) ∧ ((j ∈ B.jobs ∨ B.jobs.length < 8) → BEnd K ow x H Q (B.crew j hs))
abbrev N_B_crew : List Str := ["self", "job", "hands"]
theorem sc_B_crew : FnScope N_B_crew ["self", "job", "hands"] (defScope sB_crew) := ⟨rfl, rfl, rfl, by decide +kernel, rfl, by decide +kernel, by decide +kernel⟩
theorem ok_B_crew (T : Txt K mg) : MFn P w K mg base (L2.CX P w) 5 (cB K) "crew" ["self", "job", "hands"] (spBCrew K) := by
  refine T.m_B_crew.ok sc_B_crew (fun vs H Q E h => ?_) (fun f cdv A outer s H vs Q E hr h => ?_)
  · obtain ⟨ow, x, B, j, hs, a, rfl, _⟩ := h
    rfl
  · obtain ⟨ow, x, B, j, hs, a, rfl, b, ok, hn, sa, ty, hc, hne, k2, k1⟩ := h
    have hu := hu_of hr
    refine ⟨_, (pss_cons (ps_expr (pe_fn (ok_wrong_unless T) (hr.mono (by decide)) pass0 (pa_cons pe_int (pa_cons (pe_fn (ok_is_name T) (hr.mono (by decide)) pass0 (pa_cons (pv 1) pa_nil)) pa_nil))))
    (pss_cons (ps_expr (pe_fn (ok_wrong_unless T) (hr.mono (by decide)) pass0 (pa_cons pe_int (pa_cons (pe_fn (ok_is_crew T) (hr.mono (by decide)) pass0 (pa_cons (pv 2) pa_nil)) pa_nil))))
    (pss_cons (ps_if (PW.pt (pw_and (pt_cmp (pc_dnotin hu (pv 1) (pe_fld (pv 0) rfl))) (pw_and1 (pt_cmpR op_ge (pe_callB call_lenD (by rfl) T.b_len (by decide +kernel) (pa_cons (pe_fld (pv 0) rfl) pa_nil)) (gl_MOST_JOBS T) (nomark _)))))
      (pss_one (ps_raise rfl (takes_of rfl rfl rfl rfl) (pmk_TooMany T (k := 1) (hr.mono (by decide)) (by exact (pa_cons (gl_MOST_JOBS T) pa_nil)))))
      pss_nil)
    (pss_one (ps_dput hu (pe_fld (pv 0) rfl) (pv 1) (pe_callTy call_list_of (by rfl) T.b_list (by decide +kernel) (pa_cons (pv 2) pa_nil)) rfl))))), ?_⟩
    have hl := ok.jb.len
    refine wuN rfl hn ⟨_, rfl, a, hs, rfl, sa, ty, hc, hne, fun H1 s1 => ⟨1, rfl, ?_⟩⟩
    have b1 := b.same s1
    have sa1 := s1.seq sa
    have fin : (j ∈ B.jobs ∨ B.jobs.length < 8) → sDPut (tFld K (tVar 0) "crew_rows") (tVar 1) (tCB (fun xs H Q => ∃ p ys, xs = [.ref p] ∧ (SqL K H p ys ∨ SqT K H p ys) ∧ ∀ l, H l = none → Q (.ref l) (upd H l (.lst ys))) (tCons (tVar 2) tNil)) { nx := fun _ H' => Q .non H', rt := Q } [some (.ref x.bd), some (.str j), some (.ref a)] H1 := fun hc => by
      refine ⟨_, rfl, a, _, rfl, .inl sa1, fun l hll => ?_⟩
      have s2 := s1.trans (Same.new (o := .lst (hs.map V.str)) hll)
      have b2 := b.same s2
      refine ⟨_, rfl, _, _, _, _, _, rfl, b2.ob, T.clB, T.nB_crew_rows, bf_ro, _, rfl, _, _, rfl, dp b2.ro (by omega), ?_⟩
      refine k1 hc _ { x with cr := ups x.cr j l } rfl ((Kp.same s2).upd (by rw [b2.rro]; rfl) b2.ro) (b2.upRo upd_same fun k _ => ups_map V.ref x.cr j l k)
    refine ⟨_, rfl, _, rfl, _, _, _, _, _, rfl, b1.ob, T.clB, T.nB_crew_rows, bf_ro, x.ro, _, rfl, dgi (.inl b1.ro), _, rfl, ?_⟩
    rw [isS]
    refine iteNd (fun hj => ?_) (fun hj => iteF (fin (.inl hj)))
    refine ⟨_, rfl, _, _, _, _, _, rfl, b1.ob, T.clB, T.nB_crew_rows, bf_ro, x.ro, _, rfl, b1.ro, _, _, rfl, rfl, _, rfl, ?_⟩
    rw [dk_len]
    refine iteD (fun h8 => ?_) (fun h8 => fin (.inr (by omega)))
    refine ⟨_, rfl, fun dd hdd => ?_⟩
    exact ((k2 ⟨hj, by omega⟩).mono s1).raise rfl rfl (fun _ _ => rfl) dd hdd
def spLeave (K : PySem.W.Frag) : Sp := fun vs H Q E => ∃ ow x B j, vs = [.ref x.bd, .str j] ∧ BAt K ow x B H ∧ BOk B ∧ j ∈ B.jobs ∧ (∀ d ∈ B.devs, j ∉ B.ms d) ∧ BEnd K ow x H Q (B.leave j)
theorem sc_B_leave : FnScope N_B_crew_of ["self", "job"] (defScope sB_leave) := ⟨rfl, rfl, rfl, by decide +kernel, rfl, by decide +kernel, by decide +kernel⟩
theorem ok_B_leave (T : Txt K mg) : MFn P w K mg base CX0 3 (cB K) "leave" ["self", "job"] (spLeave K) := by
  refine T.m_B_leave.ok0 sc_B_leave (fun vs H Q E h => ?_) (fun f cdv A outer s H vs Q E hr h => ?_)
  · obtain ⟨ow, x, B, j, rfl, _⟩ := h
    rfl
  · obtain ⟨ow, x, B, j, rfl, b, ok, hj, hno, k1⟩ := h
    have hu := hu_of hr
    refine ⟨_, (pss_cons (ps_expr (pe_fn (ok_wrong_unless T) (hr.mono (by decide)) pass0 (pa_cons pe_int (pa_cons (pe_fn (ok_is_name T) (hr.mono (by decide)) pass0 (pa_cons (pv 1) pa_nil)) pa_nil))))
    (pss_cons (ps_expr (pe_fn (ok_lacks_unless0 T) (hr.mono (by decide)) pass0 (pa_cons (pv 1) (pa_cons (pe_fld (pv 0) rfl) pa_nil))))
    (pss_cons (ps_if (pt_cmpR (op_neD hr.units) (pe_mth (pv 0) T.clB (ok_B_held_by T) (hr.mono (by decide)) pass0 (pa_cons (pv 1) pa_nil)) (pe_lst pa_nil) (nomark _))
      pss_never
      pss_nil)
    (pss_one (ps_expr (pe_dpop1 (pe_fld (pv 0) rfl) (pv 1) (by exact ⟨rfl, rfl, rfl, rfl⟩))))))), ?_⟩
    refine wuN rfl (ok.jb.all j hj) (lu0 rfl rfl b.ob T.clB T.nB_crew_rows bf_ro b.ro hj ?_)
    refine ⟨_, rfl, _, _, _, rfl, b.ob, bf_no (by decide +kernel), _, rfl, ow, x, B, j, rfl, b, ok, hj, fun H1 p s1 hp hn => ?_⟩
    refine ⟨(by show 0 ≤ sizeLine; exact Nat.zero_le _), fun q hq => ?_⟩
    have he : B.devs.filter (fun d => decide (j ∈ B.ms d)) = [] := List.filter_eq_nil_iff.mpr fun d hd => by simpa using hno d hd
    have hp : H1 p = some (.lst ((srt (B.devs.filter fun d => decide (j ∈ B.ms d))).map V.str)) := hp
    rw [he] at hp
    have s2 := s1.trans (Same.new (o := .lst []) hq)
    have b2 := b.same s2
    have hp2 : (upd H1 q (.lst [])) p = some (.lst (([] : List Str).map V.str)) := by
      rw [(Same.new hq) _ _ hp, srt_nil_iff.mpr rfl]
    refine ⟨_, .list [], dpL (SqL.of hp2), .lst (xs := []) (SqL.of upd_same) .nil, (sm_strs (c := 3) (fun x hx => by cases hx) (by decide)).shaped (by decide), rfl, _, rfl, ?_⟩
    rw [eqv_nil]
    refine iteF ⟨_, rfl, _, _, _, _, _, rfl, b2.ob, T.clB, T.nB_crew_rows, bf_ro, _, rfl, .inl ⟨_, .inl b2.ro⟩, _, rfl, _, Sum.inr j, V.ref (x.cr j), b2.ro, rfl, ?_, ?_⟩
    · rw [dk_val, if_pos hj]
    · rw [dk_drop]
      exact k1 _ x rfl ((Kp.same s2).upd (by rw [b2.rro]; rfl) b2.ro) b2.upLv
/-! ### hold, free -/
/-- why a device is not held -/
def holdR (B : BS) (d p j : Str) : Option Rf :=
  if B.pl d = p then none else if oth (B.ms d) (some j) ≠ [] then some (.held (hset B.cw (oth (B.ms d) (some j)))) else if d ∈ B.fs then some (.stuck d) else none
def spHold (K : PySem.W.Frag) : Sp := fun vs H Q E => ∃ ow x B d p j, vs = [.ref x.bd, .str d, .str p, .str j] ∧ BAt K ow x B H ∧ BOk B ∧ d ∈ B.devs ∧ IsPos p ∧ j ∈ B.jobs ∧
  (∀ r, holdR B d p j = some r → Threw K r H E) ∧ (holdR B d p j = none → BEnd K ow x H Q (B.hold d p j))
abbrev N_B_hold : List Str := ["self", "device", "position", "job"]
theorem sc_B_hold : FnScope N_B_hold ["self", "device", "position", "job"] (defScope sB_hold) := ⟨rfl, rfl, rfl, by decide +kernel, rfl, by decide +kernel, by decide +kernel⟩
theorem ok_B_hold (T : Txt K mg) : MFn P w K mg base (L2.CX P w) 5 (cB K) "hold" ["self", "device", "position", "job"] (spHold K) := by
  refine T.m_B_hold.ok sc_B_hold (fun vs H Q E h => ?_) (fun f cdv A outer s H vs Q E hr h => ?_)
  · obtain ⟨ow, x, B, d, p, j, rfl, _⟩ := h
    rfl
  · obtain ⟨ow, x, B, d, p, j, rfl, b, ok, hd, hp, hj, k2, k1⟩ := h
    have hu := hu_of hr
    refine ⟨_, (pss_cons (ps_expr (pe_fn (ok_wrong_unless T) (hr.mono (by decide)) pass0 (pa_cons pe_int (pa_cons (pe_fn (ok_is_name T) (hr.mono (by decide)) pass0 (pa_cons (pv 1) pa_nil)) pa_nil))))
    (pss_cons (ps_expr (pe_fn (ok_wrong_unless T) (hr.mono (by decide)) pass0 (pa_cons pe_int (pa_cons (pe_fn (ok_is_position T) (hr.mono (by decide)) pass0 (pa_cons (pv 2) pa_nil)) pa_nil))))
    (pss_cons (ps_expr (pe_fn (ok_wrong_unless T) (hr.mono (by decide)) pass0 (pa_cons pe_int (pa_cons (pe_fn (ok_is_name T) (hr.mono (by decide)) pass0 (pa_cons (pv 3) pa_nil)) pa_nil))))
    (pss_cons (ps_expr (pe_fn (ok_lacks_unless0 T) (hr.mono (by decide)) pass0 (pa_cons (pv 1) (pa_cons (pe_fld (pv 0) rfl) pa_nil))))
    (pss_cons (ps_expr (pe_fn (ok_lacks_unless0 T) (hr.mono (by decide)) pass0 (pa_cons (pv 3) (pa_cons (pe_fld (pv 0) rfl) pa_nil))))
    (pss_cons (ps_if (pt_cmpR op_ne (pe_dget hu (pe_fld (pv 0) rfl) (pv 1) (fun _ _ => rfl)) (pv 2) (nomark _))
      (pss_cons (ps_expr (pe_mth (pv 0) T.clB (ok_B_refuse_held T) (hr.mono (by decide)) (passes_call (takes_of rfl rfl rfl rfl) fun _ _ _ _ h => h) (pa_cons (pv 1) (pa_cons (pv 3) pa_nil))))
    (pss_one (ps_expr (pe_mth (pv 0) T.clB (ok_B_refuse_stuck T) (hr.mono (by decide)) (passes_call (takes_of rfl rfl rfl rfl) fun _ _ _ _ h => h) (pa_cons (pv 1) pa_nil)))))
      pss_nil)
    (pss_cons (ps_dput hu (pe_fld (pv 0) rfl) (pv 1) (pv 2) rfl)
    (pss_one (ps_dput hu (pe_dget hu (pe_fld (pv 0) rfl) (pv 1) (fun _ _ => rfl)) (pv 3) pe_bl rfl))))))))), ?_⟩
    have hl := ok.dv.len
    have hm := ok.ms d hd
    have hml := nd_len hm.1 hm.2
    have hjl := ok.jb.len
    refine wuN rfl (ok.dv.all d hd) (wuP rfl hp (wuN rfl (ok.jb.all j hj) (lu0 rfl rfl b.ob T.clB T.nB_stand_of bf_st b.st hd (lu0 rfl rfl b.ob T.clB T.nB_crew_rows bf_ro b.ro hj ?_))))
    have fin : ∀ H1, Same H H1 → holdR B d p j = none → tSeq (sDPut (tFld K (tVar 0) "stand_of") (tVar 1) (tVar 2)) (sDPut (tDGet (tFld K (tVar 0) "marks_of") (tVar 1)) (tVar 3) (tC (.bl true))) { nx := fun _ H' => Q .non H', rt := Q } [some (.ref x.bd), some (.str d), some (.str p), some (.str j)] H1 := fun H1 s1 hf => by
      have kk := k1 hf
      have b1 := b.same s1
      refine ⟨_, rfl, _, rfl, _, _, _, _, _, rfl, b1.ob, T.clB, T.nB_stand_of, bf_st, _, rfl, _, _, rfl, dp_old b1.st (by omega) hd, ?_⟩
      have b2 := b1.upSt (g := ups (fun d => V.str (B.pl d)) d (.str p)) (pl' := ups B.pl d p) fun a _ => ups_map V.str B.pl d p a
      have kp2 := (Kp.same (ow := ow) (p := Ro.isB) s1).upd (u := .dK (dk B.devs (ups (fun d => V.str (B.pl d)) d (.str p)))) (by rw [b1.rst]; rfl) b1.st
      refine ⟨_, rfl, _, _, _, _, _, rfl, b2.ob, T.clB, T.nB_marks_of, bf_mk, _, rfl, _, _, rfl, dgs b2.mr hd, _, rfl, _, _, rfl, dp (b2.md d hd) (by show (B.ms d).length < 1000; omega), ?_⟩
      have b3 := b2.upMd (d0 := d) hd (js := addk (B.ms d) j) (g := ups (fun _ => V.bl true) j (.bl true)) fun a _ => ups_bl (fun _ => rfl) j a
      exact kk _ x rfl (kp2.upd (by rw [b2.rmd d hd]; rfl) (b2.md d hd)) b3
    refine ⟨_, rfl, _, _, _, _, _, rfl, b.ob, T.clB, T.nB_stand_of, bf_st, _, rfl, _, _, rfl, dgs b.st hd, _, rfl, rfl, _, rfl, ?_⟩
    refine iteNd (fun hp' => ?_) (fun hp' => fin H (Same.refl _) (if_pos (V.str.inj hp')))
    have hne : ¬ B.pl d = p := fun z => hp' (by rw [z])
    refine ⟨_, rfl, _, _, _, rfl, b.ob, bf_no (by decide +kernel), _, rfl, _, rfl, ow, x, B, d, some j, rfl, b, ok, hd, fun e H1 s1 => ?_, fun e => k2 _ ?_⟩
    rotate_left
    · unfold holdR
      rw [if_neg hne, if_pos e]
    have b1 := b.same s1
    have e' : ¬ oth (B.ms d) (some j) ≠ [] := fun z => z e
    refine ⟨_, rfl, _, _, _, rfl, b1.ob, bf_no (by decide +kernel), _, rfl, ow, x, B, d, rfl, b1, fun hf => fin H1 s1 ?_, fun hf => (k2 _ ?_).mono s1⟩
    · unfold holdR
      rw [if_neg hne, if_neg e', if_neg hf]
    · unfold holdR
      rw [if_neg hne, if_neg e', if_pos hf]
/-- why a device is not let go -/
def freeR (B : BS) (d j : Str) : Option Rf := if (B.ms d).length = 1 ∧ B.pl d ≠ B.hm d ∧ d ∈ B.fs then some (.stuck d) else none
def spFree (K : PySem.W.Frag) : Sp := fun vs H Q E => ∃ ow x B d j, vs = [.ref x.bd, .str d, .str j] ∧ BAt K ow x B H ∧ BOk B ∧ d ∈ B.devs ∧ j ∈ B.jobs ∧ j ∈ B.ms d ∧
  (∀ r, freeR B d j = some r → Threw K r H E) ∧ (freeR B d j = none → BEnd K ow x H Q (B.free d j))
abbrev N_B_free : List Str := ["self", "device", "job"]
theorem sc_B_free : FnScope N_B_free ["self", "device", "job"] (defScope sB_free) := ⟨rfl, rfl, rfl, by decide +kernel, rfl, by decide +kernel, by decide +kernel⟩
theorem ok_B_free (T : Txt K mg) : MFn P w K mg base (L2.CX P w) 5 (cB K) "free" ["self", "device", "job"] (spFree K) := by
  refine T.m_B_free.ok sc_B_free (fun vs H Q E h => ?_) (fun f cdv A outer s H vs Q E hr h => ?_)
  · obtain ⟨ow, x, B, d, j, rfl, _⟩ := h
    rfl
  · obtain ⟨ow, x, B, d, j, rfl, b, ok, hd, hj, hjd, k2, k1⟩ := h
    have hu := hu_of hr
    refine ⟨_, (pss_cons (ps_expr (pe_fn (ok_wrong_unless T) (hr.mono (by decide)) pass0 (pa_cons pe_int (pa_cons (pe_fn (ok_is_name T) (hr.mono (by decide)) pass0 (pa_cons (pv 1) pa_nil)) pa_nil))))
    (pss_cons (ps_expr (pe_fn (ok_wrong_unless T) (hr.mono (by decide)) pass0 (pa_cons pe_int (pa_cons (pe_fn (ok_is_name T) (hr.mono (by decide)) pass0 (pa_cons (pv 2) pa_nil)) pa_nil))))
    (pss_cons (ps_expr (pe_fn (ok_lacks_unless0 T) (hr.mono (by decide)) pass0 (pa_cons (pv 1) (pa_cons (pe_fld (pv 0) rfl) pa_nil))))
    (pss_cons (ps_expr (pe_fn (ok_lacks_unless0 T) (hr.mono (by decide)) pass0 (pa_cons (pv 2) (pa_cons (pe_fld (pv 0) rfl) pa_nil))))
    (pss_cons (ps_if (pt_cmp (pc_dnotin hu (pv 2) (pe_dget hu (pe_fld (pv 0) rfl) (pv 1) (fun _ _ => rfl))))
      (pss_one ps_retN)
      pss_nil)
    (pss_cons (ps_if (PW.pt (pw_and (pt_cmpR op_eq (pe_callB call_lenD (by rfl) T.b_len (by decide +kernel) (pa_cons (pe_dget hu (pe_fld (pv 0) rfl) (pv 1) (fun _ _ => rfl)) pa_nil)) pe_int (nomark _)) (pw_and1 (pt_cmpR op_ne (pe_dget hu (pe_fld (pv 0) rfl) (pv 1) (fun _ _ => rfl)) (pe_dget hu (pe_fld (pv 0) rfl) (pv 1) (fun _ _ => rfl)) (nomark _)))))
      (pss_cons (ps_expr (pe_mth (pv 0) T.clB (ok_B_refuse_stuck T) (hr.mono (by decide)) (passes_call (takes_of rfl rfl rfl rfl) fun _ _ _ _ h => h) (pa_cons (pv 1) pa_nil)))
    (pss_one (ps_dput hu (pe_fld (pv 0) rfl) (pv 1) (pe_dget hu (pe_fld (pv 0) rfl) (pv 1) (fun _ _ => rfl)) rfl)))
      pss_nil)
    (pss_one (ps_expr (pe_dpop1 (pe_dget hu (pe_fld (pv 0) rfl) (pv 1) (fun _ _ => rfl)) (pv 2) (by exact ⟨rfl, rfl, rfl, rfl⟩)))))))))), ?_⟩
    have hl := ok.dv.len
    have hm := ok.ms d hd
    have hml := nd_len hm.1 hm.2
    have hjl := ok.jb.len
    refine wuN rfl (ok.dv.all d hd) (wuN rfl (ok.jb.all j hj) (lu0 rfl rfl b.ob T.clB T.nB_stand_of bf_st b.st hd (lu0 rfl rfl b.ob T.clB T.nB_crew_rows bf_ro b.ro hj ?_)))
    refine ⟨_, rfl, _, rfl, _, _, _, _, _, rfl, b.ob, T.clB, T.nB_marks_of, bf_mk, _, rfl, _, _, rfl, dgs b.mr hd, _, _, rfl, dgi (.inl (b.md d hd)), _, rfl, ?_⟩
    rw [isS, decide_eq_true hjd]
    refine iteF ?_
    have fin : ∀ H1 pl', BAt K ow x { B with pl := pl' } H1 → Kp ow Ro.isB H H1 → pl' = ups B.pl d (if (B.ms d).length = 1 then B.hm d else B.pl d) → freeR B d j = none → tDrop (tDPop1 (tDGet (tFld K (tVar 0) "marks_of") (tVar 1)) (tVar 2)) { nx := fun _ H' => Q .non H', rt := Q } [some (.ref x.bd), some (.str d), some (.str j)] H1 := fun H1 pl' b1 kp e hf => by
      refine ⟨_, rfl, _, _, _, _, _, rfl, b1.ob, T.clB, T.nB_marks_of, bf_mk, _, rfl, _, _, rfl, dgs b1.mr hd, _, rfl, .inl ⟨_, .inl (b1.md d hd)⟩, _, rfl, _, Sum.inr j, V.bl true, b1.md d hd, rfl, ?_, ?_⟩
      · rw [dk_val]
        exact if_pos hjd
      · rw [dk_drop]
        subst e
        exact k1 hf _ x rfl (kp.upd (by rw [b1.rmd d hd]; rfl) (b1.md d hd)) (b1.upMd hd fun _ _ => rfl)
    refine ⟨_, rfl, _, _, _, _, _, rfl, b.ob, T.clB, T.nB_marks_of, bf_mk, _, rfl, _, _, rfl, dgs b.mr hd, _, _, rfl, b.md d hd, rfl, _, rfl, ?_⟩
    have one : ∀ n : Nat, (V.int (n : Int) = V.int 1) ↔ n = 1 := fun n => ⟨fun z => by have := V.int.inj z; omega, fun z => by rw [z]; rfl⟩
    have same : (B.ms d).length = 1 → B.pl d = B.hm d → (B.pl = ups B.pl d (if (B.ms d).length = 1 then B.hm d else B.pl d)) := fun h1 h2 => by rw [if_pos h1, ← h2, ups_id]
    refine iteD (fun h1 => ?_) (fun h1 => ?_)
    · have h1' : (B.ms d).length = 1 := by rw [one, dk_len] at h1; exact h1
      refine ⟨_, rfl, _, _, _, _, _, rfl, b.ob, T.clB, T.nB_stand_of, bf_st, _, rfl, _, _, rfl, dgs b.st hd, _, rfl, _, _, _, _, _, rfl, b.ob, T.clB, T.nB_home_of, bf_ho, _, rfl, _, _, rfl, dgs b.ho hd, rfl, _, rfl, ?_⟩
      refine iteNd (fun h2 => ?_) (fun h2 => fin H B.pl b Kp.refl (same h1' (V.str.inj h2)) ?_)
      · have h2' : B.pl d ≠ B.hm d := fun z => h2 (by rw [z])
        refine ⟨_, rfl, _, _, _, rfl, b.ob, bf_no (by decide +kernel), _, rfl, ow, x, B, d, rfl, b, fun hf => ?_, fun hf => k2 _ (if_pos ⟨h1', h2', hf⟩)⟩
        refine ⟨_, rfl, _, _, _, _, _, rfl, b.ob, T.clB, T.nB_home_of, bf_ho, _, rfl, _, _, rfl, dgs b.ho hd, _, rfl, _, _, _, _, _, rfl, b.ob, T.clB, T.nB_stand_of, bf_st, _, rfl, _, _, rfl, dp_old b.st (by omega) hd, ?_⟩
        refine fin _ (ups B.pl d (B.hm d)) (b.upSt fun a _ => ups_map V.str B.pl d (B.hm d) a) (Kp.refl.upd (by rw [b.rst]; rfl) b.st) (by rw [if_pos h1']) (if_neg fun z => hf z.2.2)
      · exact if_neg fun z => z.2.1 (V.str.inj h2)
    · have h1' : ¬ (B.ms d).length = 1 := fun z => h1 (by rw [one, dk_len]; exact z)
      exact fin H B.pl b Kp.refl (by rw [if_neg h1', ups_id]) (if_neg fun z => h1' z.1)
/-! ### add, Board() -/
/-- a board without devices -/
def B0 : BS := ⟨[], fun _ => "", fun _ => "", [], fun _ => [], [], fun _ => []⟩
def spAdd (K : PySem.W.Frag) : Sp := fun vs H Q E => ∃ ow x B d p, vs = [.ref x.bd, .str d, .str p] ∧ BAt K ow x B H ∧ B.devs.length < 52 ∧ IsName d ∧ IsPos p ∧ d ∉ B.devs ∧
  ∀ H' x' ow', x'.bd = x.bd → Kp ow Ro.isB H H' → (∀ a, H a ≠ none → ow' a = ow a) → (∀ a, H a = none → ow' a ≠ ow a → ow' a = .md d) → BAt K ow' x' (B.add d p) H' → Q .non H'
theorem sc_B_add : FnScope N_B_turn ["self", "device", "position"] (defScope sB_add) := ⟨rfl, rfl, rfl, by decide +kernel, rfl, by decide +kernel, by decide +kernel⟩
theorem ok_B_add (T : Txt K mg) : MFn P w K mg base CX0 2 (cB K) "add" ["self", "device", "position"] (spAdd K) := by
  refine T.m_B_add.ok0 sc_B_add (fun vs H Q E h => ?_) (fun f cdv A outer s H vs Q E hr h => ?_)
  · obtain ⟨ow, x, B, d, p, rfl, _⟩ := h
    rfl
  · obtain ⟨ow, x, B, d, p, rfl, b, hl, hn, hp, hd, k⟩ := h
    have hu := hu_of hr
    refine ⟨_, (pss_cons (ps_expr (pe_fn (ok_wrong_unless T) (hr.mono (by decide)) pass0 (pa_cons pe_int (pa_cons (pe_fn (ok_is_name T) (hr.mono (by decide)) pass0 (pa_cons (pv 1) pa_nil)) pa_nil))))
    (pss_cons (ps_expr (pe_fn (ok_wrong_unless T) (hr.mono (by decide)) pass0 (pa_cons pe_int (pa_cons (pe_fn (ok_is_position T) (hr.mono (by decide)) pass0 (pa_cons (pv 2) pa_nil)) pa_nil))))
    (pss_cons (ps_if (pt_cmp (pc_din hu (pv 1) (pe_fld (pv 0) rfl)))
      pss_never
      pss_nil)
    (pss_cons (ps_if (pt_cmpR op_ge (pe_callB call_lenD (by rfl) T.b_len (by decide +kernel) (pa_cons (pe_fld (pv 0) rfl) pa_nil)) (gl_MOST_DEVICES T) (nomark _))
      pss_never
      pss_nil)
    (pss_cons (ps_dput hu (pe_fld (pv 0) rfl) (pv 1) (pv 2) rfl)
    (pss_cons (ps_dput hu (pe_fld (pv 0) rfl) (pv 1) (pv 2) rfl)
    (pss_one (ps_dput hu (pe_fld (pv 0) rfl) (pv 1) pe_dnewK rfl)))))))), ?_⟩
    refine wuN rfl hn (wuP rfl hp ⟨_, rfl, _, rfl, _, _, _, _, _, rfl, b.ob, T.clB, T.nB_stand_of, bf_st, _, _, rfl, dgi (.inl b.st), _, rfl, ?_⟩)
    rw [isS, decide_eq_false hd]
    refine iteF ⟨_, rfl, _, _, _, _, _, rfl, b.ob, T.clB, T.nB_stand_of, bf_st, _, _, rfl, b.st, _, _, rfl, rfl, false, congrArg V.bl (decide_eq_false (by rw [dk_len]; omega)), iteF ?_⟩
    refine ⟨_, rfl, _, rfl, _, _, _, _, _, rfl, b.ob, T.clB, T.nB_stand_of, bf_st, _, rfl, _, _, rfl, dp_new b.st (by omega) hd, ?_⟩
    have hob := up_k (u' := .dK (dk (B.devs ++ [d]) (ups (fun d => V.str (B.pl d)) d (.str p)))) b.ob b.st (by intro z; cases z)
    have hho := up_ro (u := .dK (dk (B.devs ++ [d]) (ups (fun d => V.str (B.pl d)) d (.str p)))) b.ho b.rho b.rst (by intro z; cases z)
    refine ⟨_, rfl, _, rfl, _, _, _, _, _, rfl, hob, T.clB, T.nB_home_of, bf_ho, _, rfl, _, _, rfl, dp_new hho (by omega) hd, fun n hn' => ?_⟩
    let H1 := upd H x.st (.dK (dk (B.devs ++ [d]) (ups (fun d => V.str (B.pl d)) d (.str p))))
    let H2 := upd H1 x.ho (.dK (dk (B.devs ++ [d]) (ups (fun d => V.str (B.hm d)) d (.str p))))
    let H3 := upd H2 n (.dK [])
    have nst : H n = none := by
      by_cases e : n = x.ho
      · subst e; rw [upd_same] at hn'; cases hn'
      · rw [upd_ne e] at hn'
        by_cases e' : n = x.st
        · subst e'; rw [upd_same] at hn'; cases hn'
        · rw [upd_ne e'] at hn'; exact hn'
    let p3 : Ro → Bool := fun r => decide (r = .st) || decide (r = .ho) || decide (r = .mk)
    have kp3 : Kp ow p3 H H3 := ((Kp.refl.upd (by rw [b.rst]; rfl) b.st).upd (H1 := H1) (by rw [b.rho]; rfl) hho).new hn'
    have hmr : H3 x.mr = some (.dK (dk B.devs fun d => .ref (x.md d))) := by
      show upd H2 n _ x.mr = _
      rw [upd_ne (ne_of_none b.mr nst)]
      exact up_ro (up_ro b.mr b.rmk b.rst (by intro z; cases z)) b.rmk b.rho (by intro z; cases z)
    have hob3 : H3 x.bd = _ := kp3 _ _ b.ob (.inr (by intro _ z; cases z))
    refine ⟨_, rfl, _, _, _, _, _, rfl, hob3, T.clB, T.nB_marks_of, bf_mk, _, rfl, _, _, rfl, dp_new hmr (by omega) hd, ?_⟩
    let H4 := upd H3 x.mr (.dK (dk (B.devs ++ [d]) (ups (fun d => .ref (x.md d)) d (.ref n))))
    have kp4 : Kp ow p3 H H4 := kp3.upd (by rw [b.rmk]; rfl) hmr
    have kp : Kp ow Ro.isB H H4 := fun a o e z => kp4 a o e (z.imp (fun z => by
      cases h : ow a <;> rw [h] at z <;> first | rfl | cases z) id)
    let ow' : Addr → Ro := fun a => if a = n then .md d else ow a
    have ow1 : ∀ a, H a ≠ none → ow' a = ow a := fun a ha => if_neg fun z => ha (by rw [z]; exact nst)
    have owr : ∀ {a o r}, H a = some o → ow a = r → ow' a = r := fun {a o r} h1 h2 => by rw [ow1 a (by rw [h1]; intro z; cases z)]; exact h2
    refine k H4 { x with md := ups x.md d n } ow' rfl kp ow1 (fun a _ ha => ?_) ?_
    · by_cases e : a = n
      · exact if_pos e
      · exact absurd (if_neg e) ha
    have nmr : n ≠ x.mr := (ne_of_none b.mr nst).symm
    exact {
      ob := kp4 _ _ b.ob (.inr (by intro _ z; cases z))
      st := by
        show upd (upd (upd (upd H x.st _) x.ho _) n _) x.mr _ x.st = _
        rw [upd_ne (ro_ne b.rst b.rmk (by intro z; cases z)), upd_ne (ne_of_none b.st nst), upd_ne (ro_ne b.rst b.rho (by intro z; cases z)), upd_same]
        congr 2
        exact dk_congr fun a _ => ups_map V.str B.pl d p a
      ho := by
        show upd (upd (upd H1 x.ho _) n _) x.mr _ x.ho = _
        rw [upd_ne (ro_ne b.rho b.rmk (by intro z; cases z)), upd_ne (ne_of_none b.ho nst), upd_same]
        congr 2
        exact dk_congr fun a _ => ups_map V.str B.hm d p a
      fa := kp4 _ _ b.fa (.inl (by rw [b.rfa]; rfl))
      mr := by
        show upd H3 x.mr _ x.mr = _
        rw [upd_same]
        congr 2
        exact dk_congr fun a _ => ups_map V.ref x.md d n a
      md := fun d' hd' => by
        show H4 (ups x.md d n d') = some (HO.dK (dk (ups B.ms d [] d') _))
        by_cases e : d' = d
        · subst e
          rw [ups_same, ups_same]
          show upd H3 x.mr _ n = _
          rw [upd_ne nmr]
          exact upd_same
        · rw [ups_ne e, ups_ne e]
          have h' : d' ∈ B.devs := (List.mem_append.mp hd').resolve_right fun z => e (List.mem_singleton.mp z)
          exact kp4 _ _ (b.md d' h') (.inl (by rw [b.rmd d' h']; rfl))
      ro := kp4 _ _ b.ro (.inl (by rw [b.rro]; rfl))
      cr := fun j hj => kp4 _ _ (b.cr j hj) (.inr (by intro _ z; cases z))
      rst := owr b.st b.rst
      rho := owr b.ho b.rho
      rfa := owr b.fa b.rfa
      rmk := owr b.mr b.rmk
      rro := owr b.ro b.rro
      rmd := fun d' hd' => by
        show ow' (ups x.md d n d') = _
        by_cases e : d' = d
        · subst e
          rw [ups_same]
          exact if_pos rfl
        · rw [ups_ne e]
          have h' : d' ∈ B.devs := (List.mem_append.mp hd').resolve_right fun z => e (List.mem_singleton.mp z)
          exact owr (b.md d' h') (b.rmd d' h') }
end
end Sm
namespace Sm
open PySem PySem.Spec PyProof.Rows L2
section
variable (P : Program) (w : World) (K : PySem.W.Frag) (mg : Str → Option Value) (base : Heap)
/-- making an x of the class at C keeps sp -/
def GMk (CX : CXT) (k : Nat) (C : Addr) (x : Str) (ps : List Str) (sp : Sp) : Prop :=
  ∃ f fd, FnOk P w K mg base CX k f fd ps sp ∧ Mk K C f ∧ mg x = some (.ref C) ∧ Binds K fd ps []
end
section
variable {P : Program} {w : World} {K : PySem.W.Frag} {mg : Str → Option Value} {base : Heap} {x m qual : Str} {st : Stmt} {ps N : List Str} {C : Addr} {CX : CXT} {k : Nat} {sp : Sp}
theorem MkT.ok (F : MkT K mg C x qual st ps) (S : FnScope N ps (defScope st)) (len : ∀ vs H Q E, sp vs H Q E → vs.length = ps.length)
    (hbody : ∀ (f : Addr) (cdv : Value) (A : Around) (outer : List Env) (s : Shared) (H : Hp) (vs : List V) (Q : VK) (E : XK), Room k (A.deeper (envOfC qual (defScope st) s.heap.objs.size f cdv)) → sp vs H Q E →
      ∃ t, PSs (cxOf CX P w K mg base N qual (defScope st) f cdv A outer s H E) (defBody st) t ∧ t { nx := fun _ H' => Q .non H', rt := Q } (start N vs) H) : GMk P w K mg base CX (k + 1) C x ps sp := by
  obtain ⟨f, fd, F, hm, hg, hb⟩ := F
  exact ⟨f, fd, F.ok S len (hbody f), hm, hg, hb⟩
theorem MkT.ok0 (F : MkT K mg C x qual st ps) (S : FnScope N ps (defScope st)) (len : ∀ vs H Q E, sp vs H Q E → vs.length = ps.length)
    (hbody : ∀ (f : Addr) (cdv : Value) (A : Around) (outer : List Env) (s : Shared) (H : Hp) (vs : List V) (Q : VK) (E : XK), Room k (A.deeper (envOfC qual (defScope st) s.heap.objs.size f cdv)) → sp vs H Q E →
      ∃ t, PSs (cxOf CX0 P w K mg base N qual (defScope st) f cdv A outer s H E).nox (defBody st) t ∧ t { nx := fun _ H' => Q .non H', rt := Q } (start N vs) H) : GMk P w K mg base CX0 (k + 1) C x ps sp :=
  F.ok S len fun f cdv A outer s H vs Q E hr h => let ⟨t, h1, h2⟩ := hbody f cdv A outer s H vs Q E hr h; ⟨t, h1.nox, h2⟩
end
section
variable {X : Cx} {CX : CXT} {k : Nat} {ps : List Str} {sp : Sp} {E : XK} {C : Addr} {x m : Str} {p pos apos : Pos} {e o : Expr} {es : List Expr} {ta : TE} {t : TA}
theorem pe_mk (F : GMk X.prog X.w X.K X.mg X.base CX k C x ps sp) (hr : Room (k + 1) X.A) (hx : Passes CX X E) (ha : PA X (e :: es) t) (hg : Gl X x := by rfl)
    (hdb : (x == ("__debug__" : Str)) = false := by decide) (he : starEach (e :: es) X.env = (false, eval e X.env) :: starEach es X.env := by rfl) (hpl : (backTo pos (starEach es X.env)).any (·.1) = false := by rfl) :
    PE X (.Call (.Name x p) (e :: es) [] pos) (tMake C sp [] E t) := by
  obtain ⟨f, fd, F, hm, hk, hb⟩ := F
  exact pe_make hm F hr hg hk hb .nil hx ha hdb he hpl
theorem pe_mk0 (F : GMk X.prog X.w X.K X.mg X.base CX k C x ps sp) (hr : Room (k + 1) X.A) (hx : Passes CX X E) (hg : Gl X x := by rfl)
    (hdb : (x == ("__debug__" : Str)) = false := by decide) :
    PE X (.Call (.Name x p) [] [] pos) (tMake C sp [] E tNil) := by
  obtain ⟨f, fd, F, hm, hk, hb⟩ := F
  exact pe_make0 hm F hr hg hk hb .nil hx hdb
end
section
variable {P : Program} {w : World} {K : PySem.W.Frag} {mg : Str → Option Value} {base : Heap}
/-! ### Board() -/
/-- all that stood stands, but x0 -/
def SameX (x0 : Addr) (H H' : Hp) : Prop := ∀ a o, H a = some o → a ≠ x0 → H' a = some o
def spBInit (K : PySem.W.Frag) : Sp := fun vs H Q E => ∃ (ow : Addr → Ro) (x0 dx : Addr), vs = [.ref x0] ∧ H x0 = some (.ins (cB K) dx []) ∧
  ∀ H' x ow', x.bd = x0 → SameX x0 H H' → (∀ a, H a ≠ none → ow' a = ow a) → BAt K ow' x B0 H' → Q .non H'
abbrev N_B_init : List Str := ["self"]
theorem sc_B_init : FnScope N_B_init ["self"] (defScope sB_init) := ⟨rfl, rfl, rfl, by decide +kernel, rfl, by decide +kernel, by decide +kernel⟩
theorem ok_B_init (T : Txt K mg) : GMk P w K mg base CX0 1 (cB K) "Board" ["self"] (spBInit K) := by
  refine T.k_B.ok0 sc_B_init (fun vs H Q E h => ?_) (fun f cdv A outer s H vs Q E hr h => ?_)
  · obtain ⟨ow, x0, dx, rfl, _⟩ := h
    rfl
  · obtain ⟨ow, x0, dx, rfl, ob, k⟩ := h
    refine ⟨_, (pss_cons (ps_fld (pv 0) pe_dnewK rfl)
    (pss_cons (ps_fld (pv 0) pe_dnewK rfl)
    (pss_cons (ps_fld (pv 0) pe_dnewK rfl)
    (pss_cons (ps_fld (pv 0) pe_dnewK rfl)
    (pss_one (ps_fld (pv 0) pe_dnewK rfl)))))), ?_⟩
    have go : ∀ {H1 : Hp} {a : Addr} {fs : List (Str × V)}, H1 x0 = some (.ins (cB K) dx fs) → H1 a = none → (upd H1 a (.dK [])) x0 = some (.ins (cB K) dx fs) := fun h ha => by rw [upd_ne (ne_of_none h ha)]; exact h
    have fr : ∀ {H0 H1 : Hp} {a : Addr} {u : HO}, SameX x0 H0 H1 → H1 a = none → SameX x0 H0 (upd (upd H1 a (.dK [])) x0 u) := fun h ha b o e ne => by
      rw [upd_ne ne, upd_ne (ne_of_none (h b o e ne) ha)]
      exact h b o e ne
    have fre : ∀ {H1 : Hp} {a b : Addr} {o u : HO}, (upd (upd H1 a o) x0 u) b = none → H1 b = none ∧ b ≠ a := fun {H1 a b o u} h => by
      by_cases e : b = x0
      · subst e; rw [upd_same] at h; cases h
      · rw [upd_ne e] at h
        by_cases e' : b = a
        · subst e'; rw [upd_same] at h; cases h
        · rw [upd_ne e'] at h; exact ⟨h, e'⟩
    intro a1 h1
    refine ⟨_, rfl, x0, _, dx, _, rfl, go ob h1, T.clB, T.nB_stand_of, by decide, ?_⟩
    have s1 : SameX x0 H _ := fr (u := .ins (cB K) dx (putF "stand_of" (.ref a1) [])) (fun a o e _ => e) h1
    intro a2 h2
    refine ⟨_, rfl, x0, _, dx, _, rfl, go upd_same h2, T.clB, T.nB_home_of, by show 1 < 1000; decide, ?_⟩
    have s2 := fr (u := .ins (cB K) dx (putF "home_of" (.ref a2) (putF "stand_of" (.ref a1) []))) s1 h2
    intro a3 h3
    refine ⟨_, rfl, x0, _, dx, _, rfl, go upd_same h3, T.clB, T.nB_fast, by show 2 < 1000; decide, ?_⟩
    have s3 := fr (u := .ins (cB K) dx (putF "fast" (.ref a3) (putF "home_of" (.ref a2) (putF "stand_of" (.ref a1) [])))) s2 h3
    intro a4 h4
    refine ⟨_, rfl, x0, _, dx, _, rfl, go upd_same h4, T.clB, T.nB_marks_of, by show 3 < 1000; decide, ?_⟩
    have s4 := fr (u := .ins (cB K) dx (putF "marks_of" (.ref a4) (putF "fast" (.ref a3) (putF "home_of" (.ref a2) (putF "stand_of" (.ref a1) []))))) s3 h4
    intro a5 h5
    refine ⟨_, rfl, x0, _, dx, _, rfl, go upd_same h5, T.clB, T.nB_crew_rows, by show 4 < 1000; decide, ?_⟩
    have s5 := fr (u := .ins (cB K) dx (putF "crew_rows" (.ref a5) (putF "marks_of" (.ref a4) (putF "fast" (.ref a3) (putF "home_of" (.ref a2) (putF "stand_of" (.ref a1) [])))))) s4 h5
    obtain ⟨g2, n21⟩ := fre h2
    obtain ⟨g3, n32⟩ := fre h3
    obtain ⟨g3, n31⟩ := fre g3
    obtain ⟨g4, n43⟩ := fre h4
    obtain ⟨g4, n42⟩ := fre g4
    obtain ⟨g4, n41⟩ := fre g4
    obtain ⟨g5, n54⟩ := fre h5
    obtain ⟨g5, n53⟩ := fre g5
    obtain ⟨g5, n52⟩ := fre g5
    obtain ⟨g5, n51⟩ := fre g5
    have e1 := ne_of_none ob h1
    have e2 := ne_of_none ob g2
    have e3 := ne_of_none ob g3
    have e4 := ne_of_none ob g4
    have e5 := ne_of_none ob g5
    let ow' : Addr → Ro := fun a => if a = a1 then .st else if a = a2 then .ho else if a = a3 then .fa else if a = a4 then .mk else if a = a5 then .ro else ow a
    refine k _ ⟨x0, dx, a1, a2, a3, a4, a5, fun _ => a1, fun _ => a1⟩ ow' rfl s5 (fun a ha => ?_) ?_
    · have q : ∀ {b : Addr}, H b = none → a ≠ b := fun hb e => ha (by rw [e]; exact hb)
      show (if a = a1 then Ro.st else _) = _
      rw [if_neg (q h1), if_neg (q g2), if_neg (q g3), if_neg (q g4), if_neg (q g5)]
    · exact {
        ob := upd_same
        st := by
          show _ = some (HO.dK [])
          simp only [upd_ne e1.symm, upd_ne n21.symm, upd_ne n31.symm, upd_ne n41.symm, upd_ne n51.symm, upd_same]
        ho := by
          show _ = some (HO.dK [])
          simp only [upd_ne e2.symm, upd_ne n32.symm, upd_ne n42.symm, upd_ne n52.symm, upd_same]
        fa := by
          show _ = some (HO.dK [])
          simp only [upd_ne e3.symm, upd_ne n43.symm, upd_ne n53.symm, upd_same]
        mr := by
          show _ = some (HO.dK [])
          simp only [upd_ne e4.symm, upd_ne n54.symm, upd_same]
        md := fun d hd => by cases hd
        ro := by
          show _ = some (HO.dK [])
          simp only [upd_ne e5.symm, upd_same]
        cr := fun d hd => by cases hd
        rst := if_pos rfl
        rho := by
          show (if a2 = a1 then Ro.st else _) = _
          rw [if_neg n21, if_pos rfl]
        rfa := by
          show (if a3 = a1 then Ro.st else _) = _
          rw [if_neg n31, if_neg n32, if_pos rfl]
        rmk := by
          show (if a4 = a1 then Ro.st else _) = _
          rw [if_neg n41, if_neg n42, if_neg n43, if_pos rfl]
        rro := by
          show (if a5 = a1 then Ro.st else _) = _
          rw [if_neg n51, if_neg n52, if_neg n53, if_neg n54, if_pos rfl]
        rmd := fun d hd => by cases hd }
/-! ### the board stays what a board is -/
theorem BOk.add {B : BS} (ok : BOk B) {d p : Str} (hn : IsName d) (hp : IsPos p) (hd : d ∉ B.devs) (hl : B.devs.length < 24) : BOk (B.add d p) where
  dv := ⟨fun x hx => (List.mem_append.mp hx).elim (ok.dv.all x) fun z => by rw [List.mem_singleton.mp z]; exact hn, nd_snoc ok.dv.nd hd, by show (B.devs ++ [d]).length ≤ 24; rw [List.length_append]; exact hl⟩
  pl := fun x hx => by
    show IsPos (ups B.pl d p x)
    by_cases e : x = d
    · subst e; rw [ups_same]; exact hp
    · rw [ups_ne e]; exact ok.pl x ((List.mem_append.mp hx).resolve_right fun z => e (List.mem_singleton.mp z))
  hm := fun x hx => by
    show IsPos (ups B.hm d p x)
    by_cases e : x = d
    · subst e; rw [ups_same]; exact hp
    · rw [ups_ne e]; exact ok.hm x ((List.mem_append.mp hx).resolve_right fun z => e (List.mem_singleton.mp z))
  fs := ⟨ok.fs.1, fun x hx => List.mem_append.mpr (.inl (ok.fs.2 x hx))⟩
  ms := fun x hx => by
    show (ups B.ms d [] x).Nodup ∧ ∀ j ∈ ups B.ms d [] x, _
    by_cases e : x = d
    · subst e; rw [ups_same]; exact ⟨List.nodup_nil, fun j hj => by cases hj⟩
    · rw [ups_ne e]; exact ok.ms x ((List.mem_append.mp hx).resolve_right fun z => e (List.mem_singleton.mp z))
  jb := ok.jb
  cw := ok.cw
theorem BOk.turn {B : BS} (ok : BOk B) {d p : Str} (hp : IsPos p) : BOk (B.turn d p) where
  dv := ok.dv
  pl := fun x hx => by
    show IsPos (ups B.pl d p x)
    by_cases e : x = d
    · subst e; rw [ups_same]; exact hp
    · rw [ups_ne e]; exact ok.pl x hx
  hm := fun x hx => by
    show IsPos (ups B.hm d p x)
    by_cases e : x = d
    · subst e; rw [ups_same]; exact hp
    · rw [ups_ne e]; exact ok.hm x hx
  fs := ok.fs
  ms := ok.ms
  jb := ok.jb
  cw := ok.cw
theorem BOk.stick {B : BS} (ok : BOk B) {d : Str} (hd : d ∈ B.devs) : BOk (B.stick d) :=
  { ok with fs := ⟨nd_addk ok.fs.1, fun x hx => (mem_addk.mp hx).elim (ok.fs.2 x) fun e => e ▸ hd⟩ }
theorem BOk.mend {B : BS} (ok : BOk B) {d : Str} : BOk (B.mend d) :=
  { ok with fs := ⟨ok.fs.1.sublist List.filter_sublist, fun x hx => ok.fs.2 x (List.mem_filter.mp hx).1⟩ }
theorem BOk.hold {B : BS} (ok : BOk B) {d p j : Str} (hd : d ∈ B.devs) (hp : IsPos p) (hj : j ∈ B.jobs) : BOk (B.hold d p j) :=
  { ok with
    pl := fun x hx => by
      show IsPos (ups B.pl d p x)
      by_cases e : x = d
      · subst e; rw [ups_same]; exact hp
      · rw [ups_ne e]; exact ok.pl x hx
    ms := fun x hx => by
      show (ups B.ms d (addk (B.ms d) j) x).Nodup ∧ ∀ k ∈ ups B.ms d (addk (B.ms d) j) x, k ∈ B.jobs
      by_cases e : x = d
      · subst e
        rw [ups_same]
        exact ⟨nd_addk (ok.ms x hx).1, fun k hk => (mem_addk.mp hk).elim ((ok.ms x hx).2 k) fun e => e ▸ hj⟩
      · rw [ups_ne e]; exact ok.ms x hx }
theorem BOk.free {B : BS} (ok : BOk B) {d j : Str} (hd : d ∈ B.devs) : BOk (B.free d j) :=
  { ok with
    pl := fun x hx => by
      show IsPos (ups B.pl d _ x)
      by_cases e : x = d
      · subst e; rw [ups_same]; split
        · exact ok.hm x hx
        · exact ok.pl x hx
      · rw [ups_ne e]; exact ok.pl x hx
    ms := fun x hx => by
      show (ups B.ms d ((B.ms d).filter fun a => decide (a ≠ j)) x).Nodup ∧ ∀ k ∈ ups B.ms d ((B.ms d).filter fun a => decide (a ≠ j)) x, k ∈ B.jobs
      by_cases e : x = d
      · subst e
        rw [ups_same]
        exact ⟨(ok.ms x hx).1.sublist List.filter_sublist, fun k hk => (ok.ms x hx).2 k (List.mem_filter.mp hk).1⟩
      · rw [ups_ne e]; exact ok.ms x hx }
theorem BOk.crew {B : BS} (ok : BOk B) {j : Str} {hs : List Str} (hn : IsName j) (hc : Names hs 6) (hne : hs ≠ []) (hl : j ∈ B.jobs ∨ B.jobs.length < 8) : BOk (B.crew j hs) :=
  { ok with
    ms := fun x hx => ⟨(ok.ms x hx).1, fun k hk => mem_addk.mpr (.inl ((ok.ms x hx).2 k hk))⟩
    jb := ⟨fun x hx => (mem_addk.mp hx).elim (ok.jb.all x) fun e => e ▸ hn, nd_addk ok.jb.nd, by
      show (addk B.jobs j).length ≤ 8
      have := ok.jb.len
      unfold addk
      split
      · exact this
      · rename_i h
        rw [List.length_append]
        exact hl.resolve_left h⟩
    cw := fun k hk => by
      show Names (ups B.cw j hs k) 6 ∧ ups B.cw j hs k ≠ []
      by_cases e : k = j
      · subst e; rw [ups_same]; exact ⟨hc, hne⟩
      · rw [ups_ne e]; exact ok.cw k ((mem_addk.mp hk).resolve_right e) }
theorem BOk.leave {B : BS} (ok : BOk B) {j : Str} (hno : ∀ d ∈ B.devs, j ∉ B.ms d) : BOk (B.leave j) :=
  { ok with
    ms := fun x hx => ⟨(ok.ms x hx).1, fun k hk => List.mem_filter.mpr ⟨(ok.ms x hx).2 k hk, by
      rw [decide_eq_true_iff]
      rintro rfl
      exact hno x hx hk⟩⟩
    jb := ⟨fun x hx => ok.jb.all x (List.mem_filter.mp hx).1, ok.jb.nd.sublist List.filter_sublist, Nat.le_trans (List.length_filter_le _ _) ok.jb.len⟩
    cw := fun k hk => ok.cw k (List.mem_filter.mp hk).1 }
theorem B0_ok : BOk B0 where
  dv := ⟨fun x hx => (by cases hx), List.nodup_nil, by decide⟩
  pl := fun x hx => by cases hx
  hm := fun x hx => by cases hx
  fs := ⟨List.nodup_nil, fun x hx => by cases hx⟩
  ms := fun x hx => by cases hx
  jb := ⟨fun x hx => (by cases hx), List.nodup_nil, by decide⟩
  cw := fun x hx => by cases hx
end
end Sm
namespace Sm
open PySem PySem.Spec PyProof.Rows L2
/-- what is written of a job -/
structure PS where
  ab : List Str
  ph : Str
  en : Bool
  cu : List Str
  em : List Str
/-- a step: a device and where it goes (none: off) -/
abbrev Stp := Str × Option Str
def stV (s : Stp) : List V := [.str s.1, optV s.2]
/-- the step is still to do: on: who hangs there -/
def hangs (pl : Str → Str) (on : Str → Bool) (s : Stp) : Bool := match s.2 with
  | some t => decide (pl s.1 = t) && on s.1
  | none => false
def dueStill (cu em : List Str) : List Stp := (cu.map fun d => (d, some ("shut" : Str))) ++ em.map fun d => (d, some ("open" : Str))
def stStill (pl : Str → Str) (on : Str → Bool) (cu em : List Str) : List Stp := (dueStill cu em).filter fun s => !hangs pl on s
def dueTrial (hm : Str → Str) (cu em : List Str) : List Stp := (em.reverse.map fun d => (d, some ("shut" : Str))) ++ cu.reverse.map fun d => (d, some (hm d))
def stTrial (pl hm : Str → Str) (cu em : List Str) : List Stp := (dueTrial hm cu em).filter fun s => decide (some (pl s.1) ≠ s.2)
def stAway (on : Str → Bool) (cu em : List Str) : List Stp := ((em.reverse ++ cu.reverse).filter on).map fun d => (d, none)
def steps (pl hm : Str → Str) (on : Str → Bool) (P : PS) : List Stp :=
  if P.ph = "still" then stStill pl on P.cu P.em else if P.ph = "trial" then stTrial pl hm P.cu P.em else if P.ph = "away" then stAway on P.cu P.em else []
def BS.on (B : BS) (j d : Str) : Bool := decide (j ∈ B.ms d)
def BS.steps (B : BS) (j : Str) (P : PS) : List Stp := Sm.steps B.pl B.hm (B.on j) P
/-- what is written of a job is right -/
structure POk (B : BS) (P : PS) : Prop where
  ab : Names P.ab 24 ∧ P.ab ≠ []
  nd : (P.cu ++ P.em).Nodup
  sub : ∀ d ∈ P.cu ++ P.em, d ∈ B.devs
  ph : P.ph = "by" ∨ P.ph = "still" ∨ P.ph = "given" ∨ P.ph = "trial" ∨ P.ph = "away"
  by_ : P.ph = "by" → P.cu = [] ∧ P.em = []
theorem mem_dueStill {cu em : List Str} {s : Stp} (h : s ∈ dueStill cu em) : s.1 ∈ cu ++ em ∧ ∃ t, s.2 = some t ∧ IsPos t := by
  rcases List.mem_append.mp h with h | h
  · obtain ⟨d, hd, rfl⟩ := List.mem_map.mp h
    exact ⟨List.mem_append.mpr (.inl hd), _, rfl, .inr rfl⟩
  · obtain ⟨d, hd, rfl⟩ := List.mem_map.mp h
    exact ⟨List.mem_append.mpr (.inr hd), _, rfl, .inl rfl⟩
theorem mem_dueTrial {hm : Str → Str} {cu em : List Str} (hp : ∀ d ∈ cu, IsPos (hm d)) {s : Stp} (h : s ∈ dueTrial hm cu em) : s.1 ∈ cu ++ em ∧ ∃ t, s.2 = some t ∧ IsPos t := by
  rcases List.mem_append.mp h with h | h
  · obtain ⟨d, hd, rfl⟩ := List.mem_map.mp h
    exact ⟨List.mem_append.mpr (.inr (List.mem_reverse.mp hd)), _, rfl, .inr rfl⟩
  · obtain ⟨d, hd, rfl⟩ := List.mem_map.mp h
    exact ⟨List.mem_append.mpr (.inl (List.mem_reverse.mp hd)), _, rfl, hp d (List.mem_reverse.mp hd)⟩
theorem len_dueStill {cu em : List Str} : (dueStill cu em).length = (cu ++ em).length := by
  unfold dueStill
  rw [List.length_append, List.length_append, List.length_map, List.length_map]
theorem len_dueTrial {hm : Str → Str} {cu em : List Str} : (dueTrial hm cu em).length = (cu ++ em).length := by
  unfold dueTrial
  rw [List.length_append, List.length_append, List.length_map, List.length_map, List.length_reverse, List.length_reverse, Nat.add_comm]
/-- the steps of a job that is right -/
theorem mem_steps {B : BS} {P : PS} {j : Str} (ok : BOk B) (po : POk B P) {s : Stp} (h : s ∈ B.steps j P) :
    s.1 ∈ P.cu ++ P.em ∧ s.1 ∈ B.devs ∧ ((∃ t, s.2 = some t ∧ IsPos t) ∨ (s.2 = none ∧ j ∈ B.ms s.1)) := by
  unfold BS.steps Sm.steps at h
  split at h
  · obtain ⟨h1, h2⟩ := mem_dueStill (List.mem_filter.mp h).1
    exact ⟨h1, po.sub _ h1, .inl h2⟩
  · split at h
    · obtain ⟨h1, h2⟩ := mem_dueTrial (fun d hd => ok.hm d (po.sub d (List.mem_append.mpr (.inl hd)))) (List.mem_filter.mp h).1
      exact ⟨h1, po.sub _ h1, .inl h2⟩
    · split at h
      · obtain ⟨d, hd, rfl⟩ := List.mem_map.mp h
        obtain ⟨h1, h2⟩ := List.mem_filter.mp hd
        have h3 : d ∈ P.cu ++ P.em := by
          rw [List.mem_append, List.mem_reverse, List.mem_reverse] at h1
          exact List.mem_append.mpr h1.symm
        exact ⟨h3, po.sub _ h3, .inr ⟨rfl, of_decide_eq_true h2⟩⟩
      · cases h
theorem POk.len {B : BS} {P : PS} (ok : BOk B) (po : POk B P) : (P.cu ++ P.em).length ≤ 24 := Nat.le_trans (nd_len po.nd po.sub) ok.dv.len
theorem len_steps {B : BS} {P : PS} {j : Str} (ok : BOk B) (po : POk B P) : (B.steps j P).length ≤ 24 := by
  have h := po.len ok
  unfold BS.steps Sm.steps
  split
  · exact Nat.le_trans (List.length_filter_le _ _) (by rw [len_dueStill]; exact h)
  · split
    · exact Nat.le_trans (List.length_filter_le _ _) (by rw [len_dueTrial]; exact h)
    · split
      · unfold stAway
        rw [List.length_map]
        refine Nat.le_trans (List.length_filter_le _ _) ?_
        rw [List.length_append] at h
        rw [List.length_append, List.length_reverse, List.length_reverse]
        omega
      · exact Nat.zero_le _
/-! ### a job's turns, with the board -/
def settle (B : BS) (j : Str) (P : PS) : BS × PS :=
  if P.ph = "away" ∧ B.steps j P = [] then (if P.en then (B.leave j, { P with ph := "ended", cu := [], em := [] }) else (B, { P with ph := "by", cu := [], em := [] })) else (B, P)
/-- why a step is refused -/
def stepR (B : BS) (j : Str) (P : PS) : Option Rf := match B.steps j P with
  | [] => some (.notNow j)
  | (d, none) :: _ => freeR B d j
  | (d, some t) :: _ => holdR B d t j
/-- the board behind a step -/
def stepB (B : BS) (j : Str) (s : Stp) : BS := match s.2 with
  | none => B.free s.1 j
  | some t => B.hold s.1 t j
def heldR (B : BS) (j : Str) : Option Rf := if (B.cw j).tail ≠ [] then some (.held (srt (B.cw j).tail)) else none
def phR (P : PS) (j : Str) (good : List Str) : Option Rf := if P.ph ∈ good then none else some (.notNow j)
def orR (a b : Option Rf) : Option Rf := match a with
  | some r => some r
  | none => b
/-- the first of these that is not there -/
def lackR (B : BS) (l : List Str) : Option Rf := match l.find? (fun d => decide (d ∉ B.devs)) with
  | some d => some (.lacks d)
  | none => none
end Sm
namespace Sm
open PySem PySem.Spec PyProof.Rows L2
theorem Same.upf {H H1 : Hp} {D : Addr} {u : HO} (h : Same H H1) (hD : H D = none) : Same H (upd H1 D u) := Same.mut h hD
/-- a comprehension that leaves what stood: what it gives -/
theorem lc_gen {J : It} {n : Nat} {G : Hp → Prop} {Y : Nat → Hp → V → Hp → Prop} (w : Walk J n G Y) {g : TG} {tt : TT} {te : TE} {vs : List Nat} {σ : L2.St} {H0 : Hp} {D : Addr} {Qd : Hp → Prop} {α β : Type} (l : List α) (keep : α → Bool) (row : α → β)
    (Ef : Hp → V → α → Prop) (R : Hp → V → β → Prop) (hn : l.length = n) (hlen : n < 1000) (hD : H0 D = none) (hG : ∀ H, Same H0 H → G H)
    (hY : ∀ i x H H', i < n → Same H0 H → Y i H x H' → ∃ a, l[i]? = some a ∧ Same H H' ∧ Ef H' x a) (hR : ∀ H H' v b, KpT H H' → R H v b → R H' v b)
    (hs : ∀ (i : Nat) a x H', l[i]? = some a → Same H0 H' → Ef H' x a → ∀ (nx : V → Hp → Prop) (sk : Hp → Prop), (keep a = true → ∀ v H4, Same H' H4 → R H4 v (row a) → nx v H4) → (keep a = false → ∀ H4, Same H' H4 → sk H4) →
      g x (wipe σ vs) H' fun σ2 H2 => wipe σ2 vs = wipe σ vs ∧ tt σ2 H2 fun b H3 => if b = true then te σ2 H3 fun y H4 => nx y H4 else sk H3)
    (hd : ∀ H items, Same H0 H → H D = some (.lst items) → Paired (R H) items ((l.filter keep).map row) → Qd H) :
    ∃ W : Nat → Nat → Hp → Prop, (∃ m, W 0 m (upd H0 D (.lst []))) ∧ ∀ i m H, W i m H →
      (J.stop i H ∧ Qd H) ∨ (J.go i H ∧ ∃ Nx : Hp → Prop, (∀ H', Nx H' → ∃ m', m' < m ∧ W (i + 1) m' H') ∧ ∀ x H', J.yld i H x H' → g x (wipe σ vs) H' fun σ2 H2 => wipe σ2 vs = wipe σ vs ∧ tt σ2 H2 fun b H3 =>
        if b = true then te σ2 H3 fun y H4 => ∃ acc, H4 D = some (.lst acc) ∧ acc.length < sizeLine ∧ Nx (upd H4 D (.lst (acc ++ [y]))) else Nx H3) := by
  have mono : ∀ {H H' : Hp} {vs : List V} {bs : List β}, KpT H H' → Paired (R H) vs bs → Paired (R H') vs bs := by
    intro H H' vs bs k
    induction vs generalizing bs with
    | nil => intro h; cases h; exact .nil
    | cons v r ih => intro h; cases h with | cons a b => exact .cons (hR _ _ _ _ k a) (ih b)
  refine lc_it w (fun i H => i ≤ n ∧ Same H0 H ∧ ∃ items, H D = some (.lst items) ∧ Paired (R H) items (((l.take i).filter keep).map row)) ⟨Nat.zero_le _, Same.new hD, [], upd_same, by simpa using Paired.nil⟩ (fun i H _ h => hG H h.2.1) ?_ ?_
  · rintro i x H H' hi ⟨_, s1, items, hDi, hp⟩ y
    obtain ⟨a, ha, s2, ef⟩ := hY i x H H' hi s1 y
    have hp' := mono (KpT.same s2) hp
    have hD' := s2 _ _ hDi
    have hlen' := Paired.length hp
    rw [List.length_map] at hlen'
    have h1 := List.length_filter_le keep (l.take i)
    have h2 := List.length_take_le' i l
    refine hs i a x H' ha (s1.trans s2) ef _ _ (fun hk v H4 s4 r => ?_) (fun hk H4 s4 => ?_)
    · have hD4 := s4 _ _ hD'
      have e : ((l.take (i + 1)).filter keep).map row = ((l.take i).filter keep).map row ++ [row a] := by
        rw [take_more ha, List.filter_append, List.filter_cons_of_pos hk, List.filter_nil, List.map_append]
        rfl
      have kt : KpT H4 (upd H4 D (.lst (items ++ [v]))) := (KpT.same (Same.refl _)).upd hD4 (by intro _ z; cases z)
      refine ⟨items, hD4, sz_lt (by omega), hi, Same.upf ((s1.trans s2).trans s4) hD, items ++ [v], upd_same, ?_⟩
      rw [e]
      exact mono kt (Paired.snoc r (mono (KpT.same s4) hp'))
    · have e : ((l.take (i + 1)).filter keep).map row = ((l.take i).filter keep).map row := by
        rw [take_more ha, List.filter_append, List.filter_cons_of_neg (by rw [hk]; exact Bool.false_ne_true), List.filter_nil, List.append_nil]
      refine ⟨hi, (s1.trans s2).trans s4, items, s4 _ _ hD', ?_⟩
      rw [e]
      exact mono (KpT.same s4) hp'
  · rintro H ⟨_, s1, items, hDi, hp⟩
    rw [← hn, List.take_length] at hp
    exact hd H items s1 hDi hp
/-- values of a function, no heap -/
def Fv {β : Type} (f : β → V) : Hp → V → β → Prop := fun _ v b => v = f b
theorem Fv.mono {β : Type} {f : β → V} : ∀ H H' v b, KpT H H' → Fv f H v b → Fv f H' v b := fun _ _ _ _ _ h => h
theorem Fv.eq {β : Type} {f : β → V} {H : Hp} : ∀ {vs : List V} {bs : List β}, Paired (Fv f H) vs bs → vs = bs.map f
  | _, _, .nil => rfl
  | _, _, .cons h r => by rw [List.map_cons, Fv.eq r, h]
/-- tuples of rows by a function -/
def Tv {β : Type} (f : β → List V) : Hp → V → β → Prop := fun H v b => TupV H v (f b)
theorem Tv.mono {β : Type} {f : β → List V} : ∀ H H' v b, KpT H H' → Tv f H v b → Tv f H' v b := fun _ _ _ _ k ⟨t, e, h⟩ => ⟨t, e, k t _ h⟩
theorem Tv.tups {β : Type} {f : β → List V} {H : Hp} : ∀ {vs : List V} {bs : List β}, Paired (Tv f H) vs bs → Tups H vs (bs.map f)
  | _, _, .nil => .nil
  | _, _, .cons h r => .cons h (Tv.tups r)
theorem Tups.tv {β : Type} {f : β → List V} {H : Hp} : ∀ {vs : List V} {bs : List β}, Tups H vs (bs.map f) → Paired (Tv f H) vs bs
  | _, [], h => by cases h; exact .nil
  | _, b :: r, h => by cases h with | cons a q => exact .cons a (Tups.tv q)
/-- walks over lists of words, of rows -/
theorem yS {l : List Str} {H0 : Hp} : ∀ i x H H', i < (l.map V.str).length → Same H0 H → YAt (l.map V.str) i H x H' → ∃ a, l[i]? = some a ∧ Same H H' ∧ Fv V.str H' x a := by
  rintro i x H H' hi s ⟨rfl, hy⟩
  obtain ⟨a, ha, rfl⟩ := strs_at hy
  exact ⟨a, ha, Same.refl _, rfl⟩
theorem yT {β : Type} {f : β → List V} {l : List β} {items : List V} {H0 : Hp} (ht : Tups H0 items (l.map f)) : ∀ i x H H', i < items.length → Same H0 H → YAt items i H x H' → ∃ a, l[i]? = some a ∧ Same H H' ∧ Tv f H' x a := by
  rintro i x H H' hi s ⟨rfl, hy⟩
  obtain ⟨r, hr, h⟩ := Paired.at ht hy
  rw [List.getElem?_map] at hr
  cases e : l[i]? with
  | none => rw [e] at hr; cases hr
  | some a =>
    rw [e] at hr
    obtain ⟨t, e1, e2⟩ := h
    refine ⟨a, rfl, Same.refl _, t, e1, ?_⟩
    rw [s _ _ e2]
    exact congrArg (fun x => some (HO.tup x)) (Option.some.inj hr).symm
theorem tups_len {β : Type} {f : β → List V} {l : List β} {items : List V} {H : Hp} (ht : Tups H items (l.map f)) : items.length = l.length := by
  rw [ht.len, List.length_map]
theorem filter_all {α : Type} {l : List α} : l.filter (fun _ => true) = l := List.filter_eq_self.mpr fun _ _ => rfl
end Sm
namespace Sm
open PySem PySem.Spec PyProof.Rows L2
/-! ### a job's instance -/
structure JA where
  (jd la lc le : Addr)
def jfs (bd : Addr) (nm : Str) (la : Addr) (ph : Str) (en : Bool) (lc le : Addr) : List (Str × V) :=
  [("at_board", .ref bd), ("named", .str nm), ("about", .ref la), ("now", .str ph), ("ending", .bl en), ("cutting", .ref lc), ("emptying", .ref le)]
structure JAt (K : PySem.W.Frag) (bd : Addr) (y : JA) (ji : Addr) (nm : Str) (P : PS) (H : Hp) : Prop where
  ob : H ji = some (.ins (cJ K) y.jd (jfs bd nm y.la P.ph P.en y.lc y.le))
  la : H y.la = some (.lst (P.ab.map V.str))
  lc : H y.lc = some (.lst (P.cu.map V.str))
  le : H y.le = some (.lst (P.em.map V.str))
section
variable {bd la lc le : Addr} {nm ph : Str} {en : Bool}
theorem jf_bd : (jfs bd nm la ph en lc le).lookup ("at_board" : Str) = some (V.ref bd) := by rfl
theorem jf_nm : (jfs bd nm la ph en lc le).lookup ("named" : Str) = some (V.str nm) := by rfl
theorem jf_ab : (jfs bd nm la ph en lc le).lookup ("about" : Str) = some (V.ref la) := by rfl
theorem jf_ph : (jfs bd nm la ph en lc le).lookup ("now" : Str) = some (V.str ph) := by rfl
theorem jf_en : (jfs bd nm la ph en lc le).lookup ("ending" : Str) = some (V.bl en) := by rfl
theorem jf_lc : (jfs bd nm la ph en lc le).lookup ("cutting" : Str) = some (V.ref lc) := by rfl
theorem jf_le : (jfs bd nm la ph en lc le).lookup ("emptying" : Str) = some (V.ref le) := by rfl
theorem jf_no {m : Str} (h : (["at_board", "named", "about", "now", "ending", "cutting", "emptying"] : List Str).all (fun y => !(m == y)) = true) : (jfs bd nm la ph en lc le).lookup m = none := by
  simp only [List.all_cons, List.all_nil, Bool.and_true, Bool.and_eq_true, Bool.not_eq_true'] at h
  simp [jfs, List.lookup, h]
theorem jp_ph {ph' : Str} : putF "now" (.str ph') (jfs bd nm la ph en lc le) = jfs bd nm la ph' en lc le := by rfl
theorem jp_en {en' : Bool} : putF "ending" (.bl en') (jfs bd nm la ph en lc le) = jfs bd nm la ph en' lc le := by rfl
theorem jp_lc {lc' : Addr} : putF "cutting" (.ref lc') (jfs bd nm la ph en lc le) = jfs bd nm la ph en lc' le := by rfl
theorem jp_le {le' : Addr} : putF "emptying" (.ref le') (jfs bd nm la ph en lc le) = jfs bd nm la ph en lc le' := by rfl
end
/-- all that stood stands, but the instance ji and the dicts of these roles -/
def KpX (ow : Addr → Ro) (p : Ro → Bool) (ji : Addr) (H H' : Hp) : Prop := ∀ a o, H a = some o → a ≠ ji → (p (ow a) = false ∨ ∀ kvs, o ≠ .dK kvs) → H' a = some o
section
variable {ow : Addr → Ro} {p : Ro → Bool} {H H1 H2 : Hp} {a ji : Addr} {o u : HO} {kvs : List (Key × V)}
theorem KpX.of (h : Kp ow p H H1) : KpX ow p ji H H1 := fun a o e _ z => h a o e z
theorem KpX.same (h : Same H H1) : KpX ow p ji H H1 := fun a o e _ _ => h a o e
theorem KpX.refl : KpX ow p ji H H := fun a o e _ _ => e
theorem KpX.trans (h : KpX ow p ji H H1) (k : KpX ow p ji H1 H2) : KpX ow p ji H H2 := fun a o e n z => k a o (h a o e n z) n z
theorem KpX.ins (h : KpX ow p ji H H1) : KpX ow p ji H (upd H1 ji u) := fun a o e n z => by rw [upd_ne n]; exact h a o e n z
theorem KpX.new (h : KpX ow p ji H H1) (ha : H1 a = none) : KpX ow p ji H (L2.upd H1 a u) := fun b o e n z => by
  have hb := h b o e n z
  rw [upd_ne (ne_of_none hb ha)]
  exact hb
end
section
variable {K : PySem.W.Frag} {bd ji : Addr} {y : JA} {nm : Str} {P : PS} {H H' : Hp}
theorem JAt.same (j : JAt K bd y ji nm P H) (s : Same H H') : JAt K bd y ji nm P H' := ⟨s _ _ j.ob, s _ _ j.la, s _ _ j.lc, s _ _ j.le⟩
theorem JAt.keep {ow : Addr → Ro} {p : Ro → Bool} (j : JAt K bd y ji nm P H) (s : Kp ow p H H') : JAt K bd y ji nm P H' :=
  ⟨s _ _ j.ob (.inr (by intro _ z; cases z)), s _ _ j.la (.inr (by intro _ z; cases z)), s _ _ j.lc (.inr (by intro _ z; cases z)), s _ _ j.le (.inr (by intro _ z; cases z))⟩
/-- the instance is written anew -/
theorem JAt.put (j : JAt K bd y ji nm P H) {y' : JA} {P' : PS} {u : HO} (hu : u = .ins (cJ K) y'.jd (jfs bd nm y'.la P'.ph P'.en y'.lc y'.le)) (ha : H y'.la = some (.lst (P'.ab.map V.str))) (hc : H y'.lc = some (.lst (P'.cu.map V.str))) (he : H y'.le = some (.lst (P'.em.map V.str))) :
    JAt K bd y' ji nm P' (upd H ji u) := by
  subst hu
  exact ⟨upd_same, up_k ha j.ob (by intro z; cases z), up_k hc j.ob (by intro z; cases z), up_k he j.ob (by intro z; cases z)⟩
theorem BAt.ins {ow : Addr → Ro} {x : BA} {B : BS} (b : BAt K ow x B H) {jd : Addr} {fs : List (Str × V)} (hj : H ji = some (.ins (cJ K) jd fs)) (hne : ji ≠ x.bd) {u : HO} : BAt K ow x B (upd H ji u) where
  ob := by rw [upd_ne hne.symm]; exact b.ob
  st := up_k b.st hj (by intro z; cases z)
  ho := up_k b.ho hj (by intro z; cases z)
  fa := up_k b.fa hj (by intro z; cases z)
  mr := up_k b.mr hj (by intro z; cases z)
  md := fun d hd => up_k (b.md d hd) hj (by intro z; cases z)
  ro := up_k b.ro hj (by intro z; cases z)
  cr := fun k hk => up_k (b.cr k hk) hj (by intro z; cases z)
  rst := b.rst
  rho := b.rho
  rfa := b.rfa
  rmk := b.rmk
  rro := b.rro
  rmd := b.rmd
end
section
variable {P : Program} {w : World} {K : PySem.W.Frag} {mg : Str → Option Value} {base : Heap}
theorem gc_Board {X : Cx} {pos : Pos} (T : Txt X.K X.mg) (hg : Gl X "Board" := by rfl) : PE X (.Name "Board" pos) (tC (.ref (cB X.K))) := pe_glob hg T.g_Board rfl
/-! ### called, phase, stretch, switches, drains -/
def spJv (K : PySem.W.Frag) (r : Str → PS → V) : Sp := fun vs H Q _ => ∃ bd y ji nm P, vs = [.ref ji] ∧ JAt K bd y ji nm P H ∧ Q (r nm P) H
def spJl (K : PySem.W.Frag) (r : PS → List Str) : Sp := fun vs H Q _ => ∃ bd y ji nm P, vs = [.ref ji] ∧ JAt K bd y ji nm P H ∧ ∀ H' p, Same H H' → H' p = some (.lst ((r P).map V.str)) → Q (.ref p) H'
abbrev N_J_called : List Str := ["self"]
theorem sc_J_called : FnScope N_J_called ["self"] (defScope sJ_called) := ⟨rfl, rfl, rfl, by decide +kernel, rfl, by decide +kernel, by decide +kernel⟩
theorem sc_J_phase : FnScope N_J_called ["self"] (defScope sJ_phase) := ⟨rfl, rfl, rfl, by decide +kernel, rfl, by decide +kernel, by decide +kernel⟩
theorem sc_J_stretch : FnScope N_J_called ["self"] (defScope sJ_stretch) := ⟨rfl, rfl, rfl, by decide +kernel, rfl, by decide +kernel, by decide +kernel⟩
theorem sc_J_switches : FnScope N_J_called ["self"] (defScope sJ_switches) := ⟨rfl, rfl, rfl, by decide +kernel, rfl, by decide +kernel, by decide +kernel⟩
theorem sc_J_drains : FnScope N_J_called ["self"] (defScope sJ_drains) := ⟨rfl, rfl, rfl, by decide +kernel, rfl, by decide +kernel, by decide +kernel⟩
theorem ok_J_called (T : Txt K mg) : MFn P w K mg base CX0 1 (cJ K) "called" ["self"] (spJv K fun nm _ => .str nm) := by
  refine T.m_J_called.ok0 sc_J_called (fun vs H Q E h => ?_) (fun f cdv A outer s H vs Q E hr h => ?_)
  · obtain ⟨bd, y, ji, nm, P, rfl, _⟩ := h
    rfl
  · obtain ⟨bd, y, ji, nm, P, rfl, j, k⟩ := h
    exact ⟨_, (pss_one (ps_ret (pe_fld (pv 0) rfl))), _, rfl, _, _, _, _, _, rfl, j.ob, T.clJ, T.nJ_named, jf_nm, k⟩
theorem ok_J_phase (T : Txt K mg) : MFn P w K mg base CX0 1 (cJ K) "phase" ["self"] (spJv K fun _ P => .str P.ph) := by
  refine T.m_J_phase.ok0 sc_J_phase (fun vs H Q E h => ?_) (fun f cdv A outer s H vs Q E hr h => ?_)
  · obtain ⟨bd, y, ji, nm, P, rfl, _⟩ := h
    rfl
  · obtain ⟨bd, y, ji, nm, P, rfl, j, k⟩ := h
    exact ⟨_, (pss_one (ps_ret (pe_fld (pv 0) rfl))), _, rfl, _, _, _, _, _, rfl, j.ob, T.clJ, T.nJ_now, jf_ph, k⟩
theorem ok_J_stretch (T : Txt K mg) : MFn P w K mg base CX0 1 (cJ K) "stretch" ["self"] (spJl K fun P => P.ab) := by
  refine T.m_J_stretch.ok0 sc_J_stretch (fun vs H Q E h => ?_) (fun f cdv A outer s H vs Q E hr h => ?_)
  · obtain ⟨bd, y, ji, nm, P, rfl, _⟩ := h
    rfl
  · obtain ⟨bd, y, ji, nm, P, rfl, j, k⟩ := h
    refine ⟨_, (pss_one (ps_ret (pe_callTy call_list_of (by rfl) T.b_list (by decide +kernel) (pa_cons (pe_fld (pv 0) rfl) pa_nil)))), ?_⟩
    exact ⟨_, rfl, _, _, _, _, _, rfl, j.ob, T.clJ, T.nJ_about, jf_ab, y.la, _, rfl, .inl (SqL.of j.la), fun l hl => k _ l (Same.new hl) upd_same⟩
theorem ok_J_switches (T : Txt K mg) : MFn P w K mg base CX0 1 (cJ K) "switches" ["self"] (spJl K fun P => P.cu) := by
  refine T.m_J_switches.ok0 sc_J_switches (fun vs H Q E h => ?_) (fun f cdv A outer s H vs Q E hr h => ?_)
  · obtain ⟨bd, y, ji, nm, P, rfl, _⟩ := h
    rfl
  · obtain ⟨bd, y, ji, nm, P, rfl, j, k⟩ := h
    refine ⟨_, (pss_one (ps_ret (pe_callTy call_list_of (by rfl) T.b_list (by decide +kernel) (pa_cons (pe_fld (pv 0) rfl) pa_nil)))), ?_⟩
    exact ⟨_, rfl, _, _, _, _, _, rfl, j.ob, T.clJ, T.nJ_cutting, jf_lc, y.lc, _, rfl, .inl (SqL.of j.lc), fun l hl => k _ l (Same.new hl) upd_same⟩
theorem ok_J_drains (T : Txt K mg) : MFn P w K mg base CX0 1 (cJ K) "drains" ["self"] (spJl K fun P => P.em) := by
  refine T.m_J_drains.ok0 sc_J_drains (fun vs H Q E h => ?_) (fun f cdv A outer s H vs Q E hr h => ?_)
  · obtain ⟨bd, y, ji, nm, P, rfl, _⟩ := h
    rfl
  · obtain ⟨bd, y, ji, nm, P, rfl, j, k⟩ := h
    refine ⟨_, (pss_one (ps_ret (pe_callTy call_list_of (by rfl) T.b_list (by decide +kernel) (pa_cons (pe_fld (pv 0) rfl) pa_nil)))), ?_⟩
    exact ⟨_, rfl, _, _, _, _, _, rfl, j.ob, T.clJ, T.nJ_emptying, jf_le, y.le, _, rfl, .inl (SqL.of j.le), fun l hl => k _ l (Same.new hl) upd_same⟩
/-! ### crew_now -/
def spCrewNow (K : PySem.W.Frag) : Sp := fun vs H Q _ => ∃ (bd : Addr) (y : JA) (ji : Addr) (nm : Str) (P : PS) (L : List Str), vs = [.ref ji] ∧ JAt K bd y ji nm P H ∧
  ((P.ph = "ended" ∧ L = []) ∨ (P.ph ≠ "ended" ∧ ∃ ow x B, x.bd = bd ∧ BAt K ow x B H ∧ BOk B ∧ nm ∈ B.jobs ∧ L = B.cw nm)) ∧ ∀ H' p, Same H H' → H' p = some (.lst (L.map V.str)) → Q (.ref p) H'
theorem sc_J_crew_now : FnScope N_J_called ["self"] (defScope sJ_crew_now) := ⟨rfl, rfl, rfl, by decide +kernel, rfl, by decide +kernel, by decide +kernel⟩
theorem ok_J_crew_now (T : Txt K mg) : MFn P w K mg base CX0 3 (cJ K) "crew_now" ["self"] (spCrewNow K) := by
  refine T.m_J_crew_now.ok0 sc_J_crew_now (fun vs H Q E h => ?_) (fun f cdv A outer s H vs Q E hr h => ?_)
  · obtain ⟨bd, y, ji, nm, P, L, rfl, _⟩ := h
    rfl
  · obtain ⟨bd, y, ji, nm, P, L, rfl, j, c, k⟩ := h
    refine ⟨_, (pss_cons (ps_if (pt_cmpR op_eq (pe_fld (pv 0) rfl) pe_str (nomark _))
      (pss_one (ps_ret (pe_lst pa_nil)))
      pss_nil)
    (pss_one (ps_ret (pe_mth (pe_fld (pv 0) rfl) T.clB (ok_B_crew_of T) (hr.mono (by decide)) pass0 (pa_cons (pe_fld (pv 0) rfl) pa_nil))))), ?_⟩
    refine ⟨_, rfl, _, _, _, _, _, rfl, j.ob, T.clJ, T.nJ_now, jf_ph, rfl, _, rfl, ?_⟩
    rcases c with ⟨e, rfl⟩ | ⟨e, ow, x, B, rfl, b, ok, hj, rfl⟩
    · refine iteD (fun _ => ?_) (fun z => absurd (congrArg V.str e) z)
      exact ⟨by show 0 ≤ sizeLine; exact Nat.zero_le _, fun q hq => k _ q (Same.new hq) upd_same⟩
    · refine iteD (fun z => absurd (V.str.inj z) e) (fun _ => ?_)
      refine ⟨_, rfl, _, _, _, _, _, rfl, j.ob, T.clJ, T.nJ_at_board, jf_bd, _, _, _, rfl, b.ob, bf_no (by decide +kernel), _, rfl, _, _, _, _, _, rfl, j.ob, T.clJ, T.nJ_named, jf_nm, ow, x, B, nm, rfl, b, ok, hj, fun H' p s hp _ => k H' p s hp⟩
/-! ### need_phase -/
def spNeedPhase (K : PySem.W.Frag) : Sp := fun vs H Q E => ∃ bd y ji nm P a good, vs = [.ref ji, .ref a] ∧ JAt K bd y ji nm P H ∧ SqL K H a (List.map V.str good) ∧ (∀ r, phR P nm good = some r → Threw K r H E) ∧ (phR P nm good = none → Q .non H)
abbrev N_J_need_phase : List Str := ["self", "some"]
theorem sc_J_need_phase : FnScope N_J_need_phase ["self", "some"] (defScope sJ_need_phase) := ⟨rfl, rfl, rfl, by decide +kernel, rfl, by decide +kernel, by decide +kernel⟩
theorem ok_J_need_phase (T : Txt K mg) : MFn P w K mg base (L2.CX P w) 4 (cJ K) "need_phase" ["self", "some"] (spNeedPhase K) := by
  refine T.m_J_need_phase.ok sc_J_need_phase (fun vs H Q E h => ?_) (fun f cdv A outer s H vs Q E hr h => ?_)
  · obtain ⟨bd, y, ji, nm, P, a, good, rfl, _⟩ := h
    rfl
  · obtain ⟨bd, y, ji, nm, P, a, good, rfl, j, hs, k2, k1⟩ := h
    refine ⟨_, (pss_one (ps_if (pt_cmpR op_notIn_seq (pe_fld (pv 0) rfl) (pv 1) rfl)
      (pss_one (ps_raise rfl (takes_of rfl rfl rfl rfl) (pmk_NotNow T (k := 1) (hr.mono (by decide)) (by exact (pa_cons (pe_fld (pv 0) rfl) pa_nil)))))
      pss_nil)), ?_⟩
    refine ⟨_, rfl, _, _, _, _, _, rfl, j.ob, T.clJ, T.nJ_now, jf_ph, _, rfl, a, _, rfl, .inl hs, rfl, flat_strs' good, _, rfl, ?_⟩
    rw [inV_str]
    refine iteNd (fun e => ?_) (fun e => k1 (if_pos e))
    refine ⟨_, rfl, _, _, _, _, _, rfl, j.ob, T.clJ, T.nJ_named, jf_nm, _, rfl, fun d hd => ?_⟩
    exact (k2 _ (if_neg e)).raise rfl rfl (fun _ _ => rfl) d hd
end
end Sm
namespace Sm
open PySem PySem.Spec PyProof.Rows L2
/-! ### cuts -/
theorem cut_lo (l : List V) (k : Nat) : cutV l (some (k : Int)) none = l.drop k := by
  unfold cutV
  rw [HT.sIx_nat, HT.sIx_none]
  by_cases h : k ≤ l.length
  · rw [Nat.min_eq_left h]
    exact List.take_of_length_le (by rw [List.length_drop]; exact Nat.le_refl _)
  · have h' : l.length ≤ k := by omega
    rw [Nat.min_eq_right h', Nat.sub_self, List.take_zero, List.drop_of_length_le h']
theorem cut_hi (l : List V) (k : Nat) : cutV l none (some (k : Int)) = l.take k := by
  unfold cutV
  rw [HT.sIx_nat, HT.sIx_none, List.drop_zero, Nat.sub_zero]
  by_cases h : k ≤ l.length
  · rw [Nat.min_eq_left h]
  · have h' : l.length ≤ k := by omega
    rw [Nat.min_eq_right h', List.take_length, List.take_of_length_le h']
theorem cut_1 (l : List Str) : cutV (l.map V.str) (some 1) none = l.tail.map V.str := by
  have h := cut_lo (l.map V.str) 1
  rw [← List.map_drop, List.drop_one] at h
  exact h
/-! ### rows of steps as data -/
theorem stV_flat (s : Stp) : (stV s).all flatV = true := by
  obtain ⟨d, t⟩ := s
  cases t <;> rfl
theorem dp_steps {K : PySem.W.Frag} {H : Hp} {p : Addr} {items : List V} {l : List Stp} (hp : H p = some (.lst items)) (ht : Tups H items (l.map stV)) : Dp K H (.ref p) (.list ((l.map stV).map rowD)) :=
  .lst (SqL.of hp) (dps_rows ht fun r hr => by
    obtain ⟨s, _, rfl⟩ := List.mem_map.mp hr
    exact stV_flat s)
theorem eqv_nil' {l : List PyData} : PyData.eqv (.list l) (.list []) = decide (l = []) := by
  cases l with
  | nil => rfl
  | cons a r => rfl
/-- steps of short words -/
theorem sm_steps {l : List Stp} (hw : ∀ s ∈ l, WOk s.1 ∧ ∀ t, s.2 = some t → WOk t) (hl : l.length ≤ 24) : SmD 2 6000 (.list ((l.map stV).map rowD)) := by
  refine .list (n := 1) (b := 187) (fun d hd => ?_) (by rw [List.length_map, List.length_map]; omega)
  obtain ⟨r, hr, rfl⟩ := List.mem_map.mp hd
  obtain ⟨s, hs, rfl⟩ := List.mem_map.mp hr
  obtain ⟨d, t⟩ := s
  obtain ⟨h1, h2⟩ := hw _ hs
  refine .tuple (n := 0) (b := 90) (fun x hx => ?_) (by show 2 * 92 + 3 ≤ 187; decide)
  rcases List.mem_cons.mp hx with rfl | hx
  · exact .str d h1 (Nat.le_refl _)
  · rw [List.map_singleton, List.mem_singleton] at hx
    subst hx
    cases t with
    | none => exact .non (Nat.le_refl _)
    | some t => exact .str t (h2 t rfl) (Nat.le_refl _)
theorem st_sm {B : BS} {P : PS} {j : Str} (ok : BOk B) (po : POk B P) : SmD 2 6000 (.list (((B.steps j P).map stV).map rowD)) :=
  sm_steps (fun s hs => by
    obtain ⟨_, h2, h3⟩ := mem_steps ok po hs
    refine ⟨(ok.dv.all _ h2).w, fun t ht => ?_⟩
    rcases h3 with ⟨t', e, hp⟩ | ⟨e, _⟩
    · rw [ht] at e
      cases e
      exact hp.w
    · rw [ht] at e
      cases e) (len_steps ok po)
theorem hangs_some {pl : Str → Str} {on : Str → Bool} {s t : Str} : hangs pl on (s, some t) = (decide (pl s = t) && on s) := rfl
theorem map_nil {α β : Type} {f : α → β} {l : List α} : l.map f = [] ↔ l = [] := by
  cases l <;> simp
section
variable {P : Program} {w : World} {K : PySem.W.Frag} {mg : Str → Option Value} {base : Heap}
/-! ### need_alone -/
def spNeedAlone (K : PySem.W.Frag) : Sp := fun vs H Q E => ∃ ow x B y ji nm P, vs = [.ref ji] ∧ JAt K x.bd y ji nm P H ∧ P.ph ≠ "ended" ∧ BAt K ow x B H ∧ BOk B ∧ nm ∈ B.jobs ∧
  (∀ r, heldR B nm = some r → Threw K r H E) ∧ (heldR B nm = none → ∀ H', Same H H' → Q .non H')
abbrev N_J_need_alone : List Str := ["self", "others"]
theorem sc_J_need_alone : FnScope N_J_need_alone ["self"] (defScope sJ_need_alone) := ⟨rfl, rfl, rfl, by decide +kernel, rfl, by decide +kernel, by decide +kernel⟩
theorem ok_J_need_alone (T : Txt K mg) : MFn P w K mg base (L2.CX P w) 4 (cJ K) "need_alone" ["self"] (spNeedAlone K) := by
  refine T.m_J_need_alone.ok sc_J_need_alone (fun vs H Q E h => ?_) (fun f cdv A outer s H vs Q E hr h => ?_)
  · obtain ⟨ow, x, B, y, ji, nm, P, rfl, _⟩ := h
    rfl
  · obtain ⟨ow, x, B, y, ji, nm, P, rfl, j, hph, b, ok, hj, k2, k1⟩ := h
    refine ⟨_, (pss_cons (ps_set (i := 1) sc_J_need_alone.nd rfl (Or.inl rfl) (pe_slice sl_list (pe_mth0 (pv 0) T.clJ (ok_J_crew_now T) (hr.mono (by decide)) pass0) (po_some pe_int) po_none))
    (pss_one (ps_if (pt_cmpR (op_neD hr.units) (pv 1) (pe_lst pa_nil) (nomark _))
      (pss_one (ps_raise rfl (takes_of rfl rfl rfl rfl) (pmk_Held T (k := 1) (hr.mono (by decide)) (by exact (pa_cons (pe_callB cr_sortedS (by rfl) T.b_sorted (by decide +kernel) (pa_cons (pv 1) pa_nil)) pa_nil)))))
      pss_nil))), ?_⟩
    have hcw := (ok.cw nm hj).1
    refine ⟨_, rfl, _, _, _, rfl, j.ob, jf_no (by decide +kernel), x.bd, y, ji, nm, P, B.cw nm, rfl, j, .inr ⟨hph, ow, x, B, rfl, b, ok, hj, rfl⟩, fun H1 p s1 hp => ?_⟩
    refine ⟨_, rfl, p, _, rfl, SqL.of hp, fun q hq => ?_⟩
    rw [cut_1]
    refine ⟨_, rfl, (by show 0 ≤ sizeLine; exact Nat.zero_le _), fun r hr' => ?_⟩
    have s2 := (s1.trans (Same.new (o := .lst ((B.cw nm).tail.map V.str)) hq)).trans (Same.new (o := .lst []) hr')
    have hq2 : (upd (upd H1 q (.lst ((B.cw nm).tail.map V.str))) r (.lst [])) q = some (.lst ((B.cw nm).tail.map V.str)) := (Same.new hr') _ _ upd_same
    have htl : (B.cw nm).tail.length ≤ 6 := by have := hcw.len; rw [List.length_tail]; omega
    refine ⟨_, .list [], dpL (SqL.of hq2), .lst (xs := []) (SqL.of upd_same) .nil, (sm_strs (c := 6000) (fun a ha => (hcw.all a (List.mem_of_mem_tail ha)).w) (by omega)).shaped (by decide), rfl, _, rfl, ?_⟩
    rw [eqv_nil]
    refine iteNd (fun e => ?_) (fun e => k1 (by unfold heldR; rw [if_neg (fun z => z e)]) _ s2)
    refine ⟨_, rfl, q, _, rfl, SqL.of hq2, by omega, fun ys t ht hs hn => ?_⟩
    have ey := srt_eq ht hs
    subst ey
    have s3 := s2.trans (Same.new (o := .lst ((srt (B.cw nm).tail).map V.str)) hn)
    refine ⟨_, rfl, fun dd hdd => ?_⟩
    exact ((k2 _ (if_pos e)).mono s3).raise rfl rfl (fun d' hd' => ⟨t, rfl, (Same.new hd') _ _ upd_same⟩) dd hdd
/-! ### hangs_at -/
def spHangs (K : PySem.W.Frag) : Sp := fun vs H Q _ => ∃ ow x B y ji nm P s t, vs = [.ref ji, .str s, .str t] ∧ JAt K x.bd y ji nm P H ∧ BAt K ow x B H ∧ BOk B ∧ s ∈ B.devs ∧ ∀ H', Same H H' → Q (.bl (hangs B.pl (B.on nm) (s, some t))) H'
abbrev N_J_hangs_at : List Str := ["self", "device", "position"]
theorem sc_J_hangs_at : FnScope N_J_hangs_at ["self", "device", "position"] (defScope sJ_hangs_at) := ⟨rfl, rfl, rfl, by decide +kernel, rfl, by decide +kernel, by decide +kernel⟩
theorem ok_J_hangs_at (T : Txt K mg) : MFn P w K mg base CX0 3 (cJ K) "hangs_at" ["self", "device", "position"] (spHangs K) := by
  refine T.m_J_hangs_at.ok0 sc_J_hangs_at (fun vs H Q E h => ?_) (fun f cdv A outer s H vs Q E hr h => ?_)
  · obtain ⟨ow, x, B, y, ji, nm, P, s, t, rfl, _⟩ := h
    rfl
  · obtain ⟨ow, x, B, y, ji, nm, P, s, t, rfl, j, b, ok, hd, k⟩ := h
    refine ⟨_, (pss_one (ps_ret (pe_and (pe_cmpR op_eq (pe_mth (pe_fld (pv 0) rfl) T.clB (ok_B_stands T) (hr.mono (by decide)) pass0 (pa_cons (pv 1) pa_nil)) (pv 2) (nomark _)) (pe_one (pe_cmpR op_in_seq (pe_fld (pv 0) rfl) (pe_mth (pe_fld (pv 0) rfl) T.clB (ok_B_jobs_on T) (hr.mono (by decide)) pass0 (pa_cons (pv 1) pa_nil)) rfl))))), ?_⟩
    refine ⟨_, rfl, _, _, _, _, _, rfl, j.ob, T.clJ, T.nJ_at_board, jf_bd, _, _, _, rfl, b.ob, bf_no (by decide +kernel), _, rfl, ow, x, B, s, rfl, b, ok, hd, _, rfl, rfl, ?_⟩
    by_cases e : B.pl s = t
    · refine ⟨true, congrArg V.bl (decide_eq_true (congrArg V.str e)), iteT ?_⟩
      refine ⟨_, rfl, _, _, _, _, _, rfl, j.ob, T.clJ, T.nJ_named, jf_nm, _, rfl, _, _, _, _, _, rfl, j.ob, T.clJ, T.nJ_at_board, jf_bd, _, _, _, rfl, b.ob, bf_no (by decide +kernel), _, rfl, ow, x, B, s, rfl, b, ok, hd, fun H1 p s1 hp => ?_⟩
      refine ⟨p, _, rfl, .inl (SqL.of hp), rfl, flat_strs' _, ?_⟩
      rw [inV_str]
      have e2 : decide (nm ∈ srt (B.ms s)) = hangs B.pl (B.on nm) (s, some t) := by
        rw [hangs_some, decide_eq_true e, Bool.true_and]
        exact decide_eq_decide.mpr mem_srt
      rw [e2]
      exact k H1 s1
    · refine ⟨false, congrArg V.bl (decide_eq_false fun z => e (V.str.inj z)), iteF ?_⟩
      have e2 : false = hangs B.pl (B.on nm) (s, some t) := by
        rw [hangs_some, decide_eq_false e, Bool.false_and]
      have := k H (Same.refl _)
      rw [← e2] at this
      exact this
end
end Sm
namespace Sm
open PySem PySem.Spec PyProof.Rows L2
theorem Tups.app {H : Hp} : ∀ {a b : List V} {x y : List (List V)}, Tups H a x → Tups H b y → Tups H (a ++ b) (x ++ y)
  | _, _, _, _, .nil, h => h
  | _, _, _, _, .cons p r, h => .cons p (Tups.app r h)
/-! ### rules that name K (within a comprehension) -/
section
variable {X : Cx} {e : Expr} {f : Str} {pos : Pos} {ta : TE}
theorem pe_fldK (K : PySem.W.Frag) (he : PE X e ta) (hb : attributeBase e f X.env (eval e X.env) = eval e X.env) (hK : X.K = K := by rfl) : PE X (.Attribute e f pos) (tFld K ta f) := by
  subst hK
  exact pe_fld he hb
theorem op_in_seqK (K : PySem.W.Frag) (hK : X.K = K := by rfl) : OpR X (compareOp .In) (rIn K false) := by
  subst hK
  exact op_in_seq
theorem op_notIn_seqK (K : PySem.W.Frag) (hK : X.K = K := by rfl) : OpR X (compareOp .NotIn) (rIn K true) := by
  subst hK
  exact op_notIn_seq
end
theorem tyes {σ : L2.St} {H : Hp} {F G : Hp → Prop} (h : F H) : tYes σ H fun b H3 => if b = true then F H3 else G H3 := by
  show if true = true then F H else G H
  rw [if_pos rfl]
  exact h
section
variable {P : Program} {w : World} {K : PySem.W.Frag} {mg : Str → Option Value} {base : Heap}
def spStepsOf (K : PySem.W.Frag) (f : BS → Str → PS → List Stp) : Sp := fun vs H Q _ => ∃ ow x B y ji nm P, vs = [.ref ji] ∧ JAt K x.bd y ji nm P H ∧ BAt K ow x B H ∧ BOk B ∧ POk B P ∧
  ∀ H' p items, Same H H' → H' p = some (.lst items) → Tups H' items ((f B nm P).map stV) → Q (.ref p) H'
abbrev N_J_steps_still : List Str := ["self", "due", "name", "to"]
theorem sc_J_steps_still : FnScope N_J_steps_still ["self"] (defScope sJ_steps_still) := ⟨rfl, rfl, rfl, by decide +kernel, rfl, by decide +kernel, by decide +kernel⟩
theorem cu_len {B : BS} {P : PS} (ok : BOk B) (po : POk B P) : P.cu.length + P.em.length ≤ 24 := by
  have := po.len ok
  rw [List.length_append] at this
  exact this
theorem cu_sub {B : BS} {P : PS} (po : POk B P) {d : Str} (h : d ∈ P.cu) : d ∈ B.devs := po.sub d (List.mem_append.mpr (.inl h))
theorem em_sub {B : BS} {P : PS} (po : POk B P) {d : Str} (h : d ∈ P.em) : d ∈ B.devs := po.sub d (List.mem_append.mpr (.inr h))
theorem ok_J_steps_still (T : Txt K mg) : MFn P w K mg base CX0 4 (cJ K) "steps_still" ["self"] (spStepsOf K fun B nm P => stStill B.pl (B.on nm) P.cu P.em) := by
  refine T.m_J_steps_still.ok0 sc_J_steps_still (fun vs H Q E h => ?_) (fun f cdv A outer s H vs Q E hr h => ?_)
  · obtain ⟨ow, x, B, y, ji, nm, P, rfl, _⟩ := h
    rfl
  · obtain ⟨ow, x, B, y, ji, nm, P, rfl, j, b, ok, po, k⟩ := h
    refine ⟨_, (pss_cons (ps_set (i := 1) sc_J_steps_still.nd rfl (Or.inl rfl) (pe_op op_cat (pe_lc (own := [("name", 2)]) (by rfl) sc_J_steps_still.nd (pi_list (pe_fld (pv 0) rfl)) (blkOk_by (own := [("name", 2)]) (N := N_J_steps_still) (sc := defScope sJ_steps_still) (by decide +kernel)) (fun _ _ _ _ _ => (pg_name (i := 2) sc_J_steps_still.nd rfl (Or.inl rfl))) (fun _ _ _ _ _ => pts_nil) (fun _ _ _ _ _ => (pe_tup (pa_cons (pv 2) (pa_cons pe_str pa_nil))))) (pe_lc (own := [("name", 2)]) (by rfl) sc_J_steps_still.nd (pi_list (pe_fldK K (pv 0) rfl)) (blkOk_by (own := [("name", 2)]) (N := N_J_steps_still) (sc := defScope sJ_steps_still) (by decide +kernel)) (fun _ _ _ _ _ => (pg_name (i := 2) sc_J_steps_still.nd rfl (Or.inl rfl))) (fun _ _ _ _ _ => pts_nil) (fun _ _ _ _ _ => (pe_tup (pa_cons (pv 2) (pa_cons pe_str pa_nil)))))))
    (pss_one (ps_ret (pe_lc (own := [("name", 2), ("to", 3)]) (g := gTup K 2 (gCons (gName 2) (gCons (gName 3) gNil))) (by rfl) sc_J_steps_still.nd (pi_list (pv 1)) (blkOk_by (own := [("name", 2), ("to", 3)]) (N := N_J_steps_still) (sc := defScope sJ_steps_still) (by decide +kernel)) (fun _ _ _ _ _ => (pg_tup (by rfl) (pgs_cons (pg_name (i := 2) sc_J_steps_still.nd rfl (Or.inl rfl)) (pgs_cons (pg_name (i := 3) sc_J_steps_still.nd rfl (Or.inl rfl)) pgs_nil)))) (fun _ _ _ _ _ => (pts_one (pt_not (pt_val (pe_mth (pv 0) T.clJ (ok_J_hangs_at T) (hr.mono (by decide)) pass0 (pa_cons (pv 2) (pa_cons (pv 3) pa_nil))))))) (fun _ _ _ _ _ => (pe_tup (pa_cons (pv 2) (pa_cons (pv 3) pa_nil)))))))), ?_⟩
    have hl := cu_len ok po
    refine ⟨_, rfl, _, _, _, _, _, rfl, j.ob, T.clJ, T.nJ_cutting, jf_lc, _, rfl, ⟨_, SqL.of j.lc⟩, fun L hL => ?_⟩
    refine lc_gen walk_list P.cu (fun _ => true) (fun d => (d, some ("shut" : Str))) (Fv V.str) (Tv stV) (List.length_map _).symm (by rw [List.length_map]; omega) hL (fun H' s => s.seq (SqL.of j.lc)) yS Tv.mono ?_ ?_
    · rintro i d v H1 hi s1 rfl nx sk hk _
      refine ⟨rfl, ?_⟩
      refine tyes ?_
      exact ⟨_, rfl, by show 2 ≤ sizeLine; decide, fun t ht => hk rfl _ _ (Same.new ht) ⟨t, rfl, upd_same⟩⟩
    · intro H1 it1 s1 hD1 ht1
      rw [filter_all] at ht1
      have ht1 := Tv.tups ht1
      have j1 := j.same s1
      refine ⟨_, rfl, _, _, _, _, _, rfl, j1.ob, T.clJ, T.nJ_emptying, jf_le, _, rfl, ⟨_, SqL.of j1.le⟩, fun L2 hL2 => ?_⟩
      refine lc_gen walk_list P.em (fun _ => true) (fun d => (d, some ("open" : Str))) (Fv V.str) (Tv stV) (List.length_map _).symm (by rw [List.length_map]; omega) hL2 (fun H' s => s.seq (SqL.of j1.le)) yS Tv.mono ?_ ?_
      · rintro i d v H1 hi s1 rfl nx sk hk _
        refine ⟨rfl, ?_⟩
        refine tyes ?_
        exact ⟨_, rfl, by show 2 ≤ sizeLine; decide, fun t ht => hk rfl _ _ (Same.new ht) ⟨t, rfl, upd_same⟩⟩
      · intro H2 it2 s2 hD2 ht2
        rw [filter_all] at ht2
        have ht2 := Tv.tups ht2
        have hD1' := s2 _ _ hD1
        have l1 := tups_len ht1
        have l2 := tups_len ht2
        rw [List.length_map] at l1 l2
        refine ⟨L, L2, it1, it2, rfl, rfl, hD1', hD2, sz_of (by omega), fun p hp => ?_⟩
        have s3 := (s1.trans s2).trans (Same.new (o := .lst (it1 ++ it2)) hp)
        have htt : Tups (upd H2 p (.lst (it1 ++ it2))) (it1 ++ it2) ((dueStill P.cu P.em).map stV) := by
          have := (Tups.app (ht1.keep (KpT.same s2)) ht2).keep (KpT.same (Same.new (o := .lst (it1 ++ it2)) hp))
          unfold dueStill
          rw [List.map_append]
          exact this
        refine ⟨_, rfl, p, rfl, ⟨_, SqL.of upd_same⟩, fun L3 hL3 => ?_⟩
        have hp3 : (upd H2 p (.lst (it1 ++ it2))) p = some (.lst (it1 ++ it2)) := upd_same
        have hti := tups_len htt
        refine lc_gen walk_list (dueStill P.cu P.em) (fun s => !hangs B.pl (B.on nm) s) id (Tv stV) (Tv stV) hti.symm (by rw [hti, len_dueStill, List.length_append]; omega) hL3 (fun H' s => s.seq (SqL.of hp3)) (yT htt) Tv.mono ?_ ?_
        · rintro i ⟨d, t⟩ v H4 hi s4 ⟨a, rfl, ha⟩ nx sk hk hsk
          obtain ⟨h1, t', et, _⟩ := mem_dueStill (mem_at hi)
          cases et
          refine ⟨a, _, rfl, SqT.of ha, rfl, _, _, rfl, _, _, rfl, rfl, rfl, ?_⟩
          have j4 := j.same (s3.trans s4)
          refine ⟨_, rfl, _, _, _, rfl, j4.ob, jf_no (by decide +kernel), _, rfl, _, rfl, ow, x, B, y, ji, nm, P, d, t', rfl, j4, b.same (s3.trans s4), ok, po.sub d h1, fun H5 s5 => ⟨_, rfl, ?_⟩⟩
          cases hh : hangs B.pl (B.on nm) (d, some t') with
          | true => exact iteF (hsk (by rw [hh]; rfl) H5 s5)
          | false =>
            refine iteT ⟨_, rfl, _, rfl, by show 2 ≤ sizeLine; decide, fun t ht => hk (by rw [hh]; rfl) _ _ (s5.trans (Same.new ht)) ⟨t, rfl, upd_same⟩⟩
        · intro H5 it5 s5 hD5 ht5
          rw [List.map_id] at ht5
          exact k H5 L3 it5 (s3.trans s5) hD5 (Tv.tups ht5)
abbrev N_J_steps_away : List Str := ["self", "due", "name"]
theorem sc_J_steps_trial : FnScope N_J_steps_still ["self"] (defScope sJ_steps_trial) := ⟨rfl, rfl, rfl, by decide +kernel, rfl, by decide +kernel, by decide +kernel⟩
theorem ok_J_steps_trial (T : Txt K mg) : MFn P w K mg base CX0 4 (cJ K) "steps_trial" ["self"] (spStepsOf K fun B nm P => stTrial B.pl B.hm P.cu P.em) := by
  refine T.m_J_steps_trial.ok0 sc_J_steps_trial (fun vs H Q E h => ?_) (fun f cdv A outer s H vs Q E hr h => ?_)
  · obtain ⟨ow, x, B, y, ji, nm, P, rfl, _⟩ := h
    rfl
  · obtain ⟨ow, x, B, y, ji, nm, P, rfl, j, b, ok, po, k⟩ := h
    refine ⟨_, (pss_cons (ps_setLc (i := 1) (own := [("name", 2)]) (by rfl) sc_J_steps_trial.nd rfl rfl (sw_true rfl rfl rfl (by decide +kernel)) (pi_list (pe_revL (pe_fld (pv 0) rfl))) (blkOk_by (own := [("name", 2)]) (N := N_J_steps_still) (sc := defScope sJ_steps_trial) (by decide +kernel)) (fun _ _ _ _ _ => (pg_name (i := 2) sc_J_steps_trial.nd rfl (Or.inl rfl))) (fun _ _ _ _ _ => pts_nil) (fun _ _ _ _ _ => (pe_tup (pa_cons (pv 2) (pa_cons pe_str pa_nil)))))
    (pss_cons (ps_set (i := 1) sc_J_steps_trial.nd rfl (Or.inl rfl) (pe_op op_cat (pv 1) (pe_lc (own := [("name", 2)]) (by rfl) sc_J_steps_trial.nd (pi_list (pe_revL (pe_fld (pv 0) rfl))) (blkOk_by (own := [("name", 2)]) (N := N_J_steps_still) (sc := defScope sJ_steps_trial) (by decide +kernel)) (fun _ _ _ _ _ => (pg_name (i := 2) sc_J_steps_trial.nd rfl (Or.inl rfl))) (fun _ _ _ _ _ => pts_nil) (fun _ _ _ _ _ => (by exact (pe_tup (pa_cons (pv 2) (by exact (pa_cons (by exact (pe_mth (pe_fldK K (pv 0) rfl) T.clB (ok_B_home T) (hr.mono (by decide)) pass0 (pa_cons (pv 2) pa_nil))) pa_nil)))))))))
    (pss_one (ps_ret (pe_lc (own := [("name", 2), ("to", 3)]) (g := gTup K 2 (gCons (gName 2) (gCons (gName 3) gNil))) (by rfl) sc_J_steps_trial.nd (pi_list (pv 1)) (blkOk_by (own := [("name", 2), ("to", 3)]) (N := N_J_steps_still) (sc := defScope sJ_steps_trial) (by decide +kernel)) (fun _ _ _ _ _ => (pg_tup (by rfl) (pgs_cons (pg_name (i := 2) sc_J_steps_trial.nd rfl (Or.inl rfl)) (pgs_cons (pg_name (i := 3) sc_J_steps_trial.nd rfl (Or.inl rfl)) pgs_nil)))) (fun _ _ _ _ _ => (pts_one (pt_cmpR op_ne (pe_mth (pe_fldK K (pv 0) rfl) T.clB (ok_B_stands T) (hr.mono (by decide)) pass0 (pa_cons (pv 2) pa_nil)) (pv 3) (nomark _)))) (fun _ _ _ _ _ => (pe_tup (pa_cons (pv 2) (pa_cons (pv 3) pa_nil))))))))), ?_⟩
    have hl := cu_len ok po
    refine ⟨_, rfl, _, _, _, _, _, rfl, j.ob, T.clJ, T.nJ_emptying, jf_le, y.le, _, rfl, SqL.of j.le, fun r0 hr0 => ?_⟩
    rw [← List.map_reverse]
    have s0 : Same H (upd H r0 (.lst (P.em.reverse.map V.str))) := Same.new hr0
    have h0 : (upd H r0 (.lst (P.em.reverse.map V.str))) r0 = some (.lst (P.em.reverse.map V.str)) := upd_same
    refine ⟨r0, rfl, ⟨_, SqL.of upd_same⟩, fun L hL => ?_⟩
    refine lc_gen walk_list P.em.reverse (fun _ => true) (fun d => (d, some ("shut" : Str))) (Fv V.str) (Tv stV) (List.length_map _).symm (by rw [List.length_map, List.length_reverse]; omega) hL (fun H' s => s.seq (SqL.of h0)) yS Tv.mono ?_ ?_
    · rintro i d v H1 hi s1 rfl nx sk hk _
      refine ⟨rfl, ?_⟩
      refine tyes ?_
      exact ⟨_, rfl, by show 2 ≤ sizeLine; decide, fun t ht => hk rfl _ _ (Same.new ht) ⟨t, rfl, upd_same⟩⟩
    · intro H1 it1 s1 hD1 ht1
      rw [filter_all] at ht1
      have ht1 := Tv.tups ht1
      have s1' := s0.trans s1
      have j1 := j.same s1'
      refine ⟨_, rfl, _, rfl, _, _, _, _, _, rfl, j1.ob, T.clJ, T.nJ_cutting, jf_lc, y.lc, _, rfl, SqL.of j1.lc, fun r1 hr1 => ?_⟩
      rw [← List.map_reverse]
      have s2 : Same H1 (upd H1 r1 (.lst (P.cu.reverse.map V.str))) := Same.new hr1
      have h1 : (upd H1 r1 (.lst (P.cu.reverse.map V.str))) r1 = some (.lst (P.cu.reverse.map V.str)) := upd_same
      refine ⟨r1, rfl, ⟨_, SqL.of upd_same⟩, fun L2 hL2 => ?_⟩
      refine lc_gen walk_list P.cu.reverse (fun _ => true) (fun d => (d, some (B.hm d))) (Fv V.str) (Tv stV) (List.length_map _).symm (by rw [List.length_map, List.length_reverse]; omega) hL2 (fun H' s => s.seq (SqL.of h1)) yS Tv.mono ?_ ?_
      · rintro i d v H3 hi s3 rfl nx sk hk _
        have hd : d ∈ B.devs := cu_sub po (List.mem_reverse.mp (mem_at hi))
        have s3' := (s1'.trans s2).trans s3
        have j3 := j.same s3'
        have b3 := b.same s3'
        refine ⟨rfl, ?_⟩
        refine tyes ?_
        exact ⟨_, rfl, _, rfl, _, _, _, _, _, rfl, j3.ob, T.clJ, T.nJ_at_board, jf_bd, _, _, _, rfl, b3.ob, bf_no (by decide +kernel), _, rfl, ow, x, B, d, rfl, b3, ok, hd, by show 2 ≤ sizeLine; decide, fun t ht => hk rfl _ _ (Same.new ht) ⟨t, rfl, upd_same⟩⟩
      · intro H3 it2 s3 hD2 ht2
        rw [filter_all] at ht2
        have ht2 := Tv.tups ht2
        have s3' := s2.trans s3
        have hD1' := s3' _ _ hD1
        have l1 := tups_len ht1
        have l2 := tups_len ht2
        rw [List.length_map, List.length_reverse] at l1 l2
        refine ⟨L, L2, it1, it2, rfl, rfl, hD1', hD2, sz_of (by omega), fun p hp => ?_⟩
        have s4 := (s1'.trans s3').trans (Same.new (o := .lst (it1 ++ it2)) hp)
        have htt : Tups (upd H3 p (.lst (it1 ++ it2))) (it1 ++ it2) ((dueTrial B.hm P.cu P.em).map stV) := by
          have := (Tups.app (ht1.keep (KpT.same s3')) ht2).keep (KpT.same (Same.new (o := .lst (it1 ++ it2)) hp))
          unfold dueTrial
          rw [List.map_append]
          exact this
        refine ⟨_, rfl, p, rfl, ⟨_, SqL.of upd_same⟩, fun L3 hL3 => ?_⟩
        have hp3 : (upd H3 p (.lst (it1 ++ it2))) p = some (.lst (it1 ++ it2)) := upd_same
        have hti := tups_len htt
        refine lc_gen walk_list (dueTrial B.hm P.cu P.em) (fun s => decide (some (B.pl s.1) ≠ s.2)) id (Tv stV) (Tv stV) hti.symm (by rw [hti, len_dueTrial, List.length_append]; omega) hL3 (fun H' s => s.seq (SqL.of hp3)) (yT htt) Tv.mono ?_ ?_
        · rintro i ⟨d, t⟩ v H4 hi s5 ⟨a, rfl, ha⟩ nx sk hk hsk
          obtain ⟨h1, t', et, _⟩ := mem_dueTrial (fun d hd => ok.hm d (cu_sub po hd)) (mem_at hi)
          cases et
          refine ⟨a, _, rfl, SqT.of ha, rfl, _, _, rfl, _, _, rfl, rfl, rfl, ?_⟩
          have j4 := j.same (s4.trans s5)
          have b4 := b.same (s4.trans s5)
          refine ⟨_, rfl, _, _, _, _, _, rfl, j4.ob, T.clJ, T.nJ_at_board, jf_bd, _, _, _, rfl, b4.ob, bf_no (by decide +kernel), _, rfl, ow, x, B, d, rfl, b4, ok, po.sub d h1, _, rfl, rfl, _, rfl, ?_⟩
          refine iteNd (fun e => ?_) (fun e => hsk (decide_eq_false fun z => z (congrArg some (V.str.inj e))) H4 (Same.refl _))
          exact ⟨_, rfl, _, rfl, by show 2 ≤ sizeLine; decide, fun t ht => hk (decide_eq_true fun z => e (congrArg V.str (Option.some.inj z))) _ _ (Same.new ht) ⟨t, rfl, upd_same⟩⟩
        · intro H5 it5 s5 hD5 ht5
          rw [List.map_id] at ht5
          exact k H5 L3 it5 (s4.trans s5) hD5 (Tv.tups ht5)
theorem sc_J_steps_away : FnScope N_J_steps_away ["self"] (defScope sJ_steps_away) := ⟨rfl, rfl, rfl, by decide +kernel, rfl, by decide +kernel, by decide +kernel⟩
theorem ok_J_steps_away (T : Txt K mg) : MFn P w K mg base CX0 4 (cJ K) "steps_away" ["self"] (spStepsOf K fun B nm P => stAway (B.on nm) P.cu P.em) := by
  refine T.m_J_steps_away.ok0 sc_J_steps_away (fun vs H Q E h => ?_) (fun f cdv A outer s H vs Q E hr h => ?_)
  · obtain ⟨ow, x, B, y, ji, nm, P, rfl, _⟩ := h
    rfl
  · obtain ⟨ow, x, B, y, ji, nm, P, rfl, j, b, ok, po, k⟩ := h
    refine ⟨_, (pss_cons (ps_set (i := 1) sc_J_steps_away.nd rfl (Or.inl rfl) (pe_op op_cat (pe_revL (pe_fld (pv 0) rfl)) (pe_revL (pe_fld (pv 0) rfl))))
    (pss_one (ps_ret (pe_lc (own := [("name", 2)]) (by rfl) sc_J_steps_away.nd (pi_list (pv 1)) (blkOk_by (own := [("name", 2)]) (N := N_J_steps_away) (sc := defScope sJ_steps_away) (by decide +kernel)) (fun _ _ _ _ _ => (pg_name (i := 2) sc_J_steps_away.nd rfl (Or.inl rfl))) (fun _ _ _ _ _ => (pts_one (pt_cmpR (op_in_seqK K) (pe_fldK K (pv 0) rfl) (pe_mth (pe_fldK K (pv 0) rfl) T.clB (ok_B_jobs_on T) (hr.mono (by decide)) pass0 (pa_cons (pv 2) pa_nil)) rfl))) (fun _ _ _ _ _ => (pe_tup (pa_cons (pv 2) (pa_cons pe_non pa_nil)))))))), ?_⟩
    have hl := cu_len ok po
    refine ⟨_, rfl, _, _, _, _, _, rfl, j.ob, T.clJ, T.nJ_emptying, jf_le, y.le, _, rfl, SqL.of j.le, fun r0 hr0 => ?_⟩
    rw [← List.map_reverse]
    have s0 : Same H (upd H r0 (.lst (P.em.reverse.map V.str))) := Same.new hr0
    have j0 := j.same s0
    refine ⟨_, rfl, _, _, _, _, _, rfl, j0.ob, T.clJ, T.nJ_cutting, jf_lc, y.lc, _, rfl, SqL.of j0.lc, fun r1 hr1 => ?_⟩
    rw [← List.map_reverse]
    have s1 := s0.trans (Same.new (o := .lst (P.cu.reverse.map V.str)) hr1)
    refine ⟨r0, r1, _, _, rfl, rfl, (Same.new hr1) _ _ upd_same, upd_same, sz_of (by rw [List.length_map, List.length_map, List.length_reverse, List.length_reverse]; omega), fun p hp => ?_⟩
    rw [← List.map_append]
    have s2 := s1.trans (Same.new (o := .lst ((P.em.reverse ++ P.cu.reverse).map V.str)) hp)
    refine ⟨_, rfl, p, rfl, ⟨_, SqL.of upd_same⟩, fun L hL => ?_⟩
    refine lc_gen (H0 := upd (upd (upd H r0 (.lst (P.em.reverse.map V.str))) r1 (.lst (P.cu.reverse.map V.str))) p (.lst ((P.em.reverse ++ P.cu.reverse).map V.str))) walk_list (P.em.reverse ++ P.cu.reverse) (B.on nm) (fun d => ((d, none) : Stp)) (Fv V.str) (Tv stV) (List.length_map _).symm (by rw [List.length_map, List.length_append, List.length_reverse, List.length_reverse]; omega) hL (fun H' s => s.seq (SqL.of upd_same)) yS Tv.mono ?_ ?_
    · rintro i d v H3 hi s3 rfl nx sk hk hsk
      have hd : d ∈ B.devs := by
        have := mem_at hi
        rw [List.mem_append, List.mem_reverse, List.mem_reverse] at this
        exact this.elim (em_sub po) (cu_sub po)
      have s3' := s2.trans s3
      have j3 := j.same s3'
      have b3 := b.same s3'
      refine ⟨rfl, ?_⟩
      refine ⟨_, rfl, _, _, _, _, _, rfl, j3.ob, T.clJ, T.nJ_named, jf_nm, _, rfl, _, _, _, _, _, rfl, j3.ob, T.clJ, T.nJ_at_board, jf_bd, _, _, _, rfl, b3.ob, bf_no (by decide +kernel), _, rfl, ow, x, B, d, rfl, b3, ok, hd, fun H4 q s4 hq => ?_⟩
      refine ⟨q, _, rfl, .inl (SqL.of hq), rfl, flat_strs' _, _, rfl, ?_⟩
      rw [inV_str]
      refine iteD (fun e => ?_) (fun e => hsk (decide_eq_false fun z => e (mem_srt.mpr z)) H4 s4)
      exact ⟨_, rfl, by show 2 ≤ sizeLine; decide, fun t ht => hk (decide_eq_true (mem_srt.mp e)) _ _ (s4.trans (Same.new ht)) ⟨t, rfl, upd_same⟩⟩
    · intro H3 it s3 hD ht
      exact k H3 L it (s2.trans s3) hD (Tv.tups ht)
/-! ### steps -/
def spSteps (K : PySem.W.Frag) : Sp := fun vs H Q _ => ∃ (bd : Addr) (y : JA) (ji : Addr) (nm : Str) (P : PS) (L : List Stp), vs = [.ref ji] ∧ JAt K bd y ji nm P H ∧
  ((P.ph = "ended" ∧ L = []) ∨ (∃ ow x B, x.bd = bd ∧ BAt K ow x B H ∧ BOk B ∧ POk B P ∧ L = B.steps nm P)) ∧ ∀ H' p items, Same H H' → H' p = some (.lst items) → Tups H' items (L.map stV) → Q (.ref p) H'
theorem sc_J_steps : FnScope N_J_called ["self"] (defScope sJ_steps) := ⟨rfl, rfl, rfl, by decide +kernel, rfl, by decide +kernel, by decide +kernel⟩
theorem ok_J_steps (T : Txt K mg) : MFn P w K mg base CX0 5 (cJ K) "steps" ["self"] (spSteps K) := by
  refine T.m_J_steps.ok0 sc_J_steps (fun vs H Q E h => ?_) (fun f cdv A outer s H vs Q E hr h => ?_)
  · obtain ⟨bd, y, ji, nm, P, L, rfl, _⟩ := h
    rfl
  · obtain ⟨bd, y, ji, nm, P, L, rfl, j, c, k⟩ := h
    refine ⟨_, (pss_cons (ps_if (pt_cmpR op_eq (pe_fld (pv 0) rfl) pe_str (nomark _))
      (pss_one (ps_ret (pe_mth0 (pv 0) T.clJ (ok_J_steps_still T) (hr.mono (by decide)) pass0)))
      pss_nil)
    (pss_cons (ps_if (pt_cmpR op_eq (pe_fld (pv 0) rfl) pe_str (nomark _))
      (pss_one (ps_ret (pe_mth0 (pv 0) T.clJ (ok_J_steps_trial T) (hr.mono (by decide)) pass0)))
      pss_nil)
    (pss_cons (ps_if (pt_cmpR op_eq (pe_fld (pv 0) rfl) pe_str (nomark _))
      (pss_one (ps_ret (pe_mth0 (pv 0) T.clJ (ok_J_steps_away T) (hr.mono (by decide)) pass0)))
      pss_nil)
    (pss_one (ps_ret (pe_lst pa_nil)))))), ?_⟩
    have nil : L = [] → tRet (tLst tNil) { nx := fun _ H' => Q .non H', rt := Q } [some (.ref ji)] H := fun e =>
      ⟨by show 0 ≤ sizeLine; exact Nat.zero_le _, fun q hq => k _ q [] (Same.new hq) upd_same (by rw [e]; exact .nil)⟩
    refine ⟨_, rfl, _, _, _, _, _, rfl, j.ob, T.clJ, T.nJ_now, jf_ph, rfl, _, rfl, ?_⟩
    refine iteD (fun e => ?_) (fun e1 => ?_)
    · have e := V.str.inj e
      rcases c with ⟨e', _⟩ | ⟨ow, x, B, rfl, b, ok, po, rfl⟩
      · rw [e'] at e; cases e
      · refine ⟨_, rfl, _, _, _, rfl, j.ob, jf_no (by decide +kernel), ow, x, B, y, ji, nm, P, rfl, j, b, ok, po, fun H' p items s h1 h2 => k H' p items s h1 ?_⟩
        unfold BS.steps Sm.steps
        rw [if_pos e]
        exact h2
    refine ⟨_, rfl, _, _, _, _, _, rfl, j.ob, T.clJ, T.nJ_now, jf_ph, rfl, _, rfl, ?_⟩
    refine iteD (fun e => ?_) (fun e2 => ?_)
    · have e := V.str.inj e
      rcases c with ⟨e', _⟩ | ⟨ow, x, B, rfl, b, ok, po, rfl⟩
      · rw [e'] at e; cases e
      · refine ⟨_, rfl, _, _, _, rfl, j.ob, jf_no (by decide +kernel), ow, x, B, y, ji, nm, P, rfl, j, b, ok, po, fun H' p items s h1 h2 => k H' p items s h1 ?_⟩
        unfold BS.steps Sm.steps
        rw [if_neg fun z => e1 (congrArg V.str z), if_pos e]
        exact h2
    refine ⟨_, rfl, _, _, _, _, _, rfl, j.ob, T.clJ, T.nJ_now, jf_ph, rfl, _, rfl, ?_⟩
    refine iteD (fun e => ?_) (fun e3 => nil ?_)
    · have e := V.str.inj e
      rcases c with ⟨e', _⟩ | ⟨ow, x, B, rfl, b, ok, po, rfl⟩
      · rw [e'] at e; cases e
      · refine ⟨_, rfl, _, _, _, rfl, j.ob, jf_no (by decide +kernel), ow, x, B, y, ji, nm, P, rfl, j, b, ok, po, fun H' p items s h1 h2 => k H' p items s h1 ?_⟩
        unfold BS.steps Sm.steps
        rw [if_neg fun z => e1 (congrArg V.str z), if_neg fun z => e2 (congrArg V.str z), if_pos e]
        exact h2
    · rcases c with ⟨_, e'⟩ | ⟨ow, x, B, rfl, b, ok, po, rfl⟩
      · exact e'
      · unfold BS.steps Sm.steps
        rw [if_neg fun z => e1 (congrArg V.str z), if_neg fun z => e2 (congrArg V.str z), if_neg fun z => e3 (congrArg V.str z)]
end
end Sm
namespace Sm
open PySem PySem.Spec PyProof.Rows L2
theorem ty_lst {K : PySem.W.Frag} {H : Hp} {a : Addr} {xs : List V} (h : H a = some (.lst xs)) : TyX K H (.ref a) (.type "list") := .base (.lst h)
/-- where the board and the job stand now, and what stood -/
structure JSt (K : PySem.W.Frag) (ow : Addr → Ro) (x : BA) (B : BS) (y : JA) (ji : Addr) (nm : Str) (P : PS) (H0 H : Hp) : Prop where
  kp : KpX ow Ro.isB ji H0 H
  b : BAt K ow x B H
  j : JAt K x.bd y ji nm P H
theorem JAt.ne_bd {K : PySem.W.Frag} {bd ji C dx : Addr} {y : JA} {nm : Str} {P : PS} {H : Hp} {st ho fa mk ro : Addr} (j : JAt K bd y ji nm P H) {a : Addr} (hb : H a = some (.ins C dx (bfs st ho fa mk ro))) : ji ≠ a := by
  rintro rfl
  have e := j.ob
  rw [hb] at e
  have e1 := HO.ins.inj (Option.some.inj e)
  have e2 := e1.2.2
  have e3 := congrArg (fun l => l.lookup ("stand_of" : Str)) e2
  rw [bf_st] at e3
  exact absurd e3 (by rw [jf_no (by decide +kernel)]; intro z; cases z)
section
variable {K : PySem.W.Frag} {ow : Addr → Ro} {x : BA} {B : BS} {y : JA} {ji : Addr} {nm : Str} {P : PS} {H0 H H1 : Hp}
theorem JSt.init (b : BAt K ow x B H) (j : JAt K x.bd y ji nm P H) : JSt K ow x B y ji nm P H H := ⟨KpX.refl, b, j⟩
theorem JSt.same (s : JSt K ow x B y ji nm P H0 H) (h : Same H H1) : JSt K ow x B y ji nm P H0 H1 := ⟨s.kp.trans (KpX.same h), s.b.same h, s.j.same h⟩
theorem JSt.put (s : JSt K ow x B y ji nm P H0 H) {y' : JA} {P' : PS} {u : HO} (hu : u = .ins (cJ K) y'.jd (jfs x.bd nm y'.la P'.ph P'.en y'.lc y'.le)) (ha : H y'.la = some (.lst (P'.ab.map V.str))) (hc : H y'.lc = some (.lst (P'.cu.map V.str))) (he : H y'.le = some (.lst (P'.em.map V.str))) :
    JSt K ow x B y' ji nm P' H0 (upd H ji u) := ⟨s.kp.ins, s.b.ins s.j.ob (s.j.ne_bd s.b.ob), s.j.put hu ha hc he⟩
theorem JSt.board (s : JSt K ow x B y ji nm P H0 H) {x' : BA} {B' : BS} (hx : x'.bd = x.bd) (k : Kp ow Ro.isB H H1) (b : BAt K ow x' B' H1) : JSt K ow x' B' y ji nm P H0 H1 :=
  ⟨s.kp.trans (KpX.of k), b, by rw [hx]; exact s.j.keep k⟩
theorem JSt.trans {y' : JA} {P' : PS} {x' : BA} {B' : BS} (s : JSt K ow x B y ji nm P H0 H) (t : JSt K ow x' B' y' ji nm P' H H1) : JSt K ow x' B' y' ji nm P' H0 H1 := ⟨s.kp.trans t.kp, t.b, t.j⟩
variable {mg : Str → Option Value} {σ : L2.St} {D : Ends}
theorem setPh (T : Txt K mg) (s : JSt K ow x B y ji nm P H0 H) {p : Str} (h0 : σ[0]? = some (some (.ref ji))) (k : ∀ H', JSt K ow x B y ji nm { P with ph := p } H0 H' → D.nx σ H') : sFld K (tVar 0) (tC (.str p)) "now" D σ H :=
  ⟨_, h0, ji, _, y.jd, _, rfl, s.j.ob, T.clJ, T.nJ_now, by show 7 < 1000; decide, k _ (s.put (y' := y) (P' := { P with ph := p }) (by rw [jp_ph]) s.j.la s.j.lc s.j.le)⟩
theorem setEn (T : Txt K mg) (s : JSt K ow x B y ji nm P H0 H) {p : Bool} (h0 : σ[0]? = some (some (.ref ji))) (k : ∀ H', JSt K ow x B y ji nm { P with en := p } H0 H' → D.nx σ H') : sFld K (tVar 0) (tC (.bl p)) "ending" D σ H :=
  ⟨_, h0, ji, _, y.jd, _, rfl, s.j.ob, T.clJ, T.nJ_ending, by show 7 < 1000; decide, k _ (s.put (y' := y) (P' := { P with en := p }) (by rw [jp_en]) s.j.la s.j.lc s.j.le)⟩
theorem setCu0 (T : Txt K mg) (s : JSt K ow x B y ji nm P H0 H) (h0 : σ[0]? = some (some (.ref ji))) (k : ∀ y' H', JSt K ow x B y' ji nm { P with cu := [] } H0 H' → D.nx σ H') : sFld K (tVar 0) (tLst tNil) "cutting" D σ H :=
  ⟨by show 0 ≤ sizeLine; exact Nat.zero_le _, fun l hl => by
    have s1 := s.same (Same.new (o := .lst []) hl)
    exact ⟨_, h0, ji, _, y.jd, _, rfl, s1.j.ob, T.clJ, T.nJ_cutting, by show 7 < 1000; decide, k { y with lc := l } _ (s1.put (y' := { y with lc := l }) (P' := { P with cu := [] }) (by rw [jp_lc]) s1.j.la upd_same s1.j.le)⟩⟩
theorem setEm0 (T : Txt K mg) (s : JSt K ow x B y ji nm P H0 H) (h0 : σ[0]? = some (some (.ref ji))) (k : ∀ y' H', JSt K ow x B y' ji nm { P with em := [] } H0 H' → D.nx σ H') : sFld K (tVar 0) (tLst tNil) "emptying" D σ H :=
  ⟨by show 0 ≤ sizeLine; exact Nat.zero_le _, fun l hl => by
    have s1 := s.same (Same.new (o := .lst []) hl)
    exact ⟨_, h0, ji, _, y.jd, _, rfl, s1.j.ob, T.clJ, T.nJ_emptying, by show 7 < 1000; decide, k { y with le := l } _ (s1.put (y' := { y with le := l }) (P' := { P with em := [] }) (by rw [jp_le]) s1.j.la s1.j.lc upd_same)⟩⟩
abbrev tListOf (K : PySem.W.Frag) (i : Nat) : TE := tCB (fun xs H Q => ∃ p ys, xs = [V.ref p] ∧ (SqL K H p ys ∨ SqT K H p ys) ∧ ∀ l, H l = none → Q (.ref l) (upd H l (.lst ys))) (tCons (tVar i) tNil)
theorem setCuL (T : Txt K mg) (s : JSt K ow x B y ji nm P H0 H) {i : Nat} {a : Addr} {l : List Str} (h0 : σ[0]? = some (some (.ref ji))) (hi : σ[i]? = some (some (.ref a))) (ha : H a = some (.lst (l.map V.str))) (k : ∀ y' H', JSt K ow x B y' ji nm { P with cu := l } H0 H' → D.nx σ H') :
    sFld K (tVar 0) (tListOf K i) "cutting" D σ H :=
  ⟨_, hi, a, _, rfl, .inl (SqL.of ha), fun q hq => by
    have s1 := s.same (Same.new (o := .lst (l.map V.str)) hq)
    exact ⟨_, h0, ji, _, y.jd, _, rfl, s1.j.ob, T.clJ, T.nJ_cutting, by show 7 < 1000; decide, k { y with lc := q } _ (s1.put (y' := { y with lc := q }) (P' := { P with cu := l }) (by rw [jp_lc]) s1.j.la upd_same s1.j.le)⟩⟩
theorem setEmL (T : Txt K mg) (s : JSt K ow x B y ji nm P H0 H) {i : Nat} {a : Addr} {l : List Str} (h0 : σ[0]? = some (some (.ref ji))) (hi : σ[i]? = some (some (.ref a))) (ha : H a = some (.lst (l.map V.str))) (k : ∀ y' H', JSt K ow x B y' ji nm { P with em := l } H0 H' → D.nx σ H') :
    sFld K (tVar 0) (tListOf K i) "emptying" D σ H :=
  ⟨_, hi, a, _, rfl, .inl (SqL.of ha), fun q hq => by
    have s1 := s.same (Same.new (o := .lst (l.map V.str)) hq)
    exact ⟨_, h0, ji, _, y.jd, _, rfl, s1.j.ob, T.clJ, T.nJ_emptying, by show 7 < 1000; decide, k { y with le := q } _ (s1.put (y' := { y with le := q }) (P' := { P with em := l }) (by rw [jp_le]) s1.j.la s1.j.lc upd_same)⟩⟩
end
/-- what the job holds is on its paper -/
def OnP (B : BS) (nm : Str) (P : PS) : Prop := ∀ d ∈ B.devs, nm ∈ B.ms d → d ∈ P.cu ++ P.em
/-- the job is right, with the board -/
structure JOk (B : BS) (nm : Str) (P : PS) : Prop where
  ok : BOk B
  po : POk B P
  jn : nm ∈ B.jobs
  on : OnP B nm P
/-- what a job's turn tells: v, and the board and the job behind it -/
def JEnd (K : PySem.W.Frag) (ow : Addr → Ro) (x : BA) (ji : Addr) (nm : Str) (H : Hp) (Q : VK) (v : V) (r : BS × PS) : Prop := ∀ H' x' y', x'.bd = x.bd → JSt K ow x' r.1 y' ji nm r.2 H H' → Q v H'
theorem away_free {B : BS} {nm : Str} {P : PS} (k : JOk B nm P) (hp : P.ph = "away") (hs : B.steps nm P = []) : ∀ d ∈ B.devs, nm ∉ B.ms d := fun d hd hm => by
  unfold BS.steps Sm.steps at hs
  rw [hp, if_neg (by decide), if_neg (by decide), if_pos rfl] at hs
  have h1 : d ∈ (P.em.reverse ++ P.cu.reverse).filter (B.on nm) := by
    rw [List.mem_filter, List.mem_append, List.mem_reverse, List.mem_reverse]
    exact ⟨(List.mem_append.mp (k.on d hd hm)).symm, decide_eq_true hm⟩
  rw [map_nil.mp hs] at h1
  cases h1
section
variable {P : Program} {w : World} {K : PySem.W.Frag} {mg : Str → Option Value} {base : Heap}
/-! ### settle -/
def spSettle (K : PySem.W.Frag) : Sp := fun vs H Q _ => ∃ ow x B y ji nm P, vs = [.ref ji] ∧ JAt K x.bd y ji nm P H ∧ BAt K ow x B H ∧ JOk B nm P ∧ JEnd K ow x ji nm H Q .non (settle B nm P)
theorem sc_J_settle : FnScope N_J_called ["self"] (defScope sJ_settle) := ⟨rfl, rfl, rfl, by decide +kernel, rfl, by decide +kernel, by decide +kernel⟩
theorem ok_J_settle (T : Txt K mg) : MFn P w K mg base CX0 6 (cJ K) "settle" ["self"] (spSettle K) := by
  refine T.m_J_settle.ok0 sc_J_settle (fun vs H Q E h => ?_) (fun f cdv A outer s H vs Q E hr h => ?_)
  · obtain ⟨ow, x, B, y, ji, nm, P, rfl, _⟩ := h
    rfl
  · obtain ⟨ow, x, B, y, ji, nm, P, rfl, j, b, ok, k⟩ := h
    refine ⟨_, (pss_cons (ps_if (PW.pt (pw_or (pt_cmpR op_ne (pe_fld (pv 0) rfl) pe_str (nomark _)) (pw_or1 (pt_cmpR (op_neD hr.units) (pe_mth0 (pv 0) T.clJ (ok_J_steps T) (hr.mono (by decide)) pass0) (pe_lst pa_nil) (nomark _)))))
      (pss_one ps_retN)
      pss_nil)
    (pss_cons (ps_fld (pv 0) pe_str rfl)
    (pss_cons (ps_fld (pv 0) (pe_lst pa_nil) rfl)
    (pss_cons (ps_fld (pv 0) (pe_lst pa_nil) rfl)
    (pss_one (ps_if (pt_val (pe_fld (pv 0) rfl))
      (pss_cons (ps_fld (pv 0) pe_str rfl)
      (pss_one (ps_expr (pe_mth (pe_fld (pv 0) rfl) T.clB (ok_B_leave T) (hr.mono (by decide)) pass0 (pa_cons (pe_fld (pv 0) rfl) pa_nil)))))
      pss_nil)))))), ?_⟩
    refine ⟨_, rfl, _, _, _, _, _, rfl, j.ob, T.clJ, T.nJ_now, jf_ph, rfl, _, rfl, ?_⟩
    have skip : ¬ (P.ph = "away" ∧ B.steps nm P = []) → settle B nm P = (B, P) := fun z => if_neg z
    refine iteNd (fun e => ?_) (fun e => ?_)
    · unfold JEnd at k
      rw [skip fun z => e (congrArg V.str z.1)] at k
      exact k H x y rfl (JSt.init b j)
    · have hp := V.str.inj e
      refine ⟨_, rfl, _, _, _, rfl, j.ob, jf_no (by decide +kernel), x.bd, y, ji, nm, P, B.steps nm P, rfl, j, .inr ⟨ow, x, B, rfl, b, ok.ok, ok.po, rfl⟩, fun H1 p items s1 hp1 ht1 => ?_⟩
      refine ⟨by show 0 ≤ sizeLine; exact Nat.zero_le _, fun q hq => ?_⟩
      have s2 := s1.trans (Same.new (o := .lst []) hq)
      refine ⟨_, .list [], dp_steps ((Same.new hq) _ _ hp1) (ht1.keep (KpT.same (Same.new hq))), .lst (xs := []) (SqL.of upd_same) .nil, (st_sm ok.ok ok.po).shaped (by decide), rfl, _, rfl, ?_⟩
      rw [eqv_nil', decide_eq_decide.mpr (map_nil.trans map_nil)]
      have st := (JSt.init b j).same s2
      refine iteNd (fun e => ?_) (fun e => ?_)
      · unfold JEnd at k
        rw [skip fun z => e z.2] at k
        exact k _ x y rfl st
      · have fr := away_free ok hp e
        unfold JEnd settle at k
        rw [if_pos ⟨hp, e⟩] at k
        refine setPh T st rfl fun H3 st => ?_
        refine setCu0 T st rfl fun y4 H4 st => ?_
        refine setEm0 T st rfl fun y5 H5 st => ?_
        refine ⟨_, rfl, _, _, _, _, _, rfl, st.j.ob, T.clJ, T.nJ_ending, jf_en, _, rfl, ?_⟩
        cases he : P.en with
        | false =>
          rw [he, if_neg Bool.false_ne_true] at k
          refine iteF (k H5 x y5 rfl ?_)
          rw [he] at st
          exact st
        | true =>
          rw [he, if_pos rfl] at k
          refine iteT ?_
          rw [he] at st
          refine setPh T st rfl fun H6 st => ?_
          refine ⟨_, rfl, _, _, _, _, _, rfl, st.j.ob, T.clJ, T.nJ_at_board, jf_bd, _, _, _, rfl, st.b.ob, bf_no (by decide +kernel), _, rfl, _, _, _, _, _, rfl, st.j.ob, T.clJ, T.nJ_named, jf_nm, ow, x, B, nm, rfl, st.b, ok.ok, ok.jn, fr, fun H7 x7 hx kp b7 => ?_⟩
          exact k H7 x7 y5 hx (st.board hx kp b7)
end
end Sm
namespace Sm
open PySem PySem.Spec PyProof.Rows L2
theorem JOk.hold {B : BS} {nm : Str} {P : PS} (k : JOk B nm P) {d t : Str} (hd : d ∈ P.cu ++ P.em) (ht : IsPos t) : JOk (B.hold d t nm) nm P where
  ok := k.ok.hold (k.po.sub d hd) ht k.jn
  po := { k.po with }
  jn := k.jn
  on := fun d' hd' hm => by
    by_cases e : d' = d
    · rw [e]; exact hd
    · refine k.on d' hd' ?_
      have hm : nm ∈ ups B.ms d (addk (B.ms d) nm) d' := hm
      rw [ups_ne e] at hm
      exact hm
theorem JOk.free {B : BS} {nm : Str} {P : PS} (k : JOk B nm P) {d : Str} (hd : d ∈ B.devs) : JOk (B.free d nm) nm P where
  ok := k.ok.free hd
  po := { k.po with }
  jn := k.jn
  on := fun d' hd' hm => by
    have hm : nm ∈ ups B.ms d ((B.ms d).filter fun a => decide (a ≠ nm)) d' := hm
    by_cases e : d' = d
    · subst e
      rw [ups_same] at hm
      exact absurd rfl (of_decide_eq_true (List.mem_filter.mp hm).2)
    · rw [ups_ne e] at hm
      exact k.on d' hd' hm
theorem JOk.ph {B : BS} {nm : Str} {P : PS} (k : JOk B nm P) {p : Str} (hp : p = "still" ∨ p = "given" ∨ p = "trial" ∨ p = "away") {en : Bool} : JOk B nm { P with ph := p, en := en } where
  ok := k.ok
  po := ⟨k.po.ab, k.po.nd, k.po.sub, .inr hp, fun z => absurd z (by show ¬ p = "by"; rcases hp with h | h | h | h <;> subst h <;> decide)⟩
  jn := k.jn
  on := k.on
theorem atN {α : Type} (l : List α) (k : Nat) : atI l (k : Int) = l[k]? := by
  unfold atI ixN
  by_cases h : k < l.length
  · rw [if_pos (by omega), if_pos (by omega)]
    simp
  · rw [if_pos (by omega), if_neg (by omega)]
    simp [h]
theorem at0 {α : Type} {v : α} {l : List α} : atI (v :: l) 0 = some v := atN (v :: l) 0
section
variable {P : Program} {w : World} {K : PySem.W.Frag} {mg : Str → Option Value} {base : Heap}
/-! ### step -/
def spStep (K : PySem.W.Frag) : Sp := fun vs H Q E => ∃ ow x B y ji nm P, vs = [.ref ji] ∧ JAt K x.bd y ji nm P H ∧ BAt K ow x B H ∧ JOk B nm P ∧
  (∀ r, stepR B nm P = some r → Threw K r H E) ∧
  (∀ s rest, stepR B nm P = none → B.steps nm P = s :: rest → ∀ H' x' y' t, x'.bd = x.bd → JSt K ow x' (settle (stepB B nm s) nm P).1 y' ji nm (settle (stepB B nm s) nm P).2 H H' → H' t = some (.tup (stV s)) → Q (.ref t) H')
abbrev N_J_step : List Str := ["self", "left", "device", "to"]
theorem sc_J_step : FnScope N_J_step ["self"] (defScope sJ_step) := ⟨rfl, rfl, rfl, by decide +kernel, rfl, by decide +kernel, by decide +kernel⟩
theorem ok_J_step (T : Txt K mg) : MFn P w K mg base (L2.CX P w) 8 (cJ K) "step" ["self"] (spStep K) := by
  refine T.m_J_step.ok sc_J_step (fun vs H Q E h => ?_) (fun f cdv A outer s H vs Q E hr h => ?_)
  · obtain ⟨ow, x, B, y, ji, nm, P, rfl, _⟩ := h
    rfl
  · obtain ⟨ow, x, B, y, ji, nm, P, rfl, j, b, ok, k2, k1⟩ := h
    refine ⟨_, (pss_cons (ps_set (i := 1) sc_J_step.nd rfl (Or.inl rfl) (pe_mth0 (pv 0) T.clJ (ok_J_steps T) (hr.mono (by decide)) pass0))
    (pss_cons (ps_if (pt_cmpR (op_eqD hr.units) (pv 1) (pe_lst pa_nil) (nomark _))
      (pss_one (ps_raise rfl (takes_of rfl rfl rfl rfl) (pmk_NotNow T (k := 1) (hr.mono (by decide)) (by exact (pa_cons (pe_fld (pv 0) rfl) pa_nil)))))
      pss_nil)
    (pss_cons (ps_asg (pe_ix ix_list (pv 1) pe_int (fun _ _ => rfl)) (pg_tup (by rfl) (pgs_cons (pg_name (i := 2) sc_J_step.nd rfl (Or.inl rfl)) (pgs_cons (pg_name (i := 3) sc_J_step.nd rfl (Or.inl rfl)) pgs_nil))))
    (pss_cons (ps_if (pt_cmpR op_isN (pv 3) pe_non (nomark _))
      (pss_one (ps_expr (pe_mth (pe_fld (pv 0) rfl) T.clB (ok_B_free T) (hr.mono (by decide)) (passes_call (takes_of rfl rfl rfl rfl) fun _ _ _ _ h => h) (pa_cons (pv 2) (pa_cons (pe_fld (pv 0) rfl) pa_nil)))))
      (pss_one (ps_expr (pe_mth (pe_fld (pv 0) rfl) T.clB (ok_B_hold T) (hr.mono (by decide)) (passes_call (takes_of rfl rfl rfl rfl) fun _ _ _ _ h => h) (pa_cons (pv 2) (pa_cons (pv 3) (pa_cons (pe_fld (pv 0) rfl) pa_nil)))))))
    (pss_cons (ps_expr (pe_mth0 (pv 0) T.clJ (ok_J_settle T) (hr.mono (by decide)) pass0))
    (pss_one (ps_ret (pe_tup (pa_cons (pv 2) (pa_cons (pv 3) pa_nil)))))))))), ?_⟩
    refine ⟨_, rfl, _, _, _, rfl, j.ob, jf_no (by decide +kernel), x.bd, y, ji, nm, P, B.steps nm P, rfl, j, .inr ⟨ow, x, B, rfl, b, ok.ok, ok.po, rfl⟩, fun H1 p items s1 hp1 ht1 => ?_⟩
    refine ⟨_, rfl, by show 0 ≤ sizeLine; exact Nat.zero_le _, fun q hq => ?_⟩
    have s2 := s1.trans (Same.new (o := .lst []) hq)
    have hp2 := (Same.new (o := .lst []) hq) _ _ hp1
    have ht2 := ht1.keep (KpT.same (Same.new (o := .lst []) hq))
    refine ⟨_, .list [], dp_steps hp2 ht2, .lst (xs := []) (SqL.of upd_same) .nil, (st_sm ok.ok ok.po).shaped (by decide), rfl, _, rfl, ?_⟩
    rw [eqv_nil', decide_eq_decide.mpr (map_nil.trans map_nil)]
    have st := (JSt.init b j).same s2
    refine iteD (fun hs => ?_) (fun hne => ?_)
    · refine ⟨_, rfl, _, _, _, _, _, rfl, st.j.ob, T.clJ, T.nJ_named, jf_nm, _, rfl, fun d hd => ?_⟩
      exact ((k2 (.notNow nm) (by unfold stepR; rw [hs])).mono s2).raise rfl rfl (fun _ _ => rfl) d hd
    obtain ⟨s, rest, hs⟩ : ∃ s rest, B.steps nm P = s :: rest := by
      cases h : B.steps nm P with
      | nil => exact absurd h hne
      | cons a r => exact ⟨a, r, rfl⟩
    obtain ⟨hm1, hm2, hm3⟩ := mem_steps ok.ok ok.po (s := s) (j := nm) (by rw [hs]; exact List.mem_cons_self)
    obtain ⟨t, its, ei, ht⟩ : ∃ t its, items = .ref t :: its ∧ (upd H1 q (.lst [])) t = some (.tup (stV s)) := by
      rw [hs, List.map_cons] at ht2
      cases ht2 with
      | cons hv htl =>
        obtain ⟨t, rfl, ht⟩ := hv
        exact ⟨t, _, rfl, ht⟩
    subst ei
    obtain ⟨d, o⟩ := s
    refine ⟨_, rfl, p, _, 0, .ref t, rfl, rfl, SqL.of hp2, at0, t, _, rfl, SqT.of ht, rfl, _, _, rfl, _, _, rfl, rfl, ?_⟩
    have last : ∀ {H3 : Hp} {x3 : BA} {E' : XK}, x3.bd = x.bd → JSt K ow x3 (stepB B nm (d, o)) y ji nm P H H3 → JOk (stepB B nm (d, o)) nm P → stepR B nm P = none →
        tSeq (tDrop (tMeth (cJ K) "settle" (spSettle K) [] E' (tVar 0) tNil)) (tRet (tTup (tCons (tVar 2) (tCons (tVar 3) tNil)))) { nx := fun _ H' => Q .non H', rt := Q } [some (.ref ji), some (.ref p), some (.str d), some (optV o)] H3 := fun {H3 x3 E'} hx st ok3 hrn => by
      refine ⟨_, rfl, _, _, _, rfl, st.j.ob, jf_no (by decide +kernel), ow, x3, _, y, ji, nm, P, rfl, st.j, st.b, ok3, fun H4 x4 y4 hx4 st4 => ?_⟩
      refine ⟨_, rfl, _, rfl, by show 2 ≤ sizeLine; decide, fun u hu' => ?_⟩
      exact k1 (d, o) rest hrn hs _ x4 y4 u (hx4.trans hx) ((st.trans st4).same (Same.new hu')) upd_same
    cases o with
    | none =>
      have hno := hm3.resolve_left fun z => by obtain ⟨_, z, _⟩ := z; cases z
      refine ⟨_, rfl, rfl, _, rfl, iteT ?_⟩
      refine ⟨_, rfl, _, _, _, _, _, rfl, st.j.ob, T.clJ, T.nJ_at_board, jf_bd, _, _, _, rfl, st.b.ob, bf_no (by decide +kernel), _, rfl, _, rfl, _, _, _, _, _, rfl, st.j.ob, T.clJ, T.nJ_named, jf_nm, ow, x, B, d, nm, rfl, st.b, ok.ok, hm2, ok.jn, hno.2, fun r hr2 => (k2 r ?_).mono s2, fun hr2 H3 x3 hx kp b3 => ?_⟩
      · unfold stepR; rw [hs]; exact hr2
      · exact last hx (st.board hx kp b3) (ok.free hm2) (by unfold stepR; rw [hs]; exact hr2)
    | some to =>
      obtain ⟨to', e1, hp'⟩ := hm3.resolve_right fun z => by have := z.1; cases this
      cases e1
      refine ⟨_, rfl, rfl, _, rfl, iteF ?_⟩
      refine ⟨_, rfl, _, _, _, _, _, rfl, st.j.ob, T.clJ, T.nJ_at_board, jf_bd, _, _, _, rfl, st.b.ob, bf_no (by decide +kernel), _, rfl, _, rfl, _, rfl, _, _, _, _, _, rfl, st.j.ob, T.clJ, T.nJ_named, jf_nm, ow, x, B, d, to, nm, rfl, st.b, ok.ok, hm2, hp', ok.jn, fun r hr2 => (k2 r ?_).mono s2, fun hr2 H3 x3 hx kp b3 => ?_⟩
      · unfold stepR; rw [hs]; exact hr2
      · exact last hx (st.board hx kp b3) (ok.hold hm1 hp') (by unfold stepR; rw [hs]; exact hr2)
end
end Sm
namespace Sm
open PySem PySem.Spec PyProof.Rows L2
theorem find_first {α : Type} {p : α → Bool} {x : α} : ∀ {i : Nat} {l : List α}, l[i]? = some x → p x = true → (∀ a ∈ l.take i, p a = false) → l.find? p = some x
  | 0, a :: r, h, hp, _ => by
    cases Option.some.inj h
    rw [List.find?_cons_of_pos hp]
  | i + 1, a :: r, h, hp, hn => by
    have h1 := hn a List.mem_cons_self
    rw [List.find?_cons_of_neg (by rw [h1]; exact Bool.false_ne_true)]
    exact find_first (by simpa using h) hp fun b hb => hn b (List.mem_cons_of_mem _ hb)
theorem find_none {α : Type} {p : α → Bool} {l : List α} (h : ∀ a ∈ l, p a = false) : l.find? p = none := List.find?_eq_none.mpr fun a ha => by rw [h a ha]; exact Bool.false_ne_true
/-! ### why a job's turn is refused -/
def beginR (B : BS) (nm : Str) (P : PS) (sw dr : List Str) : Option Rf := if P.ph = "by" then lackR B (sw ++ dr) else some (.notNow nm)
def giveR (B : BS) (nm : Str) (P : PS) : Option Rf := if P.ph = "still" ∧ B.steps nm P = [] then none else some (.notNow nm)
def tryR (B : BS) (nm : Str) (P : PS) : Option Rf := if P.ph = "given" then heldR B nm else some (.notNow nm)
def goonR (nm : Str) (P : PS) : Option Rf := if P.ph = "trial" then none else some (.notNow nm)
def putR (B : BS) (nm : Str) (P : PS) : Option Rf := if P.ph = "still" ∨ P.ph = "given" ∨ P.ph = "trial" then heldR B nm else some (.notNow nm)
def endR (B : BS) (nm : Str) (P : PS) : Option Rf := if P.ph = "by" ∨ P.ph = "still" ∨ P.ph = "given" ∨ P.ph = "trial" then heldR B nm else some (.notNow nm)
def onR (B : BS) (nm : Str) (P : PS) (h : Str) : Option Rf := if P.ph = "given" then (if h ∈ B.cw nm then some (.there h) else if (B.cw nm).length = 6 then some (.tooMany 6) else none) else some (.notNow nm)
def offR (B : BS) (nm : Str) (P : PS) (h : Str) : Option Rf := if P.ph = "given" then (if h ∉ B.cw nm then some (.lacks h) else if (B.cw nm).length = 1 then some (.notNow nm) else none) else some (.notNow nm)
def overR (B : BS) (nm : Str) (a b : Str) : Option Rf := if a ∉ B.cw nm then some (.lacks a) else if b ∈ B.cw nm then some (.there b) else none
def askR (B : BS) (nm : Str) : Option Rf := if nm ∈ B.jobs then some (.there nm) else if B.jobs.length = 8 then some (.tooMany 8) else none
section
variable {P : Program} {w : World} {K : PySem.W.Frag} {mg : Str → Option Value} {base : Heap}
/-- self.need_phase([..]) -/
theorem needPh {σ : L2.St} {H : Hp} {D : Ends} {ow : Addr → Ro} {x : BA} {B : BS} {y : JA} {ji : Addr} {nm : Str} {Q : PS} {E : XK} {es : TA} {good : List Str} (h0 : σ[0]? = some (some (.ref ji))) (j : JAt K x.bd y ji nm Q H)
    (he : ∀ R : List V → Hp → Prop, R (good.map V.str) H → es σ H R) (hl : good.length ≤ 1000)
    (k1 : Q.ph ∈ good → ∀ H', Same H H' → D.nx σ H') (k2 : Q.ph ∉ good → Threw K (.notNow nm) H E) :
    tDrop (tMeth (cJ K) "need_phase" (spNeedPhase K) [] E (tVar 0) (tCons (tLst es) tNil)) D σ H := by
  refine ⟨_, h0, ji, _, _, rfl, j.ob, jf_no (by decide +kernel), he _ ⟨by rw [List.length_map]; exact sz_of (by omega), fun p hp => ?_⟩⟩
  have s1 : Same H (upd H p (.lst (good.map V.str))) := Same.new hp
  refine ⟨x.bd, y, ji, nm, Q, p, good, rfl, j.same s1, SqL.of upd_same, fun r hr => ?_, fun hn => ?_⟩
  · unfold phR at hr
    by_cases e : Q.ph ∈ good
    · rw [if_pos e] at hr; cases hr
    · rw [if_neg e] at hr
      cases Option.some.inj hr
      exact (k2 e).mono s1
  · refine k1 ?_ _ s1
    unfold phR at hn
    by_cases e : Q.ph ∈ good
    · exact e
    · rw [if_neg e] at hn; cases hn
/-! ### begin -/
def spBegin (K : PySem.W.Frag) : Sp := fun vs H Q E => ∃ ow x B y ji nm P a c sw dr, vs = [.ref ji, .ref a, .ref c] ∧ JAt K x.bd y ji nm P H ∧ BAt K ow x B H ∧ JOk B nm P ∧
  H a = some (.lst (List.map V.str sw)) ∧ H c = some (.lst (List.map V.str dr)) ∧ Names sw 60 ∧ Names dr 60 ∧ (∀ d ∈ dr, d ∉ sw) ∧
  (∀ r, beginR B nm P sw dr = some r → Threw K r H E) ∧ (beginR B nm P sw dr = none → JEnd K ow x ji nm H Q .non (B, { P with cu := sw, em := dr, ph := "still" }))
abbrev N_J_begin : List Str := ["self", "switches", "drains", "there", "device"]
theorem sc_J_begin : FnScope N_J_begin ["self", "switches", "drains"] (defScope sJ_begin) := ⟨rfl, rfl, rfl, by decide +kernel, rfl, by decide +kernel, by decide +kernel⟩
theorem ok_J_begin (T : Txt K mg) : MFn P w K mg base (L2.CX P w) 5 (cJ K) "begin" ["self", "switches", "drains"] (spBegin K) := by
  refine T.m_J_begin.ok sc_J_begin (fun vs H Q E h => ?_) (fun f cdv A outer s H vs Q E hr h => ?_)
  · obtain ⟨ow, x, B, y, ji, nm, P, a, c, sw, dr, rfl, _⟩ := h
    rfl
  · obtain ⟨ow, x, B, y, ji, nm, P, a, c, sw, dr, rfl, j, b, ok, ha, hc, hsw, hdr, hap, k2, k1⟩ := h
    refine ⟨_, (pss_cons (ps_expr (pe_fn (ok_need T) (hr.mono (by decide)) pass0 (pa_cons pe_int (pa_cons (pe_fn (ok_are_names T) (hr.mono (by decide)) pass0 (pa_cons (pv 1) pa_nil)) pa_nil))))
    (pss_cons (ps_expr (pe_fn (ok_need T) (hr.mono (by decide)) pass0 (by exact (pa_cons pe_int (pa_cons (pe_and (pe_fn (ok_are_names T) (hr.mono (by decide)) pass0 (pa_cons (pv 2) pa_nil)) (pe_one (pe_fn (ok_are_apart T) (hr.mono (by decide)) pass0 (pa_cons (pv 2) (pa_cons (pv 1) pa_nil))))) pa_nil)))))
    (pss_cons (ps_expr (pe_mth (pv 0) T.clJ (ok_J_need_phase T) (hr.mono (by decide)) (passes_call (takes_of rfl rfl rfl rfl) fun _ _ _ _ h => h) (pa_cons (pe_lst (pa_cons pe_str pa_nil)) pa_nil)))
    (pss_cons (ps_set (i := 3) sc_J_begin.nd rfl (Or.inl rfl) (pe_mth0 (pe_fld (pv 0) rfl) T.clB (ok_B_devices T) (hr.mono (by decide)) pass0))
    (pss_cons (ps_for (passes_of rfl) rfl (pi_list (pe_op op_cat (pv 1) (pv 2))) (pg_name (i := 4) sc_J_begin.nd rfl (Or.inl rfl))
      (pss_one (ps_if (pt_cmpR op_notIn_seq (pv 4) (pv 3) rfl)
      (pss_one (ps_raise rfl (takes_of rfl rfl rfl rfl) (pmk_Lacks T (k := 1) (hr.mono (by decide)) (by exact (pa_cons (pv 4) pa_nil)))))
      pss_nil)))
    (pss_cons (ps_fld (pv 0) (pe_callTy call_list_of (by rfl) T.b_list (by decide +kernel) (pa_cons (pv 1) pa_nil)) rfl)
    (pss_cons (ps_fld (pv 0) (pe_callTy call_list_of (by rfl) T.b_list (by decide +kernel) (pa_cons (pv 2) pa_nil)) rfl)
    (pss_one (ps_fld (pv 0) pe_str rfl))))))))), ?_⟩
    have l1 := hsw.len
    have l2 := hdr.len
    refine ⟨_, rfl, a, sw, rfl, SqL.of ha, ty_lst ha, hsw, fun H1 s1 => ⟨0, rfl, ?_⟩⟩
    refine ⟨_, rfl, c, dr, rfl, SqL.of (s1 _ _ hc), ty_lst (s1 _ _ hc), hdr, fun H2 s2 => ⟨true, rfl, iteT ?_⟩⟩
    have s12 := s1.trans s2
    refine ⟨_, rfl, _, rfl, c, a, dr, sw, rfl, SqL.of (s12 _ _ hc), SqL.of (s12 _ _ ha), hap, 1, rfl, ?_⟩
    refine needPh rfl (ow := ow) (B := B) (j.same s12) (good := ["by"]) (fun R h => h) (by decide) (fun hp H3 s3 => ?_) (fun hp => (k2 _ (if_neg fun z => hp (by rw [z]; exact List.mem_singleton.mpr rfl))).mono s12)
    have hp := List.mem_singleton.mp hp
    have hR : beginR B nm P sw dr = lackR B (sw ++ dr) := if_pos hp
    have s13 := s12.trans s3
    refine ⟨_, rfl, _, _, _, _, _, rfl, (j.same s13).ob, T.clJ, T.nJ_at_board, jf_bd, _, _, _, rfl, (b.same s13).ob, bf_no (by decide +kernel), ow, x, B, rfl, b.same s13, ok.ok, fun H4 p s4 hp4 => ?_⟩
    have s14 := s13.trans s4
    refine ⟨_, rfl, _, rfl, a, c, _, _, rfl, rfl, s14 _ _ ha, s14 _ _ hc, sz_of (by rw [List.length_map, List.length_map]; omega), fun q hq => ?_⟩
    rw [← List.map_append]
    have s15 := s14.trans (Same.new (o := .lst ((sw ++ dr).map V.str)) hq)
    have hp5 := (Same.new (o := .lst ((sw ++ dr).map V.str)) hq) _ _ hp4
    refine ⟨q, rfl, ⟨_, SqL.of upd_same⟩, for_it walk_list (fun i σ H' => H' = upd H4 q (.lst ((sw ++ dr).map V.str)) ∧ (∀ d ∈ (sw ++ dr).take i, d ∈ B.devs) ∧ ∃ v, σ = [some (.ref ji), some (.ref a), some (.ref c), some (.ref p), v]) ⟨rfl, fun d hd => (by cases hd), none, rfl⟩ (fun i σ H' _ h => by rw [h.1]; exact SqL.of upd_same) ?_ ?_⟩
    · rintro i v σ H5 H6 hi ⟨rfl, hin, v0, rfl⟩ ⟨rfl, hy⟩
      obtain ⟨d, hd, rfl⟩ := strs_at hy
      refine ⟨_, rfl, _, rfl, p, _, rfl, .inl (SqL.of hp5), rfl, flat_strs' _, _, rfl, ?_⟩
      rw [inV_str, decide_eq_decide.mpr mem_srt]
      refine iteNd (fun e => ?_) (fun e => ⟨rfl, fun z hz => ?_, _, rfl⟩)
      · refine ⟨_, rfl, _, rfl, fun dd hdd => ?_⟩
        refine ((k2 (.lacks d) ?_).mono s15).raise rfl rfl (fun _ _ => rfl) dd hdd
        rw [hR]
        unfold lackR
        rw [find_first (p := fun d => decide (d ∉ B.devs)) hd (decide_eq_true e) fun z hz => decide_eq_false fun z' => z' (hin z hz)]
      · rw [take_more hd] at hz
        rcases List.mem_append.mp hz with hz | hz
        · exact hin z hz
        · rw [List.mem_singleton.mp hz]; exact e
    · rintro σ H5 ⟨rfl, hin, v0, rfl⟩
      rw [List.length_map, List.take_length] at hin
      have kk := k1 (by
        rw [hR]
        unfold lackR
        rw [find_none (p := fun d => decide (d ∉ B.devs)) fun z hz => decide_eq_false fun z' => z' (hin z hz)])
      have st := (JSt.init b j).same s15
      refine setCuL T st rfl rfl (s15 _ _ ha) fun y6 H6 st6 => ?_
      have hc6 : H6 c = some (.lst (dr.map V.str)) := st6.kp _ _ hc (fun z => by rw [z, j.ob] at hc; cases hc) (.inr (by intro _ z; cases z))
      refine setEmL T st6 rfl rfl hc6 fun y7 H7 st7 => ?_
      refine setPh T st7 rfl fun H8 st8 => ?_
      exact kk H8 x y7 rfl st8
/-! ### give, try_out, go_on, put_by, end -/
def spPlain (K : PySem.W.Frag) (r : BS → Str → PS → Option Rf) (f : BS → Str → PS → BS × PS) : Sp := fun vs H Q E => ∃ ow x B y ji nm P, vs = [.ref ji] ∧ JAt K x.bd y ji nm P H ∧ BAt K ow x B H ∧ JOk B nm P ∧ P.ph ≠ "ended" ∧
  (∀ e, r B nm P = some e → Threw K e H E) ∧ (r B nm P = none → JEnd K ow x ji nm H Q .non (f B nm P))
theorem JOk.ne {B : BS} {nm : Str} {P : PS} (k : JOk B nm P) : P.ph ≠ "ended" := fun z => by
  rcases k.po.ph with h | h | h | h | h <;> rw [h] at z <;> exact absurd z (by decide)
theorem sc_J_give : FnScope N_J_called ["self"] (defScope sJ_give) := ⟨rfl, rfl, rfl, by decide +kernel, rfl, by decide +kernel, by decide +kernel⟩
theorem ok_J_give (T : Txt K mg) : MFn P w K mg base (L2.CX P w) 6 (cJ K) "give" ["self"] (spPlain K giveR fun B _ P => (B, { P with ph := "given" })) := by
  refine T.m_J_give.ok sc_J_give (fun vs H Q E h => ?_) (fun f cdv A outer s H vs Q E hr h => ?_)
  · obtain ⟨ow, x, B, y, ji, nm, P, rfl, _⟩ := h
    rfl
  · obtain ⟨ow, x, B, y, ji, nm, P, rfl, j, b, ok, hne, k2, k1⟩ := h
    refine ⟨_, (pss_cons (ps_expr (pe_mth (pv 0) T.clJ (ok_J_need_phase T) (hr.mono (by decide)) (passes_call (takes_of rfl rfl rfl rfl) fun _ _ _ _ h => h) (pa_cons (pe_lst (pa_cons pe_str pa_nil)) pa_nil)))
    (pss_cons (ps_if (pt_cmpR (op_neD hr.units) (pe_mth0 (pv 0) T.clJ (ok_J_steps T) (hr.mono (by decide)) pass0) (pe_lst pa_nil) (nomark _))
      (pss_one (ps_raise rfl (takes_of rfl rfl rfl rfl) (pmk_NotNow T (k := 1) (hr.mono (by decide)) (by exact (pa_cons (pe_fld (pv 0) rfl) pa_nil)))))
      pss_nil)
    (pss_one (ps_fld (pv 0) pe_str rfl)))), ?_⟩
    refine needPh rfl (ow := ow) (B := B) j (good := ["still"]) (fun R h => h) (by decide) (fun hp H1 s1 => ?_) (fun hp => k2 _ (if_neg fun z => hp (by rw [z.1]; exact List.mem_singleton.mpr rfl)))
    have hp := List.mem_singleton.mp hp
    refine ⟨_, rfl, _, _, _, rfl, (j.same s1).ob, jf_no (by decide +kernel), x.bd, y, ji, nm, P, B.steps nm P, rfl, j.same s1, .inr ⟨ow, x, B, rfl, b.same s1, ok.ok, ok.po, rfl⟩, fun H2 p items s2 hp2 ht2 => ?_⟩
    refine ⟨by show 0 ≤ sizeLine; exact Nat.zero_le _, fun q hq => ?_⟩
    have s3 := (s1.trans s2).trans (Same.new (o := .lst []) hq)
    refine ⟨_, .list [], dp_steps ((Same.new hq) _ _ hp2) (ht2.keep (KpT.same (Same.new hq))), .lst (xs := []) (SqL.of upd_same) .nil, (st_sm ok.ok ok.po).shaped (by decide), rfl, _, rfl, ?_⟩
    rw [eqv_nil', decide_eq_decide.mpr (map_nil.trans map_nil)]
    have st := (JSt.init b j).same s3
    refine iteNd (fun e => ?_) (fun e => ?_)
    · refine ⟨_, rfl, _, _, _, _, _, rfl, st.j.ob, T.clJ, T.nJ_named, jf_nm, _, rfl, fun d hd => ?_⟩
      exact ((k2 (.notNow nm) (if_neg fun z => e z.2)).mono s3).raise rfl rfl (fun _ _ => rfl) d hd
    · exact setPh T st rfl fun H4 st => k1 (if_pos ⟨hp, e⟩) H4 x y rfl st
/-- self.need_alone() -/
theorem needAl {σ : L2.St} {H : Hp} {D : Ends} {ow : Addr → Ro} {x : BA} {B : BS} {y : JA} {ji : Addr} {nm : Str} {Q : PS} {E : XK} (h0 : σ[0]? = some (some (.ref ji))) (j : JAt K x.bd y ji nm Q H) (b : BAt K ow x B H) (ok : JOk B nm Q)
    (k1 : heldR B nm = none → ∀ H', Same H H' → D.nx σ H') (k2 : ∀ r, heldR B nm = some r → Threw K r H E) :
    tDrop (tMeth (cJ K) "need_alone" (spNeedAlone K) [] E (tVar 0) tNil) D σ H :=
  ⟨_, h0, ji, _, _, rfl, j.ob, jf_no (by decide +kernel), ow, x, B, y, ji, nm, Q, rfl, j, ok.ne, b, ok.ok, ok.jn, k2, k1⟩
theorem sc_J_try_out : FnScope N_J_called ["self"] (defScope sJ_try_out) := ⟨rfl, rfl, rfl, by decide +kernel, rfl, by decide +kernel, by decide +kernel⟩
theorem ok_J_try_out (T : Txt K mg) : MFn P w K mg base (L2.CX P w) 6 (cJ K) "try_out" ["self"] (spPlain K tryR fun B _ P => (B, { P with ph := "trial" })) := by
  refine T.m_J_try_out.ok sc_J_try_out (fun vs H Q E h => ?_) (fun f cdv A outer s H vs Q E hr h => ?_)
  · obtain ⟨ow, x, B, y, ji, nm, P, rfl, _⟩ := h
    rfl
  · obtain ⟨ow, x, B, y, ji, nm, P, rfl, j, b, ok, hne, k2, k1⟩ := h
    refine ⟨_, (pss_cons (ps_expr (pe_mth (pv 0) T.clJ (ok_J_need_phase T) (hr.mono (by decide)) (passes_call (takes_of rfl rfl rfl rfl) fun _ _ _ _ h => h) (pa_cons (pe_lst (pa_cons pe_str pa_nil)) pa_nil)))
    (pss_cons (ps_expr (pe_mth0 (pv 0) T.clJ (ok_J_need_alone T) (hr.mono (by decide)) (passes_call (takes_of rfl rfl rfl rfl) fun _ _ _ _ h => h)))
    (pss_one (ps_fld (pv 0) pe_str rfl)))), ?_⟩
    refine needPh rfl (ow := ow) (B := B) j (good := ["given"]) (fun R h => h) (by decide) (fun hp H1 s1 => ?_) (fun hp => k2 _ (if_neg fun z => hp (by rw [z]; exact List.mem_singleton.mpr rfl)))
    have hp := List.mem_singleton.mp hp
    have hR : tryR B nm P = heldR B nm := if_pos hp
    rw [hR] at k1 k2
    refine needAl rfl (j.same s1) (b.same s1) ok (fun ha H2 s2 => ?_) (fun r hr2 => (k2 r hr2).mono s1)
    exact setPh T ((JSt.init b j).same (s1.trans s2)) rfl fun H4 st => k1 ha H4 x y rfl st
theorem sc_J_go_on : FnScope N_J_called ["self"] (defScope sJ_go_on) := ⟨rfl, rfl, rfl, by decide +kernel, rfl, by decide +kernel, by decide +kernel⟩
theorem ok_J_go_on (T : Txt K mg) : MFn P w K mg base (L2.CX P w) 6 (cJ K) "go_on" ["self"] (spPlain K (fun _ => goonR) fun B _ P => (B, { P with ph := "still" })) := by
  refine T.m_J_go_on.ok sc_J_go_on (fun vs H Q E h => ?_) (fun f cdv A outer s H vs Q E hr h => ?_)
  · obtain ⟨ow, x, B, y, ji, nm, P, rfl, _⟩ := h
    rfl
  · obtain ⟨ow, x, B, y, ji, nm, P, rfl, j, b, ok, hne, k2, k1⟩ := h
    refine ⟨_, (pss_cons (ps_expr (pe_mth (pv 0) T.clJ (ok_J_need_phase T) (hr.mono (by decide)) (passes_call (takes_of rfl rfl rfl rfl) fun _ _ _ _ h => h) (pa_cons (pe_lst (pa_cons pe_str pa_nil)) pa_nil)))
    (pss_one (ps_fld (pv 0) pe_str rfl))), ?_⟩
    refine needPh rfl (ow := ow) (B := B) j (good := ["trial"]) (fun R h => h) (by decide) (fun hp H1 s1 => ?_) (fun hp => k2 _ (if_neg fun z => hp (by rw [z]; exact List.mem_singleton.mpr rfl)))
    exact setPh T ((JSt.init b j).same s1) rfl fun H4 st => k1 (if_pos (List.mem_singleton.mp hp)) H4 x y rfl st
/-- self.settle() at the end -/
theorem doSettle {σ : L2.St} {H0 H : Hp} {D : Ends} {ow : Addr → Ro} {x : BA} {B : BS} {y : JA} {ji : Addr} {nm : Str} {Q : PS} {E : XK} (h0 : σ[0]? = some (some (.ref ji))) (st : JSt K ow x B y ji nm Q H0 H) (ok : JOk B nm Q)
    (k : ∀ H' x' y', x'.bd = x.bd → JSt K ow x' (settle B nm Q).1 y' ji nm (settle B nm Q).2 H0 H' → D.nx σ H') : tDrop (tMeth (cJ K) "settle" (spSettle K) [] E (tVar 0) tNil) D σ H :=
  ⟨_, h0, ji, _, _, rfl, st.j.ob, jf_no (by decide +kernel), ow, x, B, y, ji, nm, Q, rfl, st.j, st.b, ok, fun H' x' y' hx st' => k H' x' y' hx (st.trans st')⟩
theorem sc_J_put_by : FnScope N_J_called ["self"] (defScope sJ_put_by) := ⟨rfl, rfl, rfl, by decide +kernel, rfl, by decide +kernel, by decide +kernel⟩
theorem ok_J_put_by (T : Txt K mg) : MFn P w K mg base (L2.CX P w) 7 (cJ K) "put_by" ["self"] (spPlain K putR fun B nm P => settle B nm { P with en := false, ph := "away" }) := by
  refine T.m_J_put_by.ok sc_J_put_by (fun vs H Q E h => ?_) (fun f cdv A outer s H vs Q E hr h => ?_)
  · obtain ⟨ow, x, B, y, ji, nm, P, rfl, _⟩ := h
    rfl
  · obtain ⟨ow, x, B, y, ji, nm, P, rfl, j, b, ok, hne, k2, k1⟩ := h
    refine ⟨_, (pss_cons (ps_expr (pe_mth (pv 0) T.clJ (ok_J_need_phase T) (hr.mono (by decide)) (passes_call (takes_of rfl rfl rfl rfl) fun _ _ _ _ h => h) (pa_cons (pe_lst (pa_cons pe_str (pa_cons pe_str (pa_cons pe_str pa_nil)))) pa_nil)))
    (pss_cons (ps_expr (pe_mth0 (pv 0) T.clJ (ok_J_need_alone T) (hr.mono (by decide)) (passes_call (takes_of rfl rfl rfl rfl) fun _ _ _ _ h => h)))
    (pss_cons (ps_fld (pv 0) pe_bl rfl)
    (pss_cons (ps_fld (pv 0) pe_str rfl)
    (pss_one (ps_expr (pe_mth0 (pv 0) T.clJ (ok_J_settle T) (hr.mono (by decide)) pass0))))))), ?_⟩
    refine needPh rfl (ow := ow) (B := B) j (good := ["still", "given", "trial"]) (fun R h => h) (by decide) (fun hp H1 s1 => ?_) (fun hp => k2 _ (if_neg fun z => hp (by simpa using z)))
    have hR : putR B nm P = heldR B nm := if_pos (by simpa using hp)
    rw [hR] at k1 k2
    refine needAl rfl (j.same s1) (b.same s1) ok (fun ha H2 s2 => ?_) (fun r hr2 => (k2 r hr2).mono s1)
    refine setEn T ((JSt.init b j).same (s1.trans s2)) rfl fun H3 st => ?_
    refine setPh T st rfl fun H4 st => ?_
    exact doSettle rfl st (ok.ph (.inr (.inr (.inr rfl)))) fun H' x' y' hx st' => k1 ha H' x' y' hx st'
theorem sc_J_end : FnScope N_J_called ["self"] (defScope sJ_end) := ⟨rfl, rfl, rfl, by decide +kernel, rfl, by decide +kernel, by decide +kernel⟩
theorem ok_J_end (T : Txt K mg) : MFn P w K mg base (L2.CX P w) 7 (cJ K) "end" ["self"] (spPlain K endR fun B nm P => settle B nm { P with en := true, ph := "away" }) := by
  refine T.m_J_end.ok sc_J_end (fun vs H Q E h => ?_) (fun f cdv A outer s H vs Q E hr h => ?_)
  · obtain ⟨ow, x, B, y, ji, nm, P, rfl, _⟩ := h
    rfl
  · obtain ⟨ow, x, B, y, ji, nm, P, rfl, j, b, ok, hne, k2, k1⟩ := h
    refine ⟨_, (pss_cons (ps_expr (pe_mth (pv 0) T.clJ (ok_J_need_phase T) (hr.mono (by decide)) (passes_call (takes_of rfl rfl rfl rfl) fun _ _ _ _ h => h) (pa_cons (pe_lst (pa_cons pe_str (pa_cons pe_str (pa_cons pe_str (pa_cons pe_str pa_nil))))) pa_nil)))
    (pss_cons (ps_expr (pe_mth0 (pv 0) T.clJ (ok_J_need_alone T) (hr.mono (by decide)) (passes_call (takes_of rfl rfl rfl rfl) fun _ _ _ _ h => h)))
    (pss_cons (ps_fld (pv 0) pe_bl rfl)
    (pss_cons (ps_fld (pv 0) pe_str rfl)
    (pss_one (ps_expr (pe_mth0 (pv 0) T.clJ (ok_J_settle T) (hr.mono (by decide)) pass0))))))), ?_⟩
    refine needPh rfl (ow := ow) (B := B) j (good := ["by", "still", "given", "trial"]) (fun R h => h) (by decide) (fun hp H1 s1 => ?_) (fun hp => k2 _ (if_neg fun z => hp (by simpa using z)))
    have hR : endR B nm P = heldR B nm := if_pos (by simpa using hp)
    rw [hR] at k1 k2
    refine needAl rfl (j.same s1) (b.same s1) ok (fun ha H2 s2 => ?_) (fun r hr2 => (k2 r hr2).mono s1)
    refine setEn T ((JSt.init b j).same (s1.trans s2)) rfl fun H3 st => ?_
    refine setPh T st rfl fun H4 st => ?_
    exact doSettle rfl st (ok.ph (.inr (.inr (.inr rfl)))) fun H' x' y' hx st' => k1 ha H' x' y' hx st'
end
end Sm
namespace Sm
open PySem PySem.Spec PyProof.Rows L2
/-! ### crews -/
def overL (cw : List Str) (a b : Str) : List Str := cw.map fun c => if c = a then b else c
theorem over_cut {a b : Str} : ∀ {cw : List Str} {i : Nat}, cw.Nodup → cw[i]? = some a → cw.take i ++ [b] ++ cw.drop (i + 1) = overL cw a b
  | c :: r, 0, hn, h => by
    cases Option.some.inj h
    obtain ⟨h1, h2⟩ := List.nodup_cons.mp hn
    unfold overL
    rw [List.map_cons, if_pos rfl]
    have e : r.map (fun x => if x = a then b else x) = r := by
      conv => rhs; rw [← List.map_id r]
      refine List.map_congr_left fun x hx => ?_
      show (if x = a then b else x) = x
      rw [if_neg fun z => h1 (by rw [← z]; exact hx)]
    rw [e]
    rfl
  | c :: r, i + 1, hn, h => by
    obtain ⟨h1, h2⟩ := List.nodup_cons.mp hn
    have h' : r[i]? = some a := by simpa using h
    have ih := over_cut (b := b) h2 h'
    unfold overL at ih ⊢
    rw [List.map_cons, if_neg fun z => h1 (by rw [z]; exact mem_at h'), ← ih]
    rfl
theorem over_nd {a b : Str} : ∀ {cw : List Str}, cw.Nodup → b ∉ cw → (overL cw a b).Nodup
  | [], _, _ => List.nodup_nil
  | c :: r, hn, hnb => by
    obtain ⟨h1, h2⟩ := List.nodup_cons.mp hn
    have hr := over_nd (a := a) h2 (fun z => hnb (List.mem_cons_of_mem _ z))
    unfold overL at hr ⊢
    rw [List.map_cons]
    refine List.nodup_cons.mpr ⟨fun hm => ?_, hr⟩
    obtain ⟨d, hd, e⟩ := List.mem_map.mp hm
    have hbc : b ≠ c := fun z => hnb (by rw [z]; exact List.mem_cons_self)
    have hbd : b ≠ d := fun z => hnb (by rw [z]; exact List.mem_cons_of_mem _ hd)
    by_cases h3 : c = a
    · by_cases h4 : d = a
      · exact h1 (by rw [h3, ← h4]; exact hd)
      · rw [if_neg h4, if_pos h3] at e
        exact hbd e.symm
    · by_cases h4 : d = a
      · rw [if_pos h4, if_neg h3] at e
        exact hbc e
      · rw [if_neg h4, if_neg h3] at e
        exact h1 (by rw [← e]; exact hd)
theorem over_names {cw : List Str} {a b : Str} {n : Nat} (h : Names cw n) (hb : IsName b) (hnb : b ∉ cw) : Names (overL cw a b) n where
  all := fun x hx => by
    obtain ⟨c, hc, rfl⟩ := List.mem_map.mp hx
    show IsName (if c = a then b else c)
    split
    · exact hb
    · exact h.all c hc
  nd := over_nd h.nd hnb
  len := by
    unfold overL
    rw [List.length_map]
    exact h.len
theorem over_ne {cw : List Str} {a b : Str} (h : cw ≠ []) : overL cw a b ≠ [] := fun z => h (map_nil.mp z)
theorem filt_ne {cw : List Str} {h : Str} (hn : cw.Nodup) (hm : h ∈ cw) (h1 : cw.length ≠ 1) : cw.filter (fun a => decide (a ≠ h)) ≠ [] := fun z => by
  have q := nd_len (m := [h]) hn fun a ha => by
    rw [List.mem_singleton]
    by_cases e : a = h
    · exact e
    · have : a ∈ cw.filter (fun a => decide (a ≠ h)) := List.mem_filter.mpr ⟨ha, decide_eq_true e⟩
      rw [z] at this
      cases this
  have := List.length_pos_of_mem hm
  rw [List.length_singleton] at q
  omega
theorem filt_names {cw : List Str} {h : Str} {n : Nat} (hn : Names cw n) : Names (cw.filter fun a => decide (a ≠ h)) n :=
  ⟨fun x hx => hn.all x (List.mem_filter.mp hx).1, hn.nd.sublist List.filter_sublist, Nat.le_trans (List.length_filter_le _ _) hn.len⟩
theorem snoc_names {cw : List Str} {h : Str} {n : Nat} (hc : Names cw n) (hh : IsName h) (hm : h ∉ cw) (hl : cw.length < n) : Names (cw ++ [h]) n :=
  ⟨fun x hx => (List.mem_append.mp hx).elim (hc.all x) fun z => by rw [List.mem_singleton.mp z]; exact hh, nd_snoc hc.nd hm, by rw [List.length_append]; exact hl⟩
section
variable {P : Program} {w : World} {K : PySem.W.Frag} {mg : Str → Option Value} {base : Heap}
/-- self.crew_now() -/
theorem crewNow {σ : L2.St} {H : Hp} {ow : Addr → Ro} {x : BA} {B : BS} {y : JA} {ji : Addr} {nm : Str} {Q : PS} {E : XK} {k : VK} (h0 : σ[0]? = some (some (.ref ji))) (j : JAt K x.bd y ji nm Q H) (b : BAt K ow x B H) (ok : JOk B nm Q)
    (hk : ∀ H' p, Same H H' → H' p = some (.lst ((B.cw nm).map V.str)) → k (.ref p) H') : tMeth (cJ K) "crew_now" (spCrewNow K) [] E (tVar 0) tNil σ H k :=
  ⟨_, h0, ji, _, _, rfl, j.ob, jf_no (by decide +kernel), x.bd, y, ji, nm, Q, B.cw nm, rfl, j, .inr ⟨ok.ne, ow, x, B, rfl, b, ok.ok, ok.jn, rfl⟩, hk⟩
/-- self.at_board.crew(self.named, ..) -/
theorem doCrew {σ : L2.St} {H0 H : Hp} {D : Ends} {T : Txt K mg} {ow : Addr → Ro} {x : BA} {B : BS} {y : JA} {ji : Addr} {nm : Str} {Q : PS} {E : XK} {te : TE} {hs : List Str} (h0 : σ[0]? = some (some (.ref ji))) (st : JSt K ow x B y ji nm Q H0 H) (ok : JOk B nm Q)
    (he : ∀ R : VK, (∀ H' a, Same H H' → H' a = some (.lst (hs.map V.str)) → R (.ref a) H') → te σ H R) (hc : Names hs 6) (hne : hs ≠ [])
    (k : ∀ H' x', x'.bd = x.bd → JSt K ow x' (B.crew nm hs) y ji nm Q H0 H' → D.nx σ H') :
    tDrop (tMeth (cB K) "crew" (spBCrew K) [] E (tFld K (tVar 0) "at_board") (tCons (tFld K (tVar 0) "named") (tCons te tNil))) D σ H := by
  refine ⟨_, h0, _, _, _, _, _, rfl, st.j.ob, T.clJ, T.nJ_at_board, jf_bd, _, _, _, rfl, st.b.ob, bf_no (by decide +kernel), _, h0, _, _, _, _, _, rfl, st.j.ob, T.clJ, T.nJ_named, jf_nm, he _ fun H1 a s1 ha => ?_⟩
  have st1 := st.same s1
  exact ⟨ow, x, B, nm, hs, a, rfl, st1.b, ok.ok, ok.ok.jb.all nm ok.jn, SqL.of ha, ty_lst ha, hc, hne, fun z => absurd ok.jn z.1, fun _ H' x' hx kp b' => k H' x' hx (st1.board hx kp b')⟩
def spHand1 (K : PySem.W.Frag) (r : BS → Str → PS → Str → Option Rf) (f : BS → Str → Str → List Str) : Sp := fun vs H Q E => ∃ ow x B y ji nm P h, vs = [.ref ji, .str h] ∧ JAt K x.bd y ji nm P H ∧ BAt K ow x B H ∧ JOk B nm P ∧ IsName h ∧
  (∀ e, r B nm P h = some e → Threw K e H E) ∧ (r B nm P h = none → JEnd K ow x ji nm H Q .non (B.crew nm (f B nm h), P))
abbrev N_J_sign_on : List Str := ["self", "hand", "crew"]
theorem sc_J_sign_on : FnScope N_J_sign_on ["self", "hand"] (defScope sJ_sign_on) := ⟨rfl, rfl, rfl, by decide +kernel, rfl, by decide +kernel, by decide +kernel⟩
theorem ok_J_sign_on (T : Txt K mg) : MFn P w K mg base (L2.CX P w) 6 (cJ K) "sign_on" ["self", "hand"] (spHand1 K onR fun B nm h => B.cw nm ++ [h]) := by
  refine T.m_J_sign_on.ok sc_J_sign_on (fun vs H Q E h => ?_) (fun f cdv A outer s H vs Q E hr h => ?_)
  · obtain ⟨ow, x, B, y, ji, nm, P, h, rfl, _⟩ := h
    rfl
  · obtain ⟨ow, x, B, y, ji, nm, P, h, rfl, j, b, ok, hh, k2, k1⟩ := h
    refine ⟨_, (pss_cons (ps_expr (pe_fn (ok_need T) (hr.mono (by decide)) pass0 (pa_cons pe_int (pa_cons (pe_fn (ok_is_name T) (hr.mono (by decide)) pass0 (pa_cons (pv 1) pa_nil)) pa_nil))))
    (pss_cons (ps_expr (pe_mth (pv 0) T.clJ (ok_J_need_phase T) (hr.mono (by decide)) (passes_call (takes_of rfl rfl rfl rfl) fun _ _ _ _ h => h) (pa_cons (pe_lst (pa_cons pe_str pa_nil)) pa_nil)))
    (pss_cons (ps_set (i := 2) sc_J_sign_on.nd rfl (Or.inl rfl) (pe_mth0 (pv 0) T.clJ (ok_J_crew_now T) (hr.mono (by decide)) pass0))
    (pss_cons (ps_if (pt_cmpR op_in_seq (pv 1) (pv 2) rfl)
      (pss_one (ps_raise rfl (takes_of rfl rfl rfl rfl) (pmk_There T (k := 1) (hr.mono (by decide)) (by exact (pa_cons (pv 1) pa_nil)))))
      pss_nil)
    (pss_cons (ps_if (pt_cmpR op_ge (pe_callB call_len_seq (by rfl) T.b_len (by decide +kernel) (pa_cons (pv 2) pa_nil)) (gl_MOST_HANDS_job T) (nomark _))
      (pss_one (ps_raise rfl (takes_of rfl rfl rfl rfl) (pmk_TooMany T (k := 1) (hr.mono (by decide)) (by exact (pa_cons (gl_MOST_HANDS_job T) pa_nil)))))
      pss_nil)
    (pss_one (ps_expr (pe_mth (pe_fld (pv 0) rfl) T.clB (ok_B_crew T) (hr.mono (by decide)) (passes_call (takes_of rfl rfl rfl rfl) fun _ _ _ _ h => h) (by exact (pa_cons (pe_fld (pv 0) rfl) (pa_cons (pe_op op_cat (pv 2) (pe_lst (pa_cons (pv 1) pa_nil))) pa_nil))))))))))), ?_⟩
    refine wuN rfl hh ?_
    refine needPh rfl (ow := ow) (B := B) j (good := ["given"]) (fun R h => h) (by decide) (fun hp H1 s1 => ?_) (fun hp => k2 _ (if_neg fun z => hp (by rw [z]; exact List.mem_singleton.mpr rfl)))
    have hp := List.mem_singleton.mp hp
    have hcw := (ok.ok.cw nm ok.jn).1
    have hl := hcw.len
    unfold onR at k1 k2
    rw [if_pos hp] at k1 k2
    refine crewNow rfl (j.same s1) (b.same s1) ok fun H2 p s2 hp2 => ?_
    have s12 := s1.trans s2
    refine ⟨_, rfl, _, rfl, p, _, rfl, .inl (SqL.of hp2), rfl, flat_strs' _, _, rfl, ?_⟩
    rw [inV_str]
    refine iteD (fun e => ?_) (fun e => ?_)
    · exact ⟨_, rfl, _, rfl, fun d hd => ((k2 _ (if_pos e)).mono s12).raise rfl rfl (fun _ _ => rfl) d hd⟩
    rw [if_neg e] at k1 k2
    refine ⟨_, rfl, p, _, rfl, .inl (SqL.of hp2), _, _, rfl, rfl, _, rfl, ?_⟩
    rw [List.length_map]
    refine iteD (fun e6 => ?_) (fun e6 => ?_)
    · exact ⟨_, rfl, fun d hd => ((k2 _ (if_pos (by omega))).mono s12).raise rfl rfl (fun _ _ => rfl) d hd⟩
    refine doCrew (T := T) (hs := B.cw nm ++ [h]) rfl ((JSt.init b j).same s12) ok (fun R hR => ?_) (snoc_names hcw hh e (by omega)) (by simp) fun H' x' hx st' => k1 (if_neg (by omega)) H' x' y hx st'
    refine ⟨_, rfl, _, rfl, by show 1 ≤ sizeLine; decide, fun q hq => ⟨p, q, _, _, rfl, rfl, (Same.new hq) _ _ hp2, upd_same, sz_of (by rw [List.length_map]; show _ + 1 ≤ _; omega), fun r hr' => hR _ r ((Same.new hq).trans (Same.new hr')) ?_⟩⟩
    rw [upd_same, List.map_append]
    rfl
abbrev N_J_sign_off : List Str := ["self", "hand", "crew", "one"]
theorem sc_J_sign_off : FnScope N_J_sign_off ["self", "hand"] (defScope sJ_sign_off) := ⟨rfl, rfl, rfl, by decide +kernel, rfl, by decide +kernel, by decide +kernel⟩
theorem ok_J_sign_off (T : Txt K mg) : MFn P w K mg base (L2.CX P w) 6 (cJ K) "sign_off" ["self", "hand"] (spHand1 K offR fun B nm h => (B.cw nm).filter fun a => decide (a ≠ h)) := by
  refine T.m_J_sign_off.ok sc_J_sign_off (fun vs H Q E h => ?_) (fun f cdv A outer s H vs Q E hr h => ?_)
  · obtain ⟨ow, x, B, y, ji, nm, P, h, rfl, _⟩ := h
    rfl
  · obtain ⟨ow, x, B, y, ji, nm, P, h, rfl, j, b, ok, hh, k2, k1⟩ := h
    refine ⟨_, (pss_cons (ps_expr (pe_fn (ok_need T) (hr.mono (by decide)) pass0 (pa_cons pe_int (pa_cons (pe_fn (ok_is_name T) (hr.mono (by decide)) pass0 (pa_cons (pv 1) pa_nil)) pa_nil))))
    (pss_cons (ps_expr (pe_mth (pv 0) T.clJ (ok_J_need_phase T) (hr.mono (by decide)) (passes_call (takes_of rfl rfl rfl rfl) fun _ _ _ _ h => h) (pa_cons (pe_lst (pa_cons pe_str pa_nil)) pa_nil)))
    (pss_cons (ps_set (i := 2) sc_J_sign_off.nd rfl (Or.inl rfl) (pe_mth0 (pv 0) T.clJ (ok_J_crew_now T) (hr.mono (by decide)) pass0))
    (pss_cons (ps_if (pt_cmpR op_notIn_seq (pv 1) (pv 2) rfl)
      (pss_one (ps_raise rfl (takes_of rfl rfl rfl rfl) (pmk_Lacks T (k := 1) (hr.mono (by decide)) (by exact (pa_cons (pv 1) pa_nil)))))
      pss_nil)
    (pss_cons (ps_if (pt_cmpR op_eq (pe_callB call_len_seq (by rfl) T.b_len (by decide +kernel) (pa_cons (pv 2) pa_nil)) pe_int (nomark _))
      (pss_one (ps_raise rfl (takes_of rfl rfl rfl rfl) (pmk_NotNow T (k := 1) (hr.mono (by decide)) (by exact (pa_cons (pe_fld (pv 0) rfl) pa_nil)))))
      pss_nil)
    (pss_one (ps_expr (pe_mth (pe_fld (pv 0) rfl) T.clB (ok_B_crew T) (hr.mono (by decide)) (passes_call (takes_of rfl rfl rfl rfl) fun _ _ _ _ h => h) (by exact (pa_cons (pe_fld (pv 0) rfl) (by exact (pa_cons (pe_lc (own := [("one", 3)]) (by rfl) sc_J_sign_off.nd (pi_list (pv 2)) (blkOk_by (own := [("one", 3)]) (N := N_J_sign_off) (sc := defScope sJ_sign_off) (by decide +kernel)) (fun _ _ _ _ _ => (pg_name (i := 3) sc_J_sign_off.nd rfl (Or.inl rfl))) (fun _ _ _ _ _ => (pts_one (pt_cmpR op_ne (pv 3) (pv 1) (nomark _)))) (fun _ _ _ _ _ => (pv 3))) pa_nil)))))))))))), ?_⟩
    refine wuN rfl hh ?_
    refine needPh rfl (ow := ow) (B := B) j (good := ["given"]) (fun R h => h) (by decide) (fun hp H1 s1 => ?_) (fun hp => k2 _ (if_neg fun z => hp (by rw [z]; exact List.mem_singleton.mpr rfl)))
    have hp := List.mem_singleton.mp hp
    have hcw := (ok.ok.cw nm ok.jn).1
    have hl := hcw.len
    unfold offR at k1 k2
    rw [if_pos hp] at k1 k2
    refine crewNow rfl (j.same s1) (b.same s1) ok fun H2 p s2 hp2 => ?_
    have s12 := s1.trans s2
    have st := (JSt.init b j).same s12
    refine ⟨_, rfl, _, rfl, p, _, rfl, .inl (SqL.of hp2), rfl, flat_strs' _, _, rfl, ?_⟩
    rw [inV_str]
    refine iteNd (fun e => ?_) (fun e => ?_)
    · exact ⟨_, rfl, _, rfl, fun d hd => ((k2 _ (if_pos e)).mono s12).raise rfl rfl (fun _ _ => rfl) d hd⟩
    rw [if_neg fun z => z e] at k1 k2
    refine ⟨_, rfl, p, _, rfl, .inl (SqL.of hp2), rfl, _, rfl, ?_⟩
    rw [List.length_map]
    have one : (V.int ((B.cw nm).length : Int) = V.int 1) ↔ (B.cw nm).length = 1 := ⟨fun z => by have := V.int.inj z; omega, fun z => by rw [z]; rfl⟩
    refine iteD (fun e1 => ?_) (fun e1 => ?_)
    · refine ⟨_, rfl, _, _, _, _, _, rfl, st.j.ob, T.clJ, T.nJ_named, jf_nm, _, rfl, fun d hd => ((k2 _ (if_pos (one.mp e1))).mono s12).raise rfl rfl (fun _ _ => rfl) d hd⟩
    have e1 : ¬ (B.cw nm).length = 1 := fun z => e1 (one.mpr z)
    refine doCrew (T := T) (hs := (B.cw nm).filter fun a => decide (a ≠ h)) rfl st ok (fun R hR => ?_) (filt_names hcw) (filt_ne hcw.nd e e1) fun H' x' hx st' => k1 (if_neg e1) H' x' y hx st'
    refine ⟨_, rfl, p, rfl, ⟨_, SqL.of hp2⟩, fun L hL => ?_⟩
    refine lc_gen walk_list (B.cw nm) (fun a => decide (a ≠ h)) id (Fv V.str) (Fv V.str) (List.length_map _).symm (by rw [List.length_map]; omega) hL (fun H' s => s.seq (SqL.of hp2)) yS Fv.mono ?_ ?_
    · rintro i d v H3 hi s3 rfl nx sk hk hsk
      refine ⟨rfl, ?_⟩
      refine ⟨_, rfl, _, rfl, rfl, _, rfl, ?_⟩
      refine iteNd (fun e => ?_) (fun e => hsk (decide_eq_false fun z => z (V.str.inj e)) H3 (Same.refl _))
      exact ⟨_, rfl, hk (decide_eq_true fun z => e (by rw [z])) _ _ (Same.refl _) rfl⟩
    · intro H3 items s3 hD ht
      rw [List.map_id] at ht
      have e := Fv.eq ht
      subst e
      exact hR H3 L s3 hD
end
end Sm
namespace Sm
open PySem PySem.Spec PyProof.Rows L2
theorem eqV_str {a b : Str} : eqV (V.str a) (V.str b) = decide (a = b) := by
  by_cases h : a = b
  · subst h; simp [eqV]
  · simp [eqV, h]
section
variable {P : Program} {w : World} {K : PySem.W.Frag} {mg : Str → Option Value} {base : Heap}
def spOver (K : PySem.W.Frag) : Sp := fun vs H Q E => ∃ ow x B y ji nm P a c, vs = [.ref ji, .str a, .str c] ∧ JAt K x.bd y ji nm P H ∧ BAt K ow x B H ∧ JOk B nm P ∧ IsName a ∧ IsName c ∧
  (∀ e, overR B nm a c = some e → Threw K e H E) ∧ (overR B nm a c = none → JEnd K ow x ji nm H Q .non (B.crew nm (overL (B.cw nm) a c), P))
abbrev N_J_hand_over : List Str := ["self", "one", "other", "crew", "at"]
theorem sc_J_hand_over : FnScope N_J_hand_over ["self", "one", "other"] (defScope sJ_hand_over) := ⟨rfl, rfl, rfl, by decide +kernel, rfl, by decide +kernel, by decide +kernel⟩
theorem ok_J_hand_over (T : Txt K mg) : MFn P w K mg base (L2.CX P w) 6 (cJ K) "hand_over" ["self", "one", "other"] (spOver K) := by
  refine T.m_J_hand_over.ok sc_J_hand_over (fun vs H Q E h => ?_) (fun f cdv A outer s H vs Q E hr h => ?_)
  · obtain ⟨ow, x, B, y, ji, nm, P, a, c, rfl, _⟩ := h
    rfl
  · obtain ⟨ow, x, B, y, ji, nm, P, a, c, rfl, j, b, ok, ha, hc, k2, k1⟩ := h
    refine ⟨_, (pss_cons (ps_expr (pe_fn (ok_need T) (hr.mono (by decide)) pass0 (pa_cons pe_int (pa_cons (pe_fn (ok_is_name T) (hr.mono (by decide)) pass0 (pa_cons (pv 1) pa_nil)) pa_nil))))
    (pss_cons (ps_expr (pe_fn (ok_need T) (hr.mono (by decide)) pass0 (pa_cons pe_int (pa_cons (pe_fn (ok_is_name T) (hr.mono (by decide)) pass0 (pa_cons (pv 2) pa_nil)) pa_nil))))
    (pss_cons (ps_expr (pe_mth (pv 0) T.clJ (ok_J_need_phase T) (hr.mono (by decide)) (passes_call (takes_of rfl rfl rfl rfl) fun _ _ _ _ h => h) (pa_cons (pe_lst (pa_cons pe_str (pa_cons pe_str (pa_cons pe_str (pa_cons pe_str (pa_cons pe_str pa_nil)))))) pa_nil)))
    (pss_cons (ps_set (i := 3) sc_J_hand_over.nd rfl (Or.inl rfl) (pe_mth0 (pv 0) T.clJ (ok_J_crew_now T) (hr.mono (by decide)) pass0))
    (pss_cons (ps_if (pt_cmpR op_notIn_seq (pv 1) (pv 3) rfl)
      (pss_one (ps_raise rfl (takes_of rfl rfl rfl rfl) (pmk_Lacks T (k := 1) (hr.mono (by decide)) (by exact (pa_cons (pv 1) pa_nil)))))
      pss_nil)
    (pss_cons (ps_if (pt_cmpR op_in_seq (pv 2) (pv 3) rfl)
      (pss_one (ps_raise rfl (takes_of rfl rfl rfl rfl) (pmk_There T (k := 1) (hr.mono (by decide)) (by exact (pa_cons (pv 2) pa_nil)))))
      pss_nil)
    (pss_cons (ps_set (i := 4) sc_J_hand_over.nd rfl (Or.inl rfl) (pe_bm PySem.F.plainAttrs_list PySem.F.slot_list_index PySem.F.type_list_index mt_index (pv 3) (pa_cons (pv 1) pa_nil)))
    (pss_one (ps_expr (pe_mth (pe_fld (pv 0) rfl) T.clB (ok_B_crew T) (hr.mono (by decide)) (passes_call (takes_of rfl rfl rfl rfl) fun _ _ _ _ h => h) (by exact (pa_cons (pe_fld (pv 0) rfl) (by exact (pa_cons (pe_op op_cat (pe_op op_cat (pe_slice sl_list (pv 3) po_none (po_some (pv 4))) (pe_lst (pa_cons (pv 2) pa_nil))) (pe_slice sl_list (pv 3) (po_some (pe_op op_add (pv 4) pe_int)) po_none)) pa_nil)))))))))))))), ?_⟩
    refine wuN rfl ha (wuN rfl hc ?_)
    refine needPh rfl (ow := ow) (B := B) j (good := ["by", "still", "given", "trial", "away"]) (fun R h => h) (by decide) (fun hp H1 s1 => ?_) (fun hp => absurd (by simpa using ok.po.ph) hp)
    have hcw := (ok.ok.cw nm ok.jn).1
    have hl := hcw.len
    unfold overR at k1 k2
    refine crewNow rfl (j.same s1) (b.same s1) ok fun H2 p s2 hp2 => ?_
    have s12 := s1.trans s2
    have st := (JSt.init b j).same s12
    refine ⟨_, rfl, _, rfl, p, _, rfl, .inl (SqL.of hp2), rfl, flat_strs' _, _, rfl, ?_⟩
    rw [inV_str]
    refine iteNd (fun e => ?_) (fun e => ?_)
    · exact ⟨_, rfl, _, rfl, fun d hd => ((k2 _ (if_pos e)).mono s12).raise rfl rfl (fun _ _ => rfl) d hd⟩
    rw [if_neg fun z => z e] at k1 k2
    refine ⟨_, rfl, _, rfl, p, _, rfl, .inl (SqL.of hp2), rfl, flat_strs' _, _, rfl, ?_⟩
    rw [inV_str]
    refine iteD (fun e2 => ?_) (fun e2 => ?_)
    · exact ⟨_, rfl, _, rfl, fun d hd => ((k2 _ (if_pos e2)).mono s12).raise rfl rfl (fun _ _ => rfl) d hd⟩
    rw [if_neg e2] at k1 k2
    obtain ⟨i, hi⟩ := List.getElem?_of_mem e
    have hiV : ((B.cw nm).map V.str)[i]? = some (.str a) := by rw [List.getElem?_map, hi]; rfl
    refine ⟨_, rfl, .inl ⟨rfl, _, SqL.of hp2⟩, _, rfl, p, _, _, i, _, rfl, rfl, SqL.of hp2, rfl, flat_strs' _, hiV, by rw [eqV_str]; exact decide_eq_true rfl, fun m z hm hz => ?_, ?_⟩
    · obtain ⟨d, hd, rfl⟩ := strs_at hz
      rw [eqV_str]
      refine decide_eq_false fun z => ?_
      subst z
      exact absurd (nd_ix hcw.nd hd hi) (by omega)
    refine doCrew (T := T) (hs := overL (B.cw nm) a c) rfl st ok (fun R hR => ?_) (over_names hcw hc e2) (over_ne (ok.ok.cw nm ok.jn).2) fun H' x' hx st' => k1 rfl H' x' y hx st'
    refine ⟨_, rfl, _, rfl, _, rfl, p, _, rfl, SqL.of hp2, fun q1 hq1 => ?_⟩
    rw [cut_hi]
    have hp3 := (Same.new (o := .lst (((B.cw nm).map V.str).take i)) hq1) _ _ hp2
    refine ⟨_, rfl, by show 1 ≤ sizeLine; decide, fun q2 hq2 => ?_⟩
    have s3 := (Same.new (o := .lst (((B.cw nm).map V.str).take i)) hq1).trans (Same.new (o := .lst [.str c]) hq2)
    have hp4 := (Same.new (o := .lst [.str c]) hq2) _ _ hp3
    refine ⟨q1, q2, _, _, rfl, rfl, (Same.new hq2) _ _ upd_same, upd_same, sz_of (by rw [List.length_take, List.length_map]; show _ + 1 ≤ _; omega), fun q3 hq3 => ?_⟩
    have s4 := s3.trans (Same.new (o := .lst (((B.cw nm).map V.str).take i ++ [.str c])) hq3)
    have hp5 := (Same.new (o := .lst (((B.cw nm).map V.str).take i ++ [.str c])) hq3) _ _ hp4
    refine ⟨_, rfl, _, rfl, _, _, rfl, rfl, _, rfl, p, _, rfl, SqL.of hp5, fun q5 hq5 => ?_⟩
    have ec : cutV ((B.cw nm).map V.str) (some ((i : Int) + 1)) none = ((B.cw nm).map V.str).drop (i + 1) := cut_lo _ (i + 1)
    rw [ec]
    have s5 := s4.trans (Same.new (o := .lst (((B.cw nm).map V.str).drop (i + 1))) hq5)
    refine ⟨q3, q5, _, _, rfl, rfl, (Same.new hq5) _ _ upd_same, upd_same, sz_of (by rw [List.length_append, List.length_take, List.length_drop, List.length_map]; show _ + 1 + _ ≤ _; omega), fun q6 hq6 => ?_⟩
    refine hR _ q6 (s5.trans (Same.new hq6)) ?_
    rw [upd_same, ← over_cut hcw.nd hi, List.map_append, List.map_append, List.map_take, List.map_drop]
    rfl
/-! ### Job(..) -/
def spAsk (K : PySem.W.Frag) : Sp := fun vs H Q E => ∃ ow x B ji jd nm h a rooms, vs = [.ref ji, .ref x.bd, .str nm, .str h, .ref a] ∧ H ji = some (.ins (cJ K) jd []) ∧ BAt K ow x B H ∧ BOk B ∧ IsName nm ∧ IsName h ∧ H a = some (.lst (List.map V.str rooms)) ∧ Names rooms 24 ∧ rooms ≠ [] ∧
  (∀ e, askR B nm = some e → Threw K e H E) ∧ (askR B nm = none → JEnd K ow x ji nm H Q .non (B.crew nm [h], ⟨rooms, "by", false, [], []⟩))
abbrev N_J_init : List Str := ["self", "board", "name", "hand", "rooms"]
theorem sc_J_init : FnScope N_J_init ["self", "board", "name", "hand", "rooms"] (defScope sJ_init) := ⟨rfl, rfl, rfl, by decide +kernel, rfl, by decide +kernel, by decide +kernel⟩
theorem ok_J_init (T : Txt K mg) : GMk P w K mg base (L2.CX P w) 6 (cJ K) "Job" ["self", "board", "name", "hand", "rooms"] (spAsk K) := by
  refine T.k_J.ok sc_J_init (fun vs H Q E h => ?_) (fun f cdv A outer s H vs Q E hr h => ?_)
  · obtain ⟨ow, x, B, ji, jd, nm, h, a, rooms, rfl, _⟩ := h
    rfl
  · obtain ⟨ow, x, B, ji, jd, nm, h, a, rooms, rfl, hji, b, ok, hn, hh, ha, hrm, hrne, k2, k1⟩ := h
    refine ⟨_, (pss_cons (ps_expr (pe_fn (ok_need T) (hr.mono (by decide)) pass0 (pa_cons pe_int (pa_cons (pe_callB (C8.call_isC T.iB) (by rfl) T.b_isinstance (by decide +kernel) (pa_cons (pv 1) (pa_cons (gc_Board T) pa_nil))) pa_nil))))
    (pss_cons (ps_expr (pe_fn (ok_need T) (hr.mono (by decide)) pass0 (pa_cons pe_int (pa_cons (pe_fn (ok_is_name T) (hr.mono (by decide)) pass0 (pa_cons (pv 2) pa_nil)) pa_nil))))
    (pss_cons (ps_expr (pe_fn (ok_need T) (hr.mono (by decide)) pass0 (pa_cons pe_int (pa_cons (pe_fn (ok_is_name T) (hr.mono (by decide)) pass0 (pa_cons (pv 3) pa_nil)) pa_nil))))
    (pss_cons (ps_expr (pe_fn (ok_need T) (hr.mono (by decide)) pass0 (pa_cons pe_int (pa_cons (pe_fn (ok_is_stretch T) (hr.mono (by decide)) pass0 (pa_cons (pv 4) pa_nil)) pa_nil))))
    (pss_cons (ps_if (pt_cmpR op_in_seq (pv 2) (pe_mth0 (pv 1) T.clB (ok_B_jobs T) (hr.mono (by decide)) pass0) rfl)
      (pss_one (ps_raise rfl (takes_of rfl rfl rfl rfl) (pmk_There T (k := 1) (hr.mono (by decide)) (by exact (pa_cons (pv 2) pa_nil)))))
      pss_nil)
    (pss_cons (ps_expr (pe_mth (pv 1) T.clB (ok_B_crew T) (hr.mono (by decide)) (passes_call (takes_of rfl rfl rfl rfl) fun _ _ _ _ h => h) (pa_cons (pv 2) (pa_cons (pe_lst (pa_cons (pv 3) pa_nil)) pa_nil))))
    (pss_cons (ps_fld (pv 0) (pv 1) rfl)
    (pss_cons (ps_fld (pv 0) (pv 2) rfl)
    (pss_cons (ps_fld (pv 0) (pe_callTy call_list_of (by rfl) T.b_list (by decide +kernel) (pa_cons (pv 4) pa_nil)) rfl)
    (pss_cons (ps_fld (pv 0) pe_str rfl)
    (pss_cons (ps_fld (pv 0) pe_bl rfl)
    (pss_cons (ps_fld (pv 0) (pe_lst pa_nil) rfl)
    (pss_one (ps_fld (pv 0) (pe_lst pa_nil) rfl)))))))))))))), ?_⟩
    have hjl := ok.jb.len
    refine ⟨_, rfl, _, _, _, rfl, b.ob, 0, rfl, wuN rfl hn (wuN rfl hh ?_)⟩
    refine ⟨_, rfl, a, rooms, rfl, SqL.of ha, ty_lst ha, hrm, hrne, fun H1 s1 => ⟨3, rfl, ?_⟩⟩
    have b1 := b.same s1
    refine ⟨_, rfl, _, rfl, _, _, _, rfl, b1.ob, bf_no (by decide +kernel), ow, x, B, rfl, b1, ok, fun H2 p s2 hp2 => ?_⟩
    refine ⟨p, _, rfl, .inl (SqL.of hp2), rfl, flat_strs' _, _, rfl, ?_⟩
    rw [inV_str, decide_eq_decide.mpr mem_srt]
    have s12 := s1.trans s2
    unfold askR at k1 k2
    refine iteD (fun e => ?_) (fun e => ?_)
    · exact ⟨_, rfl, _, rfl, fun d hd => ((k2 _ (if_pos e)).mono s12).raise rfl rfl (fun _ _ => rfl) d hd⟩
    rw [if_neg e] at k1 k2
    have b2 := b1.same s2
    refine ⟨_, rfl, _, _, _, rfl, b2.ob, bf_no (by decide +kernel), _, rfl, _, rfl, by show 1 ≤ sizeLine; decide, fun q hq => ?_⟩
    have s3 := s12.trans (Same.new (o := .lst [.str h]) hq)
    have b3 := b.same s3
    refine ⟨ow, x, B, nm, [h], q, rfl, b3, ok, hn, SqL.of (xs := [.str h]) upd_same, ty_lst (xs := [.str h]) upd_same, ⟨fun z hz => by rw [List.mem_singleton.mp hz]; exact hh, by simp, (by show 1 ≤ 6; decide)⟩, by simp, fun z => (k2 _ (if_pos z.2)).mono s3, fun hroom H4 x4 hx kp b4 => ?_⟩
    have kk := k1 (if_neg fun z => by rcases hroom with z' | z' <;> first | exact e z' | omega)
    have kp4 : KpX ow Ro.isB ji H H4 := (KpX.same s3).trans (KpX.of kp)
    have o4 : H4 ji = some (.ins (cJ K) jd []) := kp _ _ (s3 _ _ hji) (.inr (by intro _ z; cases z))
    have nbd : ji ≠ x4.bd := by
      rw [hx]
      rintro rfl
      have e := b.ob
      rw [hji] at e
      have e3 := congrArg (fun l => l.lookup ("stand_of" : Str)) (HO.ins.inj (Option.some.inj e)).2.2
      rw [bf_st] at e3
      cases e3
    have nja : a ≠ ji := fun z => by rw [z, hji] at ha; cases ha
    refine ⟨_, rfl, _, rfl, ji, _, jd, _, rfl, o4, T.clJ, T.nJ_at_board, by decide, ?_⟩
    have b5 := b4.ins o4 nbd (u := .ins (cJ K) jd (putF "at_board" (.ref x.bd) []))
    have kp5 := kp4.ins (u := .ins (cJ K) jd (putF "at_board" (.ref x.bd) []))
    refine ⟨_, rfl, _, rfl, ji, _, jd, _, rfl, upd_same, T.clJ, T.nJ_named, by show 1 < 1000; decide, ?_⟩
    have b6 := b5.ins upd_same nbd (u := .ins (cJ K) jd (putF "named" (.str nm) (putF "at_board" (.ref x.bd) [])))
    have kp6 := kp5.ins (u := .ins (cJ K) jd (putF "named" (.str nm) (putF "at_board" (.ref x.bd) [])))
    refine ⟨_, rfl, a, _, rfl, .inl (SqL.of (kp6 _ _ ha nja (.inr (by intro _ z; cases z)))), fun la hla => ?_⟩
    have b7 := b6.same (Same.new (o := .lst (rooms.map V.str)) hla)
    have kp7 := kp6.new (u := .lst (rooms.map V.str)) hla
    have o7 := (Same.new (o := .lst (rooms.map V.str)) hla) ji _ upd_same
    refine ⟨_, rfl, ji, _, jd, _, rfl, o7, T.clJ, T.nJ_about, by show 2 < 1000; decide, ?_⟩
    have b8 := b7.ins o7 nbd (u := .ins (cJ K) jd (putF "about" (.ref la) (putF "named" (.str nm) (putF "at_board" (.ref x.bd) []))))
    have kp8 := kp7.ins (u := .ins (cJ K) jd (putF "about" (.ref la) (putF "named" (.str nm) (putF "at_board" (.ref x.bd) []))))
    have l8 := up_k (u' := .ins (cJ K) jd (putF "about" (.ref la) (putF "named" (.str nm) (putF "at_board" (.ref x.bd) [])))) (upd_same (a := la) (o := HO.lst (rooms.map V.str))) o7 (by intro z; cases z)
    refine ⟨_, rfl, ji, _, jd, _, rfl, upd_same, T.clJ, T.nJ_now, by show 3 < 1000; decide, ?_⟩
    have b9 := b8.ins upd_same nbd (u := .ins (cJ K) jd (putF "now" (.str "by") (putF "about" (.ref la) (putF "named" (.str nm) (putF "at_board" (.ref x.bd) [])))))
    have kp9 := kp8.ins (u := .ins (cJ K) jd (putF "now" (.str "by") (putF "about" (.ref la) (putF "named" (.str nm) (putF "at_board" (.ref x.bd) [])))))
    have l9 := up_k (u' := .ins (cJ K) jd (putF "now" (.str "by") (putF "about" (.ref la) (putF "named" (.str nm) (putF "at_board" (.ref x.bd) []))))) l8 upd_same (by intro z; cases z)
    refine ⟨_, rfl, ji, _, jd, _, rfl, upd_same, T.clJ, T.nJ_ending, by show 4 < 1000; decide, ?_⟩
    have b10 := b9.ins upd_same nbd (u := .ins (cJ K) jd (putF "ending" (.bl false) (putF "now" (.str "by") (putF "about" (.ref la) (putF "named" (.str nm) (putF "at_board" (.ref x.bd) []))))))
    have kp10 := kp9.ins (u := .ins (cJ K) jd (putF "ending" (.bl false) (putF "now" (.str "by") (putF "about" (.ref la) (putF "named" (.str nm) (putF "at_board" (.ref x.bd) []))))))
    have l10 := up_k (u' := .ins (cJ K) jd (putF "ending" (.bl false) (putF "now" (.str "by") (putF "about" (.ref la) (putF "named" (.str nm) (putF "at_board" (.ref x.bd) [])))))) l9 upd_same (by intro z; cases z)
    refine ⟨by show 0 ≤ sizeLine; exact Nat.zero_le _, fun lc hlc => ?_⟩
    have b11 := b10.same (Same.new (o := .lst []) hlc)
    have kp11 := kp10.new (u := .lst []) hlc
    have l11 := (Same.new (o := .lst []) hlc) _ _ l10
    have o11 := (Same.new (o := .lst []) hlc) ji _ upd_same
    refine ⟨_, rfl, ji, _, jd, _, rfl, o11, T.clJ, T.nJ_cutting, by show 5 < 1000; decide, ?_⟩
    have b12 := b11.ins o11 nbd (u := .ins (cJ K) jd (putF "cutting" (.ref lc) (putF "ending" (.bl false) (putF "now" (.str "by") (putF "about" (.ref la) (putF "named" (.str nm) (putF "at_board" (.ref x.bd) [])))))))
    have kp12 := kp11.ins (u := .ins (cJ K) jd (putF "cutting" (.ref lc) (putF "ending" (.bl false) (putF "now" (.str "by") (putF "about" (.ref la) (putF "named" (.str nm) (putF "at_board" (.ref x.bd) [])))))))
    have l12 := up_k (u' := .ins (cJ K) jd (putF "cutting" (.ref lc) (putF "ending" (.bl false) (putF "now" (.str "by") (putF "about" (.ref la) (putF "named" (.str nm) (putF "at_board" (.ref x.bd) []))))))) l11 o11 (by intro z; cases z)
    have m12 := up_k (u' := .ins (cJ K) jd (putF "cutting" (.ref lc) (putF "ending" (.bl false) (putF "now" (.str "by") (putF "about" (.ref la) (putF "named" (.str nm) (putF "at_board" (.ref x.bd) []))))))) (upd_same (a := lc) (o := HO.lst [])) o11 (by intro z; cases z)
    refine ⟨by show 0 ≤ sizeLine; exact Nat.zero_le _, fun le hle => ?_⟩
    have b13 := b12.same (Same.new (o := .lst []) hle)
    have kp13 := kp12.new (u := .lst []) hle
    have l13 := (Same.new (o := .lst []) hle) _ _ l12
    have m13 := (Same.new (o := .lst []) hle) _ _ m12
    have o13 := (Same.new (o := .lst []) hle) ji _ upd_same
    refine ⟨_, rfl, ji, _, jd, _, rfl, o13, T.clJ, T.nJ_emptying, by show 6 < 1000; decide, ?_⟩
    refine kk _ x4 ⟨jd, la, lc, le⟩ hx ⟨kp13.ins, b13.ins o13 nbd, ⟨?_, up_k l13 o13 (by intro z; cases z), up_k m13 o13 (by intro z; cases z), up_k upd_same o13 (by intro z; cases z)⟩⟩
    rw [upd_same, hx]
    rfl
end
end Sm
namespace Sm
open PySem PySem.Spec PyProof.Rows L2
/-! ### xs[i] within xs[i] += e -/
theorem get_list {X : Cx} : PGet X (rIxL X.K) := by
  intro pins s σ H x y v u Q I rx ry h
  obtain ⟨p, xs, i, z, rfl, rfl, hq, he, q⟩ := h
  cases rx
  obtain ⟨t, rfl⟩ := ry
  obtain ⟨its, r, pl, hz⟩ := I.list hq
  obtain ⟨j, h1, h2, h3, h4, h5⟩ := atI_get he
  obtain ⟨w, ew, rw'⟩ := r.get h2
  have hl := r.length
  have hn := line63
  have fin : EP X pins σ Q w s := ⟨z, H, I, rw', q⟩
  by_cases h0 : 0 ≤ i
  · have hj : i.toNat = j := by
      rw [seqIndex_of h0 h5] at h1
      exact Option.some.inj h1
    exact wpAny_getItem_list pl.isList h0 (by omega) (by rw [hj]; simpa using ew) fin
  · have hj : (i + (its.toArray.size : Int)).toNat = j := by
      rw [seqIndex_neg (by omega) h4] at h1
      rw [List.size_toArray, ← hl]
      exact Option.some.inj h1
    exact wpAny_getItem_list_neg pl.isList (by omega) (by rw [List.size_toArray] <;> omega) (by omega) (by rw [hj]; simpa using ew) fin
theorem ixN_nat {n k : Nat} (h : k < n) : ixN n (k : Int) = some k := by
  unfold ixN
  rw [if_pos (by omega), if_pos (by omega)]
  rfl
/-! ### the bag -/
def bagL (s t k : Int) (c : Addr) : List V := [.int s, .int t, .int k, .ref c]
def BagC (H : Hp) (a c : Addr) : Prop := ∃ (s t k : Int) (xs : List Int), H a = some (.lst (bagL s t k c)) ∧ H c = some (.lst (xs.map V.int)) ∧ 0 ≤ s ∧ 0 ≤ k
def Bag (H : Hp) (a : Addr) : Prop := ∃ c, BagC H a c
theorem BagC.eq {H : Hp} {a c c' : Addr} (h : BagC H a c) (h' : BagC H a c') : c = c' := by
  obtain ⟨s, t, k, xs, h1, _⟩ := h
  obtain ⟨s', t', k', xs', g1, _⟩ := h'
  rw [h1] at g1
  have e := congrArg (fun l => l[3]?) (HO.lst.inj (Option.some.inj g1))
  exact V.ref.inj (Option.some.inj e)
theorem bag_ne {xs : List Int} {s t k : Int} {c : Addr} : (bagL s t k c) ≠ xs.map V.int := fun z => by
  have h := congrArg (fun l => l[3]?) z
  have h2 : (xs.map V.int)[3]? = some (.ref c) := h.symm
  rw [List.getElem?_map] at h2
  cases e : xs[3]? with
  | none => rw [e] at h2; cases h2
  | some i => rw [e] at h2; cases Option.some.inj h2
/-- all that stood stands but the bag, which is a bag yet -/
structure Dr (a : Addr) (H H' : Hp) : Prop where
  s : SameX a H H'
  c : ∃ c, BagC H a c ∧ BagC H' a c
section
variable {a : Addr} {H H1 H2 : Hp}
theorem Dr.b (h : Dr a H H1) : Bag H1 a := let ⟨c, _, h2⟩ := h.c; ⟨c, h2⟩
theorem Dr.refl (h : Bag H a) : Dr a H H := ⟨fun _ _ e _ => e, let ⟨c, h⟩ := h; ⟨c, h, h⟩⟩
theorem Dr.trans (h : Dr a H H1) (k : Dr a H1 H2) : Dr a H H2 := ⟨fun b o e n => k.s b o (h.s b o e n) n, by
  obtain ⟨c, h1, h2⟩ := h.c
  obtain ⟨c', g1, g2⟩ := k.c
  cases h2.eq g1
  exact ⟨c, h1, g2⟩⟩
theorem BagC.same {c : Addr} (h : BagC H a c) (s : Same H H1) : BagC H1 a c := by
  obtain ⟨s0, t, k, xs, h1, h2, h3⟩ := h
  exact ⟨s0, t, k, xs, s _ _ h1, s _ _ h2, h3⟩
theorem Bag.same (h : Bag H a) (s : Same H H1) : Bag H1 a := let ⟨c, h⟩ := h; ⟨c, h.same s⟩
theorem Dr.same (h : Dr a H H1) (s : Same H1 H2) : Dr a H H2 := ⟨fun b o e n => s b o (h.s b o e n), let ⟨c, h1, h2⟩ := h.c; ⟨c, h1, h2.same s⟩⟩
theorem Bag.some (h : Bag H a) : ∃ o, H a = some o := by
  obtain ⟨c, s0, t, k, xs, h1, _⟩ := h
  exact ⟨_, h1⟩
theorem Dr.kt (h : Dr a H H1) : KpT H H1 := fun t xs e => by
  refine h.s t _ e fun z => ?_
  obtain ⟨c, ⟨s0, t0, k, ys, h1, _⟩, _⟩ := h.c
  rw [z, h1] at e
  cases e
/-- what is no bag stands -/
theorem Dr.at (h : Dr a H H1) {p : Addr} {o : HO} (e : H p = some o) (n : ∀ s t k c, o ≠ .lst (bagL s t k c)) : H1 p = some o := by
  refine h.s p _ e fun z => ?_
  obtain ⟨c, ⟨s0, t0, k, ys, h1, _⟩, _⟩ := h.c
  rw [z, h1] at e
  exact n _ _ _ _ (Option.some.inj e).symm
theorem nb_strs {l : List Str} : ∀ s t k c, (HO.lst (l.map V.str)) ≠ .lst (bagL s t k c) := fun s t k c z => by
  cases l with
  | nil => cases z
  | cons x r => cases z
theorem nb_dk {kvs : List (Key × V)} : ∀ s t k c, (HO.dK kvs) ≠ .lst (bagL s t k c) := fun s t k c z => by cases z
theorem nb_tup {kvs : List V} : ∀ s t k c, (HO.tup kvs) ≠ .lst (bagL s t k c) := fun s t k c z => by cases z
end
section
variable {P : Program} {w : World} {K : PySem.W.Frag} {mg : Str → Option Value} {base : Heap}
/-- _law_take(bag, n) -/
def spTake : Sp := fun vs H Q _ => ∃ (a : Addr) (n : Int), vs = [.ref a, .int n] ∧ Bag H a ∧ 1 ≤ n ∧ n ≤ 1000 ∧ ∀ (v : Int) H', 0 ≤ v → v < n → Dr a H H' → Q (.int v) H'
abbrev N_l_take : List Str := ["_law_bag_here", "_law_many", "_law_cell", "_law_value", "_law_first", "_law_second"]
theorem sc_l_take : FnScope N_l_take ["_law_bag_here", "_law_many"] (defScope s_ltake) := ⟨rfl, rfl, rfl, by decide +kernel, rfl, by decide +kernel, by decide +kernel⟩
theorem Dr.put {a : Addr} {H H1 : Hp} {s t k : Int} {c : Addr} {xs : List Int} (h : SameX a H H1) (hc : H1 c = some (.lst (xs.map V.int))) (h0 : BagC H a c) (ha : H1 a = some (.lst (bagL s t k c))) {s' t' k' : Int} (h1 : 0 ≤ s') (h2 : 0 ≤ k') : Dr a H (upd H1 a (.lst (bagL s' t' k' c))) :=
  ⟨fun b o e n => by rw [upd_ne n]; exact h b o e n, c, h0, s', t', k', xs, upd_same, by
    rw [upd_ne fun z => by rw [z, ha] at hc; exact bag_ne (HO.lst.inj (Option.some.inj hc))]
    exact hc, h1, h2⟩
theorem ok_l_take (T : Txt K mg) : GFn P w K mg base CX0 1 "_law_take" ["_law_bag_here", "_law_many"] spTake := by
  refine T.f_l_take.ok0 sc_l_take (fun vs H Q E h => ?_) (fun f cdv A outer s H vs Q E hr h => ?_)
  · obtain ⟨a, n, rfl, _⟩ := h
    rfl
  · obtain ⟨a, n, rfl, hb, hn1, hn2, kk⟩ := h
    refine ⟨_, (C8.pss_cut (ps_if (pt_cmpR op_eq (pe_ix ix_list (pv 0) pe_int (fun _ _ => rfl)) pe_int (nomark _))
      (pss_cons (ps_set (i := 2) sc_l_take.nd rfl (Or.inl rfl) pe_int)
    (C8.pss_cut (ps_if (pt_cmpR op_lt (pe_ix ix_list (pv 0) pe_int (fun _ _ => rfl)) (pe_callB call_len_seq (by rfl) T.b_len (by decide +kernel) (pa_cons (pe_ix ix_list (pv 0) pe_int (fun _ _ => rfl)) pa_nil)) (nomark _))
      (pss_one (ps_set (i := 2) sc_l_take.nd rfl (Or.inl rfl) (pe_ix ix_list (pe_ix ix_list (pv 0) pe_int (fun _ _ => rfl)) (pe_ix ix_list (pv 0) pe_int (fun _ _ => rfl)) (fun _ _ => rfl))))
      pss_nil)
    (pss_cons (ps_augS (pv 0) pe_int get_list pe_int ip_add set_list)
    (C8.pss_cut (ps_if (pt_cmpR op_ge (pv 2) pe_int (nomark _))
      (pss_one (ps_asg (pv 2) (pg_sub (pv 0) pe_int set_list)))
      pss_nil)
    (pss_one (ps_asg (pe_op op_mod (pe_op op_add (pe_op op_add (pe_op op_mul (pe_ix ix_list (pv 0) pe_int (fun _ _ => rfl)) pe_int) (pe_op op_mod (pv 2) pe_int)) (pe_op op_mul pe_int (pe_ix ix_list (pv 0) pe_int (fun _ _ => rfl)))) pe_int) (pg_sub (pv 0) pe_int set_list)))))))
      pss_nil)
    (pss_cons (ps_if (pt_cmpR op_gt (pe_ix ix_list (pv 0) pe_int (fun _ _ => rfl)) pe_int (nomark _))
      (pss_cons (ps_set (i := 3) sc_l_take.nd rfl (Or.inl rfl) (pe_op op_mod (pe_ix ix_list (pv 0) pe_int (fun _ _ => rfl)) (pv 1)))
    (pss_cons (ps_asg (pe_op op_fdiv (pe_ix ix_list (pv 0) pe_int (fun _ _ => rfl)) (pv 1)) (pg_sub (pv 0) pe_int set_list))
    (pss_one (ps_ret (pv 3)))))
      pss_nil)
    (pss_cons (ps_set (i := 4) sc_l_take.nd rfl (Or.inl rfl) (pe_op op_mod (pe_op op_mul (pe_op op_add (pe_ix ix_list (pv 0) pe_int (fun _ _ => rfl)) pe_int) pe_int) pe_int))
    (pss_cons (ps_set (i := 5) sc_l_take.nd rfl (Or.inl rfl) (pe_op op_mod (pe_op op_mul (pe_op op_mod (pe_op op_mul (pv 4) (pv 4)) pe_int) pe_int) pe_int))
    (pss_cons (ps_if (pt_cmpR op_gt (pv 1) pe_int (nomark _))
      (pss_one (ps_ret (pe_op op_mod (pe_op op_add (pe_op op_mul (pv 5) pe_int) (pv 4)) (pv 1))))
      pss_nil)
    (pss_one (ps_ret (pe_op op_mod (pe_op op_fdiv (pv 5) pe_int) (pv 1))))))))), ?_⟩
    obtain ⟨c, hbc⟩ := id hb
    obtain ⟨s0, t0, k0, xs, ha, hc, hs, hk⟩ := id hbc
    
    refine ⟨fun σ H1 => ∃ v s1 t1 k1, σ = [some (.ref a), some (.int n), v, none, none, none] ∧ H1 a = some (.lst (bagL s1 t1 k1 c)) ∧ H1 c = some (.lst (xs.map V.int)) ∧ 0 ≤ s1 ∧ 0 ≤ k1 ∧ SameX a H H1, ?_, ?_⟩
    · refine ⟨_, rfl, a, _, 0, .int s0, rfl, rfl, SqL.of ha, at0, rfl, _, rfl, ?_⟩
      refine iteD (fun e => ?_) (fun e => ⟨none, s0, t0, k0, rfl, ha, hc, hs, hk, fun _ _ e _ => e⟩)
      refine ⟨fun σ H1 => ∃ cell : Int, σ = [some (.ref a), some (.int n), some (.int cell), none, none, none] ∧ H1 = H, ?_, ?_⟩
      · refine ⟨_, rfl, a, _, 2, .int k0, rfl, rfl, SqL.of ha, atN _ 2, _, rfl, a, _, 3, .ref c, rfl, rfl, SqL.of ha, atN _ 3, c, _, rfl, .inl (SqL.of hc), _, _, rfl, rfl, _, rfl, ?_⟩
        rw [List.length_map]
        refine iteD (fun e2 => ?_) (fun e2 => ⟨0, rfl, rfl⟩)
        obtain ⟨m, rfl⟩ : ∃ m : Nat, k0 = m := ⟨k0.toNat, by omega⟩
        have hm : m < xs.length := by omega
        refine ⟨_, rfl, a, _, 3, .ref c, rfl, rfl, SqL.of ha, atN _ 3, _, rfl, a, _, 2, .int m, rfl, rfl, SqL.of ha, atN _ 2, c, _, m, .int (xs[m]), rfl, rfl, SqL.of hc, ?_, xs[m], rfl, rfl⟩
        rw [atN, List.getElem?_map, List.getElem?_eq_getElem hm]
        rfl
      · rintro σ H1 ⟨cell, rfl, rfl⟩
        refine ⟨_, rfl, a, _, 2, .int k0, rfl, rfl, SqL.of ha, atN _ 2, k0, 1, rfl, rfl, a, _, 2, 2, rfl, rfl, ha, ixN_nat (k := 2) (by show 2 < 4; decide), ?_⟩
        have hc1 : ∀ {s t k : Int}, (upd H1 a (.lst (bagL s t k c))) c = some (.lst (xs.map V.int)) := fun {s t k} => by
          rw [upd_ne fun z => by rw [z, ha] at hc; exact bag_ne (HO.lst.inj (Option.some.inj hc))]
          exact hc
        refine ⟨fun σ H2 => ∃ s1, σ = [some (.ref a), some (.int n), some (.int cell), none, none, none] ∧ H2 a = some (.lst (bagL s1 t0 (k0 + 1) c)) ∧ H2 c = some (.lst (xs.map V.int)) ∧ 0 ≤ s1 ∧ SameX a H1 H2, ?_, ?_⟩
        · refine ⟨_, rfl, _, _, rfl, rfl, _, rfl, ?_⟩
          have x1 : SameX a H1 (upd H1 a (.lst (bagL s0 t0 (k0 + 1) c))) := fun b o e n => by rw [upd_ne n]; exact e
          refine iteD (fun e3 => ?_) (fun e3 => ⟨s0, rfl, upd_same, hc1, hs, x1⟩)
          refine ⟨_, rfl, _, rfl, a, _, 0, 0, rfl, rfl, upd_same, ixN_nat (k := 0) (by show 0 < 4; decide), ?_⟩
          refine ⟨cell, rfl, upd_same, ?_, by omega, fun b o e n => by rw [upd_ne n]; exact x1 b o e n⟩
          rw [upd_ne fun z => by rw [z, ha] at hc; exact bag_ne (HO.lst.inj (Option.some.inj hc))]
          exact hc1
        · rintro σ H2 ⟨s1, rfl, ha2, hc2, hs2, x2⟩
          refine ⟨_, rfl, a, _, 1, .int t0, rfl, rfl, SqL.of ha2, atN _ 1, t0, 48271, rfl, rfl, .inr ⟨by decide, by decide⟩, _, rfl, cell, 2147483647, rfl, rfl, (by show (0 : Int) < _; decide), _, _, rfl, rfl, _, rfl, a, _, 2, .int (k0 + 1), rfl, rfl, SqL.of ha2, atN _ 2, 7919, k0 + 1, rfl, rfl, .inl ⟨by decide, by decide⟩, _, _, rfl, rfl, _, _, rfl, rfl, (by show (0 : Int) < _; decide), _, rfl, a, _, 1, 1, rfl, rfl, ha2, ixN_nat (k := 1) (by show 1 < 4; decide), ?_⟩
          refine ⟨_, s1, _, k0 + 1, rfl, upd_same, ?_, hs2, by omega, fun b o e n => by rw [upd_ne n]; exact x2 b o e n⟩
          rw [upd_ne fun z => by rw [z, ha] at hc; exact bag_ne (HO.lst.inj (Option.some.inj hc))]
          exact hc2
    · rintro σ H1 ⟨v, s1, t1, k1, rfl, ha1, hc1, hs1, hk1, x1⟩
      refine ⟨_, rfl, a, _, 0, .int s1, rfl, rfl, SqL.of ha1, at0, _, _, rfl, rfl, _, rfl, ?_⟩
      refine iteD (fun e => ?_) (fun e => ?_)
      · refine ⟨_, rfl, a, _, 0, .int s1, rfl, rfl, SqL.of ha1, at0, _, rfl, s1, n, rfl, rfl, by omega, ?_⟩
        refine ⟨_, rfl, a, _, 0, .int s1, rfl, rfl, SqL.of ha1, at0, _, rfl, s1, n, rfl, rfl, ⟨by omega, by omega⟩, _, rfl, a, _, 0, 0, rfl, rfl, ha1, ixN_nat (k := 0) (by show 0 < 4; decide), ?_⟩
        exact ⟨_, rfl, kk _ _ (Int.emod_nonneg _ (by omega)) (Int.emod_lt_of_pos _ (by omega)) (Dr.put x1 hc1 hbc ha1 (Int.ediv_nonneg hs1 (by omega)) hk1)⟩
      · refine ⟨_, rfl, a, _, 1, .int t1, rfl, rfl, SqL.of ha1, atN _ 1, _, _, rfl, rfl, _, _, rfl, rfl, .inr ⟨by decide, by decide⟩, _, _, rfl, rfl, (by show (0 : Int) < _; decide), ?_⟩
        have q1 : 0 ≤ (t1 + 1) * 39373 % 1000000007 := Int.emod_nonneg _ (by decide)
        have q2 : (t1 + 1) * 39373 % 1000000007 < 1000000007 := Int.emod_lt_of_pos _ (by decide)
        refine ⟨_, rfl, _, rfl, _, _, rfl, rfl, .inl ⟨by omega, by omega⟩, _, _, rfl, rfl, (by show (0 : Int) < _; decide), _, _, rfl, rfl, .inr ⟨by decide, by decide⟩, _, _, rfl, rfl, (by show (0 : Int) < _; decide), ?_⟩
        refine ⟨_, rfl, n, _, rfl, rfl, false, congrArg V.bl (decide_eq_false (by omega)), iteF ?_⟩
        refine ⟨_, rfl, _, _, rfl, rfl, ⟨by decide, by decide⟩, _, rfl, _, n, rfl, rfl, by omega, ?_⟩
        exact kk _ _ (Int.emod_nonneg _ (by omega)) (Int.emod_lt_of_pos _ (by omega)) ⟨x1, c, hbc, s1, t1, k1, xs, ha1, hc1, hs1, hk1⟩
end
end Sm
namespace Sm
open PySem PySem.Spec PyProof.Rows L2
theorem sl_listK {X : Cx} (K : PySem.W.Frag) (hK : X.K = K := by rfl) : SlR X (rSlL K) := by
  subst hK
  exact sl_list
/-- a comprehension that draws: its rows, each right by Ok; opt: some may be left out -/
theorem lc_genB {J : It} {n : Nat} {G : Hp → Prop} {Y : Nat → Hp → V → Hp → Prop} (w : Walk J n G Y) {g : TG} {tt : TT} {te : TE} {vs : List Nat} {σ : L2.St} {H0 : Hp} {D : Addr} {Qd : Hp → Prop} {α β : Type} (a : Addr) (l : List α) (opt : Bool) (Ok : α → β → Prop)
    (Ef : Hp → V → α → Prop) (R : Hp → V → β → Prop) (hb : Bag H0 a) (hn : l.length = n) (hlen : n < 1000) (hD : H0 D = none) (hG : ∀ H, Dr a H0 H → G H)
    (hY : ∀ i x H H', i < n → Dr a H0 H → Y i H x H' → ∃ b, l[i]? = some b ∧ Same H H' ∧ Ef H' x b) (hR : ∀ H H' v b, KpT H H' → R H v b → R H' v b)
    (hs : ∀ (i : Nat) b x H', l[i]? = some b → Dr a H0 H' → Ef H' x b → ∀ (nx : V → Hp → Prop) (sk : Hp → Prop), (∀ v H4 c, Ok b c → Dr a H' H4 → R H4 v c → nx v H4) → (opt = true → ∀ H4, Dr a H' H4 → sk H4) →
      g x (wipe σ vs) H' fun σ2 H2 => wipe σ2 vs = wipe σ vs ∧ tt σ2 H2 fun b H3 => if b = true then te σ2 H3 fun y H4 => nx y H4 else sk H3)
    (hd : ∀ H items l' bs, Dr a H0 H → H D = some (.lst items) → l'.Sublist l → (opt = false → l' = l) → Paired Ok l' bs → Paired (R H) items bs → Qd H) :
    ∃ W : Nat → Nat → Hp → Prop, (∃ m, W 0 m (upd H0 D (.lst []))) ∧ ∀ i m H, W i m H →
      (J.stop i H ∧ Qd H) ∨ (J.go i H ∧ ∃ Nx : Hp → Prop, (∀ H', Nx H' → ∃ m', m' < m ∧ W (i + 1) m' H') ∧ ∀ x H', J.yld i H x H' → g x (wipe σ vs) H' fun σ2 H2 => wipe σ2 vs = wipe σ vs ∧ tt σ2 H2 fun b H3 =>
        if b = true then te σ2 H3 fun y H4 => ∃ acc, H4 D = some (.lst acc) ∧ acc.length < sizeLine ∧ Nx (upd H4 D (.lst (acc ++ [y]))) else Nx H3) := by
  have mono : ∀ {H H' : Hp} {vs : List V} {bs : List β}, KpT H H' → Paired (R H) vs bs → Paired (R H') vs bs := by
    intro H H' vs bs k
    induction vs generalizing bs with
    | nil => intro h; cases h; exact .nil
    | cons v r ih => intro h; cases h with | cons a b => exact .cons (hR _ _ _ _ k a) (ih b)
  have nDa : D ≠ a := fun z => by
    obtain ⟨o, h⟩ := hb.some
    rw [← z, hD] at h; cases h
  have put : ∀ {H1 : Hp} {u : HO}, Dr a H0 H1 → Dr a H0 (upd H1 D u) := fun {H1 u} d => by
    refine ⟨fun b o e n => ?_, ?_⟩
    · rw [upd_ne (ne_of_none e hD)]
      exact d.s b o e n
    · obtain ⟨c, h0, s0, t, k, xs, h1, h2, h3⟩ := d.c
      have ncD : c ≠ D := by
        obtain ⟨_, _, _, _, _, g, _⟩ := id h0
        exact ne_of_none g hD
      exact ⟨c, h0, s0, t, k, xs, by rw [upd_ne nDa.symm]; exact h1, by rw [upd_ne ncD]; exact h2, h3⟩
  have keepD : ∀ {H1 H2 : Hp} {o : HO}, Dr a H1 H2 → H1 D = some o → H2 D = some o := fun d h => d.s D _ h nDa
  refine lc_it w (fun i H => i ≤ n ∧ Dr a H0 H ∧ ∃ items l' bs, H D = some (.lst items) ∧ l'.Sublist (l.take i) ∧ (opt = false → l' = l.take i) ∧ Paired Ok l' bs ∧ Paired (R H) items bs) ⟨Nat.zero_le _, put (Dr.refl hb), [], [], [], upd_same, List.nil_sublist _, fun _ => by rw [List.take_zero], .nil, .nil⟩ (fun i H _ h => hG H h.2.1) ?_ ?_
  · rintro i x H H' hi ⟨_, s1, items, l', bs, hDi, hsub, hall, hok, hp⟩ y
    obtain ⟨b, hb', s2, ef⟩ := hY i x H H' hi s1 y
    have hp' := mono (KpT.same s2) hp
    have hD' := s2 _ _ hDi
    have hl1 := Paired.length hp
    have hl2 := Paired.length hok
    have hl3 := hsub.length_le
    have hl4 := List.length_take_le' i l
    have s12 := s1.same s2
    refine hs i b x H' hb' s12 ef _ _ (fun v H4 c hc s4 r => ?_) (fun ho H4 s4 => ?_)
    · have hD4 := keepD s4 hD'
      have kt : KpT H4 (upd H4 D (.lst (items ++ [v]))) := (KpT.same (Same.refl _)).upd hD4 (by intro _ z; cases z)
      refine ⟨items, hD4, sz_lt (by omega), hi, put (s12.trans s4), items ++ [v], l' ++ [b], bs ++ [c], upd_same, ?_, fun ho => ?_, Paired.snoc hc hok, mono kt (Paired.snoc r (mono s4.kt hp'))⟩
      · rw [take_more hb']
        exact hsub.append (List.Sublist.refl _)
      · rw [take_more hb', hall ho]
    · refine ⟨hi, s12.trans s4, items, l', bs, keepD s4 hD', ?_, fun z => (by rw [ho] at z; cases z), hok, mono s4.kt hp'⟩
      rw [take_more hb']
      exact hsub.trans (List.sublist_append_left _ _)
  · rintro H ⟨_, s1, items, l', bs, hDi, hsub, hall, hok, hp⟩
    rw [← hn, List.take_length] at hsub hall
    exact hd H items l' bs s1 hDi hsub hall hok hp
theorem Paired.right {α β : Type} {F : α → β → Prop} {p : β → Prop} (h : ∀ a b, F a b → p b) : ∀ {xs : List α} {ys : List β}, Paired F xs ys → ∀ b ∈ ys, p b
  | _, _, .cons q r, b, hb => by
    rcases List.mem_cons.mp hb with rfl | hb
    · exact h _ _ q
    · exact Paired.right h r b hb
theorem joinL_one : ∀ cs : List Nat, TL.joinL [] (cs.map fun c => [c]) = cs
  | [] => rfl
  | [_] => rfl
  | a :: b :: r => by
    have ih := joinL_one (b :: r)
    rw [List.map_cons] at ih
    rw [List.map_cons, List.map_cons]
    show [a] ++ ([] ++ TL.joinL [] ([b] :: r.map fun c => [c])) = _
    rw [ih]
    rfl
theorem join_one (cs : List Nat) : Txt.join ("" : Str) (cs.map fun c => (⟨#[c]⟩ : Str)) = ⟨cs.toArray⟩ := by
  have h := SX.join_S [] (cs.map fun c => [c])
  rw [joinL_one, List.map_map] at h
  exact h
theorem name_one {c : Nat} (h : c ∈ abc.cps.toList) : IsName (⟨#[c]⟩ : Str) := ⟨by show 1 ≤ 1; decide, by show 1 ≤ 8; decide, fun d hd => by
  have : d = c := by simpa using hd
  rw [this]; exact h⟩
theorem name_cs {cs : List Nat} (h1 : 1 ≤ cs.length) (h2 : cs.length ≤ 8) (h : ∀ c ∈ cs, c ∈ abc.cps.toList) : IsName (⟨cs.toArray⟩ : Str) := ⟨by show 1 ≤ cs.toArray.size; simpa using h1, by show cs.toArray.size ≤ 8; simpa using h2, fun c hc => h c (by simpa using hc)⟩
/-- the words that a name may be -/
def words : List Str := ["open", "shut", "by", "step", "none", "paper", "at", "done", "a", "aa", "ab", "b"]
theorem words_ok : ∀ x ∈ words, IsName x := by
  have h : ∀ x ∈ words, 1 ≤ x.length ∧ x.length ≤ 8 ∧ ∀ c ∈ x.cps.toList, c ∈ abc.cps.toList := by decide +kernel
  exact h
section
variable {P : Program} {w : World} {K : PySem.W.Frag} {mg : Str → Option Value} {base : Heap}
/-- _law_take(bag, n) -/
theorem take_rd {σ : L2.St} {H : Hp} {Q : VK} {E : XK} {a : Addr} {n : Int} {ta : TE} {i : Nat} (hi : σ[i]? = some (some (.ref a))) (hb : Bag H a) (hn : 1 ≤ n) (hn2 : n ≤ 1000) (hta : ∀ R : VK, R (.int n) H → ta σ H R)
    (k : ∀ (v : Int) H', 0 ≤ v → v < n → Dr a H H' → Q (.int v) H') : tCall spTake [] E (tCons (tVar i) (tCons ta tNil)) σ H Q :=
  ⟨_, hi, hta _ ⟨a, n, rfl, hb, hn, hn2, k⟩⟩
/-! ### _law_name -/
def spName : Sp := fun vs H Q _ => ∃ a, vs = [.ref a] ∧ Bag H a ∧ ∀ x H', IsName x → Dr a H H' → Q (.str x) H'
abbrev N_l_name : List Str := ["_law_bag_here", "_law_words", "_law_way", "_law_letters", "_law_k"]
theorem sc_l_name : FnScope N_l_name ["_law_bag_here"] (defScope s_lname) := ⟨rfl, rfl, rfl, by decide +kernel, rfl, by decide +kernel, by decide +kernel⟩
theorem ok_l_name (T : Txt K mg) : GFn P w K mg base CX0 2 "_law_name" ["_law_bag_here"] spName := by
  refine T.f_l_name.ok0 sc_l_name (fun vs H Q E h => ?_) (fun f cdv A outer s H vs Q E hr h => ?_)
  · obtain ⟨a, rfl, _⟩ := h
    rfl
  · obtain ⟨a, rfl, hb, kk⟩ := h
    refine ⟨_, (pss_cons (ps_set (i := 1) sc_l_name.nd rfl (Or.inl rfl) (pe_lst (pa_cons pe_str (pa_cons pe_str (pa_cons pe_str (pa_cons pe_str (pa_cons pe_str (pa_cons pe_str (pa_cons pe_str (pa_cons pe_str (pa_cons pe_str (pa_cons pe_str (pa_cons pe_str (pa_cons pe_str pa_nil))))))))))))))
    (pss_cons (ps_set (i := 2) sc_l_name.nd rfl (Or.inl rfl) (pe_fn (ok_l_take T) (hr.mono (by decide)) pass0 (pa_cons (pv 0) (pa_cons pe_int pa_nil))))
    (pss_cons (ps_if (pt_cmpR op_eq (pv 2) pe_int (nomark _))
      (pss_one (ps_ret (pe_ix ix_list (pv 1) (pe_fn (ok_l_take T) (hr.mono (by decide)) pass0 (pa_cons (pv 0) (pa_cons pe_int pa_nil))) (fun _ _ => rfl))))
      pss_nil)
    (pss_cons (ps_set (i := 3) sc_l_name.nd rfl (Or.inr rfl) pe_str)
    (pss_one (ps_ret (pe_bm PySem.F.plainAttrs_str PySem.F.slot_str_join PySem.F.type_str_join mt_join pe_str (by exact (pa_cons (pe_lc (own := [("_law_k", 4)]) (by rfl) sc_l_name.nd (pi_range1 (by rfl) T.b_range (pa_cons (pe_op op_add pe_int (pe_fn (ok_l_take T) (hr.mono (by decide)) pass0 (pa_cons (pv 0) (pa_cons (pe_ix ix_list (pe_lst (pa_cons pe_int (pa_cons pe_int (pa_cons pe_int pa_nil)))) (pe_op op_sub (pv 2) pe_int) (fun _ _ => rfl)) pa_nil)))) pa_nil)) (blkOk_by (own := [("_law_k", 4)]) (N := N_l_name) (sc := defScope s_lname) (by decide +kernel)) (fun _ _ _ _ _ => (pg_name (i := 4) sc_l_name.nd rfl (Or.inl rfl))) (fun _ _ _ _ _ => pts_nil) (fun _ _ _ _ _ => (pe_ix ix_str (pv 3) (pe_fn (ok_l_take T) (hr.mono (by decide)) pass0 (pa_cons (pv 0) (pa_cons pe_int pa_nil))) (fun _ _ => rfl)))) pa_nil))))))))), ?_⟩
    refine ⟨by show 12 ≤ sizeLine; decide, fun W hW => ?_⟩
    have s1 : Same H (upd H W (.lst (words.map V.str))) := Same.new hW
    have hW1 : (upd H W (.lst (words.map V.str))) W = some (.lst (words.map V.str)) := upd_same
    have b1 := hb.same s1
    refine take_rd (i := 0) rfl b1 (n := 4) (by decide) (by decide) (fun R h => h) fun v H2 v0 v1 d2 => ?_
    have hW2 := d2.at hW1 nb_strs
    have d2' : Dr a H H2 := ⟨fun b o e n => d2.s b o (s1 b o e) n, by
      obtain ⟨c, h⟩ := hb
      obtain ⟨c', g1, g2⟩ := d2.c
      cases (h.same s1).eq g1
      exact ⟨c, h, g2⟩⟩
    refine ⟨_, rfl, rfl, _, rfl, ?_⟩
    refine iteD (fun e => ?_) (fun e => ?_)
    · refine ⟨_, rfl, take_rd (i := 0) rfl d2.b (n := 12) (by decide) (by decide) (fun R h => h) fun u H3 u0 u1 d3 => ?_⟩
      obtain ⟨m, rfl⟩ : ∃ m : Nat, u = m := ⟨u.toNat, by omega⟩
      have hm : m < words.length := by show m < 12; omega
      refine ⟨W, _, m, .str (words[m]), rfl, rfl, SqL.of (d3.at hW2 nb_strs), ?_, kk _ _ (words_ok _ (List.getElem_mem hm)) (d2'.trans d3)⟩
      rw [atN, List.getElem?_map, List.getElem?_eq_getElem hm]
      rfl
    have e : v ≠ 0 := fun z => e (by rw [z])
    obtain ⟨mm, hmm, m1, m8⟩ : ∃ mm : Int, atI [V.int 2, V.int 8, V.int 1] (v - 1) = some (.int mm) ∧ 1 ≤ mm ∧ mm ≤ 8 := by
      have w1 : v = 1 ∨ v = 2 ∨ v = 3 := by omega
      rcases w1 with rfl | rfl | rfl
      · exact ⟨2, atN _ 0, by decide, by decide⟩
      · exact ⟨8, atN _ 1, by decide, by decide⟩
      · exact ⟨1, atN _ 2, by decide, by decide⟩
    refine ⟨rfl, _, rfl, by show 3 ≤ sizeLine; decide, fun q hq => ⟨_, rfl, v, 1, rfl, rfl, q, _, v - 1, .int mm, rfl, rfl, SqL.of upd_same, hmm, a, mm, rfl, d2.b.same (Same.new hq), m1, by omega, fun u H4 u0 u1 d4 => ?_⟩⟩
    have sq : Same H2 (upd H2 q (.lst [.int 2, .int 8, .int 1])) := Same.new hq
    have d4' : Dr a H H4 := (d2'.same sq).trans d4
    refine ⟨1, u, rfl, rfl, 1 + u, rfl, by omega, by omega, fun D hD => ?_⟩
    refine lc_genB walk_range (a := a) (List.range (1 + u).toNat) false (fun (_ : Nat) (c : Nat) => c ∈ abc.cps.toList) (fun _ _ _ => True) (Fv fun c => V.str ⟨#[c]⟩) d4.b (List.length_range) (by omega) hD (fun _ _ => trivial) (fun i x H H' hi _ hy => ⟨i, by rw [List.getElem?_range hi], by rw [hy.1]; exact Same.refl _, trivial⟩) Fv.mono ?_ ?_
    · rintro i b x H5 hi d5 _ nx sk hk _
      refine ⟨rfl, ?_⟩
      refine tyes ?_
      refine ⟨_, rfl, take_rd (i := 0) rfl d5.b (n := 26) (by decide) (by decide) (fun R h => h) fun z H6 z0 z1 d6 => ?_⟩
      obtain ⟨m, rfl⟩ : ∃ m : Nat, z = m := ⟨z.toNat, by omega⟩
      have hm : m < abc.cps.toList.length := by
        have : abc.cps.toList.length = 26 := by decide +kernel
        omega
      refine ⟨abc, m, abc.cps.toList[m], rfl, rfl, by show 26 ≤ sizeLine; decide, by rw [atN, List.getElem?_eq_getElem hm], hk _ _ _ (List.getElem_mem hm) d6 rfl⟩
    · intro H5 items l' cs d5 hD5 _ hall hok hp
      have e := Fv.eq hp
      subst e
      rw [hall rfl] at hok
      have hl := Paired.length hok
      rw [List.length_range] at hl
      have hin : ∀ c ∈ cs, c ∈ abc.cps.toList := Paired.right (p := fun c => c ∈ abc.cps.toList) (fun _ _ h => h) hok
      refine ⟨_, D, cs.map fun c => (⟨#[c]⟩ : Str), rfl, rfl, .inl (SqL.of (by rw [hD5, List.map_map]; rfl)), ?_, ?_⟩
      · have e1 : ∀ cs : List Nat, ((cs.map fun c => (⟨#[c]⟩ : Str)).map (·.length)).sum = cs.length := by
          intro cs
          induction cs with
          | nil => rfl
          | cons c r ih => rw [List.map_cons, List.map_cons, List.sum_cons, ih, List.length_cons]; show 1 + r.length = _; omega
        rw [e1]
        show cs.length + _ * 0 ≤ _
        omega
      · have := kk (⟨cs.toArray⟩ : Str) H5 (name_cs (by omega) (by omega) hin) (d4'.trans d5)
        rw [← join_one] at this
        exact this
end
end Sm
namespace Sm
open PySem PySem.Spec PyProof.Rows L2
theorem Dr.of {a : Addr} {H H1 H2 : Hp} (hb : Bag H a) (s : Same H H1) (d : Dr a H1 H2) : Dr a H H2 := (Dr.refl hb).same s |>.trans d
theorem nb_vals {vs : List V} (h : ∀ i, vs[0]? ≠ some (.int i)) : ∀ s t k c, (HO.lst vs) ≠ .lst (bagL s t k c) := fun s t k c z => h s (by rw [HO.lst.inj z]; rfl)
section
variable {P : Program} {w : World} {K : PySem.W.Frag} {mg : Str → Option Value} {base : Heap}
/-! ### _law_bag -/
def spBag (K : PySem.W.Frag) : Sp := fun vs H Q _ => ∃ p xs, vs = [.ref p] ∧ SqL K H p (List.map V.int xs) ∧ ∀ a H', Same H H' → H a = none → Bag H' a → Q (.ref a) H'
abbrev N_l_bag : List Str := ["_law_script", "_law_cell"]
theorem sc_l_bag : FnScope N_l_bag ["_law_script"] (defScope s_lbag) := ⟨rfl, rfl, rfl, by decide +kernel, rfl, by decide +kernel, by decide +kernel⟩
theorem cutV_int {xs : List Int} {lo hi : Option Int} : ∃ ys : List Int, cutV (xs.map V.int) lo hi = ys.map V.int := by
  unfold cutV
  rw [← List.map_drop, ← List.map_take]
  exact ⟨_, rfl⟩
theorem ints_at {l : List Int} {i : Nat} {y : V} (h : (l.map V.int)[i]? = some y) : ∃ x, l[i]? = some x ∧ y = .int x := by
  rw [List.getElem?_map] at h
  cases e : l[i]? with
  | none => rw [e] at h; cases h
  | some x => rw [e] at h; exact ⟨x, rfl, (Option.some.inj h).symm⟩
theorem ok_l_bag (T : Txt K mg) : GFn P w K mg base CX0 1 "_law_bag" ["_law_script"] (spBag K) := by
  refine T.f_l_bag.ok0 sc_l_bag (fun vs H Q E h => ?_) (fun f cdv A outer s H vs Q E hr h => ?_)
  · obtain ⟨p, xs, rfl, _⟩ := h
    rfl
  · obtain ⟨p, xs, rfl, hp, kk⟩ := h
    refine ⟨_, (pss_one (ps_ret (pe_lst (pa_cons pe_int (pa_cons pe_int (pa_cons pe_int (by exact (pa_cons (pe_lc (own := [("_law_cell", 1)]) (by rfl) sc_l_bag.nd (pi_list (pe_slice sl_list (pv 0) po_none (po_some pe_int))) (blkOk_by (own := [("_law_cell", 1)]) (N := N_l_bag) (sc := defScope s_lbag) (by decide +kernel)) (fun _ _ _ _ _ => (pg_name (i := 1) sc_l_bag.nd rfl (Or.inl rfl))) (fun _ _ _ _ _ => pts_nil) (fun _ _ _ _ _ => (pe_callB call_abs (by rfl) T.b_abs (by decide +kernel) (pa_cons (pv 1) pa_nil)))) pa_nil)))))))), ?_⟩
    refine ⟨_, rfl, _, rfl, p, _, rfl, hp, fun q hq => ?_⟩
    obtain ⟨ys, hys⟩ := cutV_int (xs := xs) (lo := none) (hi := some 63)
    have hyl : ys.length ≤ 63 := by
      have h1 : (ys.map V.int).length = (cutV (xs.map V.int) none (some 63)).length := by rw [hys]
      have h2 : cutV (xs.map V.int) none (some 63) = (xs.map V.int).take 63 := cut_hi _ 63
      rw [h2, List.length_map, List.length_take] at h1
      omega
    rw [hys]
    have sq : Same H (upd H q (.lst (ys.map V.int))) := Same.new hq
    have hqq : (upd H q (.lst (ys.map V.int))) q = some (.lst (ys.map V.int)) := upd_same
    refine ⟨q, rfl, ⟨_, SqL.of hqq⟩, fun D hD => ?_⟩
    refine lc_gen walk_list ys (fun _ => true) (fun i : Int => if i < 0 then -i else i) (Fv V.int) (Fv V.int) (List.length_map _).symm (by rw [List.length_map]; omega) hD (fun H' s => s.seq (SqL.of hqq)) (fun i x H H' hi s hy => by
      obtain ⟨z, hz, rfl⟩ := ints_at hy.2
      exact ⟨z, hz, by rw [hy.1]; exact Same.refl _, rfl⟩) Fv.mono ?_ ?_
    · rintro i d v H1 hi s1 rfl nx sk hk _
      refine ⟨rfl, ?_⟩
      refine tyes ?_
      exact ⟨_, rfl, d, rfl, hk rfl _ _ (Same.refl _) rfl⟩
    · intro H1 items s1 hD1 hp1
      have e := Fv.eq hp1
      subst e
      refine ⟨by show 4 ≤ sizeLine; decide, fun a ha => ?_⟩
      refine kk a _ ((sq.trans s1).trans (Same.new ha)) ((sq.trans s1).free ha) ⟨D, 0, 1234567891, 0, _, upd_same, (Same.new ha) _ _ hD1, by decide, by decide⟩
/-! ### _law_names -/
def spLNames : Sp := fun vs H Q _ => ∃ (a : Addr) (n : Int), vs = [.ref a, .int n] ∧ Bag H a ∧ 1 ≤ n ∧ n ≤ 24 ∧ ∀ p l H', Dr a H H' → H' p = some (.lst (List.map V.str l)) → Names l 24 → l ≠ [] → Q (.ref p) H'
abbrev N_l_names : List Str := ["_law_bag_here", "_law_many", "_law_drawn", "_law_found", "_law_k", "_law_name_here", "_law_sign"]
theorem sc_l_names : FnScope N_l_names ["_law_bag_here", "_law_many"] (defScope s_lnames) := ⟨rfl, rfl, rfl, by decide +kernel, rfl, by decide +kernel, by decide +kernel⟩
theorem abc_nd : abc.cps.toList.Nodup := by decide +kernel
def sg (c : Nat) : Str := ⟨#[c]⟩
theorem sg_inj {a b : Nat} (h : sg a = sg b) : a = b := by
  have := congrArg (fun x : Str => x.cps.toList) h
  simpa [sg] using this
theorem signs_nd {l : List Nat} (h : l.Nodup) : (l.map sg).Nodup := by
  induction l with
  | nil => exact List.nodup_nil
  | cons a r ih =>
    obtain ⟨h1, h2⟩ := List.nodup_cons.mp h
    rw [List.map_cons]
    refine List.nodup_cons.mpr ⟨fun hm => ?_, ih h2⟩
    obtain ⟨b, hb, e⟩ := List.mem_map.mp hm
    rw [sg_inj e] at hb
    exact h1 hb
/-- found and the letters beside -/
theorem names_end {fnd : List Str} (h1 : fnd.Nodup) (h2 : ∀ x ∈ fnd, IsName x) {n : Nat} (hn1 : 1 ≤ n) (hn : n ≤ 24) :
    Names ((fnd ++ (abc.cps.toList.filter fun c => decide (sg c ∉ fnd)).map sg).take n) 24 ∧ (fnd ++ (abc.cps.toList.filter fun c => decide (sg c ∉ fnd)).map sg).take n ≠ [] := by
  have hall : ∀ x ∈ fnd ++ (abc.cps.toList.filter fun c => decide (sg c ∉ fnd)).map sg, IsName x := fun x hx => by
    rcases List.mem_append.mp hx with hx | hx
    · exact h2 x hx
    · obtain ⟨c, hc, rfl⟩ := List.mem_map.mp hx
      exact name_one (List.mem_filter.mp hc).1
  have hnd : (fnd ++ (abc.cps.toList.filter fun c => decide (sg c ∉ fnd)).map sg).Nodup := by
    refine List.nodup_append.mpr ⟨h1, signs_nd (abc_nd.sublist List.filter_sublist), fun x hx y hy e => ?_⟩
    subst e
    obtain ⟨c, hc, rfl⟩ := List.mem_map.mp hy
    exact of_decide_eq_true (List.mem_filter.mp hc).2 hx
  refine ⟨⟨fun x hx => hall x (List.mem_of_mem_take hx), hnd.sublist (List.take_sublist _ _), ?_⟩, fun z => ?_⟩
  · rw [List.length_take]; omega
  · have z := congrArg List.length z
    rw [List.length_take, List.length_nil] at z
    have h3 : (fnd ++ (abc.cps.toList.filter fun c => decide (sg c ∉ fnd)).map sg).length = 0 := by omega
    have h4 := List.length_eq_zero_iff.mp h3
    obtain ⟨e1, e2⟩ := List.append_eq_nil_iff.mp h4
    rw [e1] at e2
    exact absurd e2 (by decide +kernel)
theorem ok_l_names (T : Txt K mg) : GFn P w K mg base CX0 3 "_law_names" ["_law_bag_here", "_law_many"] spLNames := by
  refine T.f_l_names.ok0 sc_l_names (fun vs H Q E h => ?_) (fun f cdv A outer s H vs Q E hr h => ?_)
  · obtain ⟨a, n, rfl, _⟩ := h
    rfl
  · obtain ⟨a, n, rfl, hb, n1, n2, kk⟩ := h
    refine ⟨_, (pss_cons (ps_set (i := 2) sc_l_names.nd rfl (Or.inr rfl) (pe_lc (own := [("_law_k", 4)]) (by rfl) sc_l_names.nd (pi_range1 (by rfl) T.b_range (pa_cons (pv 1) pa_nil)) (blkOk_by (own := [("_law_k", 4)]) (N := N_l_names) (sc := defScope s_lnames) (by decide +kernel)) (fun _ _ _ _ _ => (pg_name (i := 4) sc_l_names.nd rfl (Or.inl rfl))) (fun _ _ _ _ _ => pts_nil) (fun _ _ _ _ _ => (pe_fn (ok_l_name T) (hr.mono (by decide)) pass0 (pa_cons (pv 0) pa_nil)))))
    (pss_cons (ps_set (i := 3) sc_l_names.nd rfl (Or.inr rfl) (pe_lc (own := [("_law_k", 4), ("_law_name_here", 5)]) (g := gTup K 2 (gCons (gName 4) (gCons (gName 5) gNil))) (by rfl) sc_l_names.nd (pi_enum (by rfl) T.b_enumerate (pa_cons (pv 2) pa_nil)) (blkOk_by (own := [("_law_k", 4), ("_law_name_here", 5)]) (N := N_l_names) (sc := defScope s_lnames) (by decide +kernel)) (fun _ _ _ _ _ => (pg_tup (by rfl) (pgs_cons (pg_name (i := 4) sc_l_names.nd rfl (Or.inl rfl)) (pgs_cons (pg_name (i := 5) sc_l_names.nd rfl (Or.inl rfl)) pgs_nil)))) (fun _ _ _ _ _ => (pts_one (pt_cmpR (op_notIn_seqK K) (pv 5) (pe_slice (sl_listK K) (pv 2) po_none (po_some (pv 4))) rfl))) (fun _ _ _ _ _ => (pv 5))))
    (pss_one (ps_ret (pe_slice sl_list (pe_op op_cat (pv 3) (pe_lc (own := [("_law_sign", 6)]) (by rfl) sc_l_names.nd (pi_str pe_str) (blkOk_by (own := [("_law_sign", 6)]) (N := N_l_names) (sc := defScope s_lnames) (by decide +kernel)) (fun _ _ _ _ _ => (pg_name (i := 6) sc_l_names.nd rfl (Or.inl rfl))) (fun _ _ _ _ _ => (pts_one (pt_cmpR (op_notIn_seqK K) (pv 6) (pv 3) rfl))) (fun _ _ _ _ _ => (pv 6)))) po_none (po_some (pv 1))))))), ?_⟩
    refine ⟨_, rfl, n, rfl, by omega, by omega, fun D hD => ?_⟩
    refine lc_genB walk_range (a := a) (List.range n.toNat) false (fun (_ : Nat) x => IsName x) (fun _ _ _ => True) (Fv V.str) hb List.length_range (by omega) hD (fun _ _ => trivial) (fun i x H H' hi _ hy => ⟨i, by rw [List.getElem?_range hi], by rw [hy.1]; exact Same.refl _, trivial⟩) Fv.mono ?_ ?_
    · rintro i b x H5 hi d5 _ nx sk hk _
      refine ⟨rfl, ?_⟩
      refine tyes ?_
      exact ⟨_, rfl, a, rfl, d5.b, fun x H6 hx d6 => hk _ _ x hx d6 rfl⟩
    intro H1 items l' drawn d1 hD1 _ hall hok hp
    have e := Fv.eq hp
    subst e
    rw [hall rfl] at hok
    have hin : ∀ x ∈ drawn, IsName x := Paired.right (p := IsName) (fun _ _ h => h) hok
    have hl := Paired.length hok
    rw [List.length_range] at hl
    refine ⟨_, rfl, D, _, rfl, SqL.of hD1, fun L hL => ?_⟩
    refine lc_it walk_enum (fun i H' => Same H1 H' ∧ ∃ acc : List Str, H' L = some (.lst (acc.map V.str)) ∧ acc.Nodup ∧ acc.length ≤ i ∧ ∀ x, x ∈ acc ↔ x ∈ drawn.take i) ⟨Same.new hL, [], upd_same, List.nodup_nil, Nat.le_refl _, fun x => by simp⟩ (fun i H' _ h => h.1.seq (SqL.of hD1)) ?_ ?_
    · rintro i y H2 H3 hi ⟨s2, acc, hL2, an, al, am⟩ ⟨t, u, v, rfl, ht, rfl, hu, hv⟩
      cases Option.some.inj hu
      obtain ⟨x, hx, rfl⟩ := strs_at hv
      have s3 := s2.trans (Same.new (o := .tup [.int (i : Nat), .str x]) ht)
      have hLt : L ≠ t := ne_of_none hL2 ht
      refine ⟨t, _, rfl, SqT.of upd_same, rfl, _, _, rfl, _, _, rfl, rfl, rfl, ?_⟩
      refine ⟨_, rfl, _, rfl, _, rfl, _, rfl, D, _, rfl, SqL.of (s3 _ _ hD1), fun q hq => ?_⟩
      rw [cut_hi, ← List.map_take]
      have s4 := s3.trans (Same.new (o := .lst ((drawn.take i).map V.str)) hq)
      have hL4 : (upd (upd H2 t (.tup [.int (i : Nat), .str x])) q (.lst ((drawn.take i).map V.str))) L = some (.lst (acc.map V.str)) := (Same.new hq) _ _ (by rw [upd_ne hLt]; exact hL2)
      refine ⟨q, _, rfl, .inl (SqL.of upd_same), rfl, flat_strs' _, _, rfl, ?_⟩
      rw [inV_str]
      have hi' : i < drawn.length := by rw [List.length_map] at hi; exact hi
      refine iteNd (fun e => ?_) (fun e => ?_)
      · refine ⟨_, rfl, _, hL4, sz_lt (by rw [List.length_map]; omega), Same.mut s4 hL, acc ++ [x], by rw [upd_same, List.map_append]; rfl, nd_snoc an fun z => e ((am x).mp z), by rw [List.length_append]; show acc.length + 1 ≤ i + 1; omega, fun z => ?_⟩
        rw [take_more hx, List.mem_append, List.mem_append, am z]
      · refine ⟨s4, acc, hL4, an, by omega, fun z => ?_⟩
        rw [take_more hx, List.mem_append, List.mem_singleton, am z]
        exact ⟨.inl, fun h => h.elim id fun h => by rw [h]; exact e⟩
    · rintro H2 ⟨s2, fnd, hL2, fn, fl, fm⟩
      rw [List.length_map] at fl
      have fin : ∀ x ∈ fnd, IsName x := fun x hx => hin x (List.mem_of_mem_take ((fm x).mp hx))
      have dL : Dr a H H2 := d1.same s2
      refine ⟨_, rfl, _, rfl, fun M hM => ?_⟩
      refine lc_gen walk_str abc.cps.toList (fun c => decide (sg c ∉ fnd)) sg (Fv fun c => V.str (sg c)) (Fv V.str) (Array.length_toList (xs := abc.cps)) (by show 26 < 1000; decide) hM (fun _ _ => trivial) (fun i x H H' hi s hy => by
        obtain ⟨c, hc, e⟩ := hy.2
        exact ⟨c, (Array.getElem?_toList (xs := abc.cps)).trans hc, by rw [hy.1]; exact Same.refl _, e⟩) Fv.mono ?_ ?_
      · rintro i c v H3 hi s3 rfl nx sk hk hsk
        refine ⟨rfl, ?_⟩
        refine ⟨_, rfl, _, rfl, L, _, rfl, .inl (SqL.of (s3 _ _ hL2)), rfl, flat_strs' _, _, rfl, ?_⟩
        rw [inV_str]
        refine iteNd (fun e => ⟨_, rfl, hk (decide_eq_true e) _ _ (Same.refl _) rfl⟩) (fun e => hsk (decide_eq_false fun z => z e) _ (Same.refl _))
      · intro H3 items s3 hM3 hp3
        have e := Fv.eq hp3
        subst e
        have hL3 := s3 _ _ hL2
        have hfl : (abc.cps.toList.filter fun c => decide (sg c ∉ fnd)).length ≤ 26 := Nat.le_trans (List.length_filter_le _ _) (by decide +kernel)
        refine ⟨L, M, _, _, rfl, rfl, hL3, hM3, sz_of (by rw [List.length_map, List.length_map, List.length_map]; omega), fun p hp' => ?_⟩
        obtain ⟨m, rfl⟩ : ∃ m : Nat, n = m := ⟨n.toNat, by omega⟩
        rw [← List.map_append]
        refine ⟨_, rfl, _, rfl, p, _, rfl, SqL.of upd_same, fun r hr' => ?_⟩
        rw [cut_hi, ← List.map_take]
        obtain ⟨g1, g2⟩ := names_end fn fin (n := m) (by omega) (by omega)
        exact kk r _ _ (dL.same ((s3.trans (Same.new hp')).trans (Same.new hr'))) upd_same g1 g2
/-! ### _law_one -/
def spOne : Sp := fun vs H Q _ => ∃ (a p : Addr) (xs : List V), vs = [.ref a, .ref p] ∧ Bag H a ∧ H p = some (.lst xs) ∧ (∀ i, xs[0]? ≠ some (.int i)) ∧ xs ≠ [] ∧ xs.length ≤ 1000 ∧ ∀ x H', x ∈ xs → Dr a H H' → Q x H'
abbrev N_l_one : List Str := ["_law_bag_here", "_law_some_here"]
theorem sc_l_one : FnScope N_l_one ["_law_bag_here", "_law_some_here"] (defScope s_lone) := ⟨rfl, rfl, rfl, by decide +kernel, rfl, by decide +kernel, by decide +kernel⟩
theorem ok_l_one (T : Txt K mg) : GFn P w K mg base CX0 2 "_law_one" ["_law_bag_here", "_law_some_here"] spOne := by
  refine T.f_l_one.ok0 sc_l_one (fun vs H Q E h => ?_) (fun f cdv A outer s H vs Q E hr h => ?_)
  · obtain ⟨a, p, xs, rfl, _⟩ := h
    rfl
  · obtain ⟨a, p, xs, rfl, hb, hp, hi, hne, hl, kk⟩ := h
    refine ⟨_, (pss_one (ps_ret (pe_ix ix_list (pv 1) (pe_fn (ok_l_take T) (hr.mono (by decide)) pass0 (pa_cons (pv 0) (pa_cons (pe_callB call_len_seq (by rfl) T.b_len (by decide +kernel) (pa_cons (pv 1) pa_nil)) pa_nil))) (fun _ _ => rfl)))), ?_⟩
    have h1 : 1 ≤ xs.length := List.length_pos_iff.mpr hne
    refine ⟨_, rfl, _, rfl, _, rfl, p, _, rfl, .inl (SqL.of hp), a, _, rfl, hb, by omega, by omega, fun v H1 v0 v1 d1 => ?_⟩
    obtain ⟨m, rfl⟩ : ∃ m : Nat, v = m := ⟨v.toNat, by omega⟩
    have hm : m < xs.length := by omega
    exact ⟨p, _, m, xs[m], rfl, rfl, SqL.of (d1.at hp (nb_vals hi)), by rw [atN, List.getElem?_eq_getElem hm], kk _ H1 (List.getElem_mem hm) d1⟩
end
end Sm
namespace Sm
open PySem PySem.Spec PyProof.Rows L2
section
variable {P : Program} {w : World} {K : PySem.W.Frag} {mg : Str → Option Value} {base : Heap}
/-! ### _law_some -/
def spSome : Sp := fun vs H Q _ => ∃ (a p : Addr) (l : List Str), vs = [.ref a, .ref p] ∧ Bag H a ∧ H p = some (.lst (l.map V.str)) ∧ l.Nodup ∧ l.length ≤ 24 ∧
  ∀ q l' H', Dr a H H' → H' q = some (.lst (List.map V.str l')) → l'.Nodup → (∀ x ∈ l', x ∈ l) → Q (.ref q) H'
abbrev N_l_some : List Str := ["_law_bag_here", "_law_some_here", "_law_share", "_law_found", "_law_turn", "_law_one_here"]
theorem sc_l_some : FnScope N_l_some ["_law_bag_here", "_law_some_here"] (defScope s_lsome) := ⟨rfl, rfl, rfl, by decide +kernel, rfl, by decide +kernel, by decide +kernel⟩
theorem turn_nd {l : List Str} (h : l.Nodup) (n : Nat) : (l.drop n ++ l.take n).Nodup := by
  have p : (l.drop n ++ l.take n).Perm l := by
    refine List.perm_append_comm.trans ?_
    rw [List.take_append_drop]
  exact p.nodup_iff.mpr h
theorem paired_eq {α : Type} : ∀ {xs ys : List α}, Paired (fun a b => b = a) xs ys → ys = xs
  | _, _, .nil => rfl
  | _, _, .cons h r => by rw [h, paired_eq r]
theorem ok_l_some (T : Txt K mg) : GFn P w K mg base CX0 2 "_law_some" ["_law_bag_here", "_law_some_here"] spSome := by
  refine T.f_l_some.ok0 sc_l_some (fun vs H Q E h => ?_) (fun f cdv A outer s H vs Q E hr h => ?_)
  · obtain ⟨a, p, l, rfl, _⟩ := h
    rfl
  · obtain ⟨a, p, l, rfl, hb, hp, hn, hl, kk⟩ := h
    refine ⟨_, (pss_cons (ps_set (i := 2) sc_l_some.nd rfl (Or.inr rfl) (pe_ix ix_list (pe_lst (pa_cons pe_int (pa_cons pe_int (pa_cons pe_int (pa_cons pe_int pa_nil))))) (pe_fn (ok_l_take T) (hr.mono (by decide)) pass0 (pa_cons (pv 0) (pa_cons pe_int pa_nil))) (fun _ _ => rfl)))
    (pss_cons (ps_setLc (i := 3) (own := [("_law_one_here", 5)]) (by rfl) sc_l_some.nd rfl rfl (sw_true rfl rfl rfl (by decide +kernel)) (pi_list (pv 1)) (blkOk_by (own := [("_law_one_here", 5)]) (N := N_l_some) (sc := defScope s_lsome) (by decide +kernel)) (fun _ _ _ _ _ => (pg_name (i := 5) sc_l_some.nd rfl (Or.inl rfl))) (fun _ _ _ _ _ => (pts_one (pt_cmpR op_eq (pe_fn (ok_l_take T) (hr.mono (by decide)) pass0 (pa_cons (pv 0) (pa_cons (pv 2) pa_nil))) pe_int (nomark _)))) (fun _ _ _ _ _ => (pv 5)))
    (pss_cons (ps_set (i := 4) sc_l_some.nd rfl (Or.inl rfl) (pe_fn (ok_l_take T) (hr.mono (by decide)) pass0 (pa_cons (pv 0) (pa_cons (pe_op op_add (pe_callB call_len_seq (by rfl) T.b_len (by decide +kernel) (pa_cons (pv 3) pa_nil)) pe_int) pa_nil))))
    (pss_one (ps_ret (pe_op op_cat (pe_slice sl_list (pv 3) (po_some (pv 4)) po_none) (pe_slice sl_list (pv 3) po_none (po_some (pv 4))))))))), ?_⟩
    refine ⟨by show 4 ≤ sizeLine; decide, fun q0 hq0 => ?_⟩
    have s0 : Same H (upd H q0 (.lst [.int 1, .int 2, .int 3, .int 5])) := Same.new hq0
    have hq0' : (upd H q0 (.lst [.int 1, .int 2, .int 3, .int 5])) q0 = some (.lst [.int 1, .int 2, .int 3, .int 5]) := upd_same
    refine take_rd (i := 0) rfl (hb.same s0) (n := 4) (by decide) (by decide) (fun R h => h) fun v H1 v0 v1 d1 => ?_
    obtain ⟨sh, hsh, sh1, sh2⟩ : ∃ sh : Int, atI [V.int 1, V.int 2, V.int 3, V.int 5] v = some (.int sh) ∧ 1 ≤ sh ∧ sh ≤ 5 := by
      have w1 : v = 0 ∨ v = 1 ∨ v = 2 ∨ v = 3 := by omega
      rcases w1 with rfl | rfl | rfl | rfl
      · exact ⟨1, atN _ 0, by decide, by decide⟩
      · exact ⟨2, atN _ 1, by decide, by decide⟩
      · exact ⟨3, atN _ 2, by decide, by decide⟩
      · exact ⟨5, atN _ 3, by decide, by decide⟩
    have hq1 : H1 q0 = some (.lst [.int 1, .int 2, .int 3, .int 5]) := d1.at hq0' fun s t k c z => by
      have := congrArg (fun l => l[3]?) (HO.lst.inj z)
      cases Option.some.inj this
    have d1' := Dr.of hb s0 d1
    have hp1 := d1'.at hp nb_strs
    refine ⟨q0, _, v, .int sh, rfl, rfl, SqL.of hq1, hsh, ?_⟩
    refine ⟨_, rfl, p, rfl, ⟨_, SqL.of hp1⟩, fun D hD => ?_⟩
    refine lc_genB walk_list (a := a) l true (fun x y => y = x) (Fv V.str) (Fv V.str) d1.b (List.length_map _).symm (by rw [List.length_map]; omega) hD (fun H' d => SqL.of (d.at hp1 nb_strs)) (fun i x H H' hi d hy => by
      obtain ⟨z, hz, rfl⟩ := strs_at hy.2
      exact ⟨z, hz, by rw [hy.1]; exact Same.refl _, rfl⟩) Fv.mono ?_ ?_
    · rintro i b x H5 hi d5 rfl nx sk hk hsk
      refine ⟨rfl, ?_⟩
      refine take_rd (i := 0) rfl d5.b sh1 (by omega) (fun R h => ⟨_, rfl, h⟩) fun u H6 u0 u1 d6 => ?_
      refine ⟨rfl, _, rfl, ?_⟩
      exact iteD (fun e => ⟨_, rfl, hk _ _ b rfl d6 rfl⟩) (fun e => hsk rfl _ d6)
    intro H2 items l' bs d2 hD2 hsub _ hok hp2
    have e := Fv.eq hp2
    subst e
    cases paired_eq hok
    have hl' := hsub.length_le
    have d2' := d1'.trans d2
    refine ⟨_, rfl, _, rfl, D, _, rfl, .inl (SqL.of hD2), _, _, rfl, rfl, a, _, rfl, d2.b, ?_, ?_, fun t H3 t0 t1 d3 => ?_⟩
    · rw [List.length_map]; omega
    · rw [List.length_map]; omega
    obtain ⟨m, rfl⟩ : ∃ m : Nat, t = m := ⟨t.toNat, by omega⟩
    have hD3 := d3.at hD2 nb_strs
    refine ⟨_, rfl, _, rfl, _, rfl, D, _, rfl, SqL.of hD3, fun q1 hq1 => ?_⟩
    rw [cut_lo, ← List.map_drop]
    have hD4 := (Same.new (o := .lst ((l'.drop m).map V.str)) hq1) _ _ hD3
    refine ⟨_, rfl, _, rfl, _, rfl, D, _, rfl, SqL.of hD4, fun q2 hq2 => ?_⟩
    rw [cut_hi, ← List.map_take]
    refine ⟨q1, q2, _, _, rfl, rfl, (Same.new hq2) _ _ upd_same, upd_same, sz_of (by rw [List.length_map, List.length_map, List.length_drop, List.length_take]; omega), fun q3 hq3 => ?_⟩
    rw [← List.map_append]
    refine kk q3 (l'.drop m ++ l'.take m) _ ((d2'.trans d3).same (((Same.new hq1).trans (Same.new hq2)).trans (Same.new hq3))) upd_same (turn_nd (hn.sublist hsub) m) fun x hx => ?_
    rcases List.mem_append.mp hx with hx | hx
    · exact hsub.subset (List.mem_of_mem_drop hx)
    · exact hsub.subset (List.mem_of_mem_take hx)
/-! ### _law_world -/
/-- the world dict -/
def wK (d j h : Addr) (m : Bool) : List (Key × V) := [(Sum.inr "devices", .ref d), (Sum.inr "jobs", .ref j), (Sum.inr "hands", .ref h), (Sum.inr "mixed", .bl m)]
theorem wK_merge {d j h : Addr} {m : Bool} : mergeK [] (wK d j h m) = wK d j h m := by rfl
theorem Dr.free {a p : Addr} {H H1 : Hp} (d : Dr a H H1) (h : H1 p = none) : H p = none := by
  cases e : H p with
  | none => rfl
  | some o =>
    by_cases n : p = a
    · subst n
      obtain ⟨o, h'⟩ := d.b.some
      rw [h] at h'; cases h'
    · rw [d.s p o e n] at h; cases h
structure Wd where
  (w d j h : Addr)
  m : Bool
  (dv jb hd : List Str)
structure WAt (W : Wd) (H : Hp) : Prop where
  w : H W.w = some (.dK (wK W.d W.j W.h W.m))
  d : H W.d = some (.lst (W.dv.map V.str))
  j : H W.j = some (.lst (W.jb.map V.str))
  h : H W.h = some (.lst (W.hd.map V.str))
structure WOkk (W : Wd) : Prop where
  d : Names W.dv 24 ∧ W.dv ≠ []
  j : Names W.jb 24 ∧ W.jb ≠ []
  h : Names W.hd 24 ∧ W.hd ≠ []
def spWorld : Sp := fun vs H Q _ => ∃ a : Addr, vs = [.ref a] ∧ Bag H a ∧ ∀ W H', Dr a H H' → H W.w = none → WAt W H' → WOkk W → Q (.ref W.w) H'
abbrev N_l_world : List Str := ["_law_bag_here", "_law_many", "_law_devices", "_law_jobs", "_law_hands_here"]
theorem sc_l_world : FnScope N_l_world ["_law_bag_here"] (defScope s_lworld) := ⟨rfl, rfl, rfl, by decide +kernel, rfl, by decide +kernel, by decide +kernel⟩
theorem ok_l_world (T : Txt K mg) : GFn P w K mg base CX0 4 "_law_world" ["_law_bag_here"] spWorld := by
  refine T.f_l_world.ok0 sc_l_world (fun vs H Q E h => ?_) (fun f cdv A outer s H vs Q E hr h => ?_)
  · obtain ⟨a, rfl, _⟩ := h
    rfl
  · obtain ⟨a, rfl, hb, kk⟩ := h
    refine ⟨_, (pss_cons (ps_set (i := 1) sc_l_world.nd rfl (Or.inl rfl) (pe_ix ix_list (pe_lst (pa_cons pe_int (pa_cons pe_int (pa_cons pe_int (pa_cons pe_int pa_nil))))) (pe_fn (ok_l_take T) (hr.mono (by decide)) pass0 (pa_cons (pv 0) (pa_cons pe_int pa_nil))) (fun _ _ => rfl)))
    (pss_cons (ps_set (i := 1) sc_l_world.nd rfl (Or.inl rfl) (pe_op op_add (pv 1) (pe_fn (ok_l_take T) (hr.mono (by decide)) pass0 (pa_cons (pv 0) (pa_cons (pv 1) pa_nil)))))
    (pss_cons (ps_set (i := 2) sc_l_world.nd rfl (Or.inl rfl) (pe_fn (ok_l_names T) (hr.mono (by decide)) pass0 (pa_cons (pv 0) (by exact (pa_cons (pe_callB (call_min2 rfl) (by rfl) T.b_min (by decide +kernel) (pa_cons pe_int (pa_cons (pv 1) pa_nil))) pa_nil)))))
    (pss_cons (ps_set (i := 3) sc_l_world.nd rfl (Or.inl rfl) (pe_fn (ok_l_names T) (hr.mono (by decide)) pass0 (pa_cons (pv 0) (pa_cons (pe_op op_add pe_int (pe_op op_mul pe_int (pe_fn (ok_l_take T) (hr.mono (by decide)) pass0 (pa_cons (pv 0) (pa_cons pe_int pa_nil))))) pa_nil))))
    (pss_cons (ps_set (i := 4) sc_l_world.nd rfl (Or.inl rfl) (pe_fn (ok_l_names T) (hr.mono (by decide)) pass0 (pa_cons (pv 0) (pa_cons (pe_op op_add pe_int (pe_op op_mul pe_int (pe_fn (ok_l_take T) (hr.mono (by decide)) pass0 (pa_cons (pv 0) (pa_cons pe_int pa_nil))))) pa_nil))))
    (pss_one (ps_ret (pe_disp (pps_cons pe_str (pv 2) (pps_cons pe_str (pv 3) (pps_cons pe_str (pv 4) (pps_cons pe_str (pe_cmpR op_eq (pe_fn (ok_l_take T) (hr.mono (by decide)) pass0 (pa_cons (pv 0) (pa_cons pe_int pa_nil))) pe_int (nomark _)) pps_nil)))) (by rfl) (by rfl) (fun z => by cases z) (by decide))))))))), ?_⟩
    refine ⟨by show 4 ≤ sizeLine; decide, fun q0 hq0 => ?_⟩
    have s0 : Same H (upd H q0 (.lst [.int 1, .int 3, .int 6, .int 20])) := Same.new hq0
    have hq0' : (upd H q0 (.lst [.int 1, .int 3, .int 6, .int 20])) q0 = some (.lst [.int 1, .int 3, .int 6, .int 20]) := upd_same
    refine take_rd (i := 0) rfl (hb.same s0) (n := 4) (by decide) (by decide) (fun R h => h) fun v H1 v0 v1 d1 => ?_
    obtain ⟨sh, hsh, sh1, sh2⟩ : ∃ sh : Int, atI [V.int 1, V.int 3, V.int 6, V.int 20] v = some (.int sh) ∧ 1 ≤ sh ∧ sh ≤ 20 := by
      have w1 : v = 0 ∨ v = 1 ∨ v = 2 ∨ v = 3 := by omega
      rcases w1 with rfl | rfl | rfl | rfl
      · exact ⟨1, atN _ 0, by decide, by decide⟩
      · exact ⟨3, atN _ 1, by decide, by decide⟩
      · exact ⟨6, atN _ 2, by decide, by decide⟩
      · exact ⟨20, atN _ 3, by decide, by decide⟩
    have hq1 : H1 q0 = some (.lst [.int 1, .int 3, .int 6, .int 20]) := d1.at hq0' fun s t k c z => by
      have := congrArg (fun l => l[3]?) (HO.lst.inj z)
      cases Option.some.inj this
    have d1' := Dr.of hb s0 d1
    refine ⟨q0, _, v, .int sh, rfl, rfl, SqL.of hq1, hsh, ?_⟩
    refine ⟨_, rfl, take_rd (i := 0) rfl d1.b sh1 (by omega) (fun R h => ⟨_, rfl, h⟩) fun u H2 u0 u1 d2 => ⟨_, _, rfl, rfl, ?_⟩⟩
    refine ⟨_, rfl, _, rfl, _, _, rfl, a, _, rfl, d2.b, ?_, ?_, fun p1 l1 H3 d3 hp1 n1 ne1 => ?_⟩
    · split <;> omega
    · split <;> omega
    have d3' := (d1'.trans d2).trans d3
    refine ⟨_, rfl, take_rd (i := 0) rfl d3.b (n := 2) (by decide) (by decide) (fun R h => h) fun v4 H4 v40 v41 d4 => ⟨_, _, rfl, rfl, .inl ⟨by decide, by decide⟩, _, _, rfl, rfl, a, _, rfl, d4.b, by omega, by omega, fun p2 l2 H5 d5 hp2 n2 ne2 => ?_⟩⟩
    refine ⟨_, rfl, take_rd (i := 0) rfl d5.b (n := 2) (by decide) (by decide) (fun R h => h) fun v6 H6 v60 v61 d6 => ⟨_, _, rfl, rfl, .inl ⟨by decide, by decide⟩, _, _, rfl, rfl, a, _, rfl, d6.b, by omega, by omega, fun p3 l3 H7 d7 hp3 n3 ne3 => ?_⟩⟩
    have d7' := (((d3'.trans d4).trans d5).trans d6).trans d7
    intro w0 hw0
    have sw : Same H7 (upd H7 w0 (.dK [])) := Same.new hw0
    have hp3' := sw _ _ hp3
    have hp2' := sw _ _ (d7.at (d6.at hp2 nb_strs) nb_strs)
    have hp1' := sw _ _ (d7.at (d6.at (d5.at (d4.at hp1 nb_strs) nb_strs) nb_strs) nb_strs)
    refine ⟨_, rfl, _, rfl, _, rfl, take_rd (i := 0) rfl (d7.b.same sw) (n := 4) (by decide) (by decide) (fun R h => h) fun z H8 z0 z1 d8 => ⟨rfl, ?_⟩⟩
    have hw8 : H8 w0 = some (.dK []) := d8.at upd_same nb_dk
    refine ⟨hw8, wK p1 p2 p3 (decide (V.int z = V.int 0)), rfl, by show 4 ≤ 15; decide, ?_⟩
    rw [wK_merge]
    have d8' : Dr a H H8 := (d7'.same sw).trans d8
    have wf : H w0 = none := d7'.free hw0
    have put : ∀ {p : Addr} {l : List Str}, (upd H7 w0 (.dK [])) p = some (.lst (l.map V.str)) → (upd H8 w0 (.dK (wK p1 p2 p3 (decide (V.int z = V.int 0))))) p = some (.lst (l.map V.str)) := fun {p l} h => up_k (d8.at h nb_strs) hw8 (by intro z; cases z)
    refine kk ⟨w0, p1, p2, p3, _, l1, l2, l3⟩ _ ⟨fun b o e n => ?_, ?_⟩ wf ⟨upd_same, put hp1', put hp2', put hp3'⟩ ⟨⟨n1, ne1⟩, ⟨n2, ne2⟩, ⟨n3, ne3⟩⟩
    · rw [upd_ne (ne_of_none e wf)]
      exact d8'.s b o e n
    · obtain ⟨c, g1, s1, t1, k1, xs, h1, h2, h3⟩ := d8'.c
      obtain ⟨_, _, _, _, f1, f2, _⟩ := id g1
      exact ⟨c, g1, s1, t1, k1, xs, by rw [upd_ne (ne_of_none f1 wf)]; exact h1, by rw [upd_ne (ne_of_none f2 wf)]; exact h2, h3⟩
end
end Sm
namespace Sm
open PySem PySem.Spec PyProof.Rows L2
/-! ### sets of texts (turned from the hand layer's sets of ints) -/
def keyS (e : Int × Value) : Str := match e.2 with | .str k _ => k | _ => Str.empty
def GoodS (w : World) (e : Int × Value) : Prop := ∃ k tk, e.2 = Value.str k tk ∧ e.1 = hashStr w k
def SetS (w : World) (h : Heap) (a : Addr) (S : Str → Bool) (n : Nat) : Prop :=
  ∃ o es ep t, h.get? a = some o ∧ o.ExactSet ∧ o.data = .set es ep t ∧ (∀ e ∈ es.toList, GoodS w e) ∧ (es.toList.map keyS).Nodup ∧ (∀ k, S k = true ↔ k ∈ es.toList.map keyS) ∧
    es.size < scanBound ∧ t.fits es.size = true ∧ es.size = n ∧ Ris t.place.toList ∧ (w.params.followText "set-order" = true ∨ t.led = true)
section
variable {P : Program} {w : World} {h h' : Heap} {a : Addr} {S : Str → Bool} {n : Nat}

theorem SetS.at (R : SetS w h a S n) (k : ∀ o, h.get? a = some o → h'.get? a = some o) : SetS w h' a S n := by
  obtain ⟨o, es, ep, t, ho, r⟩ := R
  exact ⟨o, es, ep, t, k o ho, r⟩
theorem SetS.lt (R : SetS w h a S n) : a < h.objs.size := by
  obtain ⟨o, es, ep, t, ho, r⟩ := R
  exact Heap.lt_size ho
theorem SetS.congr {S' : Str → Bool} (R : SetS w h a S n) (e : ∀ k, S' k = S k) : SetS w h a S' n := by
  have q : S' = S := funext e
  rw [q]; exact R
theorem goodS_elems {l : List (Int × Value)} (g : ∀ e ∈ l, GoodS w e) : ElemsOf (PySem.strKind P w) l := fun e he => by
  obtain ⟨k, tk, h1, h2⟩ := g e he
  exact ⟨⟨k, by rw [h1]; exact PySem.strKind_is P w k tk, h2⟩, by rw [h1] <;> rfl⟩
theorem goodS_is {e : Int × Value} (g : GoodS w e) (k : Str) : (PySem.strKind P w).is k e.2 = true ↔ keyS e = k := by
  obtain ⟨k0, tk, h1, _⟩ := g
  unfold keyS
  rw [h1]
  show ((k0 == k) = true) ↔ k0 = k
  exact beq_iff_eq
theorem goodS_mem {l : List (Int × Value)} (g : ∀ e ∈ l, GoodS w e) (k : Str) : k ∈ l.map keyS ↔ ∃ e ∈ l, (PySem.strKind P w).is k e.2 = true := by
  rw [List.mem_map]
  constructor
  · rintro ⟨e, he, q⟩
    exact ⟨e, he, (goodS_is (g e he) k).2 q⟩
  · rintro ⟨e, he, q⟩
    exact ⟨e, he, (goodS_is (g e he) k).1 q⟩
theorem SetS.setOf (R : SetS w h a S n) : h.SetOf (PySem.strKind P w) a S n := by
  obtain ⟨o, es, ep, t, ho, hx, hd, g, nd, hm, hb, hf, hn, _⟩ := R
  exact ⟨o, es, ep, t, ho, hx, hd, goodS_elems g, fun k => (hm k).trans (goodS_mem g k), hb, hf, hn⟩
end

section
variable {P : Program} {w : World} {A : Around} {E : Value → Shared → Prop} {s : Shared} {a : Addr} {S : Str → Bool} {n : Nat}
theorem setS_add_tail {g : Bool → Sem Unit} (hg : ∀ (b : Bool) (s₁ : Shared) (Q' : Unit → Shared → Prop), Q' () s₁ → wpAny (model P w) A (g b) Q' E s₁)
    {o : Obj} {es : Array (Int × Value)} {ep : Nat} {t : SetTable} (ho : s.heap.get? a = some o) (hex : o.ExactSet) (hd : o.data = .set es ep t)
    {es1 : Array (Int × Value)} {t2 : SetTable} {S' : Str → Bool} (g1 : ∀ e ∈ es1.toList, GoodS w e) (nd1 : (es1.toList.map keyS).Nodup) (m1 : ∀ k, S' k = true ↔ k ∈ es1.toList.map keyS)
    (hb1 : es1.size < scanBound) (hf2 : t2.fits es1.size = true) (hr : Ris t2.place.toList) (hl : w.params.followText "set-order" = true ∨ t2.led = true) {wasDummy : Bool} {R : Option Bool → Shared → Prop}
    (hR : ∀ h', Heap.SameBut a s.heap h' → SetS w h' a S' es1.size → R (some true) { s with heap := h' }) :
    wpAny (model P w) A (do
        storeSet a es1 t2
        if (!wasDummy && t2.tooFull) = true then do
            g (relayAll t2 es1 (SetTable.grown es1.size)).2.2
            storeSet a (relayAll t2 es1 (SetTable.grown es1.size)).1 (relayAll t2 es1 (SetTable.grown es1.size)).2.1
            pure (some true)
          else pure (some true)) R E s := by
  refine wpAny_bind (wpAny_storeSet_of ho hd ?_ (fits_of_scanBound hb1))
  have ho1 := store_at (es' := es1) (t' := t2) ho hd
  have sb1 := Heap.SameBut.update s.heap a (Obj.putSet es1 t2)
  split
  · have pm := relayAll_perm t2 es1 (SetTable.grown es1.size)
    have hf3 := relayAll_fits t2 es1 (SetTable.grown es1.size)
    have hr3 := relayAll_ris t2 es1 (SetTable.grown es1.size)
    have hl3 := relayAll_led t2 es1 (SetTable.grown es1.size)
    generalize relayAll t2 es1 (SetTable.grown es1.size) = Z at pm hf3 hr3 hl3 ⊢
    obtain ⟨es2, t3, gave⟩ := Z
    dsimp only at pm hf3 hr3 hl3 ⊢
    have hsz : es2.size = es1.size := by rw [← Array.length_toList, pm.length_eq, Array.length_toList]
    have hb2 : es2.size < scanBound := by rw [hsz]; exact hb1
    refine wpAny_bind (hg _ _ _ ?_)
    refine wpAny_bind (wpAny_storeSet_of ho1 rfl ?_ (fits_of_scanBound hb2))
    have ho2 := store_at (es' := es2) (t' := t3) ho1 rfl
    refine wpAny_pure (hR _ (sb1.trans (Heap.SameBut.update _ a _)) ?_)
    exact ⟨_, es2, _, t3, ho2, hex, rfl, fun e he => g1 e (pm.mem_iff.mp he), (pm.map keyS).nodup_iff.mpr nd1, fun k => (m1 k).trans (pm.map keyS).mem_iff.symm, hb2, hf3, hsz, hr3,
      hl.imp id fun z => by rw [hl3]; exact z⟩
  · exact wpAny_pure (hR _ sb1 ⟨_, es1, _, t2, ho1, hex, rfl, g1, nd1, m1, hb1, hf2, rfl, hr, hl⟩)

theorem setS_add_hashed {k : Str} {tk : Tok} {Q : Bool → Shared → Prop} (R : SetS w s.heap a S n) (room : n + 1 < scanBound)
    (hQ : ∀ h', Heap.SameBut a s.heap h' → SetS w h' a (fun j => S j || decide (j = k)) (if S k = true then n else n + 1) → Q (!S k) { s with heap := h' }) :
    wpAny (model P w) A (setAddHashed a (.str k tk) ((PySem.strKind P w).hash k)) Q E s := by
  obtain ⟨o, es, ep, t, ho, hex, hd, g, nd, hm, hb, hf, hn, hr, hl⟩ := R
  have hkey : (PySem.strKind P w).is k (.str k tk) = true := PySem.strKind_is P w k tk
  have hsc : (Value.str k tk).scannable = true := rfl
  have hel : ElemsOf (PySem.strKind P w) es.toList := goodS_elems g
  unfold setAddHashed setAddHashedIn
  refine wpAny_holding (wpAny_bind (wpAny_setState_of ho hd hf ?_))
  dsimp only
  rw [byScan_of hsc hb hel]
  simp only [↓reduceIte]
  unfold setAddByScan
  refine wpAny_bind ?_
  refine wpAny_bind (wpAny_rule ?_)
  refine wpAny_bind (wpAny_setScan_of hkey ho hd hf hel ?_)
  cases hfi : List.findIdx? (fun e => (PySem.strKind P w).is k e.2) es.toList with
  | some j =>
    dsimp only
    obtain ⟨hj, pj, _⟩ := List.findIdx?_eq_some_iff_getElem.mp hfi
    have hSk : S k = true := (hm k).2 ((goodS_mem (P := P) (w := w) g k).2 ⟨es.toList[j], List.getElem_mem hj, pj⟩)
    refine wpAny_pure (wpAny_pure ?_)
    have q := hQ s.heap (Heap.SameBut.refl a s.heap) ⟨o, es, ep, t, ho, hex, hd, g, nd, fun i => by
      rw [Bool.or_eq_true, decide_eq_true_eq, ← hm i]
      exact ⟨fun z => z.elim id (fun e => e ▸ hSk), .inl⟩, hb, hf, by rw [if_pos hSk]; exact hn, hr, hl⟩
    rw [hSk] at q
    exact q
  | none =>
    dsimp only
    have hnk : k ∉ es.toList.map keyS := fun z => by
      obtain ⟨e, he, q⟩ := (goodS_mem (P := P) (w := w) g k).1 z
      have c := List.findIdx?_eq_none_iff.mp hfi e he
      rw [q] at c
      cases c
    have hSk : S k = false := by
      cases q : S k with
      | false => rfl
      | true => exact absurd ((hm k).1 q) hnk
    have hgw : ∀ (b : Bool) {s₁ : Shared} {Q' : Unit → Shared → Prop}, Q' () s₁ → wpAny (model P w) A (match b with | true => rule "set.scan.the-table-gave-way" | false => pure ()) Q' E s₁ :=
      fun b s₁ Q' q => by cases b <;> first | exact wpAny_pure q | exact wpAny_rule q
    have pm := layNew_perm t es ((PySem.strKind P w).hash k) (.str k tk)
    have hf1 := layNew_fits t es ((PySem.strKind P w).hash k) (.str k tk)
    have hr1 := layNew_ris t es ((PySem.strKind P w).hash k) (.str k tk) hr
    have hl1 := layNew_led t es ((PySem.strKind P w).hash k) (.str k tk)
    generalize layNew t es ((PySem.strKind P w).hash k) (.str k tk) = Z at pm hf1 hr1 hl1 ⊢
    obtain ⟨es1, t1, wasDummy, gave⟩ := Z
    dsimp only at pm hf1 hr1 hl1 ⊢
    rw [Array.toList_push] at pm
    have pc : es1.toList.Perm (((PySem.strKind P w).hash k, Value.str k tk) :: es.toList) := pm.trans (List.perm_append_singleton _ _)
    have pk : (es1.toList.map keyS).Perm (k :: es.toList.map keyS) := pc.map keyS
    have g1 : ∀ e ∈ es1.toList, GoodS w e := fun e he => by
      rcases List.mem_cons.mp (pc.mem_iff.mp he) with z | z
      · rw [z]; exact ⟨k, tk, rfl, rfl⟩
      · exact g e z
    have nd1 : (es1.toList.map keyS).Nodup := pk.nodup_iff.mpr (List.nodup_cons.mpr ⟨hnk, nd⟩)
    have m1 : ∀ i, (S i || decide (i = k)) = true ↔ i ∈ es1.toList.map keyS := fun i => by
      rw [Bool.or_eq_true, decide_eq_true_eq, hm i, pk.mem_iff, List.mem_cons]
      exact Or.comm
    have hsz : es1.size = n + 1 := by rw [← Array.length_toList, pc.length_eq, List.length_cons, Array.length_toList, hn]
    have hb1 : es1.size < scanBound := by rw [hsz]; exact room
    have hled : w.params.followText "set-order" = true ∨ t1.led = true := hl.imp id fun z => by rw [hl1]; exact z
    have fin : ∀ h', Heap.SameBut a s.heap h' → SetS w h' a (fun j => S j || decide (j = k)) es1.size → Q true { s with heap := h' } := fun h' sb r => by
      have q := hQ h' sb
      rw [hSk] at q
      rw [hsz] at r
      exact q r
    refine wpAny_bind (hgw _ ?_)
    split
    · refine wpAny_bind ?_
      rw [hashByValue_scannable 8 hsc]
      refine wpAny_pure ?_
      refine setS_add_tail ?_ ho hex hd g1 nd1 m1 hb1 ?_ ?_ ?_ ?_
      · intro b s₁ Q' q; cases b <;> first | exact wpAny_pure q | exact wpAny_rule q
      · first | (split <;> first | exact hf1 | exact SetTable.fits_plain_off hf1) | exact hf1
      · first | (split <;> exact hr1) | exact hr1
      · first | (split <;> exact hled) | exact hled
      · intro h' sb r; dsimp only; exact wpAny_pure (fin h' sb r)
    · refine wpAny_bind (wpAny_pure ?_)
      simp only [↓reduceIte]
      refine setS_add_tail ?_ ho hex hd g1 nd1 m1 hb1 hf1 hr1 hled ?_
      · intro b s₁ Q' q; cases b <;> first | exact wpAny_pure q | exact wpAny_rule q
      · intro h' sb r; dsimp only; exact wpAny_pure (fin h' sb r)
theorem setS_fresh {h : Heap} (w : World) : SetS w (h.push { cls := .type "set", dict := none, data := .set #[] 0 (.fresh 0 0 (!w.params.followText "set-order")) }) h.objs.size (fun _ => false) 0 :=
  ⟨_, #[], 0, _, Heap.get?_push_size _ rfl, ⟨rfl, rfl, rfl⟩, rfl, (fun e he => by simp at he), (by simp), (fun k => by simp), (by decide), (by rfl), rfl, List.Pairwise.nil, by
    show _ ∨ (!w.params.followText "set-order") = true
    cases w.params.followText "set-order"
    · exact .inr rfl
    · exact .inl rfl⟩


theorem setS_freshAt {h : Heap} {a : Addr} (ho : h.get? a = some { cls := .type "set", dict := none, data := .set #[] 0 (.fresh 0 0 (!w.params.followText "set-order")) }) : SetS w h a (fun _ => false) 0 :=
  ⟨_, #[], 0, _, ho, ⟨rfl, rfl, rfl⟩, rfl, (fun e he => by simp at he), (by simp), (fun k => by simp), (by decide), (by rfl), rfl, List.Pairwise.nil, by
    show _ ∨ (!w.params.followText "set-order") = true
    cases w.params.followText "set-order"
    · exact .inr rfl
    · exact .inl rfl⟩
theorem set_update_strs {I : Addr} {fp wr : List Addr} {G : Array GenState → Array GenState → Prop} {n : Nat} {Pv : Nat → Value → Prop} {St : Nat → Shared → Prop} {R : Result → Shared → Prop}
    (W : WalksS P w A.in1 I fp wr G n Pv St) (S : Addr) (hSf : S ∉ fp) (ks : List Str) (hn : n = ks.length) (hfew : ks.length < 64) (hval : ∀ i v, Pv i v → ∃ t, v = .str (ks.getD i Str.empty) t)
    (h0 : Heap) (hS0 : h0.get? S = none) (hw0 : ∀ b ∈ wr, h0.get? b = none) :
    ∀ (k i : Nat) (s : Shared), n - i = k → i ≤ n → St i s → (∀ b o, h0.get? b = some o → s.heap.get? b = some o) → (∃ m, SetS w s.heap S (fun k => (ks.take i).any (· == k)) m ∧ m ≤ i) →
      (∀ s' m, Moved (S :: wr) G s s' → SetS w s'.heap S (fun k => (ks.take n).any (· == k)) m → m ≤ n → (∀ b o, h0.get? b = some o → s'.heap.get? b = some o) → R (.ok (.ret .none)) s') →
      codeAny (model P w) A (.builtin "set.update.loop" ⟨[.ref S, .ref I], []⟩) R s := by
  have hSw : S ∉ wr := fun h => hSf (W.sub _ h)
  have hsub : ∀ b ∈ wr, b ∈ S :: wr := fun b hb => List.mem_cons_of_mem _ hb
  have keepM : ∀ {s s' : Shared}, Moved wr G s s' → (∀ b o, h0.get? b = some o → s.heap.get? b = some o) → ∀ b o, h0.get? b = some o → s'.heap.get? b = some o := fun hm hkp b o e =>
    hm.heap b o (fun hb => by rw [hw0 b hb] at e; cases e) (hkp b o e)
  intro k
  induction k with
  | zero =>
    intro i s hk' hi hst hkp ⟨m, hS, g⟩ hR
    have hin : i = n := by omega
    subst hin
    refine codeAny_builtin PyProof.Rows.F.entry_set_update_loop ?_
    rw [Around.under_plainId PyProof.Rows.F.plain_set_update_loop _]
    show wpAny _ A.in1 (pyNext (.ref I) >>= _) _ _ s
    refine wpAny_bind (W.done s _ _ hst fun s' hm => ?_)
    show wpAny _ A.in1 (ret Value.none) _ _ s'
    exact wpAny_pure (hR s' m (hm.mono hsub) (hS.at fun o e => hm.heap S o hSw e) g (keepM hm hkp))
  | succ k ih =>
    intro i s hk' hi hst hkp ⟨m, hS, g⟩ hR
    have hlt : i < n := by omega
    refine codeAny_builtin PyProof.Rows.F.entry_set_update_loop ?_
    rw [Around.under_plainId PyProof.Rows.F.plain_set_update_loop _]
    show wpAny _ A.in1 (pyNext (.ref I) >>= _) _ _ s
    refine wpAny_bind (W.item i s _ _ hlt hst fun v s' hP hst' hm => ?_)
    obtain ⟨t, rfl⟩ := hval i v hP
    have hkp' := keepM hm hkp
    have hS' : SetS w s'.heap S (fun k => (ks.take i).any (· == k)) m := hS.at fun o e => hm.heap S o hSw e
    have hx : ks[i]? = some (ks.getD i Str.empty) := by
      have hl : i < ks.length := by omega
      rw [List.getElem?_eq_getElem hl, List.getD_eq_getElem?_getD, List.getElem?_eq_getElem hl]
      rfl
    generalize ks.getD i Str.empty = x at hx ⊢
    show wpAny _ A.in1 (holding [Value.str x t] (setAdd S (.str x t)) >>= _) _ _ s'
    refine wpAny_bind (wpAny_holding ?_)
    unfold setAdd
    refine wpAny_holding ?_
    refine wpAny_bind ((PySem.strKind P w).pyHash (k := x) (strKind_is _ _ _ _) ?_)
    refine setS_add_hashed (s := { s' with toks := s'.toks + 1 }) hS' (by unfold scanBound; omega) fun h' hsb hS2 => ?_
    have hS3 : ∃ m', SetS w h' S (fun k => (ks.take (i + 1)).any (· == k)) m' ∧ m' ≤ i + 1 := by
      refine ⟨_, hS2.congr fun k => ?_, ?_⟩
      · show (ks.take (i + 1)).any (· == k) = ((ks.take i).any (· == k) || decide (k = x))
        rw [take_more hx, List.any_append]
        congr 1
        show (x == k || false) = _
        rw [Bool.or_false]
        by_cases e : k = x
        · subst e; simp
        · have : (x == k) = false := by simpa [beq_iff_eq] using fun z : x = k => e z.symm
          simp [this, e]
      · split <;> omega
    have hkp2 : ∀ b o, h0.get? b = some o → h'.get? b = some o := fun b o e => (hsb.2 b (fun z => by rw [z, hS0] at e; cases e)).trans (hkp' b o e)
    refine wpAny_pure ⟨plainId_quiet PyProof.Rows.F.plain_set_update_loop _, ih (i + 1) _ (by omega) hlt (W.frame _ s' _ _ hst' (Nat.le_succ _) fun b hb o e => ?_) hkp2 hS3 fun s'' m2 hm'' hS'' g'' hkp'' => ?_⟩
    · rw [hsb.2 b (fun h : b = S => hSf (by rw [← h]; exact hb))]; exact e
    · refine hR s'' m2 (Moved.trans W.gtrans ((hm.mono hsub).then_heap (Nat.le_succ _) fun b o hb e => ?_) hm'') hS'' g'' hkp''
      rw [hsb.2 b (fun h : b = S => hb (by rw [h]; exact List.mem_cons_self))]; exact e
set_option maxRecDepth 100000 in
set_option maxHeartbeats 3200000 in
/-- set(xs) -/
theorem call_set_strs {l : Addr} {items : Array Value} (ks : List Str) {Q : Value → Shared → Prop} (hh : A.handled = none) (hl : s.heap.IsList l items) (hit : StrsAre items.toList ks)
    (hfew : ks.length < 64)
    (h : ∀ (h' : Heap) (tk : Nat) m, SetS w h' s.heap.objs.size (fun k => ks.any (· == k)) m → m ≤ ks.length → (∀ b o, s.heap.get? b = some o → h'.get? b = some o) → Q (.ref s.heap.objs.size) { s with heap := h', toks := tk }) :
    wpAny (model P w) A (call (.type "set") [.ref l]) Q E s := by
  have hisz : items.size = ks.length := by
    rw [← Array.length_toList]
    exact StrsAre.len_eq hit
  obtain ⟨c, tl, hmro⟩ := F.called_set.mro
  have hmade := F.called_set.made
  have hsub := F.called_set.sub
  refine wpAny_call (codeAny_of_tree ?_)
  show wpAny _ _ (callAny (.type "set") _) _ _ _
  refine wpAny_pure ⟨Code.quiet_builtin _ (by decide +kernel), codeAny_builtin F.entry_type_call ?_⟩
  rw [Around.under_plain (weight_type_call_type "set" [.ref l] []) rfl]
  have h1 := F.called_set.notType
  have h2 := F.called_set.canCreate
  have hct := F.typeCall_set_1 (.ref l)
  repeat (any_goals (first | assumption | wp_step))

  refine codeAny_mono (code_set_led1 (.ref l) (E := E) (Q₁ := fun obj s₁ => obj = .ref s.heap.objs.size ∧ s₁ = { s with heap := s.heap.push { cls := .type "set", dict := none, data := .set #[] 0 (.fresh 0 0 (!w.params.followText "set-order")) } }) ⟨rfl, rfl⟩) fun r s₁ hr => ?_
  cases r with
  | error e => exact hr
  | ok fl =>
    cases fl with
    | ret obj =>
      obtain ⟨rfl, rfl⟩ := hr
      have hS : (s.heap.push { cls := .type "set", dict := none, data := .set #[] 0 (.fresh 0 0 (!w.params.followText "set-order")) }).get? s.heap.objs.size = some { cls := .type "set", dict := none, data := .set #[] 0 (.fresh 0 0 (!w.params.followText "set-order")) } := Heap.get?_push_size _ rfl
      have hT : Shared.TypeIs { s with heap := s.heap.push { cls := .type "set", dict := none, data := .set #[] 0 (.fresh 0 0 (!w.params.followText "set-order")) } } (.ref s.heap.objs.size) "set" := ⟨_, hS, rfl⟩
      have hli := F.called_set.init.lookup
      have hbi := F.called_set.init.bind (.ref s.heap.objs.size)
      repeat (any_goals (first | assumption | wp_step))

      refine codeAny_mono (codeAny_call_builtin (R := wants (fun r s₂ => r = .none ∧ ∃ h' tk m, s₂ = { s with heap := h', toks := tk } ∧ SetS w h' s.heap.objs.size (fun k => ks.any (· == k)) m ∧ m ≤ ks.length ∧
          (∀ b o, s.heap.get? b = some o → h'.get? b = some o)) E) F.called_set.init.plain F.entry_set_init (check_set_init_1 hT ?_)) fun r₂ s₂ hr₂ => ?_
      · obtain ⟨ol, hol, hcl, nl, hdl⟩ := hl
        obtain ⟨ocls, odict, odata, oslots⟩ := ol
        simp only at hcl hdl
        subst hcl; subst hdl
        have hol' : (s.heap.push { cls := .type "set", dict := none, data := .set #[] 0 (.fresh 0 0 (!w.params.followText "set-order")) }).get? l = some { cls := .type "list", dict := odict, data := .seq items nl, slots := oslots } := Heap.get?_push_of_some _ hol
        have hsls := F.sub_list_set
        have hslf := F.sub_list_frozenset
        have hne : (Value.type "list" == Value.type "dict") = false := by decide
        have hl1 : (s.heap.push { cls := .type "set", dict := none, data := .set #[] 0 (.fresh 0 0 (!w.params.followText "set-order")) }).IsList l items := ⟨_, hol', rfl, nl, rfl⟩
        unfold Builtin.«set.__init__» noKeywords Builtin.Frozenset.updateFrom
        generalize hPI : pyIter = PI
        wp_walk
        subst hPI

        refine wpAny_pyIter_list hl1 ?_
        refine wpAny_bind (wpAny_runValue ?_)
        have hlS : l < s.heap.objs.size := Heap.lt_size hol
        have hh3 : A.in1.in1.in1.handled = none := by simp [hh]
        have hz1 : (s.heap.push { cls := .type "set", dict := none, data := .set #[] 0 (.fresh 0 0 (!w.params.followText "set-order")) }).objs.size = s.heap.objs.size + 1 := Heap.size_push ..
        have hneI : l ≠ (s.heap.push { cls := .type "set", dict := none, data := .set #[] 0 (.fresh 0 0 (!w.params.followText "set-order")) }).objs.size := by
          rw [Heap.size_push]; exact Nat.ne_of_lt (Nat.lt_succ_of_lt hlS)
        have hSf : s.heap.objs.size ∉ [(s.heap.push { cls := .type "set", dict := none, data := .set #[] 0 (.fresh 0 0 (!w.params.followText "set-order")) }).objs.size, l] := by
          rw [Heap.size_push]; simp only [List.mem_cons, List.mem_singleton, List.not_mem_nil, or_false, not_or]
          exact ⟨Nat.ne_of_lt (Nat.lt_succ_self _), Nat.ne_of_gt hlS⟩
        have hval : ∀ (i : Nat) (v : Value), items[i]? = some v → ∃ t, v = .str (ks.getD i Str.empty) t := fun i v hv => SS.strs_at hit i v (by rw [Array.getElem?_toList]; exact hv)
        have none_of : ∀ b, s.heap.objs.size ≤ b → s.heap.get? b = none := fun b hb => by
          cases q : s.heap.get? b with
          | none => rfl
          | some o => exact absurd (Nat.lt_of_lt_of_le (Heap.lt_size q) hb) (Nat.lt_irrefl _)
        refine set_update_strs ((Walks.list hh3 _ l hneI items).toS) s.heap.objs.size
          hSf ks hisz hfew hval s.heap (none_of _ (Nat.le_refl _)) (fun b hb => none_of b (by
            rw [List.mem_singleton.mp hb, Heap.size_push]
            exact Nat.le_succ _)) (items.size - 0) 0 _ (by omega) (Nat.zero_le _)
          ⟨⟨_, Heap.get?_push_size _ rfl, rfl, rfl⟩, (hl1.push _)⟩ (fun b o e => Heap.get?_push_of_some _ (Heap.get?_push_of_some _ e)) ?hS0 ?hR
        case hS0 =>
          have hget : ((s.heap.push { cls := .type "set", dict := none, data := .set #[] 0 (.fresh 0 0 (!w.params.followText "set-order")) }).push { cls := .type "list_iterator", data := .fields #[.ref l, .int 0 0] }).get? s.heap.objs.size
              = some { cls := .type "set", dict := none, data := .set #[] 0 (.fresh 0 0 (!w.params.followText "set-order")) } := Heap.get?_push_of_some _ hS
          exact ⟨0, setS_freshAt hget, Nat.le_refl _⟩
        case hR =>
          intro s' m hm hS' g' hkp
          obtain ⟨h', g2, d', tk', os'⟩ := s'
          have eg : g2 = s.gens := hm.gens
          have ed : d' = s.drawn := hm.drawn
          have eo : os' = s.os := hm.os
          subst eg; subst ed; subst eo
          show wpAny _ _ _ _ _ _
          refine wpAny_pure ?_
          show wpAny _ _ (ret Value.none) _ _ _
          rw [hisz] at g' hS'
          rw [List.take_length] at hS'
          exact wpAny_pure ⟨rfl, h', tk', m, rfl, hS', g', hkp⟩

      · cases r₂ with
        | error e => exact hr₂
        | ok fl₂ =>
          cases fl₂ with
          | ret r =>
            obtain ⟨rfl, h', tk, m, rfl, hS', g', hk'⟩ := hr₂
            repeat (any_goals (first | assumption | wp_step))
            exact h _ _ _ hS' g' hk'
          | _ => exact hr₂.elim
    | _ => exact hr.elim


theorem strs_of : ∀ (l : List Value) (ks : List Str), (∀ (i : Nat) (v : Value), l[i]? = some v → ∃ k t, ks[i]? = some k ∧ v = .str k t) → ks.length = l.length → StrsAre l ks
  | [], [], _, _ => .nil
  | v :: l, k :: ks, h, hl => by
    obtain ⟨k', t, e1, rfl⟩ := h 0 v rfl
    cases Option.some.inj e1
    exact .cons k t (strs_of l ks (fun i v hv => h (i + 1) v hv) (by simpa using hl))
def strOf (v : Value) : Str := match v with | .str k _ => k | _ => Str.empty
theorem strs_all : ∀ (l : List Value), (∀ v ∈ l, ∃ k t, v = Value.str k t) → StrsAre l (l.map strOf)
  | [], _ => .nil
  | v :: l, h => by
    obtain ⟨k, t, rfl⟩ := h v List.mem_cons_self
    exact .cons k t (strs_all l fun u hu => h u (List.mem_cons_of_mem _ hu))
theorem sorted_setS {S : Str → Bool} {n : Nat} {Q : Value → Shared → Prop} (R : SetS w s.heap a S n) (hh : A.handled = none) (h64 : n < 64)
    (hQ : ∀ s' p (out : Array Value) (c : Nat) (ns : List Str), (∀ b o, s.heap.get? b = some o → s'.heap.get? b = some o) → s'.gens = s.gens → s'.os = s.os → s.heap.objs.size ≤ p →
      s'.heap.get? p = some (seqObj "list" out c) → StrsAre out.toList ns → sortedS ns = true → ns.Nodup → (∀ k, k ∈ ns ↔ S k = true) → ns.length = n → Q (.ref p) s') :
    wpAny (model P w) A (call (.builtin "sorted") [.ref a]) Q E s := by
  obtain ⟨o, es, ep, t, ho, hex, hd, g, nd, hm, hb, hf, hn, hr, hl⟩ := R
  refine Calls.call_function_entry kind_sorted plain_sorted entry_sorted (args_sorted1 _) ?_
  unfold Builtin.«sorted»
  refine wpAny_bind (m := checkCount "sorted" 1 1 _) (wpAny_pure ?_)
  refine wpAny_bind (collect_set (A := A.in1) hh ⟨o, ho, hex.1, hd⟩ hf hb hr hl fun s1 vs k1 hz g1 o1 pm => ?_)
  have hvl : vs.length = n := by rw [pm.length_eq, List.length_map, Array.length_toList]; exact hn
  have hI : StrsAre vs (vs.map strOf) := strs_all vs fun v hv => by
    obtain ⟨e, he, q⟩ := List.mem_map.mp (pm.mem_iff.mp hv)
    obtain ⟨k, tk, h1, _⟩ := g e he
    exact ⟨k, tk, by rw [← q]; exact h1⟩
  have pk : (vs.map strOf).Perm (es.toList.map keyS) := by
    have q := pm.map strOf
    rw [List.map_map] at q
    exact q
  refine wpAny_bind (wpAny_newList ?_ (by rw [hvl, sizeLine_eq]; omega))
  have hoL : (s1.heap.push (seqObj "list" vs.toArray 0)).get? s1.heap.objs.size = some (seqObj "list" vs.toArray 0) := Heap.get?_push_size _ rfl
  refine wpAny_bind (wpAny_holding (wpAny_call_entry slot_list_sort ⟨_, hoL, rfl⟩ entry_list_sort (list_sort_treeK strKind_oneLt hoL hI.keysOf (fun v₁ v₂ rest e => keyKind_strs (by rw [← e]; exact hI)) (by rw [hvl]; exact h64) fun st' hp hs => ⟨_, rfl, ?_⟩) (args_list_sort _)))
  obtain ⟨ns', a1, a2, a3⟩ := sorted_out_str hI hp hs
  obtain ⟨c, hc⟩ := sortedHeap_at (vs := vs) (out := (arrOf st').map (·.2)) hoL
  have pn : ns'.Perm (es.toList.map keyS) := a2.trans pk
  refine wpAny_pure ⟨_, rfl, hQ _ s1.heap.objs.size _ c ns' (fun b u e => ?_) g1 o1 hz hc a1 a3 (pn.nodup_iff.mpr nd) (fun k => by rw [pn.mem_iff, ← hm k]) ?_⟩
  · have q := k1 b u e
    have hlt := Heap.lt_size q
    show (sortedHeap (s1.heap.push (seqObj "list" vs.toArray 0)) s1.heap.objs.size vs _).get? b = some u
    rw [sortedHeap_old (Nat.ne_of_lt hlt) (by rw [size_push']; exact Nat.lt_succ_of_lt hlt)]
    exact Heap.get?_push_of_some _ q
  · rw [pn.length_eq, List.length_map, Array.length_toList]; exact hn
end
/-! ### the calls -/
section
variable {X : Cx}
def SetSO (w : World) (a : Addr) (S : Str → Bool) (n : Nat) : HO := .ext fun h => SetS w h a S n
theorem setSO_new {w : World} {P : Program} {H : Hp} {h : Heap} {a : Addr} {S : Str → Bool} {n : Nat} (R : SetS w h a S n) : ObjOk P w H h a (SetSO w a S n) := by
  have ⟨o, _, _, _, ho, _⟩ := R
  exact ⟨R, ⟨o, ho⟩, fun h1 h2 p k => SetS.at p k⟩
/-- set(xs), a list of texts -/
def rSetS (K : PySem.W.Frag) (w : World) : List V → Hp → VK → Prop := fun xs H Q => ∃ (l : Addr) (ks : List Str), xs = [V.ref l] ∧ SqL K H l (ks.map V.str) ∧ ks.length < 64 ∧
  ∀ p m, H p = none → m ≤ ks.length → Q (.ref p) (upd H p (SetSO w p (fun k => ks.any (· == k)) m))
theorem cr_setS (hc : X.calm = true) : CallR X (.type "set") (rSetS X.K X.w) := by
  intro pins s σ H xs us Q I r h
  obtain ⟨l, ks, rfl, hl, hfew, q⟩ := h
  obtain ⟨its, rv, pl, hz⟩ := I.list hl
  rw [Vals.ref1 r]
  refine call_set_strs (P := X.prog) (w := X.w) ks (I.ok.hd hc) pl.isList (by simpa using rv.strs) hfew fun h' tk m R hm k => ?_
  exact ⟨.ref _, upd H s.heap.objs.size (SetSO X.w s.heap.objs.size _ m), I.laid (t' := tk) k (Nat.le_refl _) (setSO_new R), rfl, q _ m (I.hok.fresh (Nat.le_refl _)) hm⟩
/-- sorted(set of texts) -/
def rSortedSetS (w : World) : List V → Hp → VK → Prop := fun vs H Q => ∃ (a : Addr) (S : Str → Bool) (n : Nat), vs = [V.ref a] ∧ H a = some (SetSO w a S n) ∧ n < 64 ∧
  ∀ (ys : List Str) (p : Addr), sortedS ys = true → ys.Nodup → (∀ k : Str, k ∈ ys ↔ S k = true) → H p = none → Q (.ref p) (upd H p (.lst (ys.map V.str)))
theorem cr_sortedSetS (hc : X.calm = true) : CallR X (.builtin "sorted") (rSortedSetS X.w) := by
  intro pins s σ H vs us Q I r h
  obtain ⟨a, S, n, rfl, ha, h64, q⟩ := h
  have R : SetS X.w s.heap a S n := (I.hok a _ ha).1
  rw [Vals.ref1 r]
  refine sorted_setS (P := X.prog) R (I.ok.hd hc) h64 fun s' p out c ns k g o hp hg hi hs hnd hm hl => ?_
  have hlen : (ns.map V.str).length ≤ sizeLine := by rw [List.length_map, hl, sizeLine_eq]; omega
  have hn : H p = none := I.hok.fresh hp
  have J : Inv X pins σ (upd H p (.lst (ns.map V.str))) { s with heap := s'.heap, gens := s'.gens, drawn := s'.drawn, toks := s'.toks } :=
    I.call (ch := []) (Un.laid k hp hn) (I.hok.laid k hp ⟨hlen, out.toList, c, vals_of_strs hi, hg⟩) (by rw [g]; exact I.bare) (fun _ z => nomatch z)
  have e : s' = { s with heap := s'.heap, gens := s'.gens, drawn := s'.drawn, toks := s'.toks } := by
    cases s'
    cases s
    cases o
    rfl
  rw [e]
  exact ⟨.ref p, _, J, rfl, q ns p hs hnd hm hn⟩
end
end Sm
namespace Sm
open PySem PySem.Spec PyProof.Rows L2
/-! ### every second item -/
def pick {α : Type} (l : List α) (is : List Nat) : List α := is.filterMap fun i => l[i]?
/-- the places that [lo::2] takes, of n -/
def ix2 (n : Nat) (lo : Option Int) : List Nat := sliceRange (sliceBounds lo none (some 2) n).1 (sliceBounds lo none (some 2) n).2.1 (sliceBounds lo none (some 2) n).2.2
theorem vals_pick {xs : List V} {us : List Value} (r : Vals xs us) (is : List Nat) : Vals (pick xs is) (pick us is) := by
  induction is with
  | nil => exact .nil
  | cons i t ih =>
    unfold pick at ih ⊢
    rw [List.filterMap_cons, List.filterMap_cons]
    cases e : xs[i]? with
    | none =>
      have e2 : us[i]? = none := by
        have h := List.getElem?_eq_none_iff.mp e
        exact List.getElem?_eq_none_iff.mpr (by rw [← r.length]; exact h)
      rw [e2]
      exact ih
    | some x =>
      obtain ⟨u, e2, rx⟩ := r.get e
      rw [e2]
      exact .cons rx ih
theorem pick_map {α β : Type} (f : α → β) (l : List α) (is : List Nat) : pick (l.map f) is = (pick l is).map f := by
  unfold pick
  induction is with
  | nil => rfl
  | cons i t ih =>
    rw [List.filterMap_cons, List.filterMap_cons, List.getElem?_map]
    cases l[i]? with
    | none => exact ih
    | some x => rw [Option.map_some, List.map_cons, ih]
theorem mem_pick {α : Type} {l : List α} {is : List Nat} {x : α} : x ∈ pick l is ↔ ∃ i ∈ is, l[i]? = some x := List.mem_filterMap
theorem pick_nd {l : List Str} (hl : l.Nodup) {is : List Nat} (hi : is.Nodup) : (pick l is).Nodup := by
  induction is with
  | nil => exact List.nodup_nil
  | cons i t ih =>
    obtain ⟨h1, h2⟩ := List.nodup_cons.mp hi
    unfold pick at ih ⊢
    rw [List.filterMap_cons]
    cases e : l[i]? with
    | none => exact ih h2
    | some x =>
      refine List.nodup_cons.mpr ⟨fun hm => ?_, ih h2⟩
      obtain ⟨j, hj, e2⟩ := List.mem_filterMap.mp hm
      exact h1 (by rw [nd_ix hl e e2]; exact hj)
theorem pick_len {α : Type} (l : List α) (is : List Nat) : (pick l is).length ≤ is.length := List.length_filterMap_le _ _
theorem nd_map {α β : Type} {f : α → β} (hf : ∀ x y, f x = f y → x = y) : ∀ {l : List α}, l.Nodup → (l.map f).Nodup
  | [], _ => List.nodup_nil
  | a :: r, h => by
    obtain ⟨h1, h2⟩ := List.nodup_cons.mp h
    rw [List.map_cons]
    refine List.nodup_cons.mpr ⟨fun hm => ?_, nd_map hf h2⟩
    obtain ⟨b, hb, e⟩ := List.mem_map.mp hm
    rw [hf b a e] at hb
    exact h1 hb
theorem ix2_len (n : Nat) (lo : Option Int) : (ix2 n lo).length ≤ n := by
  refine sliceRange_length_le _ _ _ n (fun _ => ⟨?_, ?_⟩) fun h => absurd (show (2 : Int) > 0 by decide) h
  · cases lo with
    | none => exact Int.le_refl 0
    | some i => show 0 ≤ max 0 (min (if i < 0 then i + n else i) (n : Int)); omega
  · exact Int.le_refl _
theorem ix2_0 (n : Nat) : ∀ i ∈ ix2 n none, i % 2 = 0 := fun i hi => by
  unfold ix2 sliceRange at hi
  obtain ⟨k, _, rfl⟩ := List.mem_map.mp hi
  show ((0 : Int) + 2 * (k : Int)).toNat % 2 = 0
  omega
theorem ix2_1 (n : Nat) : ∀ i ∈ ix2 n (some 1), i % 2 = 1 := fun i hi => by
  unfold ix2 sliceRange at hi
  obtain ⟨k, hk, rfl⟩ := List.mem_map.mp hi
  have e1 : (sliceBounds (some 1) none (some 2) n).1 = max 0 (min 1 (n : Int)) := rfl
  have e2 : (sliceBounds (some 1) none (some 2) n).2.1 = (n : Int) := rfl
  have e3 : (sliceBounds (some 1) none (some 2) n).2.2 = 2 := rfl
  rw [e1, e2, e3] at hk
  rw [e1, e3]
  by_cases h0 : n = 0
  · subst h0
    rw [show max 0 (min 1 ((0 : Nat) : Int)) = 0 from rfl] at hk
    simp at hk
  · show (max 0 (min 1 (n : Int)) + 2 * (k : Int)).toNat % 2 = 1
    have : max 0 (min 1 (n : Int)) = 1 := by omega
    rw [this]
    omega
theorem ix2_nd (n : Nat) {lo : Option Int} (h : lo = none ∨ lo = some 1) : (ix2 n lo).Nodup := by
  have e3 : (sliceBounds lo none (some 2) n).2.2 = 2 := rfl
  have e1 : 0 ≤ (sliceBounds lo none (some 2) n).1 := by
    rcases h with rfl | rfl
    · exact Int.le_refl 0
    · show 0 ≤ max 0 (min 1 (n : Int))
      omega
  unfold ix2 sliceRange
  rw [e3]
  generalize (sliceBounds lo none (some 2) n).1 = a at e1
  refine nd_map (fun x y e => ?_) List.nodup_range
  omega
/-- xs[lo::2] -/
def tStep2 (K : PySem.W.Frag) (te : TE) (tl : (σ : L2.St) → Hp → (Option Int → Hp → Prop) → Prop) : TE := fun σ H Q => te σ H fun x H1 => tl σ H1 fun lo H2 => ∃ a xs, x = .ref a ∧ SqL K H2 a xs ∧ ∀ p, H2 p = none → Q (.ref p) (upd H2 p (.lst (pick xs (ix2 xs.length lo))))
theorem pe_step2 {X : Cx} {e : Expr} {te : TE} {lo : Option Expr} {k : Nat} {tl : (σ : L2.St) → Hp → (Option Int → Hp → Prop) → Prop} {p1 p3 pos : Pos} (he : PE X e te) (hl : PO X lo tl) :
    PE X (.Subscript e (.Slice lo none (some (.Constant (.int 2) k p1)) p3) pos) (tStep2 X.K te tl) := by
  refine ⟨fun pins s σ H Q I h => ?_⟩
  refine Subscript_ (thn (he.run pins s σ H _ I h) fun v s1 ⟨x, H1, I1, r1, q1⟩ => ?_)
  have hst : PO X (some (.Constant (.int 2) k p1)) (tPart (tC (.int 2))) := po_some pe_int
  refine wpAny_Slice (thn (hl.run pins s1 σ H1 _ I1 q1) fun vl s2 ⟨l, H2, I2, pl, q2⟩ => ?_)
  refine thn (po_none.run pins s2 σ H2 (fun o H3 => o = none ∧ H3 = H2) I2 ⟨rfl, rfl⟩) fun vu s3 ⟨u, H3, I3, pu, eu, e3⟩ => ?_
  subst eu e3
  refine thn (hst.run pins s3 σ H3 (fun o H4 => o = some 2 ∧ H4 = H3) I3 ⟨2, rfl, rfl, rfl⟩) fun vs s4 ⟨o, H4, I4, ps, eo, e4⟩ => ?_
  subst eo e4
  obtain ⟨a, xs, ex, hx, q⟩ := q2
  subst ex
  cases r1
  have I5 : Inv X pins σ H4 { s4 with heap := s4.heap.push { cls := .type "slice", data := .fields #[vl, vu, vs] } } := I4.kept (t' := s4.toks) fun b ob q => Heap.get?_push_of_some _ q
  obtain ⟨its, r, ht, hz⟩ := I5.list hx
  have hlen := r.length
  show wpAny (model X.prog X.w) X.A (subscriptTail e (.Slice lo none (some (.Constant (.int 2) k p1)) p3) (.ref a) (.ref s4.heap.objs.size)) (EP X pins σ Q) X.xe { s4 with heap := s4.heap.push { cls := .type "slice", data := .fields #[vl, vu, vs] } }
  refine tail_any (ops := [.ref a, .ref s4.heap.objs.size]) ht.isList.typeIs (PySem.slot_list_getitem.lookup) ?_ (by with_unfolding_all rfl)
  refine wpAny_getItem_list_slice ht.isList (Heap.IsSliceOf.new _ vl vu vs) pl pu ps (by decide) ?_ (by rw [List.size_toArray]; omega)
  have es : slicePick its.toArray l none (some 2) = (pick its (ix2 xs.length l)).toArray := by
    unfold slicePick pick ix2
    rw [List.size_toArray, ← hlen]
    congr 2
    funext i
    simp
  rw [es]
  refine ⟨.ref _, _, I5.laid (t' := s4.toks) (o := .lst (pick xs (ix2 xs.length l))) (fun b ob q => Heap.get?_push_of_some _ q) (Nat.le_refl _) ?_, rfl, q _ (I5.hok.fresh (Nat.le_refl _))⟩
  refine ⟨?_, _, 0, vals_pick r _, Heap.get?_push_size _ rfl⟩
  exact Nat.le_trans (Nat.le_trans (pick_len _ _) (ix2_len _ _)) hz
/-! ### d.update({..}) -/
def rUpd : V → List V → Hp → VK → Prop := fun x xs H Q => ∃ (d o : Addr) (kvs more : List (Key × V)), x = .ref d ∧ xs = [.ref o] ∧ H d = some (.dK kvs) ∧ H o = some (.dK more) ∧ d ≠ o ∧ kvs.length + more.length < 1000 ∧ Q .non (upd H d (.dK (mergeK kvs more)))
theorem mt_upd {X : Cx} : MtR X "dict.update" rUpd := by
  intro pins s σ H x xs v us Q I rx rxs h
  obtain ⟨d, o, kvs, more, rfl, rfl, hd, ho, hne, hz, q⟩ := h
  cases rx
  cases rxs with
  | cons ry rt =>
    cases rt
    cases ry
    obtain ⟨z1, hs1, vs, rel1, dd⟩ := dk_of I.hok hd
    obtain ⟨z2, hs2, rs, rel2, dr⟩ := dk_of I.hok ho
    refine call_meetsIn PySem.F.slot_dict_update dd.typeIs PySem.F.entry_dict_update (PySem.F.args_dict_update_2 _ _) (meets_dict_update (mixKind X.prog X.w) d o hne hs2) ⟨vs, rs, dd, dr, ?_, fun h' dd' dr' sb => ?_⟩
    · rw [← rel1.length, ← rel2.length, sizeLine_eq]; omega
    · have he : ∃ q, h'.get? d = some q := let ⟨q, _, _, hq, _⟩ := dd'; ⟨q, hq⟩
      have hl : (mergeK kvs more).length ≤ sizeLine := Nat.le_trans (length_mergeK _ _) (by rw [sizeLine_eq]; omega)
      exact ⟨.non, _, d_write I (by rw [hd]; exact True.intro) sb he (dk_new hl hs1 (rel2.merge rel1) dd'), rfl, q⟩
end Sm
namespace Sm
open PySem PySem.Spec PyProof.Rows L2
/-! ### the law's own m -/
structure MA where
  (m pl hm sk tg cw jb : Addr)
  (tl cl pa ab cu em : Str → Addr)
def mk6 (pl hm sk tg cw jb : Addr) : List (Key × V) := [(Sum.inr "place", .ref pl), (Sum.inr "home", .ref hm), (Sum.inr "stuck", .ref sk), (Sum.inr "tags", .ref tg), (Sum.inr "crew", .ref cw), (Sum.inr "jobs", .ref jb)]
def pk5 (ab : Addr) (ph : Str) (en : Bool) (cu em : Addr) : List (Key × V) := [(Sum.inr "stretch", .ref ab), (Sum.inr "phase", .str ph), (Sum.inr "ends", .bl en), (Sum.inr "switches", .ref cu), (Sum.inr "drains", .ref em)]
abbrev MA.six (z : MA) : List (Key × V) := mk6 z.pl z.hm z.sk z.tg z.cw z.jb
section
variable {H : Hp} {a pl hm sk tg cw jb ab cu em : Addr} {ph : Str} {en : Bool}
theorem dm_pl (h : Rd H a (.dK (mk6 pl hm sk tg cw jb))) : DGet H a (.str "place") (some (.ref pl)) := .inl ⟨_, Sum.inr "place", h, rfl, by rfl⟩
theorem dm_hm (h : Rd H a (.dK (mk6 pl hm sk tg cw jb))) : DGet H a (.str "home") (some (.ref hm)) := .inl ⟨_, Sum.inr "home", h, rfl, by rfl⟩
theorem dm_sk (h : Rd H a (.dK (mk6 pl hm sk tg cw jb))) : DGet H a (.str "stuck") (some (.ref sk)) := .inl ⟨_, Sum.inr "stuck", h, rfl, by rfl⟩
theorem dm_tg (h : Rd H a (.dK (mk6 pl hm sk tg cw jb))) : DGet H a (.str "tags") (some (.ref tg)) := .inl ⟨_, Sum.inr "tags", h, rfl, by rfl⟩
theorem dm_cw (h : Rd H a (.dK (mk6 pl hm sk tg cw jb))) : DGet H a (.str "crew") (some (.ref cw)) := .inl ⟨_, Sum.inr "crew", h, rfl, by rfl⟩
theorem dm_jb (h : Rd H a (.dK (mk6 pl hm sk tg cw jb))) : DGet H a (.str "jobs") (some (.ref jb)) := .inl ⟨_, Sum.inr "jobs", h, rfl, by rfl⟩
theorem dp_ab (h : Rd H a (.dK (pk5 ab ph en cu em))) : DGet H a (.str "stretch") (some (.ref ab)) := .inl ⟨_, Sum.inr "stretch", h, rfl, by rfl⟩
theorem dp_ph (h : Rd H a (.dK (pk5 ab ph en cu em))) : DGet H a (.str "phase") (some (.str ph)) := .inl ⟨_, Sum.inr "phase", h, rfl, by rfl⟩
theorem dp_en (h : Rd H a (.dK (pk5 ab ph en cu em))) : DGet H a (.str "ends") (some (.bl en)) := .inl ⟨_, Sum.inr "ends", h, rfl, by rfl⟩
theorem dp_cu (h : Rd H a (.dK (pk5 ab ph en cu em))) : DGet H a (.str "switches") (some (.ref cu)) := .inl ⟨_, Sum.inr "switches", h, rfl, by rfl⟩
theorem dp_em (h : Rd H a (.dK (pk5 ab ph en cu em))) : DGet H a (.str "drains") (some (.ref em)) := .inl ⟨_, Sum.inr "drains", h, rfl, by rfl⟩
end
/-- m, for reading (a dict may be locked) -/
structure MRd (z : MA) (L : BS) (pp : Str → PS) (H : Hp) : Prop where
  m : Rd H z.m (.dK z.six)
  pl : Rd H z.pl (.dK (dk L.devs fun d => .str (L.pl d)))
  hm : Rd H z.hm (.dK (dk L.devs fun d => .str (L.hm d)))
  sk : H z.sk = some (.lst (L.fs.map V.str))
  tg : Rd H z.tg (.dK (dk L.devs fun d => .ref (z.tl d)))
  tl : ∀ d ∈ L.devs, H (z.tl d) = some (.lst ((L.ms d).map V.str))
  cw : Rd H z.cw (.dK (dk L.jobs fun j => .ref (z.cl j)))
  cl : ∀ j ∈ L.jobs, H (z.cl j) = some (.lst ((L.cw j).map V.str))
  jb : Rd H z.jb (.dK (dk L.jobs fun j => .ref (z.pa j)))
  pa : ∀ j ∈ L.jobs, Rd H (z.pa j) (.dK (pk5 (z.ab j) (pp j).ph (pp j).en (z.cu j) (z.em j)))
  ab : ∀ j ∈ L.jobs, H (z.ab j) = some (.lst ((pp j).ab.map V.str))
  cu : ∀ j ∈ L.jobs, H (z.cu j) = some (.lst ((pp j).cu.map V.str))
  em : ∀ j ∈ L.jobs, H (z.em j) = some (.lst ((pp j).em.map V.str))
/-- m, for writing -/
structure MAt (ow : Addr → Ro) (z : MA) (L : BS) (pp : Str → PS) (H : Hp) : Prop where
  m : H z.m = some (.dK z.six)
  pl : H z.pl = some (.dK (dk L.devs fun d => .str (L.pl d)))
  hm : H z.hm = some (.dK (dk L.devs fun d => .str (L.hm d)))
  sk : H z.sk = some (.lst (L.fs.map V.str))
  tg : H z.tg = some (.dK (dk L.devs fun d => .ref (z.tl d)))
  tl : ∀ d ∈ L.devs, H (z.tl d) = some (.lst ((L.ms d).map V.str))
  cw : H z.cw = some (.dK (dk L.jobs fun j => .ref (z.cl j)))
  cl : ∀ j ∈ L.jobs, H (z.cl j) = some (.lst ((L.cw j).map V.str))
  jb : H z.jb = some (.dK (dk L.jobs fun j => .ref (z.pa j)))
  pa : ∀ j ∈ L.jobs, H (z.pa j) = some (.dK (pk5 (z.ab j) (pp j).ph (pp j).en (z.cu j) (z.em j)))
  ab : ∀ j ∈ L.jobs, H (z.ab j) = some (.lst ((pp j).ab.map V.str))
  cu : ∀ j ∈ L.jobs, H (z.cu j) = some (.lst ((pp j).cu.map V.str))
  em : ∀ j ∈ L.jobs, H (z.em j) = some (.lst ((pp j).em.map V.str))
  rm : ow z.m = .m
  rpl : ow z.pl = .pl
  rhm : ow z.hm = .hm
  rtg : ow z.tg = .tg
  rcw : ow z.cw = .cw
  rjb : ow z.jb = .jb
  rpa : ∀ j ∈ L.jobs, ow (z.pa j) = .pp j
theorem Rd.same {H H' : Hp} {a : Addr} {o : HO} (h : Rd H a o) (s : Same H H') : Rd H' a o := h.imp (fun h => s _ _ h) fun ⟨b, h⟩ => ⟨b, s _ _ h⟩
section
variable {ow : Addr → Ro} {z : MA} {L : BS} {pp : Str → PS} {H H' : Hp}
theorem MRd.same (m : MRd z L pp H) (s : Same H H') : MRd z L pp H' where
  m := Rd.same m.m s
  pl := Rd.same m.pl s
  hm := Rd.same m.hm s
  sk := s _ _ m.sk
  tg := Rd.same m.tg s
  tl := fun d hd => s _ _ (m.tl d hd)
  cw := Rd.same m.cw s
  cl := fun d hd => s _ _ (m.cl d hd)
  jb := Rd.same m.jb s
  pa := fun d hd => Rd.same (m.pa d hd) s
  ab := fun d hd => s _ _ (m.ab d hd)
  cu := fun d hd => s _ _ (m.cu d hd)
  em := fun d hd => s _ _ (m.em d hd)
theorem MAt.rd (m : MAt ow z L pp H) : MRd z L pp H where
  m := .inl m.m
  pl := .inl m.pl
  hm := .inl m.hm
  sk := m.sk
  tg := .inl m.tg
  tl := m.tl
  cw := .inl m.cw
  cl := m.cl
  jb := .inl m.jb
  pa := fun j hj => .inl (m.pa j hj)
  ab := m.ab
  cu := m.cu
  em := m.em
theorem MAt.keep {p : Ro → Bool} (m : MAt ow z L pp H) (k : Kp ow p H H') (hp : ∀ r, r.isM = true → p r = false) : MAt ow z L pp H' where
  m := k _ _ m.m (.inl (by rw [m.rm]; exact hp _ rfl))
  pl := k _ _ m.pl (.inl (by rw [m.rpl]; exact hp _ rfl))
  hm := k _ _ m.hm (.inl (by rw [m.rhm]; exact hp _ rfl))
  sk := k _ _ m.sk (.inr fun _ z => nomatch z)
  tg := k _ _ m.tg (.inl (by rw [m.rtg]; exact hp _ rfl))
  tl := fun d hd => k _ _ (m.tl d hd) (.inr fun _ z => nomatch z)
  cw := k _ _ m.cw (.inl (by rw [m.rcw]; exact hp _ rfl))
  cl := fun d hd => k _ _ (m.cl d hd) (.inr fun _ z => nomatch z)
  jb := k _ _ m.jb (.inl (by rw [m.rjb]; exact hp _ rfl))
  pa := fun j hj => k _ _ (m.pa j hj) (.inl (by rw [m.rpa j hj]; exact hp _ rfl))
  ab := fun d hd => k _ _ (m.ab d hd) (.inr fun _ z => nomatch z)
  cu := fun d hd => k _ _ (m.cu d hd) (.inr fun _ z => nomatch z)
  em := fun d hd => k _ _ (m.em d hd) (.inr fun _ z => nomatch z)
  rm := m.rm
  rpl := m.rpl
  rhm := m.rhm
  rtg := m.rtg
  rcw := m.rcw
  rjb := m.rjb
  rpa := m.rpa
theorem MAt.same (m : MAt ow z L pp H) (s : Same H H') : MAt ow z L pp H' := m.keep (p := fun _ => false) (Kp.same s) fun _ _ => rfl
end
theorem ix_tupK {X : Cx} (K : PySem.W.Frag) (hK : X.K = K := by rfl) : IxR X (rIxT K) := by
  subst hK
  exact ix_tup
section
variable {P : Program} {w : World} {K : PySem.W.Frag} {mg : Str → Option Value} {base : Heap}
/-! ### _law_hands -/
def spLHands : Sp := fun vs H Q _ => ∃ z L pp p js, vs = [.ref z.m, .ref p] ∧ MRd z L pp H ∧ BOk L ∧ H p = some (.lst (List.map V.str js)) ∧ js.Nodup ∧ (∀ j ∈ js, j ∈ L.jobs) ∧
  ∀ H' q, Same H H' → H' q = some (.lst ((hset L.cw js).map V.str)) → Q (.ref q) H'
abbrev N_l_hands : List Str := ["_law_m", "_law_jobs", "_law_found", "_law_job"]
theorem sc_l_hands : FnScope N_l_hands ["_law_m", "_law_jobs"] (defScope s_lhands) := ⟨rfl, rfl, rfl, by decide +kernel, rfl, by decide +kernel, by decide +kernel⟩
theorem ok_l_hands (T : Txt K mg) : GFn P w K mg base CX0 1 "_law_hands" ["_law_m", "_law_jobs"] spLHands := by
  refine T.f_l_hands.ok0 sc_l_hands (fun vs H Q E h => ?_) (fun f cdv A outer s H vs Q E hr h => ?_)
  · obtain ⟨z, L, pp, p, js, rfl, _⟩ := h
    rfl
  · obtain ⟨z, L, pp, p, js, rfl, m, ok, hp, hn, hs, k⟩ := h
    have hu := hu_of hr
    refine ⟨_, (pss_cons (ps_set (i := 2) sc_l_hands.nd rfl (Or.inl rfl) (pe_lst pa_nil))
    (pss_cons (ps_for PassesOwn.never rfl (pi_list (pv 1)) (pg_name (i := 3) sc_l_hands.nd rfl (Or.inl rfl))
      (pss_one (ps_set (i := 2) sc_l_hands.nd rfl (Or.inl rfl) (pe_op op_cat (pv 2) (pe_dget hu (pe_dget hu (pv 0) pe_str (fun _ _ => rfl)) (pv 3) (fun _ _ => rfl))))))
    (pss_one (ps_ret (pe_callB (cr_sortedSetS rfl) (by rfl) T.b_sorted (by decide +kernel) (by exact (pa_cons (pe_callTy (cr_setS rfl) (by rfl) T.b_set (by decide +kernel) (pa_cons (pv 2) pa_nil)) pa_nil))))))), ?_⟩
    have hlen : ∀ i, ((js.take i).flatMap L.cw).length ≤ 48 := fun i => bcrew_len ok (hn.sublist (List.take_sublist _ _)) fun j hj => hs j (List.mem_of_mem_take hj)
    refine ⟨by show 0 ≤ sizeLine; exact Nat.zero_le _, fun q0 hq0 => ?_⟩
    refine ⟨_, rfl, p, rfl, ⟨_, SqL.of ((Same.new hq0) _ _ hp)⟩, for_it walk_list (fun i σ H' => Same H H' ∧ ∃ q v, σ = [some (.ref z.m), some (.ref p), some (.ref q), v] ∧ H' q = some (.lst (((js.take i).flatMap L.cw).map V.str))) ⟨Same.new hq0, q0, none, rfl, upd_same⟩ (fun i σ H' _ h => h.1.seq (SqL.of hp)) ?_ ?_⟩
    · rintro i v σ H1 H2 hi ⟨s1, q, v0, rfl, hq⟩ ⟨rfl, hy⟩
      obtain ⟨j, hj, rfl⟩ := strs_at hy
      have hjj := hs j (mem_at hj)
      have m1 := m.same s1
      have hl1 := hlen i
      have hl2 := (ok.cw j hjj).1.len
      refine ⟨_, rfl, _, rfl, _, _, rfl, dm_cw m1.m, _, rfl, _, _, rfl, dg m1.cw hjj, q, z.cl j, _, _, rfl, rfl, hq, m1.cl j hjj, sz_of (by rw [List.length_map, List.length_map]; omega), fun r hr' => ?_⟩
      refine ⟨s1.trans (Same.new hr'), r, _, rfl, ?_⟩
      rw [upd_same, take_more hj, List.flatMap_append, List.flatMap_cons, List.flatMap_nil, List.append_nil, List.map_append]
    · rintro σ H1 ⟨s1, q, v0, rfl, hq⟩
      rw [List.length_map, List.take_length] at hq
      have hl := hlen js.length
      rw [List.take_length] at hl
      refine ⟨_, rfl, q, _, rfl, SqL.of hq, by omega, fun t mm ht hmm => ?_⟩
      refine ⟨t, _, mm, rfl, upd_same, by omega, fun ys r hs' hnd hin hr' => ?_⟩
      refine k _ r ((s1.trans (Same.new ht)).trans (Same.new hr')) ?_
      rw [upd_same]
      congr 3
      have e1 : srt ys = hset L.cw js := hset_of hnd fun a => by
        rw [hin a, List.any_eq_true]
        constructor
        · rintro ⟨x, hx, e⟩
          rw [beq_iff_eq] at e
          subst e
          exact List.mem_flatMap.mp hx
        · intro h
          exact ⟨a, List.mem_flatMap.mpr h, by simp⟩
      rw [← e1]
      exact srt_eq (List.Perm.refl _) hs'
end
end Sm
namespace Sm
open PySem PySem.Spec PyProof.Rows L2
theorem Tups.none {H : Hp} : Tups H [] (([] : List Stp).map stV) := .nil
section
variable {P : Program} {w : World} {K : PySem.W.Frag} {mg : Str → Option Value} {base : Heap}
def spLSteps : Sp := fun vs H Q _ => ∃ z L pp j, vs = [.ref z.m, .str j] ∧ MRd z L pp H ∧ BOk L ∧ POk L (pp j) ∧ j ∈ L.jobs ∧
  ∀ H' p items, Same H H' → H' p = some (.lst items) → Tups H' items ((L.steps j (pp j)).map stV) → Q (.ref p) H'
abbrev N_l_steps : List Str := ["_law_m", "_law_job", "_law_paper", "_law_found", "_law_due_here", "_law_name_here", "_law_one_here"]
theorem sc_l_steps : FnScope N_l_steps ["_law_m", "_law_job"] (defScope s_lsteps) := ⟨rfl, rfl, rfl, by decide +kernel, rfl, by decide +kernel, by decide +kernel⟩
theorem ok_l_steps (T : Txt K mg) : GFn P w K mg base CX0 1 "_law_steps" ["_law_m", "_law_job"] spLSteps := by
  refine T.f_l_steps.ok0 sc_l_steps (fun vs H Q E h => ?_) (fun f cdv A outer s H vs Q E hr h => ?_)
  · obtain ⟨z, L, pp, j, rfl, _⟩ := h
    rfl
  · obtain ⟨z, L, pp, j, rfl, m, ok, po, hj, k⟩ := h
    have hu := hu_of hr
    refine ⟨_, (pss_cons (ps_set (i := 2) sc_l_steps.nd rfl (Or.inl rfl) (pe_dget hu (pe_dget hu (pv 0) pe_str (fun _ _ => rfl)) (pv 1) (fun _ _ => rfl)))
    (pss_cons (ps_set (i := 3) sc_l_steps.nd rfl (Or.inl rfl) (pe_lst pa_nil))
    (C8.pss_cut (ps_if (pt_cmpR op_eq (pe_dget hu (pv 2) pe_str (fun _ _ => rfl)) pe_str (nomark _))
      (pss_cons (ps_set (i := 4) sc_l_steps.nd rfl (Or.inl rfl) (pe_op op_cat (pe_lc (own := [("_law_name_here", 5)]) (by rfl) sc_l_steps.nd (pi_list (pe_dget hu (pv 2) pe_str (fun _ _ => rfl))) (blkOk_by (own := [("_law_name_here", 5)]) (N := N_l_steps) (sc := defScope s_lsteps) (by decide +kernel)) (fun _ _ _ _ _ => (pg_name (i := 5) sc_l_steps.nd rfl (Or.inl rfl))) (fun _ _ _ _ _ => pts_nil) (fun _ _ _ _ _ => (pe_tup (pa_cons (pv 5) (pa_cons pe_str pa_nil))))) (pe_lc (own := [("_law_name_here", 5)]) (by rfl) sc_l_steps.nd (pi_list (pe_dget hu (pv 2) pe_str (fun _ _ => rfl))) (blkOk_by (own := [("_law_name_here", 5)]) (N := N_l_steps) (sc := defScope s_lsteps) (by decide +kernel)) (fun _ _ _ _ _ => (pg_name (i := 5) sc_l_steps.nd rfl (Or.inl rfl))) (fun _ _ _ _ _ => pts_nil) (fun _ _ _ _ _ => (pe_tup (pa_cons (pv 5) (pa_cons pe_str pa_nil)))))))
    (pss_one (ps_setLc (i := 3) (own := [("_law_one_here", 6)]) (by rfl) sc_l_steps.nd rfl rfl (sw_true rfl rfl rfl (by decide +kernel)) (pi_list (pv 4)) (blkOk_by (own := [("_law_one_here", 6)]) (N := N_l_steps) (sc := defScope s_lsteps) (by decide +kernel)) (fun _ _ _ _ _ => (pg_name (i := 6) sc_l_steps.nd rfl (Or.inl rfl))) (fun _ _ _ _ _ => (pts_one (PW.pt (pw_or (pt_cmpR (op_notIn_seqK K) (pv 1) (pe_dget hu (pe_dget hu (pv 0) pe_str (fun _ _ => rfl)) (pe_ix (ix_tupK K) (pv 6) pe_int (fun _ _ => rfl)) (fun _ _ => rfl)) rfl) (pw_or1 (pt_cmpR op_ne (pe_dget hu (pe_dget hu (pv 0) pe_str (fun _ _ => rfl)) (pe_ix (ix_tupK K) (pv 6) pe_int (fun _ _ => rfl)) (fun _ _ => rfl)) (pe_ix (ix_tupK K) (pv 6) pe_int (fun _ _ => rfl)) (nomark _))))))) (fun _ _ _ _ _ => (pv 6)))))
      pss_nil)
    (C8.pss_cut (ps_if (pt_cmpR op_eq (pe_dget hu (pv 2) pe_str (fun _ _ => rfl)) pe_str (nomark _))
      (pss_cons (ps_setLc (i := 4) (own := [("_law_name_here", 5)]) (by rfl) sc_l_steps.nd rfl rfl (sw_true rfl rfl rfl (by decide +kernel)) (pi_list (pe_revL (pe_dget hu (pv 2) pe_str (fun _ _ => rfl)))) (blkOk_by (own := [("_law_name_here", 5)]) (N := N_l_steps) (sc := defScope s_lsteps) (by decide +kernel)) (fun _ _ _ _ _ => (pg_name (i := 5) sc_l_steps.nd rfl (Or.inl rfl))) (fun _ _ _ _ _ => pts_nil) (fun _ _ _ _ _ => (pe_tup (pa_cons (pv 5) (pa_cons pe_str pa_nil)))))
    (pss_cons (ps_set (i := 4) sc_l_steps.nd rfl (Or.inl rfl) (pe_op op_cat (pv 4) (pe_lc (own := [("_law_name_here", 5)]) (by rfl) sc_l_steps.nd (pi_list (pe_revL (pe_dget hu (pv 2) pe_str (fun _ _ => rfl)))) (blkOk_by (own := [("_law_name_here", 5)]) (N := N_l_steps) (sc := defScope s_lsteps) (by decide +kernel)) (fun _ _ _ _ _ => (pg_name (i := 5) sc_l_steps.nd rfl (Or.inl rfl))) (fun _ _ _ _ _ => pts_nil) (fun _ _ _ _ _ => (pe_tup (pa_cons (pv 5) (pa_cons (pe_dget hu (pe_dget hu (pv 0) pe_str (fun _ _ => rfl)) (pv 5) (fun _ _ => rfl)) pa_nil)))))))
    (pss_one (ps_setLc (i := 3) (own := [("_law_one_here", 6)]) (by rfl) sc_l_steps.nd rfl rfl (sw_true rfl rfl rfl (by decide +kernel)) (pi_list (pv 4)) (blkOk_by (own := [("_law_one_here", 6)]) (N := N_l_steps) (sc := defScope s_lsteps) (by decide +kernel)) (fun _ _ _ _ _ => (pg_name (i := 6) sc_l_steps.nd rfl (Or.inl rfl))) (fun _ _ _ _ _ => (pts_one (pt_cmpR op_ne (pe_dget hu (pe_dget hu (pv 0) pe_str (fun _ _ => rfl)) (pe_ix (ix_tupK K) (pv 6) pe_int (fun _ _ => rfl)) (fun _ _ => rfl)) (pe_ix (ix_tupK K) (pv 6) pe_int (fun _ _ => rfl)) (nomark _)))) (fun _ _ _ _ _ => (pv 6))))))
      pss_nil)
    (C8.pss_cut (ps_if (pt_cmpR op_eq (pe_dget hu (pv 2) pe_str (fun _ _ => rfl)) pe_str (nomark _))
      (pss_cons (ps_set (i := 4) sc_l_steps.nd rfl (Or.inl rfl) (pe_op op_cat (pe_revL (pe_dget hu (pv 2) pe_str (fun _ _ => rfl))) (pe_revL (pe_dget hu (pv 2) pe_str (fun _ _ => rfl)))))
    (pss_one (ps_setLc (i := 3) (own := [("_law_name_here", 5)]) (by rfl) sc_l_steps.nd rfl rfl (sw_true rfl rfl rfl (by decide +kernel)) (pi_list (pv 4)) (blkOk_by (own := [("_law_name_here", 5)]) (N := N_l_steps) (sc := defScope s_lsteps) (by decide +kernel)) (fun _ _ _ _ _ => (pg_name (i := 5) sc_l_steps.nd rfl (Or.inl rfl))) (fun _ _ _ _ _ => (pts_one (pt_cmpR (op_in_seqK K) (pv 1) (pe_dget hu (pe_dget hu (pv 0) pe_str (fun _ _ => rfl)) (pv 5) (fun _ _ => rfl)) rfl))) (fun _ _ _ _ _ => (pe_tup (pa_cons (pv 5) (pa_cons pe_non pa_nil)))))))
      pss_nil)
    (pss_one (ps_ret (pv 3)))))))), ?_⟩
    have hl := cu_len ok po
    refine ⟨_, rfl, _, _, rfl, dm_jb m.m, _, rfl, _, _, rfl, dg m.jb hj, by show 0 ≤ sizeLine; exact Nat.zero_le _, fun q0 hq0 => ?_⟩
    let Mid : List Stp → L2.St → Hp → Prop := fun S σ H' => ∃ q its v4 v5 v6, σ = [some (.ref z.m), some (.str j), some (.ref (z.pa j)), some (.ref q), v4, v5, v6] ∧ Same H H' ∧ H' q = some (.lst its) ∧ Tups H' its (S.map stV)
    let S1 : List Stp := if (pp j).ph = "still" then stStill L.pl (L.on j) (pp j).cu (pp j).em else []
    let S2 : List Stp := if (pp j).ph = "trial" then stTrial L.pl L.hm (pp j).cu (pp j).em else S1
    let S3 : List Stp := if (pp j).ph = "away" then stAway (L.on j) (pp j).cu (pp j).em else S2
    refine ⟨Mid S1, ?_, ?_⟩
    · have m0 := m.same (Same.new (o := .lst []) hq0)
      refine ⟨_, rfl, _, _, rfl, dp_ph (m0.pa j hj), rfl, _, rfl, ?_⟩
      refine iteD (fun e => ?_) (fun e => ⟨q0, [], none, none, none, rfl, Same.new hq0, upd_same, ?_⟩)
      rotate_left
      · show Tups _ [] ((if (pp j).ph = "still" then _ else []).map stV)
        rw [if_neg fun h => e (congrArg V.str h)]
        exact .nil
      have s0 : Same H (upd H q0 (.lst [])) := Same.new hq0
      have hcu0 := m0.cu j hj
      refine ⟨_, rfl, _, _, rfl, dp_cu (m0.pa j hj), _, rfl, ⟨_, SqL.of hcu0⟩, fun D1 hD1 => ?_⟩
      refine lc_gen walk_list (pp j).cu (fun _ => true) (fun d => (d, some ("shut" : Str))) (Fv V.str) (Tv stV) (List.length_map _).symm (by rw [List.length_map]; omega) hD1 (fun H' s => s.seq (SqL.of hcu0)) yS Tv.mono ?_ ?_
      · rintro i d v H1 hi s1 rfl nx sk hk _
        refine ⟨rfl, ?_⟩
        refine tyes ?_
        exact ⟨_, rfl, by show 2 ≤ sizeLine; decide, fun t ht => hk rfl _ _ (Same.new ht) ⟨t, rfl, upd_same⟩⟩
      intro H1 it1 s1 hD1' ht1
      rw [filter_all] at ht1
      have ht1 := Tv.tups ht1
      have m1 := m0.same s1
      have hem1 := m1.em j hj
      refine ⟨_, rfl, _, _, rfl, dp_em (m1.pa j hj), _, rfl, ⟨_, SqL.of hem1⟩, fun D2 hD2 => ?_⟩
      refine lc_gen walk_list (pp j).em (fun _ => true) (fun d => (d, some ("open" : Str))) (Fv V.str) (Tv stV) (List.length_map _).symm (by rw [List.length_map]; omega) hD2 (fun H' s => s.seq (SqL.of hem1)) yS Tv.mono ?_ ?_
      · rintro i d v H1 hi s1 rfl nx sk hk _
        refine ⟨rfl, ?_⟩
        refine tyes ?_
        exact ⟨_, rfl, by show 2 ≤ sizeLine; decide, fun t ht => hk rfl _ _ (Same.new ht) ⟨t, rfl, upd_same⟩⟩
      intro H2 it2 s2 hD2' ht2
      rw [filter_all] at ht2
      have ht2 := Tv.tups ht2
      have hD1'' := s2 _ _ hD1'
      have l1 := tups_len ht1
      have l2 := tups_len ht2
      rw [List.length_map] at l1 l2
      refine ⟨D1, D2, it1, it2, rfl, rfl, hD1'', hD2', sz_of (by omega), fun p hp => ?_⟩
      have s3 := ((s0.trans s1).trans s2).trans (Same.new (o := .lst (it1 ++ it2)) hp)
      have htt : Tups (upd H2 p (.lst (it1 ++ it2))) (it1 ++ it2) ((dueStill (pp j).cu (pp j).em).map stV) := by
        have := (Tups.app (ht1.keep (KpT.same s2)) ht2).keep (KpT.same (Same.new (o := .lst (it1 ++ it2)) hp))
        unfold dueStill
        rw [List.map_append]
        exact this
      refine ⟨_, rfl, p, rfl, ⟨_, SqL.of upd_same⟩, fun D3 hD3 => ?_⟩
      have hp3 : (upd H2 p (.lst (it1 ++ it2))) p = some (.lst (it1 ++ it2)) := upd_same
      have hti := tups_len htt
      refine lc_gen walk_list (dueStill (pp j).cu (pp j).em) (fun s => !hangs L.pl (L.on j) s) id (Tv stV) (Tv stV) hti.symm (by rw [hti, len_dueStill, List.length_append]; omega) hD3 (fun H' s => s.seq (SqL.of hp3)) (yT htt) Tv.mono ?_ ?_
      · rintro i ⟨d, t⟩ v H4 hi s4 ⟨a, rfl, ha⟩ nx sk hk hsk
        obtain ⟨h1, t', et, _⟩ := mem_dueStill (mem_at hi)
        cases et
        have hd := po.sub d h1
        have m4 := m.same (s3.trans s4)
        refine ⟨rfl, ?_⟩
        refine ⟨_, rfl, _, rfl, _, _, rfl, dm_tg m4.m, _, rfl, a, _, 0, .str d, rfl, rfl, SqT.of ha, at0, _, _, rfl, dg m4.tg hd, z.tl d, _, rfl, .inl (SqL.of (m4.tl d hd)), rfl, flat_strs' _, _, rfl, ?_⟩
        rw [inV_str]
        have fin : hangs L.pl (L.on j) (d, some t') = false → tVar 6 (List.set (wipe (List.set (List.set (L2.start N_l_steps [.ref z.m, .str j]) 2 (some (.ref (z.pa j)))) 3 (some (.ref q0)) |>.set 4 (some (.ref p))) [6]) 6 (some (.ref a))) H4 fun y H4 => nx y H4 := fun hh => ⟨_, rfl, hk (by show (!hangs L.pl (L.on j) (d, some t')) = true; rw [hh]; rfl) _ _ (Same.refl _) ⟨a, rfl, ha⟩⟩
        refine iteNd (fun e1 => ?_) (fun e1 => ?_)
        · exact fin (by rw [hangs_some]; unfold BS.on; rw [decide_eq_false e1, Bool.and_false])
        · refine ⟨_, rfl, _, _, rfl, dm_pl m4.m, _, rfl, a, _, 0, .str d, rfl, rfl, SqT.of ha, at0, _, _, rfl, dg m4.pl hd, _, rfl, a, _, 1, .str t', rfl, rfl, SqT.of ha, atN _ 1, rfl, _, rfl, ?_⟩
          refine iteNd (fun e2 => fin ?_) (fun e2 => ?_)
          · rw [hangs_some, decide_eq_false fun h => e2 (congrArg V.str h), Bool.false_and]
          · refine hsk ?_ H4 (Same.refl _)
            show (!hangs L.pl (L.on j) (d, some t')) = false
            rw [hangs_some]
            unfold BS.on
            rw [decide_eq_true (V.str.inj e2), decide_eq_true e1]
            rfl
      · intro H5 it5 s5 hD5 ht5
        rw [List.map_id] at ht5
        refine ⟨D3, it5, _, _, _, rfl, s3.trans s5, hD5, ?_⟩
        show Tups _ it5 ((if (pp j).ph = "still" then _ else []).map stV)
        rw [if_pos (V.str.inj e)]
        exact Tv.tups ht5
    rintro σ H6 ⟨q6, it6, v4, v5, v6, rfl, s6, hq6, ht6⟩
    have m6 := m.same s6
    refine ⟨Mid S2, ?_, ?_⟩
    · refine ⟨_, rfl, _, _, rfl, dp_ph (m6.pa j hj), rfl, _, rfl, ?_⟩
      refine iteD (fun e => ?_) (fun e => ⟨q6, it6, v4, v5, v6, rfl, s6, hq6, ?_⟩)
      rotate_left
      · show Tups _ it6 ((if (pp j).ph = "trial" then _ else S1).map stV)
        rw [if_neg fun h => e (congrArg V.str h)]
        exact ht6
      have hem6 := m6.em j hj
      refine ⟨_, rfl, _, _, rfl, dp_em (m6.pa j hj), z.em j, _, rfl, SqL.of hem6, fun r0 hr0 => ?_⟩
      rw [← List.map_reverse]
      have s7 := s6.trans (Same.new (o := .lst ((pp j).em.reverse.map V.str)) hr0)
      have h7 : (upd H6 r0 (.lst ((pp j).em.reverse.map V.str))) r0 = some (.lst ((pp j).em.reverse.map V.str)) := upd_same
      refine ⟨r0, rfl, ⟨_, SqL.of h7⟩, fun D1 hD1 => ?_⟩
      refine lc_gen walk_list (pp j).em.reverse (fun _ => true) (fun d => (d, some ("shut" : Str))) (Fv V.str) (Tv stV) (List.length_map _).symm (by rw [List.length_map, List.length_reverse]; omega) hD1 (fun H' s => s.seq (SqL.of h7)) yS Tv.mono ?_ ?_
      · rintro i d v H1 hi s1 rfl nx sk hk _
        refine ⟨rfl, ?_⟩
        refine tyes ?_
        exact ⟨_, rfl, by show 2 ≤ sizeLine; decide, fun t ht => hk rfl _ _ (Same.new ht) ⟨t, rfl, upd_same⟩⟩
      intro H1 it1 s1 hD1' ht1
      rw [filter_all] at ht1
      have ht1 := Tv.tups ht1
      have s71 := s7.trans s1
      have m1 := m.same s71
      have hcu1 := m1.cu j hj
      refine ⟨_, rfl, _, rfl, _, _, rfl, dp_cu (m1.pa j hj), z.cu j, _, rfl, SqL.of hcu1, fun r1 hr1 => ?_⟩
      rw [← List.map_reverse]
      have s8 : Same H1 (upd H1 r1 (.lst ((pp j).cu.reverse.map V.str))) := Same.new hr1
      have h8 : (upd H1 r1 (.lst ((pp j).cu.reverse.map V.str))) r1 = some (.lst ((pp j).cu.reverse.map V.str)) := upd_same
      refine ⟨r1, rfl, ⟨_, SqL.of h8⟩, fun D2 hD2 => ?_⟩
      refine lc_gen walk_list (pp j).cu.reverse (fun _ => true) (fun d => (d, some (L.hm d))) (Fv V.str) (Tv stV) (List.length_map _).symm (by rw [List.length_map, List.length_reverse]; omega) hD2 (fun H' s => s.seq (SqL.of h8)) yS Tv.mono ?_ ?_
      · rintro i d v H3 hi s3 rfl nx sk hk _
        have hd := cu_sub po (List.mem_reverse.mp (mem_at hi))
        have m3 := m.same ((s71.trans s8).trans s3)
        refine ⟨rfl, ?_⟩
        refine tyes ?_
        exact ⟨_, rfl, _, rfl, _, _, rfl, dm_hm m3.m, _, rfl, _, _, rfl, dg m3.hm hd, by show 2 ≤ sizeLine; decide, fun t ht => hk rfl _ _ (Same.new ht) ⟨t, rfl, upd_same⟩⟩
      intro H2 it2 s2 hD2' ht2
      rw [filter_all] at ht2
      have ht2 := Tv.tups ht2
      have s82 := s8.trans s2
      have hD1'' := s82 _ _ hD1'
      have l1 := tups_len ht1
      have l2 := tups_len ht2
      rw [List.length_map, List.length_reverse] at l1 l2
      refine ⟨D1, D2, it1, it2, rfl, rfl, hD1'', hD2', sz_of (by omega), fun p hp => ?_⟩
      have s3 := (s71.trans s82).trans (Same.new (o := .lst (it1 ++ it2)) hp)
      have htt : Tups (upd H2 p (.lst (it1 ++ it2))) (it1 ++ it2) ((dueTrial L.hm (pp j).cu (pp j).em).map stV) := by
        have := (Tups.app (ht1.keep (KpT.same s82)) ht2).keep (KpT.same (Same.new (o := .lst (it1 ++ it2)) hp))
        unfold dueTrial
        rw [List.map_append]
        exact this
      refine ⟨_, rfl, p, rfl, ⟨_, SqL.of upd_same⟩, fun D3 hD3 => ?_⟩
      have hp3 : (upd H2 p (.lst (it1 ++ it2))) p = some (.lst (it1 ++ it2)) := upd_same
      have hti := tups_len htt
      refine lc_gen walk_list (dueTrial L.hm (pp j).cu (pp j).em) (fun s => decide (some (L.pl s.1) ≠ s.2)) id (Tv stV) (Tv stV) hti.symm (by rw [hti, len_dueTrial, List.length_append]; omega) hD3 (fun H' s => s.seq (SqL.of hp3)) (yT htt) Tv.mono ?_ ?_
      · rintro i ⟨d, t⟩ v H4 hi s4 ⟨a, rfl, ha⟩ nx sk hk hsk
        obtain ⟨h1, t', et, _⟩ := mem_dueTrial (fun d hd => ok.hm d (cu_sub po hd)) (mem_at hi)
        cases et
        have hd := po.sub d h1
        have m4 := m.same (s3.trans s4)
        refine ⟨rfl, ?_⟩
        refine ⟨_, rfl, _, _, rfl, dm_pl m4.m, _, rfl, a, _, 0, .str d, rfl, rfl, SqT.of ha, at0, _, _, rfl, dg m4.pl hd, _, rfl, a, _, 1, .str t', rfl, rfl, SqT.of ha, atN _ 1, rfl, _, rfl, ?_⟩
        refine iteNd (fun e2 => ⟨_, rfl, hk (decide_eq_true fun h => e2 (congrArg V.str (Option.some.inj h))) _ _ (Same.refl _) ⟨a, rfl, ha⟩⟩) (fun e2 => hsk (decide_eq_false fun h => h (congrArg some (V.str.inj e2))) H4 (Same.refl _))
      · intro H5 it5 s5 hD5 ht5
        rw [List.map_id] at ht5
        refine ⟨D3, it5, _, _, _, rfl, s3.trans s5, hD5, ?_⟩
        show Tups _ it5 ((if (pp j).ph = "trial" then _ else S1).map stV)
        rw [if_pos (V.str.inj e)]
        exact Tv.tups ht5
    rintro σ H7 ⟨q7, it7, v4, v5, v6, rfl, s7, hq7, ht7⟩
    have m7 := m.same s7
    refine ⟨Mid S3, ?_, ?_⟩
    · refine ⟨_, rfl, _, _, rfl, dp_ph (m7.pa j hj), rfl, _, rfl, ?_⟩
      refine iteD (fun e => ?_) (fun e => ⟨q7, it7, v4, v5, v6, rfl, s7, hq7, ?_⟩)
      rotate_left
      · show Tups _ it7 ((if (pp j).ph = "away" then _ else S2).map stV)
        rw [if_neg fun h => e (congrArg V.str h)]
        exact ht7
      have hem7 := m7.em j hj
      refine ⟨_, rfl, _, _, rfl, dp_em (m7.pa j hj), z.em j, _, rfl, SqL.of hem7, fun r0 hr0 => ?_⟩
      rw [← List.map_reverse]
      have s8 := s7.trans (Same.new (o := .lst ((pp j).em.reverse.map V.str)) hr0)
      have m8 := m.same s8
      have hcu8 := m8.cu j hj
      refine ⟨_, rfl, _, _, rfl, dp_cu (m8.pa j hj), z.cu j, _, rfl, SqL.of hcu8, fun r1 hr1 => ?_⟩
      rw [← List.map_reverse]
      have s9 := s8.trans (Same.new (o := .lst ((pp j).cu.reverse.map V.str)) hr1)
      refine ⟨r0, r1, _, _, rfl, rfl, (Same.new hr1) _ _ upd_same, upd_same, sz_of (by rw [List.length_map, List.length_map, List.length_reverse, List.length_reverse]; omega), fun p hp => ?_⟩
      rw [← List.map_append]
      have s10 := s9.trans (Same.new (o := .lst (((pp j).em.reverse ++ (pp j).cu.reverse).map V.str)) hp)
      refine ⟨_, rfl, p, rfl, ⟨_, SqL.of upd_same⟩, fun D hD => ?_⟩
      refine lc_gen (H0 := upd (upd (upd H7 r0 (.lst ((pp j).em.reverse.map V.str))) r1 (.lst ((pp j).cu.reverse.map V.str))) p (.lst (((pp j).em.reverse ++ (pp j).cu.reverse).map V.str))) walk_list ((pp j).em.reverse ++ (pp j).cu.reverse) (L.on j) (fun d => ((d, none) : Stp)) (Fv V.str) (Tv stV) (List.length_map _).symm (by rw [List.length_map, List.length_append, List.length_reverse, List.length_reverse]; omega) hD (fun H' s => s.seq (SqL.of upd_same)) yS Tv.mono ?_ ?_
      · rintro i d v H3 hi s3 rfl nx sk hk hsk
        have hd : d ∈ L.devs := by
          have := mem_at hi
          rw [List.mem_append, List.mem_reverse, List.mem_reverse] at this
          exact this.elim (em_sub po) (cu_sub po)
        have m3 := m.same (s10.trans s3)
        refine ⟨rfl, ?_⟩
        refine ⟨_, rfl, _, rfl, _, _, rfl, dm_tg m3.m, _, rfl, _, _, rfl, dg m3.tg hd, z.tl d, _, rfl, .inl (SqL.of (m3.tl d hd)), rfl, flat_strs' _, _, rfl, ?_⟩
        rw [inV_str]
        refine iteD (fun e => ?_) (fun e => hsk (decide_eq_false e) H3 (Same.refl _))
        exact ⟨_, rfl, by show 2 ≤ sizeLine; decide, fun t ht => hk (decide_eq_true e) _ _ (Same.new ht) ⟨t, rfl, upd_same⟩⟩
      · intro H5 it5 s5 hD5 ht5
        refine ⟨D, it5, _, _, _, rfl, s10.trans s5, hD5, ?_⟩
        show Tups _ it5 ((if (pp j).ph = "away" then _ else S2).map stV)
        rw [if_pos (V.str.inj e)]
        exact Tv.tups ht5
    rintro σ H8 ⟨q8, it8, v4, v5, v6, rfl, s8, hq8, ht8⟩
    refine ⟨_, rfl, k H8 q8 it8 s8 hq8 ?_⟩
    have e : S3 = L.steps j (pp j) := by
      show (if (pp j).ph = "away" then _ else (if (pp j).ph = "trial" then _ else (if (pp j).ph = "still" then _ else []))) = Sm.steps L.pl L.hm (L.on j) (pp j)
      unfold Sm.steps
      by_cases h1 : (pp j).ph = "still"
      · rw [h1, if_neg (by decide), if_neg (by decide), if_pos rfl, if_pos rfl]
      · by_cases h2 : (pp j).ph = "trial"
        · rw [h2, if_neg (by decide), if_pos rfl, if_neg (by decide), if_pos rfl]
        · by_cases h3 : (pp j).ph = "away"
          · rw [h3, if_pos rfl, if_neg (by decide), if_neg (by decide), if_pos rfl]
          · rw [if_neg h3, if_neg h2, if_neg h1, if_neg h1, if_neg h2, if_neg h3]
    rw [← e]
    exact ht8
end
end Sm
namespace Sm
open PySem PySem.Spec PyProof.Rows L2
/-! ### what is due, as a value -/
def DueV (H : Hp) (v : V) : Option Rf → Prop
  | none => v = .non
  | some r => ∃ t x, v = .ref t ∧ H t = some (.tup [.str r.nm, x]) ∧ r.is H x
theorem DueV.mk {H : Hp} {t : Addr} {x : V} {r : Rf} {nm : Str} (h : H t = some (.tup [.str nm, x])) (e : nm = r.nm) (hx : r.is H x) : DueV H (.ref t) (some r) := by
  subst e
  exact ⟨t, x, rfl, h, hx⟩
theorem filt_one {l : List Str} {j : Str} (hn : l.Nodup) (hj : j ∈ l) : l.filter (fun a => decide (a ≠ j)) = [] ↔ l.length = 1 := by
  constructor
  · intro h
    by_cases e : l.length = 1
    · exact e
    · exact absurd h (filt_ne hn hj e)
  · intro h
    cases l with
    | nil => cases hj
    | cons a r =>
      have hr : r = [] := List.length_eq_zero_iff.mp (by simpa using h)
      subst hr
      have : j = a := by simpa using hj
      subst this
      simp
theorem wF {a b : Str} {A B : Prop} (h : (a == b) = false) (k : B) : if decide (V.str a = V.str b) = true then A else B := by
  have e : ¬ V.str a = V.str b := fun z => by
    have z := V.str.inj z
    subst z
    simp at h
  rw [decide_eq_false e, if_neg Bool.false_ne_true]
  exact k
theorem wT {a : Str} {A B : Prop} (k : A) : if decide (V.str a = V.str a) = true then A else B := by
  rw [decide_eq_true rfl, if_pos rfl]
  exact k
section
variable {P : Program} {w : World} {K : PySem.W.Frag} {mg : Str → Option Value} {base : Heap}
/-! ### _law_due_step -/
def spDueStep : Sp := fun vs H Q _ => ∃ z L pp j, vs = [.ref z.m, .str j] ∧ MRd z L pp H ∧ JOk L j (pp j) ∧
  ∀ H' v, Same H H' → DueV H' v (stepR L j (pp j)) → Q v H'
abbrev N_l_due_step : List Str := ["_law_m", "_law_job", "_law_left", "_law_name_here", "_law_to", "_law_others", "_law_moves", "_law_one_here"]
theorem sc_l_due_step : FnScope N_l_due_step ["_law_m", "_law_job"] (defScope s_ldue_step) := ⟨rfl, rfl, rfl, by decide +kernel, rfl, by decide +kernel, by decide +kernel⟩
theorem ok_l_due_step (T : Txt K mg) : GFn P w K mg base CX0 2 "_law_due_step" ["_law_m", "_law_job"] spDueStep := by
  refine T.f_l_due_step.ok0 sc_l_due_step (fun vs H Q E h => ?_) (fun f cdv A outer s H vs Q E hr h => ?_)
  · obtain ⟨z, L, pp, j, rfl, _⟩ := h
    rfl
  · obtain ⟨z, L, pp, j, rfl, m, ok, k⟩ := h
    have hu := hu_of hr
    refine ⟨_, (pss_cons (ps_set (i := 2) sc_l_due_step.nd rfl (Or.inl rfl) (pe_fn (ok_l_steps T) (hr.mono (by decide)) pass0 (pa_cons (pv 0) (pa_cons (pv 1) pa_nil))))
    (pss_cons (ps_if (pt_cmpR (op_eqD hr.units) (pv 2) (pe_lst pa_nil) (nomark _))
      (pss_one (ps_ret (pe_tup (pa_cons pe_str (pa_cons (pv 1) pa_nil)))))
      pss_nil)
    (pss_cons (ps_asg (pe_ix ix_list (pv 2) pe_int (fun _ _ => rfl)) (pg_tup (by rfl) (pgs_cons (pg_name (i := 3) sc_l_due_step.nd rfl (Or.inl rfl)) (pgs_cons (pg_name (i := 4) sc_l_due_step.nd rfl (Or.inl rfl)) pgs_nil))))
    (pss_cons (ps_setLc (i := 5) (own := [("_law_one_here", 7)]) (by rfl) sc_l_due_step.nd rfl rfl (sw_true rfl rfl rfl (by decide +kernel)) (pi_list (pe_dget hu (pe_dget hu (pv 0) pe_str (fun _ _ => rfl)) (pv 3) (fun _ _ => rfl))) (blkOk_by (own := [("_law_one_here", 7)]) (N := N_l_due_step) (sc := defScope s_ldue_step) (by decide +kernel)) (fun _ _ _ _ _ => (pg_name (i := 7) sc_l_due_step.nd rfl (Or.inl rfl))) (fun _ _ _ _ _ => (pts_one (pt_cmpR op_ne (pv 7) (pv 1) (nomark _)))) (fun _ _ _ _ _ => (pv 7)))
    (C8.pss_cut (ps_if (pt_cmpR op_isN (pv 4) pe_non (nomark _))
      (pss_one (ps_set (i := 6) sc_l_due_step.nd rfl (Or.inl rfl) (pe_and (pe_cmpR (op_eqD hr.units) (pv 5) (pe_lst pa_nil) (nomark _)) (pe_one (pe_cmpR op_ne (pe_dget hu (pe_dget hu (pv 0) pe_str (fun _ _ => rfl)) (pv 3) (fun _ _ => rfl)) (pe_dget hu (pe_dget hu (pv 0) pe_str (fun _ _ => rfl)) (pv 3) (fun _ _ => rfl)) (nomark _))))))
      (pss_one (ps_set (i := 6) sc_l_due_step.nd rfl (Or.inl rfl) (pe_cmpR op_ne (pe_dget hu (pe_dget hu (pv 0) pe_str (fun _ _ => rfl)) (pv 3) (fun _ _ => rfl)) (pv 4) (nomark _)))))
    (C8.pss_cut (ps_if (PW.pt (pw_and (pt_val (pv 6)) (pw_and1 (pt_cmpR (op_neD hr.units) (pv 5) (pe_lst pa_nil) (nomark _)))))
      (pss_one (ps_ret (pe_tup (pa_cons pe_str (pa_cons (pe_fn (ok_l_hands T) (hr.mono (by decide)) pass0 (pa_cons (pv 0) (pa_cons (pv 5) pa_nil))) pa_nil)))))
      pss_nil)
    (pss_cons (ps_if (PW.pt (pw_and (pt_val (pv 6)) (pw_and1 (pt_cmpR op_in_seq (pv 3) (pe_dget hu (pv 0) pe_str (fun _ _ => rfl)) rfl))))
      (pss_one (ps_ret (pe_tup (pa_cons pe_str (pa_cons (pv 3) pa_nil)))))
      pss_nil)
    (pss_one (ps_ret pe_non))))))))), ?_⟩
    refine ⟨_, rfl, _, rfl, z, L, pp, j, rfl, m, ok.ok, ok.po, ok.jn, fun H1 p items s1 hp1 ht1 => ?_⟩
    refine ⟨_, rfl, by show 0 ≤ sizeLine; exact Nat.zero_le _, fun q hq => ?_⟩
    have s2 := s1.trans (Same.new (o := .lst []) hq)
    have hp2 := (Same.new (o := .lst []) hq) _ _ hp1
    have ht2 := ht1.keep (KpT.same (Same.new (o := .lst []) hq))
    refine ⟨_, .list [], dp_steps hp2 ht2, .lst (xs := []) (SqL.of upd_same) .nil, (st_sm ok.ok ok.po).shaped (by decide), rfl, _, rfl, ?_⟩
    rw [eqv_nil', decide_eq_decide.mpr (map_nil.trans map_nil)]
    refine iteD (fun hs => ?_) (fun hne => ?_)
    · refine ⟨_, rfl, by show 2 ≤ sizeLine; decide, fun t ht => k _ _ (s2.trans (Same.new ht)) ?_⟩
      have e : stepR L j (pp j) = some (.notNow j) := by unfold stepR; rw [hs]
      rw [e]
      exact DueV.mk upd_same rfl rfl
    obtain ⟨s, rest, hs⟩ : ∃ s rest, L.steps j (pp j) = s :: rest := by
      cases h : L.steps j (pp j) with
      | nil => exact absurd h hne
      | cons a r => exact ⟨a, r, rfl⟩
    obtain ⟨hm1, hm2, hm3⟩ := mem_steps ok.ok ok.po (s := s) (j := j) (by rw [hs]; exact List.mem_cons_self)
    obtain ⟨t, its, ei, ht⟩ : ∃ t its, items = .ref t :: its ∧ (upd H1 q (.lst [])) t = some (.tup (stV s)) := by
      rw [hs, List.map_cons] at ht2
      cases ht2 with
      | cons hv htl =>
        obtain ⟨t, rfl, ht⟩ := hv
        exact ⟨t, _, rfl, ht⟩
    subst ei
    obtain ⟨d, o⟩ := s
    refine ⟨_, rfl, p, _, 0, .ref t, rfl, rfl, SqL.of hp2, at0, t, _, rfl, SqT.of ht, rfl, _, _, rfl, _, _, rfl, rfl, ?_⟩
    have m2 := m.same s2
    have htl2 := m2.tl d hm2
    obtain ⟨n1, n2⟩ := ok.ok.ms d hm2
    have hml := nd_len n1 n2
    have hjl := ok.ok.jb.len
    refine ⟨_, rfl, _, _, rfl, dm_tg m2.m, _, rfl, _, _, rfl, dg m2.tg hm2, z.tl d, rfl, ⟨_, SqL.of htl2⟩, fun D hD => ?_⟩
    refine lc_gen walk_list (L.ms d) (fun a => decide (a ≠ j)) id (Fv V.str) (Fv V.str) (List.length_map _).symm (by rw [List.length_map]; omega) hD (fun H' s => s.seq (SqL.of htl2)) yS Fv.mono ?_ ?_
    · rintro i a v H3 hi s3 rfl nx sk hk hsk
      refine ⟨rfl, ?_⟩
      refine ⟨_, rfl, _, rfl, rfl, _, rfl, ?_⟩
      exact iteNd (fun e => ⟨_, rfl, hk (decide_eq_true fun z => e (by rw [z])) _ _ (Same.refl _) rfl⟩) (fun e => hsk (decide_eq_false fun z => z (V.str.inj e)) H3 (Same.refl _))
    intro H3 oits s3 hD3 htD
    rw [List.map_id] at htD
    have eo := Fv.eq htD
    subst eo
    have s23 := s2.trans s3
    -- what moves
    let mv : Bool := match o with
      | none => decide ((L.ms d).length = 1) && decide (L.pl d ≠ L.hm d)
      | some to => decide (L.pl d ≠ to)
    let os : List Str := (L.ms d).filter fun a => decide (a ≠ j)
    have osl : os.length ≤ 8 := Nat.le_trans (List.length_filter_le _ _) (by omega)
    have osN : ∀ a ∈ os, WOk a := fun a ha => (ok.ok.jb.all a (n2 a (List.mem_filter.mp ha).1)).w
    have osh : SeqAt.shaped (dS os) = true := (sm_strs (c := 6000) osN (by omega)).shaped (by decide)
    refine ⟨fun σ H' => σ = [some (.ref z.m), some (.str j), some (.ref p), some (.str d), some (optV o), some (.ref D), some (.bl mv), none] ∧ Same H3 H', ?_, ?_⟩
    · have m3 := m.same s23
      cases o with
      | none =>
        have hjd := (hm3.resolve_left fun z => by obtain ⟨_, z, _⟩ := z; cases z).2
        refine ⟨_, rfl, rfl, _, rfl, iteT ?_⟩
        refine ⟨_, rfl, by show 0 ≤ sizeLine; exact Nat.zero_le _, fun r hr' => ?_⟩
        have s4 : Same H3 (upd H3 r (.lst [])) := Same.new hr'
        refine ⟨dS os, .list [], dpL (SqL.of (s4 _ _ hD3)), .lst (xs := []) (SqL.of upd_same) .nil, osh, rfl, ?_⟩
        rw [eqv_nil, decide_eq_decide.mpr (filt_one n1 hjd)]
        have m4 := m3.same s4
        by_cases e1 : (L.ms d).length = 1
        · rw [decide_eq_true e1]
          refine ⟨true, rfl, iteT ?_⟩
          refine ⟨_, rfl, _, _, rfl, dm_pl m4.m, _, rfl, _, _, rfl, dg m4.pl hm2, _, rfl, _, _, rfl, dm_hm m4.m, _, rfl, _, _, rfl, dg m4.hm hm2, rfl, ?_⟩
          refine ⟨?_, s4⟩
          have : mv = !decide (V.str (L.pl d) = V.str (L.hm d)) := by
            show (decide ((L.ms d).length = 1) && decide (L.pl d ≠ L.hm d)) = _
            rw [decide_eq_true e1, Bool.true_and]
            by_cases e2 : L.pl d = L.hm d <;> simp [e2]
          rw [this]
          rfl
        · rw [decide_eq_false e1]
          refine ⟨false, rfl, iteF ⟨?_, s4⟩⟩
          have : mv = false := by
            show (decide ((L.ms d).length = 1) && decide (L.pl d ≠ L.hm d)) = _
            rw [decide_eq_false e1, Bool.false_and]
          rw [this]
          rfl
      | some to =>
        refine ⟨_, rfl, rfl, _, rfl, iteF ?_⟩
        refine ⟨_, rfl, _, _, rfl, dm_pl m3.m, _, rfl, _, _, rfl, dg m3.pl hm2, _, rfl, rfl, ?_⟩
        refine ⟨?_, Same.refl _⟩
        have : mv = !decide (V.str (L.pl d) = V.str to) := by
          show decide (L.pl d ≠ to) = _
          by_cases e2 : L.pl d = to <;> simp [e2]
        rw [this]
        rfl
    rintro σ H4 ⟨rfl, s4⟩
    have s24 := s23.trans s4
    have m4 := m.same s24
    have hD4 := s4 _ _ hD3
    have hR : stepR L j (pp j) = if mv = true ∧ os ≠ [] then some (.held (hset L.cw os)) else if mv = true ∧ d ∈ L.fs then some (.stuck d) else none := by
      unfold stepR
      rw [hs]
      cases o with
      | none =>
        have hjd := (hm3.resolve_left fun z => by obtain ⟨_, z, _⟩ := z; cases z).2
        have hos : os = [] ↔ (L.ms d).length = 1 := filt_one n1 hjd
        have hmv : mv = true ↔ (L.ms d).length = 1 ∧ L.pl d ≠ L.hm d := by
          show (decide ((L.ms d).length = 1) && decide (L.pl d ≠ L.hm d)) = true ↔ _
          rw [Bool.and_eq_true, decide_eq_true_iff, decide_eq_true_iff]
        rw [if_neg fun h => h.2 (hos.mpr (hmv.mp h.1).1)]
        show freeR L d j = _
        unfold freeR
        by_cases h : (L.ms d).length = 1 ∧ L.pl d ≠ L.hm d ∧ d ∈ L.fs
        · rw [if_pos h, if_pos ⟨hmv.mpr ⟨h.1, h.2.1⟩, h.2.2⟩]
        · rw [if_neg h, if_neg fun g => h ⟨(hmv.mp g.1).1, (hmv.mp g.1).2, g.2⟩]
      | some to =>
        have hmv : mv = true ↔ L.pl d ≠ to := decide_eq_true_iff
        show holdR L d to j = _
        unfold holdR
        by_cases h : L.pl d = to
        · rw [if_pos h, if_neg fun g => hmv.mp g.1 h, if_neg fun g => hmv.mp g.1 h]
        · rw [if_neg h]
          by_cases h2 : os = []
          · have h2' : ¬ oth (L.ms d) (some j) ≠ [] := fun z => z h2
            refine (if_neg h2').trans ?_
            refine Eq.trans ?_ (if_neg fun g => g.2 h2).symm
            by_cases h3 : d ∈ L.fs
            · exact (if_pos h3).trans (if_pos ⟨hmv.mpr h, h3⟩).symm
            · exact (if_neg h3).trans (if_neg fun g => h3 g.2).symm
          · have h2' : oth (L.ms d) (some j) ≠ [] := h2
            exact (if_pos h2').trans (if_pos ⟨hmv.mpr h, h2⟩).symm
    rw [hR] at k
    refine ⟨fun σ H' => σ = [some (.ref z.m), some (.str j), some (.ref p), some (.str d), some (optV o), some (.ref D), some (.bl mv), none] ∧ Same H4 H' ∧ ¬ (mv = true ∧ os ≠ []), ?_, ?_⟩
    · refine ⟨_, rfl, mv, rfl, ?_⟩
      cases hm : mv with
      | false => exact iteF ⟨rfl, Same.refl _, fun h => by cases h.1⟩
      | true =>
        refine iteT ?_
        refine ⟨_, rfl, by show 0 ≤ sizeLine; exact Nat.zero_le _, fun r hr' => ?_⟩
        have s5 : Same H4 (upd H4 r (.lst [])) := Same.new hr'
        refine ⟨dS os, .list [], dpL (SqL.of (s5 _ _ hD4)), .lst (xs := []) (SqL.of upd_same) .nil, osh, rfl, _, rfl, ?_⟩
        rw [eqv_nil]
        refine iteNd (fun e => ?_) (fun e => ⟨rfl, s5, fun h => h.2 e⟩)
        rw [if_pos ⟨hm, e⟩] at k
        refine ⟨_, rfl, _, rfl, z, L, pp, D, os, rfl, m4.same s5, ok.ok, s5 _ _ hD4, n1.sublist List.filter_sublist, fun a ha => n2 a (List.mem_filter.mp ha).1, fun H6 u s6 hu6 => ?_⟩
        refine ⟨by show 2 ≤ sizeLine; decide, fun t' ht' => k _ _ ((s24.trans (s5.trans s6)).trans (Same.new ht')) ?_⟩
        exact DueV.mk upd_same rfl ⟨u, rfl, (Same.new ht') _ _ hu6⟩
    rintro σ H5 ⟨rfl, s5, hno⟩
    rw [if_neg hno] at k
    have s25 := s24.trans s5
    have m5 := m.same s25
    refine ⟨_, rfl, mv, rfl, ?_⟩
    cases hm : mv with
    | false =>
      rw [if_neg fun g => by rw [hm] at g; cases g.1] at k
      exact iteF (k _ _ s25 rfl)
    | true =>
      refine iteT ?_
      refine ⟨_, rfl, _, rfl, _, _, rfl, dm_sk m5.m, z.sk, _, rfl, .inl (SqL.of m5.sk), rfl, flat_strs' _, _, rfl, ?_⟩
      rw [inV_str]
      refine iteD (fun e => ?_) (fun e => ?_)
      · rw [if_pos ⟨hm, e⟩] at k
        exact ⟨_, rfl, by show 2 ≤ sizeLine; decide, fun t' ht' => k _ _ (s25.trans (Same.new ht')) (DueV.mk upd_same rfl rfl)⟩
      · rw [if_neg fun g => e g.2] at k
        exact k _ _ s25 rfl
end
end Sm
namespace Sm
open PySem PySem.Spec PyProof.Rows L2
/-! ### deeds -/
inductive Deed where
  | turn (d p : Str) | stick (d : Str) | mend (d : Str) | ask (j h : Str) (rooms : List Str)
  | begin (j : Str) (sw dr : List Str) | step (j : Str) | give (j : Str) | tryOut (j : Str) | goOn (j : Str) | putBy (j : Str) | fin (j : Str)
  | on (j h : Str) | off (j h : Str) | over (j a b : Str)
def Deed.row (p q : Addr) : Deed → List V
  | .turn d x => [.str "turn", .str d, .str x]
  | .stick d => [.str "stick", .str d]
  | .mend d => [.str "mend", .str d]
  | .ask j h _ => [.str "ask", .str j, .str h, .ref p]
  | .begin j _ _ => [.str "begin", .str j, .ref p, .ref q]
  | .step j => [.str "step", .str j]
  | .give j => [.str "give", .str j]
  | .tryOut j => [.str "try_out", .str j]
  | .goOn j => [.str "go_on", .str j]
  | .putBy j => [.str "put_by", .str j]
  | .fin j => [.str "end", .str j]
  | .on j h => [.str "sign_on", .str j, .str h]
  | .off j h => [.str "sign_off", .str j, .str h]
  | .over j a b => [.str "hand_over", .str j, .str a, .str b]
/-- its lists -/
def Deed.lists (H : Hp) (p q : Addr) : Deed → Prop
  | .ask _ _ r => H p = some (.lst (r.map V.str))
  | .begin _ sw dr => H p = some (.lst (sw.map V.str)) ∧ H q = some (.lst (dr.map V.str))
  | _ => True
def DAt (H : Hp) (t : Addr) (d : Deed) : Prop := ∃ p q, H t = some (.tup (d.row p q)) ∧ d.lists H p q
theorem Deed.lists_keep {H H' : Hp} {p q : Addr} {d : Deed} (h : d.lists H p q) (k : ∀ a (l : List Str), H a = some (.lst (l.map V.str)) → H' a = some (.lst (l.map V.str))) : d.lists H' p q := by
  cases d <;> first | exact trivial | exact k _ _ h | exact ⟨k _ _ h.1, k _ _ h.2⟩
theorem DAt.same {H H' : Hp} {t : Addr} {d : Deed} (h : DAt H t d) (s : Same H H') : DAt H' t d := by
  obtain ⟨p, q, h1, h2⟩ := h
  exact ⟨p, q, s _ _ h1, Deed.lists_keep h2 fun a l e => s _ _ e⟩
/-- .. of the crew alone -/
def crewR (L : BS) : Deed → Option Rf
  | .on j h => if h ∈ L.cw j then some (.there h) else if (L.cw j).length = 6 then some (.tooMany 6) else none
  | .off j h => if h ∉ L.cw j then some (.lacks h) else if (L.cw j).length = 1 then some (.notNow j) else none
  | .over j a b => overR L j a b
  | _ => none
def Deed.name : Deed → Str
  | .turn d _ => d | .stick d => d | .mend d => d | .ask j _ _ => j | .begin j _ _ => j | .step j => j | .give j => j | .tryOut j => j | .goOn j => j | .putBy j => j | .fin j => j | .on j _ => j | .off j _ => j | .over j _ _ => j
/-- those that are asked of the crew last -/
def Deed.late : Deed → Prop
  | .goOn _ => True | .tryOut _ => True | .putBy _ => True | .fin _ => True | .on _ _ => True | .off _ _ => True | .over _ _ _ => True
  | _ => False
section
variable {P : Program} {w : World} {K : PySem.W.Frag} {mg : Str → Option Value} {base : Heap}
/-- k, read of the deed -/
theorem ixD {K : PySem.W.Frag} {σ : L2.St} {H : Hp} {Q : VK} {i : Nat} {t : Addr} {xs : List V} (k : Nat) {v : V} (hi : σ[i]? = some (some (.ref t))) (ht : H t = some (.tup xs)) (hk : xs[k]? = some v) (q : Q v H) : tOp (rIxT K) (tVar i) (tC (.int (k : Int))) σ H Q :=
  ⟨_, hi, t, _, _, v, rfl, rfl, SqT.of ht, (atN _ k).trans hk, q⟩
def spDueCrew : Sp := fun vs H Q _ => ∃ z L pp t d, vs = [.ref z.m, .ref t] ∧ MRd z L pp H ∧ d.name ∈ L.jobs ∧ d.late ∧ DAt H t d ∧ ∀ H' v, Same H H' → DueV H' v (crewR L d) → Q v H'
abbrev N_l_due_crew : List Str := ["_law_m", "_law_deed_here", "_law_word", "_law_job", "_law_crew"]
theorem sc_l_due_crew : FnScope N_l_due_crew ["_law_m", "_law_deed_here"] (defScope s_ldue_crew) := ⟨rfl, rfl, rfl, by decide +kernel, rfl, by decide +kernel, by decide +kernel⟩
/-- word == x -/
theorem wEqF {σ : L2.St} {H : Hp} {k : Bool → Hp → Prop} {i : Nat} {a x : Str} (hi : σ[i]? = some (some (.str a))) (h : (a == x) = false) (q : k false H) : tTest (tOp rEq (tVar i) (tC (.str x))) σ H k := by
  refine ⟨_, hi, rfl, false, congrArg V.bl (decide_eq_false fun z => ?_), q⟩
  have z := V.str.inj z
  subst z
  simp at h
theorem wEqT {σ : L2.St} {H : Hp} {k : Bool → Hp → Prop} {i : Nat} {x : Str} (hi : σ[i]? = some (some (.str x))) (q : k true H) : tTest (tOp rEq (tVar i) (tC (.str x))) σ H k :=
  ⟨_, hi, rfl, true, congrArg V.bl (decide_eq_true rfl), q⟩
/-- word in (..) -/
theorem wIn {K : PySem.W.Frag} {σ : L2.St} {H : Hp} {k : Bool → Hp → Prop} {i : Nat} {a : Str} {ta : TA} (ws : List Str) (b : Bool) (hi : σ[i]? = some (some (.str a))) (hta : ∀ R : List V → Hp → Prop, R (ws.map V.str) H → ta σ H R) (hl : ws.length ≤ 100)
    (hb : decide (a ∈ ws) = b) (q : ∀ H', Same H H' → k b H') : tTest (tOp (rIn K false) (tVar i) (tTup ta)) σ H k :=
  ⟨_, hi, hta _ ⟨by rw [List.length_map]; exact sz_of (by omega), fun r hr => ⟨r, _, rfl, .inr (SqT.of upd_same), rfl, flat_strs' ws, b, by rw [if_neg Bool.false_ne_true, inV_str, hb], q _ (Same.new hr)⟩⟩⟩
theorem wand {b : Bool} {A B : Prop} (h : b = false) (k : B) : if b = true then A else B := by
  rw [h, if_neg Bool.false_ne_true]; exact k
theorem ok_l_due_crew (T : Txt K mg) : GFn P w K mg base CX0 1 "_law_due_crew" ["_law_m", "_law_deed_here"] spDueCrew := by
  refine T.f_l_due_crew.ok0 sc_l_due_crew (fun vs H Q E h => ?_) (fun f cdv A outer s H vs Q E hr h => ?_)
  · obtain ⟨z, L, pp, t, d, rfl, _⟩ := h
    rfl
  · obtain ⟨z, L, pp, t, d, rfl, m, hj, hlate, ⟨p, q, ht, hls⟩, k⟩ := h
    have hu := hu_of hr
    refine ⟨_, (pss_cons (ps_par (i := 2) (j := 3) (by rfl) sc_l_due_crew.nd rfl rfl (by decide) rfl rfl (pa_cons (pe_ix ix_tup (pv 1) pe_int (fun _ _ => rfl)) (pa_cons (pe_ix ix_tup (pv 1) pe_int (fun _ _ => rfl)) pa_nil)) (by rfl))
    (pss_cons (ps_set (i := 4) sc_l_due_crew.nd rfl (Or.inl rfl) (pe_dget hu (pe_dget hu (pv 0) pe_str (fun _ _ => rfl)) (pv 3) (fun _ _ => rfl)))
    (pss_cons (ps_if (PW.pt (pw_and (pt_cmpR op_eq (pv 2) pe_str (nomark _)) (pw_and1 (pt_cmpR op_in_seq (pe_ix ix_tup (pv 1) pe_int (fun _ _ => rfl)) (pv 4) rfl))))
      (pss_one (ps_ret (pe_tup (pa_cons pe_str (pa_cons (pe_ix ix_tup (pv 1) pe_int (fun _ _ => rfl)) pa_nil)))))
      pss_nil)
    (pss_cons (ps_if (PW.pt (pw_and (pt_cmpR op_eq (pv 2) pe_str (nomark _)) (pw_and1 (pt_cmpR op_eq (pe_callB call_len_seq (by rfl) T.b_len (by decide +kernel) (pa_cons (pv 4) pa_nil)) pe_int (nomark _)))))
      (pss_one (ps_ret (pe_tup (pa_cons pe_str (pa_cons pe_int pa_nil)))))
      pss_nil)
    (pss_cons (ps_if (PW.pt (pw_and (pt_cmpR op_in_seq (pv 2) (pe_tup (pa_cons pe_str (pa_cons pe_str pa_nil))) rfl) (pw_and1 (pt_cmpR op_notIn_seq (pe_ix ix_tup (pv 1) pe_int (fun _ _ => rfl)) (pv 4) rfl))))
      (pss_one (ps_ret (pe_tup (pa_cons pe_str (pa_cons (pe_ix ix_tup (pv 1) pe_int (fun _ _ => rfl)) pa_nil)))))
      pss_nil)
    (pss_cons (ps_if (PW.pt (pw_and (pt_cmpR op_eq (pv 2) pe_str (nomark _)) (pw_and1 (pt_cmpR op_eq (pe_callB call_len_seq (by rfl) T.b_len (by decide +kernel) (pa_cons (pv 4) pa_nil)) pe_int (nomark _)))))
      (pss_one (ps_ret (pe_tup (pa_cons pe_str (pa_cons (pv 3) pa_nil)))))
      pss_nil)
    (pss_cons (ps_if (PW.pt (pw_and (pt_cmpR op_eq (pv 2) pe_str (nomark _)) (pw_and1 (pt_cmpR op_in_seq (pe_ix ix_tup (pv 1) pe_int (fun _ _ => rfl)) (pv 4) rfl))))
      (pss_one (ps_ret (pe_tup (pa_cons pe_str (pa_cons (pe_ix ix_tup (pv 1) pe_int (fun _ _ => rfl)) pa_nil)))))
      pss_nil)
    (pss_one (ps_ret pe_non))))))))), ?_⟩
    have s1 : ∀ {H' : Hp}, Same H H' → H' t = some (.tup (d.row p q)) := fun s => s _ _ ht
    cases d with
    | on j h =>
      have hcl := m.cl j hj
      refine ixD 0 rfl ht rfl (ixD 1 rfl ht rfl ⟨_, _, rfl, ?_⟩)
      refine ⟨_, rfl, _, _, rfl, dm_cw m.m, _, rfl, _, _, rfl, dg m.cw hj, ?_⟩
      refine wEqT rfl (iteT ?_)
      refine ixD 2 rfl ht rfl ⟨_, rfl, z.cl j, _, rfl, .inl (SqL.of hcl), rfl, flat_strs' _, _, rfl, ?_⟩
      rw [inV_str]
      have k : ∀ (H' : Hp) (v : V), Same H H' → DueV H' v (if h ∈ L.cw j then some (.there h) else if (L.cw j).length = 6 then some (.tooMany 6) else none) → Q v H' := k
      refine iteD (fun e => ?_) (fun e => ?_)
      · rw [if_pos e] at k
        exact ixD 2 rfl ht rfl ⟨by show 2 ≤ sizeLine; decide, fun r hr' => k _ _ (Same.new hr') (DueV.mk upd_same rfl rfl)⟩
      rw [if_neg e] at k
      refine wEqT rfl (iteT ?_)
      refine ⟨_, rfl, z.cl j, _, rfl, .inl (SqL.of hcl), rfl, _, rfl, ?_⟩
      rw [List.length_map]
      have six : (V.int ((L.cw j).length : Int) = V.int 6) ↔ (L.cw j).length = 6 := ⟨fun z => by have := V.int.inj z; omega, fun z => by rw [z]; rfl⟩
      refine iteD (fun e6 => ?_) (fun e6 => ?_)
      · rw [if_pos (six.mp e6)] at k
        exact ⟨by show 2 ≤ sizeLine; decide, fun r hr' => k _ _ (Same.new hr') (DueV.mk upd_same rfl rfl)⟩
      rw [if_neg fun z => e6 (six.mpr z)] at k
      refine wIn ["sign_off", "hand_over"] false rfl (fun R h => h) (by decide) (by decide +kernel) fun H2 s2 => iteF ?_
      refine wEqF rfl (by decide +kernel) (iteF ?_)
      refine wEqF rfl (by decide +kernel) (iteF ?_)
      exact k _ _ s2 rfl
    | off j h =>
      have hcl := m.cl j hj
      refine ixD 0 rfl ht rfl (ixD 1 rfl ht rfl ⟨_, _, rfl, ?_⟩)
      refine ⟨_, rfl, _, _, rfl, dm_cw m.m, _, rfl, _, _, rfl, dg m.cw hj, ?_⟩
      refine wEqF rfl (by decide +kernel) (iteF ?_)
      refine wEqF rfl (by decide +kernel) (iteF ?_)
      refine wIn ["sign_off", "hand_over"] true rfl (fun R h => h) (by decide) (by decide +kernel) fun H2 s2 => iteT ?_
      refine ixD 2 rfl (s2 _ _ ht) rfl ⟨_, rfl, z.cl j, _, rfl, .inl (SqL.of (s2 _ _ hcl)), rfl, flat_strs' _, _, rfl, ?_⟩
      rw [inV_str]
      have k : ∀ (H' : Hp) (v : V), Same H H' → DueV H' v (if h ∉ L.cw j then some (.lacks h) else if (L.cw j).length = 1 then some (.notNow j) else none) → Q v H' := k
      refine iteNd (fun e => ?_) (fun e => ?_)
      · rw [if_pos e] at k
        exact ixD 2 rfl (s2 _ _ ht) rfl ⟨by show 2 ≤ sizeLine; decide, fun r hr' => k _ _ (s2.trans (Same.new hr')) (DueV.mk upd_same rfl rfl)⟩
      rw [if_neg fun z => z e] at k
      refine wEqT rfl (iteT ?_)
      refine ⟨_, rfl, z.cl j, _, rfl, .inl (SqL.of (s2 _ _ hcl)), rfl, _, rfl, ?_⟩
      rw [List.length_map]
      have one : (V.int ((L.cw j).length : Int) = V.int 1) ↔ (L.cw j).length = 1 := ⟨fun z => by have := V.int.inj z; omega, fun z => by rw [z]; rfl⟩
      refine iteD (fun e6 => ?_) (fun e6 => ?_)
      · rw [if_pos (one.mp e6)] at k
        exact ⟨_, rfl, by show 2 ≤ sizeLine; decide, fun r hr' => k _ _ (s2.trans (Same.new hr')) (DueV.mk upd_same rfl rfl)⟩
      rw [if_neg fun z => e6 (one.mpr z)] at k
      refine wEqF rfl (by decide +kernel) (iteF ?_)
      exact k _ _ s2 rfl
    | over j a b =>
      have hcl := m.cl j hj
      refine ixD 0 rfl ht rfl (ixD 1 rfl ht rfl ⟨_, _, rfl, ?_⟩)
      refine ⟨_, rfl, _, _, rfl, dm_cw m.m, _, rfl, _, _, rfl, dg m.cw hj, ?_⟩
      refine wEqF rfl (by decide +kernel) (iteF ?_)
      refine wEqF rfl (by decide +kernel) (iteF ?_)
      refine wIn ["sign_off", "hand_over"] true rfl (fun R h => h) (by decide) (by decide +kernel) fun H2 s2 => iteT ?_
      refine ixD 2 rfl (s2 _ _ ht) rfl ⟨_, rfl, z.cl j, _, rfl, .inl (SqL.of (s2 _ _ hcl)), rfl, flat_strs' _, _, rfl, ?_⟩
      rw [inV_str]
      have k : ∀ (H' : Hp) (v : V), Same H H' → DueV H' v (if a ∉ L.cw j then some (.lacks a) else if b ∈ L.cw j then some (.there b) else none) → Q v H' := k
      refine iteNd (fun e => ?_) (fun e => ?_)
      · rw [if_pos e] at k
        exact ixD 2 rfl (s2 _ _ ht) rfl ⟨by show 2 ≤ sizeLine; decide, fun r hr' => k _ _ (s2.trans (Same.new hr')) (DueV.mk upd_same rfl rfl)⟩
      rw [if_neg fun z => z e] at k
      refine wEqF rfl (by decide +kernel) (iteF ?_)
      refine wEqT rfl (iteT ?_)
      refine ixD 3 rfl (s2 _ _ ht) rfl ⟨_, rfl, z.cl j, _, rfl, .inl (SqL.of (s2 _ _ hcl)), rfl, flat_strs' _, _, rfl, ?_⟩
      rw [inV_str]
      refine iteD (fun e3 => ?_) (fun e3 => ?_)
      · rw [if_pos e3] at k
        exact ixD 3 rfl (s2 _ _ ht) rfl ⟨by show 2 ≤ sizeLine; decide, fun r hr' => k _ _ (s2.trans (Same.new hr')) (DueV.mk upd_same rfl rfl)⟩
      rw [if_neg e3] at k
      exact k _ _ s2 rfl
    | turn | stick | mend | ask | begin | step | give => exact hlate.elim
    | goOn | tryOut | putBy | fin =>
      refine ixD 0 rfl ht rfl (ixD 1 rfl ht rfl ⟨_, _, rfl, ?_⟩)
      refine ⟨_, rfl, _, _, rfl, dm_cw m.m, _, rfl, _, _, rfl, dg m.cw hj, ?_⟩
      refine wEqF rfl (by decide +kernel) (iteF ?_)
      refine wEqF rfl (by decide +kernel) (iteF ?_)
      refine wIn ["sign_off", "hand_over"] false rfl (fun R h => h) (by decide) (by decide +kernel) fun H2 s2 => iteF ?_
      refine wEqF rfl (by decide +kernel) (iteF ?_)
      refine wEqF rfl (by decide +kernel) (iteF ?_)
      exact k _ _ s2 rfl
end
end Sm
namespace Sm
open PySem PySem.Spec PyProof.Rows L2
def boardR (L : BS) : Deed → Option Rf
  | .turn d p => turnR L d p
  | .stick d => if d ∈ L.devs then none else some (.lacks d)
  | .mend d => if d ∈ L.devs then none else some (.lacks d)
  | .ask j _ _ => askR L j
  | _ => none
def Deed.board : Deed → Prop
  | .turn _ _ => True | .stick _ => True | .mend _ => True | .ask _ _ _ => True
  | _ => False
/-- the word is another -/
theorem wNeF {σ : L2.St} {H : Hp} {k : Bool → Hp → Prop} {K : PySem.W.Frag} {i : Nat} {t : Addr} {xs : List V} {a x : Str} (hi : σ[i]? = some (some (.ref t))) (ht : H t = some (.tup xs)) (h0 : xs[0]? = some (.str a)) (h : (a == x) = false) (q : k false H) :
    tTest (tOp rEq (tOp (rIxT K) (tVar i) (tC (.int 0))) (tC (.str x))) σ H k := by
  refine ixD 0 hi ht h0 ⟨rfl, false, congrArg V.bl (decide_eq_false fun z => ?_), q⟩
  have z := V.str.inj z
  subst z
  simp at h
theorem at1 {α : Type} {a b : α} : atI [a, b] 1 = some b := atN [a, b] 1
section
variable {P : Program} {w : World} {K : PySem.W.Frag} {mg : Str → Option Value} {base : Heap}
def spDueBoard : Sp := fun vs H Q _ => ∃ (ow : Addr → Ro) (z : MA) (L : BS) (pp : Str → PS) (t : Addr) (d : Deed), vs = [.ref z.m, .ref t] ∧ MAt ow z L pp H ∧ BOk L ∧ d.board ∧ DAt H t d ∧ ∀ H' v, Same H H' → DueV H' v (boardR L d) → Q v H'
abbrev N_l_due_board : List Str := ["_law_m", "_law_deed_here", "_law_name_here"]
theorem sc_l_due_board : FnScope N_l_due_board ["_law_m", "_law_deed_here"] (defScope s_ldue_board) := ⟨rfl, rfl, rfl, by decide +kernel, rfl, by decide +kernel, by decide +kernel⟩
theorem ok_l_due_board (T : Txt K mg) : GFn P w K mg base CX0 2 "_law_due_board" ["_law_m", "_law_deed_here"] spDueBoard := by
  refine T.f_l_due_board.ok0 sc_l_due_board (fun vs H Q E h => ?_) (fun f cdv A outer s H vs Q E hr h => ?_)
  · obtain ⟨ow, z, L, pp, t, d, rfl, _⟩ := h
    rfl
  · obtain ⟨ow, z, L, pp, t, d, rfl, mm, ok, hbd, ⟨p, q, ht, hls⟩, k⟩ := h
    have m := mm.rd
    have hu := hu_of hr
    refine ⟨_, (pss_cons (ps_set (i := 2) sc_l_due_board.nd rfl (Or.inl rfl) (pe_ix ix_tup (pv 1) pe_int (fun _ _ => rfl)))
    (pss_cons (ps_if (pt_cmpR op_eq (pe_ix ix_tup (pv 1) pe_int (fun _ _ => rfl)) pe_str (nomark _))
      (pss_cons (ps_if (pt_cmp (pc_din hu (pv 2) (pe_dget hu (pv 0) pe_str (fun _ _ => rfl))))
      (pss_one (ps_ret (pe_tup (pa_cons pe_str (pa_cons (pv 2) pa_nil)))))
      pss_nil)
    (pss_one (ps_ret (pe_ix ix_list (pe_lst (pa_cons pe_non (pa_cons (pe_tup (pa_cons pe_str (pa_cons pe_int pa_nil))) pa_nil))) (pe_callTy call_int1 (by rfl) T.b_int (by decide +kernel) (by exact (pa_cons (pe_cmpR op_eq (pe_callB call_lenD (by rfl) T.b_len (by decide +kernel) (pa_cons (pe_dget hu (pv 0) pe_str (fun _ _ => rfl)) pa_nil)) pe_int (nomark _)) pa_nil))) (fun _ _ => rfl)))))
      pss_nil)
    (pss_cons (ps_if (pt_cmp (pc_dnotin hu (pv 2) (pe_dget hu (pv 0) pe_str (fun _ _ => rfl))))
      (pss_one (ps_ret (pe_tup (pa_cons pe_str (pa_cons (pv 2) pa_nil)))))
      pss_nil)
    (pss_cons (ps_if (pt_cmpR op_ne (pe_ix ix_tup (pv 1) pe_int (fun _ _ => rfl)) pe_str (nomark _))
      (pss_one (ps_ret pe_non))
      pss_nil)
    (pss_cons (ps_if (pt_cmpR (op_neD hr.units) (pe_dget hu (pe_dget hu (pv 0) pe_str (fun _ _ => rfl)) (pv 2) (fun _ _ => rfl)) (pe_lst pa_nil) (nomark _))
      (pss_one (ps_ret (pe_tup (pa_cons pe_str (pa_cons (pe_fn (ok_l_hands T) (hr.mono (by decide)) pass0 (pa_cons (pv 0) (pa_cons (pe_dget hu (pe_dget hu (pv 0) pe_str (fun _ _ => rfl)) (pv 2) (fun _ _ => rfl)) pa_nil))) pa_nil)))))
      pss_nil)
    (pss_one (ps_ret (pe_ix ix_list (pe_lst (pa_cons pe_non (pa_cons (pe_tup (pa_cons pe_str (pa_cons (pv 2) pa_nil))) pa_nil))) (pe_callTy call_int1 (by rfl) T.b_int (by decide +kernel) (by exact (pa_cons (pe_and (pe_cmpR op_ne (pe_dget hu (pe_dget hu (pv 0) pe_str (fun _ _ => rfl)) (pv 2) (fun _ _ => rfl)) (pe_ix ix_tup (pv 1) pe_int (fun _ _ => rfl)) (nomark _)) (pe_one (pe_cmpR op_in_seq (pv 2) (pe_dget hu (pv 0) pe_str (fun _ _ => rfl)) rfl))) pa_nil))) (fun _ _ => rfl))))))))), ?_⟩
    cases d with
    | begin | step | give | tryOut | goOn | putBy | fin | on | off | over => exact hbd.elim
    | stick d0 | mend d0 =>
      have k : ∀ (H' : Hp) (v : V), Same H H' → DueV H' v (if d0 ∈ L.devs then none else some (.lacks d0)) → Q v H' := k
      refine ixD 1 rfl ht rfl ?_
      refine wNeF rfl ht rfl (by decide +kernel) (iteF ?_)
      refine ⟨_, rfl, _, rfl, _, _, rfl, dm_pl m.m, _, _, rfl, dgi m.pl, _, rfl, ?_⟩
      rw [isS]
      refine iteNd (fun e => ?_) (fun e => ?_)
      · rw [if_neg e] at k
        exact ⟨_, rfl, by show 2 ≤ sizeLine; decide, fun r hr' => k _ _ (Same.new hr') (DueV.mk upd_same rfl rfl)⟩
      · rw [if_pos e] at k
        refine ixD 0 rfl ht rfl ⟨rfl, true, ?_, iteT (k H _ (Same.refl _) rfl)⟩
        exact congrArg V.bl (by rw [decide_eq_false (by intro z; exact absurd (V.str.inj z) (by decide +kernel))]; rfl)
    | ask j h rooms =>
      have k : ∀ (H' : Hp) (v : V), Same H H' → DueV H' v (if j ∈ L.jobs then some (.there j) else if L.jobs.length = 8 then some (.tooMany 8) else none) → Q v H' := k
      refine ixD 1 rfl ht rfl ?_
      refine ixD 0 rfl ht rfl ⟨rfl, true, congrArg V.bl (decide_eq_true rfl), iteT ?_⟩
      refine ⟨_, rfl, _, rfl, _, _, rfl, dm_jb m.m, _, _, rfl, dgi m.jb, _, rfl, ?_⟩
      rw [isS]
      refine iteD (fun e => ?_) (fun e => ?_)
      · rw [if_pos e] at k
        exact ⟨_, rfl, by show 2 ≤ sizeLine; decide, fun r hr' => k _ _ (Same.new hr') (DueV.mk upd_same rfl rfl)⟩
      rw [if_neg e] at k
      refine ⟨by show 2 ≤ sizeLine; decide, fun r hr' => ⟨by show 2 ≤ sizeLine; decide, fun u hu' => ?_⟩⟩
      have s1 := (Same.new (o := .tup [.str "TooMany", .int 8]) hr').trans (Same.new (o := .lst [.non, .ref r]) hu')
      have m1 := m.same s1
      refine ⟨_, rfl, _, _, rfl, dm_jb m1.m, z.jb, _, rfl, s1 _ _ mm.jb, rfl, .inr ⟨_, rfl, ?_⟩⟩
      rw [dk_len]
      have eight : (V.int (L.jobs.length : Int) = V.int 8) ↔ L.jobs.length = 8 := ⟨fun z => by have := V.int.inj z; omega, fun z => by rw [z]; rfl⟩
      rw [decide_eq_decide.mpr eight]
      by_cases e8 : L.jobs.length = 8
      · rw [if_pos e8] at k
        rw [decide_eq_true e8]
        exact ⟨u, _, 1, .ref r, rfl, rfl, SqL.of upd_same, at1, k _ _ s1 (DueV.mk ((Same.new hu') _ _ upd_same) rfl rfl)⟩
      · rw [if_neg e8] at k
        rw [decide_eq_false e8]
        exact ⟨u, _, 0, .non, rfl, rfl, SqL.of upd_same, at0, k _ _ s1 rfl⟩
    | turn d0 x =>
      have k : ∀ (H' : Hp) (v : V), Same H H' → DueV H' v (turnR L d0 x) → Q v H' := k
      unfold turnR at k
      refine ixD 1 rfl ht rfl ?_
      refine wNeF rfl ht rfl (by decide +kernel) (iteF ?_)
      refine ⟨_, rfl, _, rfl, _, _, rfl, dm_pl m.m, _, _, rfl, dgi m.pl, _, rfl, ?_⟩
      rw [isS]
      refine iteNd (fun e => ?_) (fun hd => ?_)
      · rw [if_pos e] at k
        exact ⟨_, rfl, by show 2 ≤ sizeLine; decide, fun r hr' => k _ _ (Same.new hr') (DueV.mk upd_same rfl rfl)⟩
      rw [if_neg fun z => z hd] at k
      refine ixD 0 rfl ht rfl ⟨rfl, false, congrArg V.bl (by rw [decide_eq_true rfl]; rfl), iteF ?_⟩
      have htl := m.tl d0 hd
      obtain ⟨n1, n2⟩ := ok.ms d0 hd
      have hml := nd_len n1 n2
      have hjl := ok.jb.len
      refine ⟨_, rfl, _, _, rfl, dm_tg m.m, _, rfl, _, _, rfl, dg m.tg hd, by show 0 ≤ sizeLine; exact Nat.zero_le _, fun q0 hq0 => ?_⟩
      have s1 : Same H (upd H q0 (.lst [])) := Same.new hq0
      refine ⟨_, .list [], dpL (SqL.of (s1 _ _ htl)), .lst (xs := []) (SqL.of upd_same) .nil, (sm_strs (c := 6000) (fun a ha => (ok.jb.all a (n2 a ha)).w) (by omega)).shaped (by decide), rfl, _, rfl, ?_⟩
      rw [eqv_nil]
      have m1 := m.same s1
      refine iteNd (fun e => ?_) (fun e => ?_)
      · rw [if_pos e] at k
        refine ⟨_, rfl, _, rfl, _, _, rfl, dm_tg m1.m, _, rfl, _, _, rfl, dg m1.tg hd, z, L, pp, z.tl d0, L.ms d0, rfl, m1, ok, m1.tl d0 hd, n1, n2, fun H2 u s2 hu2 => ?_⟩
        exact ⟨by show 2 ≤ sizeLine; decide, fun r hr' => k _ _ ((s1.trans s2).trans (Same.new hr')) (DueV.mk upd_same rfl ⟨u, rfl, (Same.new hr') _ _ hu2⟩)⟩
      rw [if_neg fun z => z e] at k
      refine ⟨_, rfl, by show 2 ≤ sizeLine; decide, fun r hr' => ⟨by show 2 ≤ sizeLine; decide, fun u hu' => ?_⟩⟩
      have s2 := s1.trans ((Same.new (o := .tup [.str "Stuck", .str d0]) hr').trans (Same.new (o := .lst [.non, .ref r]) hu'))
      have m2 := m.same s2
      refine ⟨_, rfl, _, _, rfl, dm_pl m2.m, _, rfl, _, _, rfl, dg m2.pl hd, ixD 2 rfl (s2 _ _ ht) rfl ⟨rfl, ?_⟩⟩
      by_cases e2 : L.pl d0 = x
      · refine ⟨false, congrArg V.bl (by rw [decide_eq_true (congrArg V.str e2)]; rfl), iteF (.inr ⟨false, rfl, ?_⟩)⟩
        rw [if_neg fun z => z.1 e2] at k
        exact ⟨u, _, 0, .non, rfl, rfl, SqL.of upd_same, at0, k _ _ s2 rfl⟩
      · refine ⟨true, congrArg V.bl (by rw [decide_eq_false fun z => e2 (V.str.inj z)]; rfl), iteT ?_⟩
        refine ⟨_, rfl, _, rfl, _, _, rfl, dm_sk m2.m, z.sk, _, rfl, .inl (SqL.of m2.sk), rfl, flat_strs' _, .inr ⟨_, rfl, ?_⟩⟩
        rw [if_neg Bool.false_ne_true, inV_str]
        by_cases e3 : d0 ∈ L.fs
        · rw [if_pos ⟨e2, e3⟩] at k
          rw [decide_eq_true e3]
          exact ⟨u, _, 1, .ref r, rfl, rfl, SqL.of upd_same, at1, k _ _ s2 (DueV.mk ((Same.new hu') _ _ upd_same) rfl rfl)⟩
        · rw [if_neg fun z => e3 z.2] at k
          rw [decide_eq_false e3]
          exact ⟨u, _, 0, .non, rfl, rfl, SqL.of upd_same, at0, k _ _ s2 rfl⟩
end
end Sm
namespace Sm
open PySem PySem.Spec PyProof.Rows L2
def Deed.word : Deed → Str
  | .turn _ _ => "turn" | .stick _ => "stick" | .mend _ => "mend" | .ask _ _ _ => "ask" | .begin _ _ _ => "begin" | .step _ => "step" | .give _ => "give" | .tryOut _ => "try_out" | .goOn _ => "go_on" | .putBy _ => "put_by" | .fin _ => "end"
  | .on _ _ => "sign_on" | .off _ _ => "sign_off" | .over _ _ _ => "hand_over"
theorem Deed.row0 {d : Deed} {p q : Addr} : (d.row p q)[0]? = some (.str d.word) := by cases d <;> rfl
theorem Deed.row1 {d : Deed} {p q : Addr} : (d.row p q)[1]? = some (.str d.name) := by cases d <;> rfl
/-- the phases in which a deed may be done; none: in each -/
def Deed.good : Deed → Option (List Str)
  | .begin _ _ _ => some ["by"] | .give _ => some ["still"] | .tryOut _ => some ["given"] | .goOn _ => some ["trial"] | .on _ _ => some ["given"] | .off _ _ => some ["given"]
  | .putBy _ => some ["still", "given", "trial"] | .fin _ => some ["by", "still", "given", "trial"] | _ => none
def Deed.goodT : Deed → Option Str
  | .begin _ _ _ => some "by" | .give _ => some "still" | .tryOut _ => some "given" | .goOn _ => some "trial" | .on _ _ => some "given" | .off _ _ => some "given"
  | .putBy _ => some "still given trial" | .fin _ => some "by still given trial" | _ => none
def good5 : List (Key × V) := [(Sum.inr "begin", .str "by"), (Sum.inr "give", .str "still"), (Sum.inr "try_out", .str "given"), (Sum.inr "go_on", .str "trial"), (Sum.inr "sign_on", .str "given")]
def good3 : List (Key × V) := [(Sum.inr "sign_off", .str "given"), (Sum.inr "put_by", .str "still given trial"), (Sum.inr "end", .str "by still given trial")]
theorem good5_m : mergeK [] good5 = good5 := by rfl
theorem good3_m : mergeK [] good3 = good3 := by rfl
theorem good8_m : mergeK good5 good3 = good5 ++ good3 := by rfl
theorem good_val {d : Deed} (h : ¬ d.board) : valV (good5 ++ good3) (Sum.inr d.word : Key) = d.goodT.map V.str := by
  cases d <;> first | rfl | exact absurd trivial h
theorem good_split {d : Deed} {x : Str} (h : d.goodT = some x) : ∃ l, d.good = some l ∧ Txt.split x " " = l ∧ x.length ≤ 100 := by
  cases d <;> first | (cases Option.some.inj h; exact ⟨_, rfl, by decide +kernel, by decide +kernel⟩) | cases h
theorem good_none {d : Deed} (h : d.goodT = none) : d.good = none := by
  cases d <;> first | rfl | cases h
/-! ### what is due of a deed -/
def due (L : BS) (pp : Str → PS) : Deed → Option Rf
  | .begin j sw dr => beginR L j (pp j) sw dr
  | .step j => stepR L j (pp j)
  | .give j => giveR L j (pp j)
  | .tryOut j => tryR L j (pp j)
  | .goOn j => goonR j (pp j)
  | .putBy j => putR L j (pp j)
  | .fin j => endR L j (pp j)
  | .on j h => onR L j (pp j) h
  | .off j h => offR L j (pp j) h
  | .over j a b => overR L j a b
  | d => boardR L d
theorem due_notNow {L : BS} {pp : Str → PS} {d : Deed} {l : List Str} (h : d.good = some l) (hp : (pp d.name).ph ∉ l) : due L pp d = some (.notNow d.name) := by
  cases d with
  | turn | stick | mend | ask | step | over => cases h
  | begin j sw dr => cases Option.some.inj h; exact if_neg fun z => hp (List.mem_singleton.mpr z)
  | give j => cases Option.some.inj h; exact if_neg fun z => hp (List.mem_singleton.mpr z.1)
  | tryOut j => cases Option.some.inj h; exact if_neg fun z => hp (List.mem_singleton.mpr z)
  | goOn j => cases Option.some.inj h; exact if_neg fun z => hp (List.mem_singleton.mpr z)
  | putBy j => cases Option.some.inj h; exact if_neg fun z => hp (by show (pp j).ph ∈ _; simpa using z)
  | fin j => cases Option.some.inj h; exact if_neg fun z => hp (by show (pp j).ph ∈ _; simpa using z)
  | on j x => cases Option.some.inj h; exact if_neg fun z => hp (List.mem_singleton.mpr z)
  | off j x => cases Option.some.inj h; exact if_neg fun z => hp (List.mem_singleton.mpr z)
theorem due_alone {L : BS} {pp : Str → PS} {d : Deed} {j : Str} (h : d = .tryOut j ∨ d = .putBy j ∨ d = .fin j) (hp : ∀ l, d.good = some l → (pp d.name).ph ∈ l) : due L pp d = heldR L j := by
  rcases h with rfl | rfl | rfl
  · exact if_pos (List.mem_singleton.mp (hp _ rfl))
  · exact if_pos (by have this : (pp j).ph ∈ _ := hp _ rfl; simpa using this)
  · exact if_pos (by have this : (pp j).ph ∈ _ := hp _ rfl; simpa using this)
/-- a deed that may be done, of the jobs there are -/
def Deed.fits (L : BS) : Deed → Prop
  | .turn d p => IsName d ∧ IsPos p
  | .stick d => IsName d
  | .mend d => IsName d
  | .ask j h r => IsName j ∧ IsName h ∧ Names r 24 ∧ r ≠ []
  | .begin j sw dr => j ∈ L.jobs ∧ Names sw 24 ∧ Names dr 24 ∧ ∀ x ∈ dr, x ∉ sw
  | .on j h => j ∈ L.jobs ∧ IsName h
  | .off j h => j ∈ L.jobs ∧ IsName h
  | .over j a b => j ∈ L.jobs ∧ IsName a ∧ IsName b
  | d => d.name ∈ L.jobs
theorem Deed.fits_job {L : BS} {d : Deed} (h : d.fits L) (hb : ¬ d.board) : d.name ∈ L.jobs := by
  cases d <;> first | exact h.1 | exact h | exact absurd trivial hb
section
variable {P : Program} {w : World} {K : PySem.W.Frag} {mg : Str → Option Value} {base : Heap}
def spDue : Sp := fun vs H Q _ => ∃ (ow : Addr → Ro) (z : MA) (L : BS) (pp : Str → PS) (t : Addr) (d : Deed), vs = [.ref z.m, .ref t] ∧ MAt ow z L pp H ∧ BOk L ∧ (∀ j ∈ L.jobs, JOk L j (pp j)) ∧ d.fits L ∧ DAt H t d ∧ ∀ H' v, Same H H' → DueV H' v (due L pp d) → Q v H'
abbrev N_l_due : List Str := ["_law_m", "_law_deed_here", "_law_word", "_law_job", "_law_good", "_law_lacks", "_law_name_here"]
theorem sc_l_due : FnScope N_l_due ["_law_m", "_law_deed_here"] (defScope s_ldue) := ⟨rfl, rfl, rfl, by decide +kernel, rfl, by decide +kernel, by decide +kernel⟩
theorem ok_l_due (T : Txt K mg) : GFn P w K mg base CX0 3 "_law_due" ["_law_m", "_law_deed_here"] spDue := by
  refine T.f_l_due.ok0 sc_l_due (fun vs H Q E h => ?_) (fun f cdv A outer s H vs Q E hr h => ?_)
  · obtain ⟨ow, z, L, pp, t, d, rfl, _⟩ := h
    rfl
  · obtain ⟨ow, z, L, pp, t, d, rfl, mm, ok, oks, hf, hd, k⟩ := h
    have hu := hu_of hr
    refine ⟨_, (pss_cons (ps_par (i := 2) (j := 3) (by rfl) sc_l_due.nd rfl rfl (by decide) rfl rfl (pa_cons (pe_ix ix_tup (pv 1) pe_int (fun _ _ => rfl)) (pa_cons (pe_ix ix_tup (pv 1) pe_int (fun _ _ => rfl)) pa_nil)) (by rfl))
    (pss_cons (ps_if (pt_cmpR op_in_seq (pv 2) (pe_tup (pa_cons pe_str (pa_cons pe_str (pa_cons pe_str (pa_cons pe_str pa_nil))))) rfl)
      (pss_one (ps_ret (pe_fn (ok_l_due_board T) (hr.mono (by decide)) pass0 (pa_cons (pv 0) (pa_cons (pv 1) pa_nil)))))
      pss_nil)
    (pss_cons (ps_set (i := 4) sc_l_due.nd rfl (Or.inl rfl) (pe_disp (pps_cons pe_str pe_str (pps_cons pe_str pe_str (pps_cons pe_str pe_str (pps_cons pe_str pe_str (pps_cons pe_str pe_str pps_nil))))) (by rfl) (by rfl) (fun z => by cases z) (by decide)))
    (pss_cons (ps_expr (pe_bm PySem.F.plainAttrs_dict PySem.F.slot_dict_update PySem.F.type_dict_update mt_upd (pv 4) (by exact (pa_cons (pe_disp (pps_cons pe_str pe_str (pps_cons pe_str pe_str (pps_cons pe_str pe_str pps_nil))) (by rfl) (by rfl) (fun z => by cases z) (by decide)) pa_nil))))
    (C8.pss_cut (ps_if (PW.pt (pw_and (pt_cmp (pc_din hu (pv 2) (pv 4))) (pw_and1 (pt_cmpR op_notIn_seq (pe_dget hu (pe_dget hu (pe_dget hu (pv 0) pe_str (fun _ _ => rfl)) (pv 3) (fun _ _ => rfl)) pe_str (fun _ _ => rfl)) (pe_bm PySem.F.plainAttrs_str PySem.F.slot_str_split PySem.F.type_str_split mt_split (pe_dget hu (pv 4) (pv 2) (fun _ _ => rfl)) (pa_cons pe_str pa_nil)) rfl))))
      (pss_one (ps_ret (pe_tup (pa_cons pe_str (pa_cons (pv 3) pa_nil)))))
      pss_nil)
    (pss_cons (ps_if (pt_cmpR op_eq (pv 2) pe_str (nomark _))
      (pss_one (ps_ret (pe_fn (ok_l_due_step T) (hr.mono (by decide)) pass0 (pa_cons (pv 0) (pa_cons (pv 3) pa_nil)))))
      pss_nil)
    (pss_cons (ps_if (pt_cmpR op_eq (pv 2) pe_str (nomark _))
      (pss_one (ps_ret (pe_ix ix_list (pe_lst (pa_cons (pe_tup (pa_cons pe_str (pa_cons (pv 3) pa_nil))) (pa_cons pe_non pa_nil))) (pe_callTy call_int1 (by rfl) T.b_int (by decide +kernel) (by exact (pa_cons (pe_cmpR (op_eqD hr.units) (pe_fn (ok_l_steps T) (hr.mono (by decide)) pass0 (pa_cons (pv 0) (pa_cons (pv 3) pa_nil))) (pe_lst pa_nil) (nomark _)) pa_nil))) (fun _ _ => rfl))))
      pss_nil)
    (C8.pss_cut (ps_if (PW.pt (pw_and (pt_cmpR op_in_seq (pv 2) (pe_tup (pa_cons pe_str (pa_cons pe_str (pa_cons pe_str pa_nil)))) rfl) (pw_and1 (pt_cmpR op_gt (pe_callB call_len_seq (by rfl) T.b_len (by decide +kernel) (pa_cons (pe_dget hu (pe_dget hu (pv 0) pe_str (fun _ _ => rfl)) (pv 3) (fun _ _ => rfl)) pa_nil)) pe_int (nomark _)))))
      (pss_one (ps_ret (pe_tup (pa_cons pe_str (by exact (pa_cons (pe_callB cr_sortedS (by rfl) T.b_sorted (by decide +kernel) (by exact (pa_cons (pe_slice sl_list (pe_dget hu (pe_dget hu (pv 0) pe_str (fun _ _ => rfl)) (pv 3) (fun _ _ => rfl)) (po_some pe_int) po_none) pa_nil))) pa_nil))))))
      pss_nil)
    (pss_cons (ps_if (pt_cmpR op_eq (pv 2) pe_str (nomark _))
      (pss_cons (ps_setLc (i := 5) (own := [("_law_name_here", 6)]) (by rfl) sc_l_due.nd rfl rfl (sw_true rfl rfl rfl (by decide +kernel)) (pi_list (pe_op op_cat (pe_ix ix_tup (pv 1) pe_int (fun _ _ => rfl)) (pe_ix ix_tup (pv 1) pe_int (fun _ _ => rfl)))) (blkOk_by (own := [("_law_name_here", 6)]) (N := N_l_due) (sc := defScope s_ldue) (by decide +kernel)) (fun _ _ _ _ _ => (pg_name (i := 6) sc_l_due.nd rfl (Or.inl rfl))) (fun _ _ _ _ _ => (pts_one (pt_cmp (pc_dnotin hu (pv 6) (pe_dget hu (pv 0) pe_str (fun _ _ => rfl)))))) (fun _ _ _ _ _ => (pv 6)))
    (pss_one (ps_ret (pe_andT (pe_ix ix_list (pe_op op_cat (pv 5) (pe_lst (pa_cons pe_non pa_nil))) pe_int (fun _ _ => rfl)) (pe_one (pe_tup (pa_cons pe_str (pa_cons (pe_ix ix_list (pv 5) pe_int (fun _ _ => rfl)) pa_nil))))))))
      pss_nil)
    (pss_one (ps_ret (pe_fn (ok_l_due_crew T) (hr.mono (by decide)) pass0 (pa_cons (pv 0) (pa_cons (pv 1) pa_nil)))))))))))))), ?_⟩
    obtain ⟨p, q, ht, hls⟩ := id hd
    refine ixD 0 rfl ht Deed.row0 (ixD 1 rfl ht Deed.row1 ⟨_, _, rfl, ?_⟩)
    by_cases hbd : d.board
    · refine wIn ["turn", "stick", "mend", "ask"] true rfl (fun R h => h) (by decide) (by cases d <;> first | rfl | exact hbd.elim) fun H2 s2 => iteT ?_
      refine ⟨_, rfl, _, rfl, ow, z, L, pp, t, d, rfl, mm.same s2, ok, hbd, hd.same s2, fun H3 v s3 hv => k H3 v (s2.trans s3) ?_⟩
      have e : due L pp d = boardR L d := by cases d <;> first | rfl | exact hbd.elim
      rw [e]
      exact hv
    have hj := Deed.fits_job hf hbd
    refine wIn ["turn", "stick", "mend", "ask"] false rfl (fun R h => h) (by decide) (by cases d <;> first | rfl | exact absurd trivial hbd) fun H2 s2 => iteF ?_
    intro g hg
    have sg1 : Same H2 (upd H2 g (.dK [])) := Same.new hg
    refine ⟨upd_same, good5, rfl, by show 5 ≤ 15; decide, ?_⟩
    rw [good5_m]
    have s2g : Same H2 (upd (upd H2 g (.dK [])) g (.dK good5)) := fun b o e => by rw [upd_ne (ne_of_none e hg), upd_ne (ne_of_none e hg)]; exact e
    refine ⟨_, rfl, .inr (.inr (.inl ⟨rfl, .inl ⟨_, upd_same⟩⟩)), fun r hr0 => ?_⟩
    have hgr : g ≠ r := ne_of_none (upd_same (H := upd H2 g (.dK [])) (a := g)) hr0
    refine ⟨upd_same, good3, rfl, by show 3 ≤ 15; decide, ?_⟩
    rw [good3_m]
    have hg5 : (upd (upd (upd (upd H2 g (.dK [])) g (.dK good5)) r (.dK [])) r (.dK good3)) g = some (.dK good5) := by
      rw [upd_ne hgr, upd_ne hgr, upd_same]
    refine ⟨g, r, good5, good3, rfl, rfl, hg5, upd_same, hgr, by show 8 < 1000; decide, ?_⟩
    rw [good8_m]
    have s26 : Same H2 (upd (upd (upd (upd (upd H2 g (.dK [])) g (.dK good5)) r (.dK [])) r (.dK good3)) g (.dK (good5 ++ good3))) := fun b o e => by
      have h1 := s2g _ _ e
      rw [upd_ne (ne_of_none e hg), upd_ne (ne_of_none h1 hr0), upd_ne (ne_of_none h1 hr0)]
      exact h1
    have hg6 : (upd (upd (upd (upd (upd H2 g (.dK [])) g (.dK good5)) r (.dK [])) r (.dK good3)) g (.dK (good5 ++ good3))) g = some (.dK (good5 ++ good3)) := upd_same
    generalize (upd (upd (upd (upd (upd H2 g (.dK [])) g (.dK good5)) r (.dK [])) r (.dK good3)) g (.dK (good5 ++ good3))) = H6 at s26 hg6 ⊢
    have s6 := s2.trans s26
    have m6 := mm.same s6
    refine ⟨fun σ H' => σ = [some (.ref z.m), some (.ref t), some (.str d.word), some (.str d.name), some (.ref g), none, none] ∧ Same H6 H' ∧ ∀ l, d.good = some l → (pp d.name).ph ∈ l, ?_, ?_⟩
    · refine ⟨_, rfl, _, rfl, g, _, rfl, .inl ⟨_, Sum.inr d.word, .inl hg6, rfl, (good_val hbd).symm⟩, _, rfl, ?_⟩
      cases hT : d.goodT with
      | none => exact iteF ⟨rfl, Same.refl _, fun l hl => by rw [good_none hT] at hl; cases hl⟩
      | some x =>
        obtain ⟨l, hl, hsp, hlen⟩ := good_split hT
        refine iteT ?_
        refine ⟨_, rfl, _, _, rfl, dm_jb m6.rd.m, _, rfl, _, _, rfl, dg m6.rd.jb hj, _, _, rfl, dp_ph (m6.rd.pa _ hj), ?_⟩
        refine ⟨_, rfl, _, rfl, _, _, rfl, .inl ⟨_, Sum.inr d.word, .inl hg6, rfl, ((good_val hbd).trans (congrArg (Option.map V.str) hT)).symm⟩, (show tyV _ "str" (.str x) _ from rfl), x, " ", rfl, rfl, by decide +kernel, by rw [sizeLine_eq]; omega, fun u hu' => ?_⟩
        refine ⟨u, _, rfl, .inl (SqL.of upd_same), rfl, flat_strs' _, _, rfl, ?_⟩
        rw [inV_str, hsp]
        refine iteNd (fun e => ?_) (fun e => ⟨rfl, Same.new hu', fun l' hl' => by rw [hl] at hl'; cases hl'; exact e⟩)
        refine ⟨_, rfl, by show 2 ≤ sizeLine; decide, fun v hv => k _ _ (s6.trans ((Same.new hu').trans (Same.new hv))) ?_⟩
        rw [due_notNow hl e]
        exact DueV.mk upd_same rfl rfl
    rintro σ H7 ⟨rfl, s7, hph⟩
    have s17 := s6.trans s7
    have m7 := mm.same s17
    have hd7 := hd.same s17
    have ht7 := s17 _ _ ht
    -- those that are asked of the crew
    have crewT : ∀ {H8 : Hp} {E' : XK}, Same H7 H8 → d.late → due L pp d = crewR L d → tRet (tCall spDueCrew [] E' (tCons (tVar 0) (tCons (tVar 1) tNil))) { nx := fun _ H' => Q .non H', rt := Q } [some (.ref z.m), some (.ref t), some (.str d.word), some (.str d.name), some (.ref g), none, none] H8 := fun s8 hlate e =>
      ⟨_, rfl, _, rfl, z, L, pp, t, d, rfl, (m7.same s8).rd, hj, hlate, hd7.same s8, fun H9 v s9 hv => k _ _ ((s17.trans s8).trans s9) (by rw [e]; exact hv)⟩
    cases d with
    | turn | stick | mend | ask => exact absurd trivial hbd
    | step j => exact wEqT rfl (iteT ⟨_, rfl, _, rfl, z, L, pp, j, rfl, m7.rd, oks j hj, fun H8 v s8 hv => k _ _ (s17.trans s8) hv⟩)
    | give j =>
      have hp : (pp j).ph = "still" := List.mem_singleton.mp (hph _ rfl)
      refine wEqF rfl (by rfl) (iteF ?_)
      refine wEqT rfl (iteT ?_)
      refine ⟨_, rfl, by show 2 ≤ sizeLine; decide, fun r hr' => ⟨by show 2 ≤ sizeLine; decide, fun u hu' => ?_⟩⟩
      have s8 := (Same.new (o := .tup [.str "NotNow", .str j]) hr').trans (Same.new (o := .lst [.ref r, .non]) hu')
      refine ⟨_, rfl, _, rfl, z, L, pp, j, rfl, (m7.same s8).rd, ok, (oks j hj).po, hj, fun H9 v its s9 hv ht9 => ?_⟩
      refine ⟨by show 0 ≤ sizeLine; exact Nat.zero_le _, fun y hy => ?_⟩
      refine ⟨_, .list [], dp_steps ((Same.new hy) _ _ hv) (ht9.keep (KpT.same (Same.new hy))), .lst (xs := []) (SqL.of upd_same) .nil, (st_sm ok (oks j hj).po).shaped (by decide), rfl, .inr ⟨_, rfl, ?_⟩⟩
      rw [eqv_nil', decide_eq_decide.mpr (map_nil.trans map_nil)]
      have s10 := s9.trans (Same.new (o := .lst []) hy)
      have hu10 := s10 _ _ (upd_same (a := u) (o := HO.lst [.ref r, .non]))
      have hr10 := s10 _ _ ((Same.new hu') _ _ (upd_same (a := r) (o := HO.tup [.str "NotNow", .str j])))
      have kk := k _ (if L.steps j (pp j) = [] then .non else .ref r) ((s17.trans s8).trans s10) (by
        by_cases e : L.steps j (pp j) = []
        · rw [if_pos e]
          have : due L pp (.give j) = none := if_pos ⟨hp, e⟩
          rw [this]
          rfl
        · rw [if_neg e]
          have : due L pp (.give j) = some (.notNow j) := if_neg fun z => e z.2
          rw [this]
          exact DueV.mk hr10 rfl rfl)
      by_cases e : L.steps j (pp j) = []
      · rw [if_pos e] at kk
        rw [decide_eq_true e]
        exact ⟨u, _, 1, .non, rfl, rfl, SqL.of hu10, at1, kk⟩
      · rw [if_neg e] at kk
        rw [decide_eq_false e]
        exact ⟨u, _, 0, .ref r, rfl, rfl, SqL.of hu10, at0, kk⟩
    | begin j sw dr =>
      have hp : (pp j).ph = "by" := List.mem_singleton.mp (hph _ rfl)
      have hdue : due L pp (.begin j sw dr) = lackR L (sw ++ dr) := if_pos hp
      rw [hdue] at k
      obtain ⟨hsw, hdr⟩ := hls
      have hsw7 := s17 _ _ hsw
      have hdr7 := s17 _ _ hdr
      have l1 := hf.2.1.len
      have l2 := hf.2.2.1.len
      refine wEqF rfl (by rfl) (iteF ?_)
      refine wEqF rfl (by rfl) (iteF ?_)
      refine ⟨fun σ H' => σ = [some (.ref z.m), some (.ref t), some (.str "begin"), some (.str j), some (.ref g), none, none] ∧ Same H7 H', ?_, ?_⟩
      · exact wIn ["try_out", "put_by", "end"] false rfl (fun R h => h) (by decide) (by rfl) fun H8 s8 => iteF ⟨rfl, s8⟩
      rintro σ H8 ⟨rfl, s8⟩
      refine wEqT rfl (iteT ?_)
      refine ixD 2 rfl (s8 _ _ ht7) rfl (ixD 3 rfl (s8 _ _ ht7) rfl ⟨p, q, _, _, rfl, rfl, s8 _ _ hsw7, s8 _ _ hdr7, sz_of (by rw [List.length_map, List.length_map]; omega), fun c hc => ?_⟩)
      rw [← List.map_append]
      have s9 := s8.trans (Same.new (o := .lst ((sw ++ dr).map V.str)) hc)
      have hc9 : (upd H8 c (.lst ((sw ++ dr).map V.str))) c = some (.lst ((sw ++ dr).map V.str)) := upd_same
      refine ⟨c, rfl, ⟨_, SqL.of hc9⟩, fun D hD => ?_⟩
      refine lc_gen walk_list (sw ++ dr) (fun a => decide (a ∉ L.devs)) id (Fv V.str) (Fv V.str) (List.length_map _).symm (by rw [List.length_map, List.length_append]; omega) hD (fun H' s => s.seq (SqL.of hc9)) yS Fv.mono ?_ ?_
      · rintro i a v H3 hi s3 rfl nx sk hk hsk
        have m3 := m7.same (s9.trans s3)
        refine ⟨rfl, ?_⟩
        refine ⟨_, rfl, _, rfl, _, _, rfl, dm_pl m3.rd.m, _, _, rfl, dgi m3.rd.pl, _, rfl, ?_⟩
        rw [isS]
        exact iteNd (fun e => ⟨_, rfl, hk (decide_eq_true e) _ _ (Same.refl _) rfl⟩) (fun e => hsk (decide_eq_false fun z => z e) H3 (Same.refl _))
      intro H9 its s10 hD9 hp9
      rw [List.map_id] at hp9
      have e := Fv.eq hp9
      subst e
      have hfl : ((sw ++ dr).filter fun a => decide (a ∉ L.devs)).length ≤ 48 := Nat.le_trans (List.length_filter_le _ _) (by rw [List.length_append]; omega)
      have hlack : lackR L (sw ++ dr) = ((sw ++ dr).filter fun a => decide (a ∉ L.devs)).head?.map Rf.lacks := by
        unfold lackR
        rw [← List.head?_filter]
        cases ((sw ++ dr).filter fun a => decide (a ∉ L.devs)).head? <;> rfl
      rw [hlack] at k
      have hNm : ∀ a ∈ (sw ++ dr).filter (fun a => decide (a ∉ L.devs)), IsName a := fun a ha => (List.mem_append.mp (List.mem_filter.mp ha).1).elim (hf.2.1.all a) (hf.2.2.1.all a)
      have s19 := (s17.trans s9).trans s10
      generalize (sw ++ dr).filter (fun a => decide (a ∉ L.devs)) = la at hD9 hfl k hNm
      refine ⟨_, rfl, by show 1 ≤ sizeLine; decide, fun x hx => ⟨D, x, _, _, rfl, rfl, (Same.new hx) _ _ hD9, upd_same, sz_of (by rw [List.length_map]; show _ + 1 ≤ _; omega), fun y hy => ?_⟩⟩
      have s20 := (Same.new (o := .lst [.non]) hx).trans (Same.new (o := .lst (la.map V.str ++ [.non])) hy)
      have hy20 : (upd (upd H9 x (.lst [.non])) y (.lst (la.map V.str ++ [.non]))) y = some (.lst (la.map V.str ++ [.non])) := upd_same
      cases la with
      | nil =>
        exact ⟨y, _, 0, .non, rfl, rfl, SqL.of hy20, at0, false, rfl, iteF (k _ _ (s19.trans s20) rfl)⟩
      | cons a r =>
        have hna := hNm a List.mem_cons_self
        refine ⟨y, _, 0, .str a, rfl, rfl, SqL.of hy20, at0, true, ?_, iteT ?_⟩
        · refine ⟨nlen hna, ?_⟩
          have := hna.1
          symm
          rw [bne_iff_ne]
          omega
        · exact ⟨_, rfl, D, _, 0, .str a, rfl, rfl, SqL.of (s20 _ _ hD9), at0, by show 2 ≤ sizeLine; decide, fun v hv => k _ _ ((s19.trans s20).trans (Same.new hv)) (DueV.mk upd_same rfl rfl)⟩
    | tryOut j =>
      have hj : j ∈ L.jobs := hj
      refine wEqF rfl (by rfl) (iteF ?_)
      refine wEqF rfl (by rfl) (iteF ?_)
      have hcw := (ok.cw j hj).1
      have hl := hcw.len
      have hcl7 := m7.cl j hj
      have hdue := due_alone (L := L) (pp := pp) (j := j) (by simp) hph
      rw [hdue] at k
      refine ⟨fun σ H' => σ = [some (.ref z.m), some (.ref t), some (.str "try_out"), some (.str j), some (.ref g), none, none] ∧ Same H7 H' ∧ heldR L j = none, ?_, ?_⟩
      · refine wIn ["try_out", "put_by", "end"] true rfl (fun R h => h) (by decide) (by rfl) fun H8 s8 => iteT ?_
        have m8 := m7.same s8
        refine ⟨_, rfl, _, _, rfl, dm_cw m8.rd.m, _, rfl, _, _, rfl, dg m8.rd.cw hj, z.cl j, _, rfl, .inl (SqL.of (m8.cl j hj)), _, _, rfl, rfl, _, rfl, ?_⟩
        rw [List.length_map]
        refine iteD (fun e => ?_) (fun e => ⟨rfl, s8, ?_⟩)
        rotate_left
        · unfold heldR
          refine if_neg fun z => z ?_
          exact List.length_eq_zero_iff.mp (by rw [List.length_tail]; omega)
        have hne : (L.cw j).tail ≠ [] := fun z => by
          have := congrArg List.length z
          rw [List.length_tail, List.length_nil] at this
          omega
        have hr0 : heldR L j = some (.held (srt (L.cw j).tail)) := if_pos hne
        rw [hr0] at k
        refine ⟨_, rfl, _, _, rfl, dm_cw m8.rd.m, _, rfl, _, _, rfl, dg m8.rd.cw hj, _, rfl, z.cl j, _, rfl, SqL.of (m8.cl j hj), fun x hx => ?_⟩
        rw [cut_1]
        refine ⟨x, _, rfl, SqL.of upd_same, by rw [List.length_tail]; omega, fun ys y hy1 hy2 hy3 => ?_⟩
        have e := srt_eq hy1 hy2
        subst e
        exact ⟨by show 2 ≤ sizeLine; decide, fun v hv => k _ _ (((s17.trans s8).trans ((Same.new hx).trans (Same.new hy3))).trans (Same.new hv)) (DueV.mk upd_same rfl ⟨y, rfl, (Same.new hv) _ _ upd_same⟩)⟩
      rintro σ H8 ⟨rfl, s8, hh⟩
      refine wEqF rfl (by rfl) (iteF ?_)
      exact crewT s8 trivial (hdue.trans hh)
    | putBy j =>
      have hj : j ∈ L.jobs := hj
      refine wEqF rfl (by rfl) (iteF ?_)
      refine wEqF rfl (by rfl) (iteF ?_)
      have hcw := (ok.cw j hj).1
      have hl := hcw.len
      have hcl7 := m7.cl j hj
      have hdue := due_alone (L := L) (pp := pp) (j := j) (by simp) hph
      rw [hdue] at k
      refine ⟨fun σ H' => σ = [some (.ref z.m), some (.ref t), some (.str "put_by"), some (.str j), some (.ref g), none, none] ∧ Same H7 H' ∧ heldR L j = none, ?_, ?_⟩
      · refine wIn ["try_out", "put_by", "end"] true rfl (fun R h => h) (by decide) (by rfl) fun H8 s8 => iteT ?_
        have m8 := m7.same s8
        refine ⟨_, rfl, _, _, rfl, dm_cw m8.rd.m, _, rfl, _, _, rfl, dg m8.rd.cw hj, z.cl j, _, rfl, .inl (SqL.of (m8.cl j hj)), _, _, rfl, rfl, _, rfl, ?_⟩
        rw [List.length_map]
        refine iteD (fun e => ?_) (fun e => ⟨rfl, s8, ?_⟩)
        rotate_left
        · unfold heldR
          refine if_neg fun z => z ?_
          exact List.length_eq_zero_iff.mp (by rw [List.length_tail]; omega)
        have hne : (L.cw j).tail ≠ [] := fun z => by
          have := congrArg List.length z
          rw [List.length_tail, List.length_nil] at this
          omega
        have hr0 : heldR L j = some (.held (srt (L.cw j).tail)) := if_pos hne
        rw [hr0] at k
        refine ⟨_, rfl, _, _, rfl, dm_cw m8.rd.m, _, rfl, _, _, rfl, dg m8.rd.cw hj, _, rfl, z.cl j, _, rfl, SqL.of (m8.cl j hj), fun x hx => ?_⟩
        rw [cut_1]
        refine ⟨x, _, rfl, SqL.of upd_same, by rw [List.length_tail]; omega, fun ys y hy1 hy2 hy3 => ?_⟩
        have e := srt_eq hy1 hy2
        subst e
        exact ⟨by show 2 ≤ sizeLine; decide, fun v hv => k _ _ (((s17.trans s8).trans ((Same.new hx).trans (Same.new hy3))).trans (Same.new hv)) (DueV.mk upd_same rfl ⟨y, rfl, (Same.new hv) _ _ upd_same⟩)⟩
      rintro σ H8 ⟨rfl, s8, hh⟩
      refine wEqF rfl (by rfl) (iteF ?_)
      exact crewT s8 trivial (hdue.trans hh)
    | fin j =>
      have hj : j ∈ L.jobs := hj
      refine wEqF rfl (by rfl) (iteF ?_)
      refine wEqF rfl (by rfl) (iteF ?_)
      have hcw := (ok.cw j hj).1
      have hl := hcw.len
      have hcl7 := m7.cl j hj
      have hdue := due_alone (L := L) (pp := pp) (j := j) (by simp) hph
      rw [hdue] at k
      refine ⟨fun σ H' => σ = [some (.ref z.m), some (.ref t), some (.str "end"), some (.str j), some (.ref g), none, none] ∧ Same H7 H' ∧ heldR L j = none, ?_, ?_⟩
      · refine wIn ["try_out", "put_by", "end"] true rfl (fun R h => h) (by decide) (by rfl) fun H8 s8 => iteT ?_
        have m8 := m7.same s8
        refine ⟨_, rfl, _, _, rfl, dm_cw m8.rd.m, _, rfl, _, _, rfl, dg m8.rd.cw hj, z.cl j, _, rfl, .inl (SqL.of (m8.cl j hj)), _, _, rfl, rfl, _, rfl, ?_⟩
        rw [List.length_map]
        refine iteD (fun e => ?_) (fun e => ⟨rfl, s8, ?_⟩)
        rotate_left
        · unfold heldR
          refine if_neg fun z => z ?_
          exact List.length_eq_zero_iff.mp (by rw [List.length_tail]; omega)
        have hne : (L.cw j).tail ≠ [] := fun z => by
          have := congrArg List.length z
          rw [List.length_tail, List.length_nil] at this
          omega
        have hr0 : heldR L j = some (.held (srt (L.cw j).tail)) := if_pos hne
        rw [hr0] at k
        refine ⟨_, rfl, _, _, rfl, dm_cw m8.rd.m, _, rfl, _, _, rfl, dg m8.rd.cw hj, _, rfl, z.cl j, _, rfl, SqL.of (m8.cl j hj), fun x hx => ?_⟩
        rw [cut_1]
        refine ⟨x, _, rfl, SqL.of upd_same, by rw [List.length_tail]; omega, fun ys y hy1 hy2 hy3 => ?_⟩
        have e := srt_eq hy1 hy2
        subst e
        exact ⟨by show 2 ≤ sizeLine; decide, fun v hv => k _ _ (((s17.trans s8).trans ((Same.new hx).trans (Same.new hy3))).trans (Same.new hv)) (DueV.mk upd_same rfl ⟨y, rfl, (Same.new hv) _ _ upd_same⟩)⟩
      rintro σ H8 ⟨rfl, s8, hh⟩
      refine wEqF rfl (by rfl) (iteF ?_)
      exact crewT s8 trivial (hdue.trans hh)
    | goOn j =>
      refine wEqF rfl (by rfl) (iteF ?_)
      refine wEqF rfl (by rfl) (iteF ?_)
      refine ⟨fun σ H' => σ = [some (.ref z.m), some (.ref t), some (.str "go_on"), some (.str j), some (.ref g), none, none] ∧ Same H7 H', ?_, ?_⟩
      · exact wIn ["try_out", "put_by", "end"] false rfl (fun R h => h) (by decide) (by rfl) fun H8 s8 => iteF ⟨rfl, s8⟩
      rintro σ H8 ⟨rfl, s8⟩
      refine wEqF rfl (by rfl) (iteF ?_)
      exact crewT s8 trivial (if_pos (List.mem_singleton.mp (hph _ rfl)))
    | on j x =>
      refine wEqF rfl (by rfl) (iteF ?_)
      refine wEqF rfl (by rfl) (iteF ?_)
      refine ⟨fun σ H' => σ = [some (.ref z.m), some (.ref t), some (.str "sign_on"), some (.str j), some (.ref g), none, none] ∧ Same H7 H', ?_, ?_⟩
      · exact wIn ["try_out", "put_by", "end"] false rfl (fun R h => h) (by decide) (by rfl) fun H8 s8 => iteF ⟨rfl, s8⟩
      rintro σ H8 ⟨rfl, s8⟩
      refine wEqF rfl (by rfl) (iteF ?_)
      exact crewT s8 trivial (if_pos (List.mem_singleton.mp (hph _ rfl)))
    | off j x =>
      refine wEqF rfl (by rfl) (iteF ?_)
      refine wEqF rfl (by rfl) (iteF ?_)
      refine ⟨fun σ H' => σ = [some (.ref z.m), some (.ref t), some (.str "sign_off"), some (.str j), some (.ref g), none, none] ∧ Same H7 H', ?_, ?_⟩
      · exact wIn ["try_out", "put_by", "end"] false rfl (fun R h => h) (by decide) (by rfl) fun H8 s8 => iteF ⟨rfl, s8⟩
      rintro σ H8 ⟨rfl, s8⟩
      refine wEqF rfl (by rfl) (iteF ?_)
      exact crewT s8 trivial (if_pos (List.mem_singleton.mp (hph _ rfl)))
    | over j x y =>
      refine wEqF rfl (by rfl) (iteF ?_)
      refine wEqF rfl (by rfl) (iteF ?_)
      refine ⟨fun σ H' => σ = [some (.ref z.m), some (.ref t), some (.str "hand_over"), some (.str j), some (.ref g), none, none] ∧ Same H7 H', ?_, ?_⟩
      · exact wIn ["try_out", "put_by", "end"] false rfl (fun R h => h) (by decide) (by rfl) fun H8 s8 => iteF ⟨rfl, s8⟩
      rintro σ H8 ⟨rfl, s8⟩
      refine wEqF rfl (by rfl) (iteF ?_)
      exact crewT s8 trivial rfl
end
end Sm
namespace Sm
open PySem PySem.Spec PyProof.Rows L2
/-! ### m changes -/
section
variable {ow : Addr → Ro} {z : MA} {L : BS} {pp : Str → PS} {H : Hp}
theorem MAt.upPl (m : MAt ow z L pp H) {g : Str → V} {pl' : Str → Str} (hg : ∀ d ∈ L.devs, g d = .str (pl' d)) : MAt ow z { L with pl := pl' } pp (upd H z.pl (.dK (dk L.devs g))) :=
  { m with
    m := up_ro m.m m.rm m.rpl (by intro z; cases z)
    pl := by rw [upd_same, dk_congr hg]
    hm := up_ro m.hm m.rhm m.rpl (by intro z; cases z)
    sk := up_k m.sk m.pl (by intro z; cases z)
    tg := up_ro m.tg m.rtg m.rpl (by intro z; cases z)
    tl := fun d hd => up_k (m.tl d hd) m.pl (by intro z; cases z)
    cw := up_ro m.cw m.rcw m.rpl (by intro z; cases z)
    cl := fun d hd => up_k (m.cl d hd) m.pl (by intro z; cases z)
    jb := up_ro m.jb m.rjb m.rpl (by intro z; cases z)
    pa := fun j hj => up_ro (m.pa j hj) (m.rpa j hj) m.rpl (by intro z; cases z)
    ab := fun d hd => up_k (m.ab d hd) m.pl (by intro z; cases z)
    cu := fun d hd => up_k (m.cu d hd) m.pl (by intro z; cases z)
    em := fun d hd => up_k (m.em d hd) m.pl (by intro z; cases z) }
theorem MAt.upHm (m : MAt ow z L pp H) {g : Str → V} {hm' : Str → Str} (hg : ∀ d ∈ L.devs, g d = .str (hm' d)) : MAt ow z { L with hm := hm' } pp (upd H z.hm (.dK (dk L.devs g))) :=
  { m with
    m := up_ro m.m m.rm m.rhm (by intro z; cases z)
    pl := up_ro m.pl m.rpl m.rhm (by intro z; cases z)
    hm := by rw [upd_same, dk_congr hg]
    sk := up_k m.sk m.hm (by intro z; cases z)
    tg := up_ro m.tg m.rtg m.rhm (by intro z; cases z)
    tl := fun d hd => up_k (m.tl d hd) m.hm (by intro z; cases z)
    cw := up_ro m.cw m.rcw m.rhm (by intro z; cases z)
    cl := fun d hd => up_k (m.cl d hd) m.hm (by intro z; cases z)
    jb := up_ro m.jb m.rjb m.rhm (by intro z; cases z)
    pa := fun j hj => up_ro (m.pa j hj) (m.rpa j hj) m.rhm (by intro z; cases z)
    ab := fun d hd => up_k (m.ab d hd) m.hm (by intro z; cases z)
    cu := fun d hd => up_k (m.cu d hd) m.hm (by intro z; cases z)
    em := fun d hd => up_k (m.em d hd) m.hm (by intro z; cases z) }
/-- m['stuck'] = a new list -/
theorem MAt.upSk (m : MAt ow z L pp H) {q : Addr} {fs' : List Str} (hq : H q = some (.lst (fs'.map V.str))) : MAt ow { z with sk := q } { L with fs := fs' } pp (upd H z.m (.dK (mk6 z.pl z.hm q z.tg z.cw z.jb))) :=
  { m with
    m := upd_same
    pl := up_ro m.pl m.rpl m.rm (by intro z; cases z)
    hm := up_ro m.hm m.rhm m.rm (by intro z; cases z)
    sk := up_k hq m.m (by intro z; cases z)
    tg := up_ro m.tg m.rtg m.rm (by intro z; cases z)
    tl := fun d hd => up_k (m.tl d hd) m.m (by intro z; cases z)
    cw := up_ro m.cw m.rcw m.rm (by intro z; cases z)
    cl := fun d hd => up_k (m.cl d hd) m.m (by intro z; cases z)
    jb := up_ro m.jb m.rjb m.rm (by intro z; cases z)
    pa := fun j hj => up_ro (m.pa j hj) (m.rpa j hj) m.rm (by intro z; cases z)
    ab := fun d hd => up_k (m.ab d hd) m.m (by intro z; cases z)
    cu := fun d hd => up_k (m.cu d hd) m.m (by intro z; cases z)
    em := fun d hd => up_k (m.em d hd) m.m (by intro z; cases z) }
/-- m['tags'][d] = a new list -/
theorem MAt.upTg (m : MAt ow z L pp H) {d0 : Str} {q : Addr} {js : List Str} {g : Str → V} (hq : H q = some (.lst (js.map V.str))) (hg : ∀ d ∈ L.devs, g d = .ref (ups z.tl d0 q d)) :
    MAt ow { z with tl := ups z.tl d0 q } { L with ms := ups L.ms d0 js } pp (upd H z.tg (.dK (dk L.devs g))) :=
  { m with
    m := up_ro m.m m.rm m.rtg (by intro z; cases z)
    pl := up_ro m.pl m.rpl m.rtg (by intro z; cases z)
    hm := up_ro m.hm m.rhm m.rtg (by intro z; cases z)
    sk := up_k m.sk m.tg (by intro z; cases z)
    tg := by rw [upd_same, dk_congr hg]
    tl := fun d hd => by
      show upd H z.tg _ (ups z.tl d0 q d) = some (HO.lst ((ups L.ms d0 js d).map V.str))
      by_cases e : d = d0
      · subst e
        rw [ups_same, ups_same]
        exact up_k hq m.tg (by intro z; cases z)
      · rw [ups_ne e, ups_ne e]
        exact up_k (m.tl d hd) m.tg (by intro z; cases z)
    cw := up_ro m.cw m.rcw m.rtg (by intro z; cases z)
    cl := fun d hd => up_k (m.cl d hd) m.tg (by intro z; cases z)
    jb := up_ro m.jb m.rjb m.rtg (by intro z; cases z)
    pa := fun j hj => up_ro (m.pa j hj) (m.rpa j hj) m.rtg (by intro z; cases z)
    ab := fun d hd => up_k (m.ab d hd) m.tg (by intro z; cases z)
    cu := fun d hd => up_k (m.cu d hd) m.tg (by intro z; cases z)
    em := fun d hd => up_k (m.em d hd) m.tg (by intro z; cases z) }
/-- m['crew'][j] = a new list, of a job there is -/
theorem MAt.upCw (m : MAt ow z L pp H) {j0 : Str} {q : Addr} {hs : List Str} {g : Str → V} (hj : j0 ∈ L.jobs) (hq : H q = some (.lst (hs.map V.str))) (hg : ∀ j ∈ L.jobs, g j = .ref (ups z.cl j0 q j)) :
    MAt ow { z with cl := ups z.cl j0 q } (L.crew j0 hs) pp (upd H z.cw (.dK (dk L.jobs g))) := by
  have e : L.crew j0 hs = { L with cw := ups L.cw j0 hs } := by unfold BS.crew; rw [addk_in hj]
  rw [e]
  exact { m with
    m := up_ro m.m m.rm m.rcw (by intro z; cases z)
    pl := up_ro m.pl m.rpl m.rcw (by intro z; cases z)
    hm := up_ro m.hm m.rhm m.rcw (by intro z; cases z)
    sk := up_k m.sk m.cw (by intro z; cases z)
    tg := up_ro m.tg m.rtg m.rcw (by intro z; cases z)
    tl := fun d hd => up_k (m.tl d hd) m.cw (by intro z; cases z)
    cw := by rw [upd_same, dk_congr hg]
    cl := fun j hj => by
      show upd H z.cw _ (ups z.cl j0 q j) = some (HO.lst ((ups L.cw j0 hs j).map V.str))
      by_cases e : j = j0
      · subst e
        rw [ups_same, ups_same]
        exact up_k hq m.cw (by intro z; cases z)
      · rw [ups_ne e, ups_ne e]
        exact up_k (m.cl j hj) m.cw (by intro z; cases z)
    jb := up_ro m.jb m.rjb m.rcw (by intro z; cases z)
    pa := fun j hj => up_ro (m.pa j hj) (m.rpa j hj) m.rcw (by intro z; cases z)
    ab := fun d hd => up_k (m.ab d hd) m.cw (by intro z; cases z)
    cu := fun d hd => up_k (m.cu d hd) m.cw (by intro z; cases z)
    em := fun d hd => up_k (m.em d hd) m.cw (by intro z; cases z) }
/-- a paper is written anew -/
theorem MAt.upPa (m : MAt ow z L pp H) {j0 : Str} {P' : PS} {cu' em' : Addr} (hj : j0 ∈ L.jobs) (hab : P'.ab = (pp j0).ab) (hcu : H cu' = some (.lst (P'.cu.map V.str))) (hem : H em' = some (.lst (P'.em.map V.str))) :
    MAt ow { z with cu := ups z.cu j0 cu', em := ups z.em j0 em' } L (ups pp j0 P') (upd H (z.pa j0) (.dK (pk5 (z.ab j0) P'.ph P'.en cu' em'))) :=
  { m with
    m := up_ro m.m m.rm (m.rpa j0 hj) (by intro z; cases z)
    pl := up_ro m.pl m.rpl (m.rpa j0 hj) (by intro z; cases z)
    hm := up_ro m.hm m.rhm (m.rpa j0 hj) (by intro z; cases z)
    sk := up_k m.sk (m.pa j0 hj) (by intro z; cases z)
    tg := up_ro m.tg m.rtg (m.rpa j0 hj) (by intro z; cases z)
    tl := fun d hd => up_k (m.tl d hd) (m.pa j0 hj) (by intro z; cases z)
    cw := up_ro m.cw m.rcw (m.rpa j0 hj) (by intro z; cases z)
    cl := fun d hd => up_k (m.cl d hd) (m.pa j0 hj) (by intro z; cases z)
    jb := up_ro m.jb m.rjb (m.rpa j0 hj) (by intro z; cases z)
    pa := fun j hj' => by
      show upd H (z.pa j0) _ (z.pa j) = some (HO.dK (pk5 (z.ab j) (ups pp j0 P' j).ph (ups pp j0 P' j).en (ups z.cu j0 cu' j) (ups z.em j0 em' j)))
      by_cases e : j = j0
      · subst e
        rw [upd_same, ups_same, ups_same, ups_same]
      · rw [ups_ne e, ups_ne e, ups_ne e]
        exact up_ro (m.pa j hj') (m.rpa j hj') (m.rpa j0 hj) (by intro z; exact e (Ro.pp.inj z))
    ab := fun j hj' => by
      show upd H (z.pa j0) _ (z.ab j) = some (HO.lst ((ups pp j0 P' j).ab.map V.str))
      by_cases e : j = j0
      · subst e
        rw [ups_same, hab]
        exact up_k (m.ab j hj') (m.pa j hj) (by intro z; cases z)
      · rw [ups_ne e]
        exact up_k (m.ab j hj') (m.pa j0 hj) (by intro z; cases z)
    cu := fun j hj' => by
      show upd H (z.pa j0) _ (ups z.cu j0 cu' j) = some (HO.lst ((ups pp j0 P' j).cu.map V.str))
      by_cases e : j = j0
      · subst e
        rw [ups_same, ups_same]
        exact up_k hcu (m.pa j hj) (by intro z; cases z)
      · rw [ups_ne e, ups_ne e]
        exact up_k (m.cu j hj') (m.pa j0 hj) (by intro z; cases z)
    em := fun j hj' => by
      show upd H (z.pa j0) _ (ups z.em j0 em' j) = some (HO.lst ((ups pp j0 P' j).em.map V.str))
      by_cases e : j = j0
      · subst e
        rw [ups_same, ups_same]
        exact up_k hem (m.pa j hj) (by intro z; cases z)
      · rw [ups_ne e, ups_ne e]
        exact up_k (m.em j hj') (m.pa j0 hj) (by intro z; cases z) }
/-- a job is gone -/
theorem MAt.upLv (m : MAt ow z L pp H) {j0 : Str} : MAt ow z (L.leave j0) pp (upd (upd H z.jb (.dK (dk (L.jobs.filter fun a => decide (a ≠ j0)) fun j => .ref (z.pa j)))) z.cw (.dK (dk (L.jobs.filter fun a => decide (a ≠ j0)) fun j => .ref (z.cl j)))) := by
  have two : ∀ {a : Addr} {o : HO} {r : Ro}, H a = some o → ow a = r → r ≠ .jb → r ≠ .cw → (upd (upd H z.jb (.dK (dk (L.jobs.filter fun a => decide (a ≠ j0)) fun j => .ref (z.pa j)))) z.cw (.dK (dk (L.jobs.filter fun a => decide (a ≠ j0)) fun j => .ref (z.cl j)))) a = some o := fun h1 h2 h3 h4 =>
    up_ro (up_ro h1 h2 m.rjb h3) h2 m.rcw h4
  have twl : ∀ {a : Addr} {l : List V}, H a = some (.lst l) → (upd (upd H z.jb (.dK (dk (L.jobs.filter fun a => decide (a ≠ j0)) fun j => .ref (z.pa j)))) z.cw (.dK (dk (L.jobs.filter fun a => decide (a ≠ j0)) fun j => .ref (z.cl j)))) a = some (.lst l) := fun h1 =>
    up_k (up_k h1 m.jb (by intro z; cases z)) (up_ro m.cw m.rcw m.rjb (by intro z; cases z)) (by intro z; cases z)
  exact { m with
    m := two m.m m.rm (by intro z; cases z) (by intro z; cases z)
    pl := two m.pl m.rpl (by intro z; cases z) (by intro z; cases z)
    hm := two m.hm m.rhm (by intro z; cases z) (by intro z; cases z)
    sk := twl m.sk
    tg := two m.tg m.rtg (by intro z; cases z) (by intro z; cases z)
    tl := fun d hd => twl (m.tl d hd)
    cw := upd_same
    cl := fun j hj => twl (m.cl j (List.mem_filter.mp hj).1)
    jb := by
      rw [upd_ne (ro_ne m.rjb m.rcw (by intro z; cases z)), upd_same]
      rfl
    pa := fun j hj => two (m.pa j (List.mem_filter.mp hj).1) (m.rpa j (List.mem_filter.mp hj).1) (by intro z; cases z) (by intro z; cases z)
    ab := fun j hj => twl (m.ab j (List.mem_filter.mp hj).1)
    cu := fun j hj => twl (m.cu j (List.mem_filter.mp hj).1)
    em := fun j hj => twl (m.em j (List.mem_filter.mp hj).1)
    rpa := fun j hj => m.rpa j (List.mem_filter.mp hj).1 }
/-- the papers of others may differ -/
theorem MAt.pp_congr (m : MAt ow z L pp H) {pp' : Str → PS} (h : ∀ j ∈ L.jobs, pp' j = pp j) : MAt ow z L pp' H :=
  { m with
    pa := fun j hj => by rw [h j hj]; exact m.pa j hj
    ab := fun j hj => by rw [h j hj]; exact m.ab j hj
    cu := fun j hj => by rw [h j hj]; exact m.cu j hj
    em := fun j hj => by rw [h j hj]; exact m.em j hj }
end
/-- what the law's own turn tells: v, and m behind it -/
def MEnd (ow : Addr → Ro) (z : MA) (H : Hp) (Q : VK) (v : V) (r : BS × (Str → PS)) : Prop := ∀ H' z', z'.m = z.m → Kp ow Ro.isM H H' → MAt ow z' r.1 r.2 H' → Q v H'
/-- settle, with the papers -/
def setl (L : BS) (pp : Str → PS) (j : Str) : BS × (Str → PS) := ((settle L j (pp j)).1, ups pp j (settle L j (pp j)).2)
def upd3 (x : Str) (c e : Addr) : List (Key × V) := [(Sum.inr "phase", .str x), (Sum.inr "switches", .ref c), (Sum.inr "drains", .ref e)]
theorem upd3_m {x : Str} {c e : Addr} : mergeK [] (upd3 x c e) = upd3 x c e := by rfl
theorem upd3_pk {ab : Addr} {ph x : Str} {en : Bool} {cu em c e : Addr} : mergeK (pk5 ab ph en cu em) (upd3 x c e) = pk5 ab x en c e := by rfl
section
variable {P : Program} {w : World} {K : PySem.W.Frag} {mg : Str → Option Value} {base : Heap}
/-! ### _law_over -/
def spLOver : Sp := fun vs H Q _ => ∃ (ow : Addr → Ro) (z : MA) (L : BS) (pp : Str → PS) (j : Str), vs = [.ref z.m, .str j] ∧ MAt ow z L pp H ∧ JOk L j (pp j) ∧ MEnd ow z H Q .non (setl L pp j)
abbrev N_l_over : List Str := ["_law_m", "_law_job", "_law_paper"]
theorem sc_l_over : FnScope N_l_over ["_law_m", "_law_job"] (defScope s_lover) := ⟨rfl, rfl, rfl, by decide +kernel, rfl, by decide +kernel, by decide +kernel⟩
theorem ok_l_over (T : Txt K mg) : GFn P w K mg base CX0 2 "_law_over" ["_law_m", "_law_job"] spLOver := by
  refine T.f_l_over.ok0 sc_l_over (fun vs H Q E h => ?_) (fun f cdv A outer s H vs Q E hr h => ?_)
  · obtain ⟨ow, z, L, pp, j, rfl, _⟩ := h
    rfl
  · obtain ⟨ow, z, L, pp, j, rfl, m, ok, k⟩ := h
    have hu := hu_of hr
    refine ⟨_, (pss_cons (ps_set (i := 2) sc_l_over.nd rfl (Or.inl rfl) (pe_dget hu (pe_dget hu (pv 0) pe_str (fun _ _ => rfl)) (pv 1) (fun _ _ => rfl)))
    (pss_one (ps_if (PW.pt (pw_and (pt_cmpR op_eq (pe_dget hu (pv 2) pe_str (fun _ _ => rfl)) pe_str (nomark _)) (pw_and1 (pt_cmpR (op_eqD hr.units) (pe_fn (ok_l_steps T) (hr.mono (by decide)) pass0 (pa_cons (pv 0) (pa_cons (pv 1) pa_nil))) (pe_lst pa_nil) (nomark _)))))
      (pss_cons (ps_expr (pe_bm PySem.F.plainAttrs_dict PySem.F.slot_dict_update PySem.F.type_dict_update mt_upd (pv 2) (by exact (pa_cons (pe_disp (pps_cons pe_str pe_str (pps_cons pe_str (pe_lst pa_nil) (pps_cons pe_str (pe_lst pa_nil) pps_nil))) (by rfl) (by rfl) (fun z => by cases z) (by decide)) pa_nil))))
    (pss_one (ps_if (pt_val (pe_dget hu (pv 2) pe_str (fun _ _ => rfl)))
      (pss_cons (ps_expr (pe_dpop1 (pe_dget hu (pv 0) pe_str (fun _ _ => rfl)) (pv 1) (by exact ⟨rfl, rfl, rfl, rfl⟩)))
    (pss_one (ps_expr (pe_dpop1 (pe_dget hu (pv 0) pe_str (fun _ _ => rfl)) (pv 1) (by exact ⟨rfl, rfl, rfl, rfl⟩)))))
      pss_nil)))
      pss_nil))), ?_⟩
    have hj := ok.jn
    refine ⟨_, rfl, _, _, rfl, dm_jb m.rd.m, _, rfl, _, _, rfl, dg m.rd.jb hj, ?_⟩
    refine ⟨_, rfl, _, _, rfl, dp_ph (m.rd.pa j hj), rfl, _, rfl, ?_⟩
    have skip : ¬ ((pp j).ph = "away" ∧ L.steps j (pp j) = []) → setl L pp j = (L, pp) := fun h => by
      unfold setl settle
      rw [if_neg h, ups_id]
    refine iteD (fun e => ?_) (fun e => ?_)
    rotate_left
    · refine iteF ?_
      unfold MEnd at k
      rw [skip fun h => e (congrArg V.str h.1)] at k
      exact k H z rfl Kp.refl m
    have hp := V.str.inj e
    refine ⟨_, rfl, _, rfl, z, L, pp, j, rfl, m.rd, ok.ok, ok.po, hj, fun H1 p its s1 hp1 ht1 => ?_⟩
    refine ⟨by show 0 ≤ sizeLine; exact Nat.zero_le _, fun q hq => ?_⟩
    refine ⟨_, .list [], dp_steps ((Same.new hq) _ _ hp1) (ht1.keep (KpT.same (Same.new hq))), .lst (xs := []) (SqL.of upd_same) .nil, (st_sm ok.ok ok.po).shaped (by decide), rfl, _, rfl, ?_⟩
    rw [eqv_nil', decide_eq_decide.mpr (map_nil.trans map_nil)]
    have s2 := s1.trans (Same.new (o := .lst []) hq)
    refine iteD (fun hs => ?_) (fun hs => ?_)
    rotate_left
    · unfold MEnd at k
      rw [skip fun h => hs h.2] at k
      exact k _ z rfl (Kp.same s2) (m.same s2)
    generalize hH2 : upd H1 q (.lst []) = H2 at s2
    have m2 := m.same s2
    refine ⟨_, rfl, .inr (.inr (.inl ⟨rfl, .inl ⟨_, m2.pa j hj⟩⟩)), fun g hg => ?_⟩
    refine ⟨by show 0 ≤ sizeLine; exact Nat.zero_le _, fun a ha => ⟨by show 0 ≤ sizeLine; exact Nat.zero_le _, fun b hb => ?_⟩⟩
    have sg : Same H2 (upd H2 g (.dK [])) := Same.new hg
    have hga : (upd (upd (upd H2 g (.dK [])) a (.lst [])) b (.lst [])) g = some (.dK []) := (Same.new hb) _ _ ((Same.new ha) _ _ upd_same)
    refine ⟨hga, upd3 "by" a b, rfl, by show 3 ≤ 15; decide, ?_⟩
    rw [upd3_m]
    have s3 : Same H2 (upd (upd (upd (upd H2 g (.dK [])) a (.lst [])) b (.lst [])) g (.dK (upd3 "by" a b))) := fun x o e => by
      rw [upd_ne (ne_of_none e hg)]
      exact (Same.new hb) _ _ ((Same.new ha) _ _ (sg _ _ e))
    have hnb : b ≠ g := fun z => by rw [z, (Same.new ha) _ _ (upd_same (a := g) (o := HO.dK []))] at hb; cases hb
    have hna : a ≠ g := fun z => by rw [z, upd_same] at ha; cases ha
    have ha3 : (upd (upd (upd (upd H2 g (.dK [])) a (.lst [])) b (.lst [])) g (.dK (upd3 "by" a b))) a = some (.lst (([] : List Str).map V.str)) := by rw [upd_ne hna]; exact (Same.new hb) _ _ upd_same
    have hb3 : (upd (upd (upd (upd H2 g (.dK [])) a (.lst [])) b (.lst [])) g (.dK (upd3 "by" a b))) b = some (.lst (([] : List Str).map V.str)) := by rw [upd_ne hnb]; exact upd_same
    have hg3 : (upd (upd (upd (upd H2 g (.dK [])) a (.lst [])) b (.lst [])) g (.dK (upd3 "by" a b))) g = some (.dK (upd3 "by" a b)) := upd_same
    have hpg : z.pa j ≠ g := ne_of_none (m2.pa j hj) hg
    generalize (upd (upd (upd (upd H2 g (.dK [])) a (.lst [])) b (.lst [])) g (.dK (upd3 "by" a b))) = H3 at s3 ha3 hb3 hg3 ⊢
    have m3 := m2.same s3
    refine ⟨z.pa j, g, _, _, rfl, rfl, m3.pa j hj, hg3, hpg, by show 8 < 1000; decide, ?_⟩
    rw [upd3_pk]
    have m4 := m3.upPa (j0 := j) (P' := ⟨(pp j).ab, "by", (pp j).en, [], []⟩) hj rfl ha3 hb3
    have kp4 : Kp ow Ro.isM H (upd H3 (z.pa j) (.dK (pk5 (z.ab j) "by" (pp j).en a b))) := (Kp.same (s2.trans s3)).upd (by rw [m.rpa j hj]; rfl) (m3.pa j hj)
    have hend : (upd H3 (z.pa j) (.dK (pk5 (z.ab j) "by" (pp j).en a b))) (z.pa j) = some (.dK (pk5 (z.ab j) "by" (pp j).en a b)) := upd_same
    refine ⟨_, rfl, _, _, rfl, dp_en (.inl hend), _, rfl, ?_⟩
    unfold MEnd setl settle at k
    rw [if_pos ⟨hp, hs⟩] at k
    cases he : (pp j).en with
    | false =>
      rw [he, if_neg Bool.false_ne_true] at k
      rw [he] at m4 kp4
      exact iteF (k _ { z with cu := ups z.cu j a, em := ups z.em j b } rfl kp4 m4)
    | true =>
      rw [he, if_pos rfl] at k
      rw [he] at m4 kp4
      refine iteT ?_
      refine ⟨_, rfl, _, _, rfl, dm_jb m4.rd.m, _, rfl, .inl ⟨_, .inl m4.jb⟩, _, rfl, _, Sum.inr j, .ref (z.pa j), m4.jb, rfl, ?_, ?_⟩
      · rw [dk_val, if_pos hj]
      rw [dk_drop]
      have hm5 : (upd (upd H3 (z.pa j) (.dK (pk5 (z.ab j) "by" true a b))) z.jb (.dK (dk (L.jobs.filter fun x => decide (x ≠ j)) fun j => .ref (z.pa j)))) z.m = some (.dK z.six) := up_ro m4.m m4.rm m4.rjb (by intro z; cases z)
      have hc5 : (upd (upd H3 (z.pa j) (.dK (pk5 (z.ab j) "by" true a b))) z.jb (.dK (dk (L.jobs.filter fun x => decide (x ≠ j)) fun j => .ref (z.pa j)))) z.cw = some (.dK (dk L.jobs fun j => .ref (z.cl j))) := up_ro m4.cw m4.rcw m4.rjb (by intro z; cases z)
      refine ⟨_, rfl, _, _, rfl, dm_cw (.inl hm5), _, rfl, .inl ⟨_, .inl hc5⟩, _, rfl, _, Sum.inr j, .ref (z.cl j), hc5, rfl, ?_, ?_⟩
      · rw [dk_val, if_pos hj]
      rw [dk_drop]
      have m6 := m4.upLv (j0 := j)
      refine k _ { z with cu := ups z.cu j a, em := ups z.em j b } rfl ((kp4.upd (by rw [m4.rjb]; rfl) m4.jb).upd (by rw [m4.rcw]; rfl) hc5) (m6.pp_congr fun x hx => ?_)
      have hne : x ≠ j := of_decide_eq_true (List.mem_filter.mp hx).2
      show ups pp j _ x = ups pp j _ x
      rw [ups_ne hne, ups_ne hne]
end
end Sm
namespace Sm
open PySem PySem.Spec PyProof.Rows L2
def BS.lhold (L : BS) (d p j : Str) : BS := { L with pl := ups L.pl d p, ms := ups L.ms d (((L.ms d).filter fun a => decide (a ≠ j)) ++ [j]) }
def BS.lstick (L : BS) (d : Str) : BS := { L with fs := (L.fs.filter fun a => decide (a ≠ d)) ++ [d] }
theorem filt_snoc_nd {l : List Str} {j : Str} (h : l.Nodup) : ((l.filter fun a => decide (a ≠ j)) ++ [j]).Nodup := nd_snoc (h.sublist List.filter_sublist) fun z => of_decide_eq_true (List.mem_filter.mp z).2 rfl
theorem mem_filt_snoc {l : List Str} {j a : Str} : a ∈ (l.filter fun a => decide (a ≠ j)) ++ [j] ↔ a ∈ l ∨ a = j := by
  rw [List.mem_append, List.mem_filter, List.mem_singleton, decide_eq_true_iff]
  constructor
  · exact fun h => h.imp (fun h => h.1) id
  · rintro (h | h)
    · by_cases e : a = j
      · exact .inr e
      · exact .inl ⟨h, e⟩
    · exact .inr h
theorem BOk.lhold {L : BS} (ok : BOk L) {d p j : Str} (hd : d ∈ L.devs) (hp : IsPos p) (hj : j ∈ L.jobs) : BOk (L.lhold d p j) :=
  { ok with
    pl := fun x hx => by
      show IsPos (ups L.pl d p x)
      by_cases e : x = d
      · subst e; rw [ups_same]; exact hp
      · rw [ups_ne e]; exact ok.pl x hx
    ms := fun x hx => by
      show (ups L.ms d (((L.ms d).filter fun a => decide (a ≠ j)) ++ [j]) x).Nodup ∧ ∀ k ∈ ups L.ms d (((L.ms d).filter fun a => decide (a ≠ j)) ++ [j]) x, k ∈ L.jobs
      by_cases e : x = d
      · subst e
        rw [ups_same]
        exact ⟨filt_snoc_nd (ok.ms x hx).1, fun k hk => (mem_filt_snoc.mp hk).elim ((ok.ms x hx).2 k) fun e => e ▸ hj⟩
      · rw [ups_ne e]; exact ok.ms x hx }
theorem BOk.lstick {L : BS} (ok : BOk L) {d : Str} (hd : d ∈ L.devs) : BOk (L.lstick d) :=
  { ok with fs := ⟨filt_snoc_nd ok.fs.1, fun x hx => (mem_filt_snoc.mp hx).elim (ok.fs.2 x) fun e => e ▸ hd⟩ }
theorem JOk.lhold {B : BS} {nm : Str} {P : PS} (k : JOk B nm P) {d t : Str} (hd : d ∈ P.cu ++ P.em) (ht : IsPos t) : JOk (B.lhold d t nm) nm P where
  ok := k.ok.lhold (k.po.sub d hd) ht k.jn
  po := { k.po with }
  jn := k.jn
  on := fun d' hd' hm => by
    by_cases e : d' = d
    · rw [e]; exact hd
    · refine k.on d' hd' ?_
      have hm : nm ∈ ups B.ms d (((B.ms d).filter fun a => decide (a ≠ nm)) ++ [nm]) d' := hm
      rw [ups_ne e] at hm
      exact hm
def lstep (L : BS) (j : Str) (s : Stp) : BS := match s.2 with
  | none => L.free s.1 j
  | some t => L.lhold s.1 t j
section
variable {P : Program} {w : World} {K : PySem.W.Frag} {mg : Str → Option Value} {base : Heap}
/-! ### _law_do_step -/
def spDoStep : Sp := fun vs H Q _ => ∃ (ow : Addr → Ro) (z : MA) (L : BS) (pp : Str → PS) (j : Str) (s : Stp) (rest : List Stp), vs = [.ref z.m, .str j] ∧ MAt ow z L pp H ∧ JOk L j (pp j) ∧ L.steps j (pp j) = s :: rest ∧
  ∀ H' z' t, z'.m = z.m → Kp ow Ro.isM H H' → MAt ow z' (setl (lstep L j s) pp j).1 (setl (lstep L j s) pp j).2 H' → H' t = some (.tup (stV s)) → Q (.ref t) H'
abbrev N_l_do_step : List Str := ["_law_m", "_law_job", "_law_name_here", "_law_to", "_law_others", "_law_one_here"]
theorem sc_l_do_step : FnScope N_l_do_step ["_law_m", "_law_job"] (defScope s_ldo_step) := ⟨rfl, rfl, rfl, by decide +kernel, rfl, by decide +kernel, by decide +kernel⟩
theorem ok_l_do_step (T : Txt K mg) : GFn P w K mg base CX0 3 "_law_do_step" ["_law_m", "_law_job"] spDoStep := by
  refine T.f_l_do_step.ok0 sc_l_do_step (fun vs H Q E h => ?_) (fun f cdv A outer s H vs Q E hr h => ?_)
  · obtain ⟨ow, z, L, pp, j, s, rest, rfl, _⟩ := h
    rfl
  · obtain ⟨ow, z, L, pp, j, s, rest, rfl, m, ok, hs, k⟩ := h
    have hu := hu_of hr
    refine ⟨_, (pss_cons (ps_asg (pe_ix ix_list (pe_fn (ok_l_steps T) (hr.mono (by decide)) pass0 (pa_cons (pv 0) (pa_cons (pv 1) pa_nil))) pe_int (fun _ _ => rfl)) (pg_tup (by rfl) (pgs_cons (pg_name (i := 2) sc_l_do_step.nd rfl (Or.inl rfl)) (pgs_cons (pg_name (i := 3) sc_l_do_step.nd rfl (Or.inl rfl)) pgs_nil))))
    (pss_cons (ps_setLc (i := 4) (own := [("_law_one_here", 5)]) (by rfl) sc_l_do_step.nd rfl rfl (sw_true rfl rfl rfl (by decide +kernel)) (pi_list (pe_dget hu (pe_dget hu (pv 0) pe_str (fun _ _ => rfl)) (pv 2) (fun _ _ => rfl))) (blkOk_by (own := [("_law_one_here", 5)]) (N := N_l_do_step) (sc := defScope s_ldo_step) (by decide +kernel)) (fun _ _ _ _ _ => (pg_name (i := 5) sc_l_do_step.nd rfl (Or.inl rfl))) (fun _ _ _ _ _ => (pts_one (pt_cmpR op_ne (pv 5) (pv 1) (nomark _)))) (fun _ _ _ _ _ => (pv 5)))
    (C8.pss_cut (ps_if (pt_cmpR op_isN (pv 3) pe_non (nomark _))
      (pss_cons (ps_dput hu (pe_dget hu (pv 0) pe_str (fun _ _ => rfl)) (pv 2) (pv 4) rfl)
    (pss_one (ps_if (pt_cmpR (op_eqD hr.units) (pv 4) (pe_lst pa_nil) (nomark _))
      (pss_one (ps_dput hu (pe_dget hu (pv 0) pe_str (fun _ _ => rfl)) (pv 2) (pe_dget hu (pe_dget hu (pv 0) pe_str (fun _ _ => rfl)) (pv 2) (fun _ _ => rfl)) rfl))
      pss_nil)))
      (pss_cons (ps_dput hu (pe_dget hu (pv 0) pe_str (fun _ _ => rfl)) (pv 2) (pe_op op_cat (pv 4) (pe_lst (pa_cons (pv 1) pa_nil))) rfl)
    (pss_one (ps_dput hu (pe_dget hu (pv 0) pe_str (fun _ _ => rfl)) (pv 2) (pv 3) rfl))))
    (pss_cons (ps_expr (pe_fn (ok_l_over T) (hr.mono (by decide)) pass0 (pa_cons (pv 0) (pa_cons (pv 1) pa_nil))))
    (pss_one (ps_ret (pe_tup (pa_cons (pv 2) (pa_cons (pv 3) pa_nil))))))))), ?_⟩
    have hj := ok.jn
    refine ⟨_, rfl, _, rfl, z, L, pp, j, rfl, m.rd, ok.ok, ok.po, hj, fun H1 p items s1 hp1 ht1 => ?_⟩
    obtain ⟨hm1, hm2, hm3⟩ := mem_steps ok.ok ok.po (s := s) (j := j) (by rw [hs]; exact List.mem_cons_self)
    obtain ⟨t, its, ei, ht⟩ : ∃ t its, items = .ref t :: its ∧ H1 t = some (.tup (stV s)) := by
      rw [hs, List.map_cons] at ht1
      cases ht1 with
      | cons hv htl =>
        obtain ⟨t, rfl, ht⟩ := hv
        exact ⟨t, _, rfl, ht⟩
    subst ei
    obtain ⟨d, o⟩ := s
    refine ⟨p, _, 0, .ref t, rfl, rfl, SqL.of hp1, at0, t, _, rfl, SqT.of ht, rfl, _, _, rfl, _, _, rfl, rfl, ?_⟩
    have m1 := m.same s1
    have htl1 := m1.tl d hm2
    obtain ⟨n1, n2⟩ := ok.ok.ms d hm2
    have hml := nd_len n1 n2
    have hjl := ok.ok.jb.len
    have hdl := ok.ok.dv.len
    refine ⟨_, rfl, _, _, rfl, dm_tg m1.rd.m, _, rfl, _, _, rfl, dg m1.rd.tg hm2, z.tl d, rfl, ⟨_, SqL.of htl1⟩, fun D hD => ?_⟩
    refine lc_gen walk_list (L.ms d) (fun a => decide (a ≠ j)) id (Fv V.str) (Fv V.str) (List.length_map _).symm (by rw [List.length_map]; omega) hD (fun H' s => s.seq (SqL.of htl1)) yS Fv.mono ?_ ?_
    · rintro i a v H3 hi s3 rfl nx sk hk hsk
      refine ⟨rfl, ?_⟩
      refine ⟨_, rfl, _, rfl, rfl, _, rfl, ?_⟩
      exact iteNd (fun e => ⟨_, rfl, hk (decide_eq_true fun z => e (by rw [z])) _ _ (Same.refl _) rfl⟩) (fun e => hsk (decide_eq_false fun z => z (V.str.inj e)) H3 (Same.refl _))
    intro H3 oits s3 hD3 htD
    rw [List.map_id] at htD
    have eo := Fv.eq htD
    subst eo
    have s13 := s1.trans s3
    have m3 := m.same s13
    let os : List Str := (L.ms d).filter fun a => decide (a ≠ j)
    have osl : os.length ≤ 8 := Nat.le_trans (List.length_filter_le _ _) (by omega)
    have osN : ∀ a ∈ os, WOk a := fun a ha => (ok.ok.jb.all a (n2 a (List.mem_filter.mp ha).1)).w
    have osh : SeqAt.shaped (dS os) = true := (sm_strs (c := 6000) osN (by omega)).shaped (by decide)
    refine ⟨fun σ H' => σ = [some (.ref z.m), some (.str j), some (.str d), some (optV o), some (.ref D), none] ∧ ∃ z', z'.m = z.m ∧ Kp ow Ro.isM H H' ∧ MAt ow z' (lstep L j (d, o)) pp H', ?_, ?_⟩
    · cases o with
      | none =>
        have hjd := (hm3.resolve_left fun z => by obtain ⟨_, z, _⟩ := z; cases z).2
        refine ⟨_, rfl, rfl, _, rfl, iteT ?_⟩
        refine ⟨_, rfl, _, rfl, _, _, rfl, dm_tg m3.rd.m, _, rfl, _, _, rfl, dp_old m3.tg (by omega) hm2, ?_⟩
        have m4 := m3.upTg (d0 := d) (q := D) (js := os) (g := ups (fun d => .ref (z.tl d)) d (.ref D)) hD3 fun a _ => ups_map V.ref z.tl d D a
        have kp4 := (Kp.same (ow := ow) (p := Ro.isM) s13).upd (u := .dK (dk L.devs (ups (fun d => .ref (z.tl d)) d (.ref D)))) (by rw [m3.rtg]; rfl) m3.tg
        have hD4 := m4.tl d hm2
        have hD4 : _ = some (HO.lst ((ups L.ms d os d).map V.str)) := hD4
        have hD4 : (upd H3 z.tg (.dK (dk L.devs (ups (fun d => .ref (z.tl d)) d (.ref D))))) (ups z.tl d D d) = some (HO.lst ((ups L.ms d os d).map V.str)) := hD4
        rw [ups_same, ups_same] at hD4
        refine ⟨_, rfl, by show 0 ≤ sizeLine; exact Nat.zero_le _, fun r hr' => ?_⟩
        have s5 := Same.new (o := .lst []) hr'
        refine ⟨dS os, .list [], dpL (SqL.of (s5 _ _ hD4)), .lst (xs := []) (SqL.of upd_same) .nil, osh, rfl, _, rfl, ?_⟩
        rw [eqv_nil, decide_eq_decide.mpr (filt_one n1 hjd)]
        have m5 := m4.same s5
        have kp5 := kp4.trans (Kp.same s5)
        refine iteD (fun e => ?_) (fun e => ⟨rfl, { z with tl := ups z.tl d D }, rfl, kp5, ?_⟩)
        · refine ⟨_, rfl, _, _, rfl, dm_hm m5.rd.m, _, rfl, _, _, rfl, dg m5.rd.hm hm2, _, rfl, _, _, rfl, dm_pl m5.rd.m, _, rfl, _, _, rfl, dp_old m5.pl (by show L.devs.length < 1000; omega) hm2, ?_⟩
          have m6 := m5.upPl (g := ups (fun d => V.str (L.pl d)) d (.str (L.hm d))) (pl' := ups L.pl d (L.hm d)) fun a _ => ups_map V.str L.pl d (L.hm d) a
          refine ⟨rfl, { z with tl := ups z.tl d D }, rfl, kp5.upd (by rw [m5.rpl]; rfl) m5.pl, ?_⟩
          have e2 : lstep L j (d, none) = { L with pl := ups L.pl d (L.hm d), ms := ups L.ms d os } := by
            show L.free d j = _
            unfold BS.free
            rw [if_pos e]
          rw [e2]
          exact m6
        · have e2 : lstep L j (d, none) = { L with ms := ups L.ms d os } := by
            show L.free d j = _
            unfold BS.free
            rw [if_neg e, ups_id]
          rw [e2]
          exact m5
      | some to =>
        refine ⟨_, rfl, rfl, _, rfl, iteF ?_⟩
        refine ⟨_, rfl, _, rfl, by show 1 ≤ sizeLine; decide, fun r hr' => ⟨D, r, _, _, rfl, rfl, (Same.new hr') _ _ hD3, upd_same, sz_of (by rw [List.length_map]; exact Nat.le_trans (Nat.succ_le_succ osl) (by decide)), fun q hq => ?_⟩⟩
        have s5 := (Same.new (o := .lst [.str j]) hr').trans (Same.new (o := .lst ((os.map V.str) ++ [.str j])) hq)
        have m5 := m3.same s5
        have hq5 : (upd (upd H3 r (.lst [.str j])) q (.lst ((os.map V.str) ++ [.str j]))) q = some (.lst ((os ++ [j]).map V.str)) := by
          rw [upd_same, List.map_append]
          rfl
        refine ⟨_, rfl, _, _, rfl, dm_tg m5.rd.m, _, rfl, _, _, rfl, dp_old m5.tg (by omega) hm2, ?_⟩
        have m6 := m5.upTg (d0 := d) (q := q) (js := os ++ [j]) (g := ups (fun d => .ref (z.tl d)) d (.ref q)) hq5 fun a _ => ups_map V.ref z.tl d q a
        have kp6 := (Kp.same (ow := ow) (p := Ro.isM) (s13.trans s5)).upd (u := .dK (dk L.devs (ups (fun d => .ref (z.tl d)) d (.ref q)))) (by rw [m5.rtg]; rfl) m5.tg
        refine ⟨_, rfl, _, rfl, _, _, rfl, dm_pl m6.rd.m, _, rfl, _, _, rfl, dp_old m6.pl (by show L.devs.length < 1000; omega) hm2, ?_⟩
        have m7 := m6.upPl (g := ups (fun d => V.str (L.pl d)) d (.str to)) (pl' := ups L.pl d to) fun a _ => ups_map V.str L.pl d to a
        exact ⟨rfl, { z with tl := ups z.tl d q }, rfl, kp6.upd (by rw [m6.rpl]; rfl) m6.pl, m7⟩
    rintro σ H4 ⟨rfl, z', hz, kp4, m4⟩
    have ok4 : JOk (lstep L j (d, o)) j (pp j) := by
      cases o with
      | none => exact ok.free hm2
      | some to =>
        obtain ⟨to', e1, hp'⟩ := hm3.resolve_right fun z => by have := z.1; cases this
        cases e1
        exact ok.lhold hm1 hp'
    refine ⟨_, rfl, _, rfl, ow, z', _, pp, j, (by rw [hz]; rfl), m4, ok4, fun H5 z5 hz5 kp5 m5 => ?_⟩
    refine ⟨_, rfl, _, rfl, by show 2 ≤ sizeLine; decide, fun v hv => ?_⟩
    exact k _ z5 v (hz5.trans hz) ((kp4.trans kp5).trans (Kp.same (Same.new hv))) (m5.same (Same.new hv)) upd_same
end
end Sm
namespace Sm
open PySem PySem.Spec PyProof.Rows L2
theorem ups_ups {α : Type} {g : Str → α} {k : Str} {v w : α} : ups (ups g k v) k w = ups g k w := by
  funext j
  unfold ups
  by_cases e : j = k
  · rw [if_pos e, if_pos e]
  · rw [if_neg e, if_neg e, if_neg e]
/-- a deed's own paper, then settled -/
def setP (L : BS) (pp : Str → PS) (j : Str) (P : PS) : BS × (Str → PS) := ((settle L j P).1, ups pp j (settle L j P).2)
/-- what the law's m becomes -/
def lact (L : BS) (pp : Str → PS) : Deed → BS × (Str → PS)
  | .turn d p => (L.turn d p, pp)
  | .stick d => (L.lstick d, pp)
  | .mend d => (L.mend d, pp)
  | .ask j h r => (L.crew j [h], ups pp j ⟨r, "by", false, [], []⟩)
  | .begin j sw dr => (L, ups pp j ⟨(pp j).ab, "still", (pp j).en, sw, dr⟩)
  | .step j => match L.steps j (pp j) with
    | [] => (L, pp)
    | s :: _ => setl (lstep L j s) pp j
  | .give j => (L, ups pp j ⟨(pp j).ab, "given", (pp j).en, (pp j).cu, (pp j).em⟩)
  | .tryOut j => (L, ups pp j ⟨(pp j).ab, "trial", (pp j).en, (pp j).cu, (pp j).em⟩)
  | .goOn j => (L, ups pp j ⟨(pp j).ab, "still", (pp j).en, (pp j).cu, (pp j).em⟩)
  | .putBy j => setP L pp j ⟨(pp j).ab, "away", false, (pp j).cu, (pp j).em⟩
  | .fin j => setP L pp j ⟨(pp j).ab, "away", true, (pp j).cu, (pp j).em⟩
  | .on j h => (L.crew j (L.cw j ++ [h]), pp)
  | .off j h => (L.crew j ((L.cw j).filter fun a => decide (a ≠ h)), pp)
  | .over j a b => (L.crew j (overL (L.cw j) a b), pp)
/-- a deed of a job that is there, but a step -/
def Deed.jobby : Deed → Prop
  | .begin _ _ _ => True | .give _ => True | .tryOut _ => True | .goOn _ => True | .putBy _ => True | .fin _ => True | .on _ _ => True | .off _ _ => True | .over _ _ _ => True
  | _ => False
theorem pk_ph {ab : Addr} {ph x : Str} {en : Bool} {cu em : Addr} : putK (pk5 ab ph en cu em) (Sum.inr "phase" : Key) (.str x) = pk5 ab x en cu em := by rfl
theorem pk_en {ab : Addr} {ph : Str} {en y : Bool} {cu em : Addr} : putK (pk5 ab ph en cu em) (Sum.inr "ends" : Key) (.bl y) = pk5 ab ph y cu em := by rfl
theorem pkP {H : Hp} {a ab : Addr} {ph x : Str} {en : Bool} {cu em : Addr} (h : H a = some (.dK (pk5 ab ph en cu em))) : DPut H a (.str "phase") (.str x) (upd H a (.dK (pk5 ab x en cu em))) := by
  have z := DPut.k (k := Sum.inr "phase") (v := V.str x) h (sz_lt (show 5 < 100000 by decide))
  rw [pk_ph] at z
  exact z
theorem pkE {H : Hp} {a ab : Addr} {ph : Str} {en y : Bool} {cu em : Addr} (h : H a = some (.dK (pk5 ab ph en cu em))) : DPut H a (.str "ends") (.bl y) (upd H a (.dK (pk5 ab ph y cu em))) := by
  have z := DPut.k (k := Sum.inr "ends") (v := V.bl y) h (sz_lt (show 5 < 100000 by decide))
  rw [pk_en] at z
  exact z
def goes3 : List (Key × V) := [(Sum.inr "give", .str "given"), (Sum.inr "try_out", .str "trial"), (Sum.inr "go_on", .str "still")]
theorem ix_listK {X : Cx} (K : PySem.W.Frag) (hK : X.K = K := by rfl) : IxR X (rIxL K) := by
  subst hK
  exact ix_list
theorem goes3_m : mergeK [] goes3 = goes3 := by rfl
section
variable {P : Program} {w : World} {K : PySem.W.Frag} {mg : Str → Option Value} {base : Heap}
def spDoJob : Sp := fun vs H Q _ => ∃ (ow : Addr → Ro) (z : MA) (L : BS) (pp : Str → PS) (t : Addr) (d : Deed), vs = [.ref z.m, .ref t] ∧ MAt ow z L pp H ∧ JOk L d.name (pp d.name) ∧ d.jobby ∧ DAt H t d ∧ due L pp d = none ∧ MEnd ow z H Q .non (lact L pp d)
abbrev N_l_do_job : List Str := ["_law_m", "_law_deed_here", "_law_word", "_law_job", "_law_paper", "_law_crew", "_law_one_here"]
theorem sc_l_do_job : FnScope N_l_do_job ["_law_m", "_law_deed_here"] (defScope s_ldo_job) := ⟨rfl, rfl, rfl, by decide +kernel, rfl, by decide +kernel, by decide +kernel⟩
theorem ok_l_do_job (T : Txt K mg) : GFn P w K mg base CX0 3 "_law_do_job" ["_law_m", "_law_deed_here"] spDoJob := by
  refine T.f_l_do_job.ok0 sc_l_do_job (fun vs H Q E h => ?_) (fun f cdv A outer s H vs Q E hr h => ?_)
  · obtain ⟨ow, z, L, pp, t, d, rfl, _⟩ := h
    rfl
  · obtain ⟨ow, z, L, pp, t, d, rfl, m, ok, hjb, hd, hdue, k⟩ := h
    have hu := hu_of hr
    refine ⟨_, (pss_cons (ps_par (i := 2) (j := 3) (by rfl) sc_l_do_job.nd rfl rfl (by decide) rfl rfl (pa_cons (pe_ix ix_tup (pv 1) pe_int (fun _ _ => rfl)) (pa_cons (pe_ix ix_tup (pv 1) pe_int (fun _ _ => rfl)) pa_nil)) (by rfl))
    (pss_cons (ps_par (i := 4) (j := 5) (by rfl) sc_l_do_job.nd rfl rfl (by decide) rfl rfl (pa_cons (pe_dget hu (pe_dget hu (pv 0) pe_str (fun _ _ => rfl)) (pv 3) (fun _ _ => rfl)) (pa_cons (pe_dget hu (pe_dget hu (pv 0) pe_str (fun _ _ => rfl)) (pv 3) (fun _ _ => rfl)) pa_nil)) (by rfl))
    (pss_cons (ps_if (pt_cmpR op_eq (pv 2) pe_str (nomark _))
      (pss_one (ps_expr (pe_bm PySem.F.plainAttrs_dict PySem.F.slot_dict_update PySem.F.type_dict_update mt_upd (pv 4) (by exact (pa_cons (pe_disp (pps_cons pe_str pe_str (pps_cons pe_str (pe_callTy call_list_of (by rfl) T.b_list (by decide +kernel) (pa_cons (pe_ix ix_tup (pv 1) pe_int (fun _ _ => rfl)) pa_nil)) (pps_cons pe_str (pe_callTy call_list_of (by rfl) T.b_list (by decide +kernel) (pa_cons (pe_ix ix_tup (pv 1) pe_int (fun _ _ => rfl)) pa_nil)) pps_nil))) (by rfl) (by rfl) (fun z => by cases z) (by decide)) pa_nil)))))
      pss_nil)
    (pss_cons (ps_if (pt_cmpR op_in_seq (pv 2) (pe_tup (pa_cons pe_str (pa_cons pe_str (pa_cons pe_str pa_nil)))) rfl)
      (pss_one (ps_dput hu (pv 4) pe_str (pe_dget hu (pe_disp (pps_cons pe_str pe_str (pps_cons pe_str pe_str (pps_cons pe_str pe_str pps_nil))) (by rfl) (by rfl) (fun z => by cases z) (by decide)) (pv 2) (fun _ _ => rfl)) rfl))
      pss_nil)
    (pss_cons (ps_if (pt_cmpR op_in_seq (pv 2) (pe_tup (pa_cons pe_str (pa_cons pe_str pa_nil))) rfl)
      (pss_cons (ps_dput hu (pv 4) pe_str pe_str rfl)
    (pss_cons (ps_dput hu (pv 4) pe_str (pe_cmpR op_eq (pv 2) pe_str (nomark _)) rfl)
    (pss_one (ps_expr (pe_fn (ok_l_over T) (hr.mono (by decide)) pass0 (pa_cons (pv 0) (pa_cons (pv 3) pa_nil)))))))
      pss_nil)
    (pss_cons (ps_if (pt_cmpR op_eq (pv 2) pe_str (nomark _))
      (pss_one (ps_dput hu (pe_dget hu (pv 0) pe_str (fun _ _ => rfl)) (pv 3) (pe_op op_cat (pv 5) (pe_lst (pa_cons (pe_ix ix_tup (pv 1) pe_int (fun _ _ => rfl)) pa_nil))) rfl))
      pss_nil)
    (pss_cons (ps_if (pt_cmpR op_eq (pv 2) pe_str (nomark _))
      (pss_one (ps_dput hu (pe_dget hu (pv 0) pe_str (fun _ _ => rfl)) (pv 3) (pe_lc (own := [("_law_one_here", 6)]) (by rfl) sc_l_do_job.nd (pi_list (pv 5)) (blkOk_by (own := [("_law_one_here", 6)]) (N := N_l_do_job) (sc := defScope s_ldo_job) (by decide +kernel)) (fun _ _ _ _ _ => (pg_name (i := 6) sc_l_do_job.nd rfl (Or.inl rfl))) (fun _ _ _ _ _ => (pts_one (pt_cmpR op_ne (pv 6) (pe_ix (ix_tupK K) (pv 1) pe_int (fun _ _ => rfl)) (nomark _)))) (fun _ _ _ _ _ => (pv 6))) rfl))
      pss_nil)
    (pss_cons (ps_if (pt_cmpR op_eq (pv 2) pe_str (nomark _))
      (pss_one (ps_dput hu (pe_dget hu (pv 0) pe_str (fun _ _ => rfl)) (pv 3) (pe_lc (own := [("_law_one_here", 6)]) (by rfl) sc_l_do_job.nd (pi_list (pv 5)) (blkOk_by (own := [("_law_one_here", 6)]) (N := N_l_do_job) (sc := defScope s_ldo_job) (by decide +kernel)) (fun _ _ _ _ _ => (pg_name (i := 6) sc_l_do_job.nd rfl (Or.inl rfl))) (fun _ _ _ _ _ => pts_nil) (fun _ _ _ _ _ => (pe_ix (ix_listK K) (pe_lst (pa_cons (pv 6) (pa_cons (pe_ix (ix_tupK K) (pv 1) pe_int (fun _ _ => rfl)) pa_nil))) (pe_callTy call_int1 (by rfl) T.b_int (by decide +kernel) (by exact (pa_cons (pe_cmpR op_eq (pv 6) (pe_ix (ix_tupK K) (pv 1) pe_int (fun _ _ => rfl)) (nomark _)) pa_nil))) (fun _ _ => rfl)))) rfl))
      pss_nil)
    (pss_one (ps_ret pe_non)))))))))), ?_⟩
    obtain ⟨p, q, ht, hls⟩ := id hd
    have hj := ok.jn
    refine ixD 0 rfl ht Deed.row0 (ixD 1 rfl ht Deed.row1 ⟨_, _, rfl, ?_⟩)
    refine ⟨_, rfl, _, _, rfl, dm_jb m.rd.m, _, rfl, _, _, rfl, dg m.rd.jb hj, _, rfl, _, _, rfl, dm_cw m.rd.m, _, rfl, _, _, rfl, dg m.rd.cw hj, _, _, rfl, ?_⟩
    have hjl := ok.ok.jb.len
    have hcw := (ok.ok.cw d.name hj).1
    have hcl := hcw.len
    -- the end, when all is written
    have fin : ∀ {H1 : Hp}, (∃ z', z'.m = z.m ∧ Kp ow Ro.isM H H1 ∧ MAt ow z' (lact L pp d).1 (lact L pp d).2 H1) → Q .non H1 := fun ⟨z', hz, kp, m'⟩ => k _ z' hz kp m'
    have fins : ∀ {H1 H2 : Hp}, Same H1 H2 → (∃ z', z'.m = z.m ∧ Kp ow Ro.isM H H1 ∧ MAt ow z' (lact L pp d).1 (lact L pp d).2 H1) → (∃ z', z'.m = z.m ∧ Kp ow Ro.isM H H2 ∧ MAt ow z' (lact L pp d).1 (lact L pp d).2 H2) := fun s ⟨z', hz, kp, m'⟩ => ⟨z', hz, kp.trans (Kp.same s), m'.same s⟩
    cases d with
    | turn | stick | mend | ask | step => exact hjb.elim
    | begin j sw dr =>
      have hj : j ∈ L.jobs := hj
      obtain ⟨hsw, hdr⟩ := hls
      refine wEqT rfl (iteT ?_)
      refine ⟨_, rfl, .inr (.inr (.inl ⟨rfl, .inl ⟨_, m.pa j hj⟩⟩)), fun g hg => ?_⟩
      have sg : Same H (upd H g (.dK [])) := Same.new hg
      refine ixD 2 rfl (sg _ _ ht) rfl ⟨p, _, rfl, .inl (SqL.of (sg _ _ hsw)), fun a ha => ?_⟩
      have sa := sg.trans (Same.new (o := .lst (sw.map V.str)) ha)
      refine ixD 3 rfl (sa _ _ ht) rfl ⟨q, _, rfl, .inl (SqL.of (sa _ _ hdr)), fun b hb => ?_⟩
      have hga : (upd (upd (upd H g (.dK [])) a (.lst (sw.map V.str))) b (.lst (dr.map V.str))) g = some (.dK []) := (Same.new hb) _ _ ((Same.new ha) _ _ upd_same)
      refine ⟨hga, upd3 "still" a b, rfl, by show 3 ≤ 15; decide, ?_⟩
      rw [upd3_m]
      have s3 : Same H (upd (upd (upd (upd H g (.dK [])) a (.lst (sw.map V.str))) b (.lst (dr.map V.str))) g (.dK (upd3 "still" a b))) := fun x o e => by
        rw [upd_ne (ne_of_none e hg)]
        exact (Same.new hb) _ _ (sa _ _ e)
      have hnb : b ≠ g := fun z => by rw [z, (Same.new ha) _ _ (upd_same (a := g) (o := HO.dK []))] at hb; cases hb
      have hna : a ≠ g := fun z => by rw [z, upd_same] at ha; cases ha
      have ha3 : (upd (upd (upd (upd H g (.dK [])) a (.lst (sw.map V.str))) b (.lst (dr.map V.str))) g (.dK (upd3 "still" a b))) a = some (.lst (sw.map V.str)) := by rw [upd_ne hna]; exact (Same.new hb) _ _ upd_same
      have hb3 : (upd (upd (upd (upd H g (.dK [])) a (.lst (sw.map V.str))) b (.lst (dr.map V.str))) g (.dK (upd3 "still" a b))) b = some (.lst (dr.map V.str)) := by rw [upd_ne hnb]; exact upd_same
      have hg3 : (upd (upd (upd (upd H g (.dK [])) a (.lst (sw.map V.str))) b (.lst (dr.map V.str))) g (.dK (upd3 "still" a b))) g = some (.dK (upd3 "still" a b)) := upd_same
      have hpg : z.pa j ≠ g := ne_of_none (m.pa j hj) hg
      generalize (upd (upd (upd (upd H g (.dK [])) a (.lst (sw.map V.str))) b (.lst (dr.map V.str))) g (.dK (upd3 "still" a b))) = H3 at s3 ha3 hb3 hg3 ⊢
      have m3 := m.same s3
      refine ⟨z.pa j, g, _, _, rfl, rfl, m3.pa j hj, hg3, hpg, by show 8 < 1000; decide, ?_⟩
      rw [upd3_pk]
      have m4 := m3.upPa (j0 := j) (P' := ⟨(pp j).ab, "still", (pp j).en, sw, dr⟩) hj rfl ha3 hb3
      have done : ∃ z', z'.m = z.m ∧ Kp ow Ro.isM H (upd H3 (z.pa j) (.dK (pk5 (z.ab j) "still" (pp j).en a b))) ∧ MAt ow z' (lact L pp (.begin j sw dr)).1 (lact L pp (.begin j sw dr)).2 (upd H3 (z.pa j) (.dK (pk5 (z.ab j) "still" (pp j).en a b))) :=
        ⟨{ z with cu := ups z.cu j a, em := ups z.em j b }, rfl, (Kp.same s3).upd (by rw [m.rpa j hj]; rfl) (m3.pa j hj), m4⟩
      refine wIn ["give", "try_out", "go_on"] false rfl (fun R h => h) (by decide) (by rfl) fun H5 s5 => iteF ?_
      refine wIn ["put_by", "end"] false rfl (fun R h => h) (by decide) (by rfl) fun H6 s6 => iteF ?_
      refine wEqF rfl (by rfl) (iteF ?_)
      refine wEqF rfl (by rfl) (iteF ?_)
      refine wEqF rfl (by rfl) (iteF ?_)
      exact fin (fins s6 (fins s5 done))
    | give j =>
      have hj : j ∈ L.jobs := hj
      refine wEqF rfl (by rfl) (iteF ?_)
      refine wIn ["give", "try_out", "go_on"] true rfl (fun R h => h) (by decide) (by rfl) fun H5 s5 => iteT ?_
      have m5 := m.same s5
      intro g hg
      have sg : Same H5 (upd (upd H5 g (.dK [])) g (.dK goes3)) := fun b o e => by rw [upd_ne (ne_of_none e hg), upd_ne (ne_of_none e hg)]; exact e
      refine ⟨upd_same, goes3, rfl, by show 3 ≤ 15; decide, ?_⟩
      rw [goes3_m]
      refine ⟨_, rfl, _, _, rfl, .inl ⟨_, Sum.inr _, .inl upd_same, rfl, rfl⟩, ?_⟩
      have m6 := m5.same sg
      refine ⟨_, rfl, _, _, rfl, pkP (m6.pa j hj), ?_⟩
      have m7 := m6.upPa (j0 := j) (P' := ⟨(pp j).ab, "given", (pp j).en, (pp j).cu, (pp j).em⟩) hj rfl (m6.cu j hj) (m6.em j hj)
      rw [ups_id, ups_id] at m7
      have kp7 := (Kp.same (ow := ow) (p := Ro.isM) (s5.trans sg)).upd (u := .dK (pk5 (z.ab j) "given" (pp j).en (z.cu j) (z.em j))) (by rw [m6.rpa j hj]; rfl) (m6.pa j hj)
      refine wIn ["put_by", "end"] false rfl (fun R h => h) (by decide) (by rfl) fun H8 s8 => iteF ?_
      refine wEqF rfl (by rfl) (iteF ?_)
      refine wEqF rfl (by rfl) (iteF ?_)
      refine wEqF rfl (by rfl) (iteF ?_)
      exact fin (fins s8 ⟨z, rfl, kp7, m7⟩)
    | tryOut j =>
      have hj : j ∈ L.jobs := hj
      refine wEqF rfl (by rfl) (iteF ?_)
      refine wIn ["give", "try_out", "go_on"] true rfl (fun R h => h) (by decide) (by rfl) fun H5 s5 => iteT ?_
      have m5 := m.same s5
      intro g hg
      have sg : Same H5 (upd (upd H5 g (.dK [])) g (.dK goes3)) := fun b o e => by rw [upd_ne (ne_of_none e hg), upd_ne (ne_of_none e hg)]; exact e
      refine ⟨upd_same, goes3, rfl, by show 3 ≤ 15; decide, ?_⟩
      rw [goes3_m]
      refine ⟨_, rfl, _, _, rfl, .inl ⟨_, Sum.inr _, .inl upd_same, rfl, rfl⟩, ?_⟩
      have m6 := m5.same sg
      refine ⟨_, rfl, _, _, rfl, pkP (m6.pa j hj), ?_⟩
      have m7 := m6.upPa (j0 := j) (P' := ⟨(pp j).ab, "trial", (pp j).en, (pp j).cu, (pp j).em⟩) hj rfl (m6.cu j hj) (m6.em j hj)
      rw [ups_id, ups_id] at m7
      have kp7 := (Kp.same (ow := ow) (p := Ro.isM) (s5.trans sg)).upd (u := .dK (pk5 (z.ab j) "trial" (pp j).en (z.cu j) (z.em j))) (by rw [m6.rpa j hj]; rfl) (m6.pa j hj)
      refine wIn ["put_by", "end"] false rfl (fun R h => h) (by decide) (by rfl) fun H8 s8 => iteF ?_
      refine wEqF rfl (by rfl) (iteF ?_)
      refine wEqF rfl (by rfl) (iteF ?_)
      refine wEqF rfl (by rfl) (iteF ?_)
      exact fin (fins s8 ⟨z, rfl, kp7, m7⟩)
    | goOn j =>
      have hj : j ∈ L.jobs := hj
      refine wEqF rfl (by rfl) (iteF ?_)
      refine wIn ["give", "try_out", "go_on"] true rfl (fun R h => h) (by decide) (by rfl) fun H5 s5 => iteT ?_
      have m5 := m.same s5
      intro g hg
      have sg : Same H5 (upd (upd H5 g (.dK [])) g (.dK goes3)) := fun b o e => by rw [upd_ne (ne_of_none e hg), upd_ne (ne_of_none e hg)]; exact e
      refine ⟨upd_same, goes3, rfl, by show 3 ≤ 15; decide, ?_⟩
      rw [goes3_m]
      refine ⟨_, rfl, _, _, rfl, .inl ⟨_, Sum.inr _, .inl upd_same, rfl, rfl⟩, ?_⟩
      have m6 := m5.same sg
      refine ⟨_, rfl, _, _, rfl, pkP (m6.pa j hj), ?_⟩
      have m7 := m6.upPa (j0 := j) (P' := ⟨(pp j).ab, "still", (pp j).en, (pp j).cu, (pp j).em⟩) hj rfl (m6.cu j hj) (m6.em j hj)
      rw [ups_id, ups_id] at m7
      have kp7 := (Kp.same (ow := ow) (p := Ro.isM) (s5.trans sg)).upd (u := .dK (pk5 (z.ab j) "still" (pp j).en (z.cu j) (z.em j))) (by rw [m6.rpa j hj]; rfl) (m6.pa j hj)
      refine wIn ["put_by", "end"] false rfl (fun R h => h) (by decide) (by rfl) fun H8 s8 => iteF ?_
      refine wEqF rfl (by rfl) (iteF ?_)
      refine wEqF rfl (by rfl) (iteF ?_)
      refine wEqF rfl (by rfl) (iteF ?_)
      exact fin (fins s8 ⟨z, rfl, kp7, m7⟩)
    | putBy j =>
      have hj : j ∈ L.jobs := hj
      refine wEqF rfl (by rfl) (iteF ?_)
      refine wIn ["give", "try_out", "go_on"] false rfl (fun R h => h) (by decide) (by rfl) fun H5 s5 => iteF ?_
      refine wIn ["put_by", "end"] true rfl (fun R h => h) (by decide) (by rfl) fun H6 s6 => iteT ?_
      have s56 := s5.trans s6
      have m6 := m.same s56
      refine ⟨_, rfl, _, _, rfl, pkP (m6.pa j hj), ?_⟩
      refine ⟨_, rfl, rfl, _, rfl, _, _, rfl, pkE upd_same, ?_⟩
      have e2 : upd (upd H6 (z.pa j) (.dK (pk5 (z.ab j) "away" (pp j).en (z.cu j) (z.em j)))) (z.pa j) (.dK (pk5 (z.ab j) "away" false (z.cu j) (z.em j))) = upd H6 (z.pa j) (.dK (pk5 (z.ab j) "away" false (z.cu j) (z.em j))) := by
        funext b
        by_cases e : b = z.pa j
        · rw [e, upd_same, upd_same]
        · rw [upd_ne e, upd_ne e, upd_ne e]
      have e3 : decide (V.str (Deed.word (.putBy j)) = V.str "end") = false := by rfl
      have m7 := m6.upPa (j0 := j) (P' := ⟨(pp j).ab, "away", false, (pp j).cu, (pp j).em⟩) hj rfl (m6.cu j hj) (m6.em j hj)
      rw [ups_id, ups_id, ← e2] at m7
      have kp7 := (Kp.same (ow := ow) (p := Ro.isM) s56).upd (u := .dK (pk5 (z.ab j) "away" false (z.cu j) (z.em j))) (by rw [m6.rpa j hj]; rfl) (m6.pa j hj)
      rw [← e2] at kp7
      have ok7 : JOk L j (ups pp j ⟨(pp j).ab, "away", false, (pp j).cu, (pp j).em⟩ j) := by
        rw [ups_same]
        exact ok.ph (.inr (.inr (.inr rfl)))
      refine ⟨_, rfl, _, rfl, ow, z, L, _, j, rfl, m7, ok7, fun H8 z8 hz8 kp8 m8 => ?_⟩
      unfold setl at m8
      rw [ups_same, ups_ups] at m8
      refine wEqF rfl (by rfl) (iteF ?_)
      refine wEqF rfl (by rfl) (iteF ?_)
      refine wEqF rfl (by rfl) (iteF ?_)
      exact fin ⟨z8, hz8, kp7.trans kp8, m8⟩
    | fin j =>
      have hj : j ∈ L.jobs := hj
      refine wEqF rfl (by rfl) (iteF ?_)
      refine wIn ["give", "try_out", "go_on"] false rfl (fun R h => h) (by decide) (by rfl) fun H5 s5 => iteF ?_
      refine wIn ["put_by", "end"] true rfl (fun R h => h) (by decide) (by rfl) fun H6 s6 => iteT ?_
      have s56 := s5.trans s6
      have m6 := m.same s56
      refine ⟨_, rfl, _, _, rfl, pkP (m6.pa j hj), ?_⟩
      refine ⟨_, rfl, rfl, _, rfl, _, _, rfl, pkE upd_same, ?_⟩
      have e2 : upd (upd H6 (z.pa j) (.dK (pk5 (z.ab j) "away" (pp j).en (z.cu j) (z.em j)))) (z.pa j) (.dK (pk5 (z.ab j) "away" true (z.cu j) (z.em j))) = upd H6 (z.pa j) (.dK (pk5 (z.ab j) "away" true (z.cu j) (z.em j))) := by
        funext b
        by_cases e : b = z.pa j
        · rw [e, upd_same, upd_same]
        · rw [upd_ne e, upd_ne e, upd_ne e]
      have e3 : decide (V.str (Deed.word (.fin j)) = V.str "end") = true := by rfl
      have m7 := m6.upPa (j0 := j) (P' := ⟨(pp j).ab, "away", true, (pp j).cu, (pp j).em⟩) hj rfl (m6.cu j hj) (m6.em j hj)
      rw [ups_id, ups_id, ← e2] at m7
      have kp7 := (Kp.same (ow := ow) (p := Ro.isM) s56).upd (u := .dK (pk5 (z.ab j) "away" true (z.cu j) (z.em j))) (by rw [m6.rpa j hj]; rfl) (m6.pa j hj)
      rw [← e2] at kp7
      have ok7 : JOk L j (ups pp j ⟨(pp j).ab, "away", true, (pp j).cu, (pp j).em⟩ j) := by
        rw [ups_same]
        exact ok.ph (.inr (.inr (.inr rfl)))
      refine ⟨_, rfl, _, rfl, ow, z, L, _, j, rfl, m7, ok7, fun H8 z8 hz8 kp8 m8 => ?_⟩
      unfold setl at m8
      rw [ups_same, ups_ups] at m8
      refine wEqF rfl (by rfl) (iteF ?_)
      refine wEqF rfl (by rfl) (iteF ?_)
      refine wEqF rfl (by rfl) (iteF ?_)
      exact fin ⟨z8, hz8, kp7.trans kp8, m8⟩
    | on j h =>
      have hj : j ∈ L.jobs := hj
      refine wEqF rfl (by rfl) (iteF ?_)
      refine wIn ["give", "try_out", "go_on"] false rfl (fun R h => h) (by decide) (by rfl) fun H5 s5 => iteF ?_
      refine wIn ["put_by", "end"] false rfl (fun R h => h) (by decide) (by rfl) fun H6 s6 => iteF ?_
      have s56 := s5.trans s6
      have m6 := m.same s56
      refine wEqT rfl (iteT ?_)
      refine ⟨_, rfl, ixD 2 rfl (s56 _ _ ht) rfl ⟨by show 1 ≤ sizeLine; decide, fun a ha => ?_⟩⟩
      refine ⟨z.cl j, a, _, _, rfl, rfl, (Same.new ha) _ _ (m6.cl j hj), upd_same, sz_of (by rw [List.length_map]; exact Nat.le_trans (Nat.succ_le_succ hcl) (by decide)), fun b hb => ?_⟩
      have s7 := (Same.new (o := .lst [.str h]) ha).trans (Same.new (o := .lst ((L.cw j).map V.str ++ [.str h])) hb)
      have m7 := m6.same s7
      have hb7 : (upd (upd H6 a (.lst [.str h])) b (.lst ((L.cw j).map V.str ++ [.str h]))) b = some (.lst ((L.cw j ++ [h]).map V.str)) := by
        rw [upd_same, List.map_append]
        rfl
      refine ⟨_, rfl, _, _, rfl, dm_cw m7.rd.m, _, rfl, _, _, rfl, dp_old m7.cw (by omega) hj, ?_⟩
      have m8 := m7.upCw (j0 := j) (q := b) (hs := L.cw j ++ [h]) (g := ups (fun j => .ref (z.cl j)) j (.ref b)) hj hb7 fun a _ => ups_map V.ref z.cl j b a
      have kp8 := (Kp.same (ow := ow) (p := Ro.isM) (s56.trans s7)).upd (u := .dK (dk L.jobs (ups (fun j => .ref (z.cl j)) j (.ref b)))) (by rw [m7.rcw]; rfl) m7.cw
      refine wEqF rfl (by rfl) (iteF ?_)
      refine wEqF rfl (by rfl) (iteF ?_)
      exact fin ⟨{ z with cl := ups z.cl j b }, rfl, kp8, m8⟩
    | off j h =>
      have hj : j ∈ L.jobs := hj
      refine wEqF rfl (by rfl) (iteF ?_)
      refine wIn ["give", "try_out", "go_on"] false rfl (fun R h => h) (by decide) (by rfl) fun H5 s5 => iteF ?_
      refine wIn ["put_by", "end"] false rfl (fun R h => h) (by decide) (by rfl) fun H6 s6 => iteF ?_
      refine wEqF rfl (by rfl) (iteF ?_)
      have s56 := s5.trans s6
      have m6 := m.same s56
      refine wEqT rfl (iteT ?_)
      have hcl6 := m6.cl j hj
      refine ⟨_, rfl, z.cl j, rfl, ⟨_, SqL.of hcl6⟩, fun D hD => ?_⟩
      refine lc_gen walk_list (L.cw j) (fun a => decide (a ≠ h)) id (Fv V.str) (Fv V.str) (List.length_map _).symm (by rw [List.length_map]; exact Nat.lt_of_le_of_lt hcl (by decide)) hD (fun H' s => s.seq (SqL.of hcl6)) yS Fv.mono ?_ ?_
      · rintro i a v H3 hi s3 rfl nx sk hk hsk
        refine ⟨rfl, ?_⟩
        refine ⟨_, rfl, ixD 2 rfl ((s56.trans s3) _ _ ht) rfl ⟨rfl, _, rfl, ?_⟩⟩
        exact iteNd (fun e => ⟨_, rfl, hk (decide_eq_true fun z => e (by rw [z])) _ _ (Same.refl _) rfl⟩) (fun e => hsk (decide_eq_false fun z => z (V.str.inj e)) H3 (Same.refl _))
      intro H7 its s7 hD7 hp7
      rw [List.map_id] at hp7
      have eo := Fv.eq hp7
      subst eo
      have m7 := m6.same s7
      refine ⟨_, rfl, _, _, rfl, dm_cw m7.rd.m, _, rfl, _, _, rfl, dp_old m7.cw (by omega) hj, ?_⟩
      have m8 := m7.upCw (j0 := j) (q := D) (hs := (L.cw j).filter fun a => decide (a ≠ h)) (g := ups (fun j => .ref (z.cl j)) j (.ref D)) hj hD7 fun a _ => ups_map V.ref z.cl j D a
      have kp8 := (Kp.same (ow := ow) (p := Ro.isM) (s56.trans s7)).upd (u := .dK (dk L.jobs (ups (fun j => .ref (z.cl j)) j (.ref D)))) (by rw [m7.rcw]; rfl) m7.cw
      refine wEqF rfl (by rfl) (iteF ?_)
      exact fin ⟨{ z with cl := ups z.cl j D }, rfl, kp8, m8⟩
    | over j x y =>
      have hj : j ∈ L.jobs := hj
      refine wEqF rfl (by rfl) (iteF ?_)
      refine wIn ["give", "try_out", "go_on"] false rfl (fun R h => h) (by decide) (by rfl) fun H5 s5 => iteF ?_
      refine wIn ["put_by", "end"] false rfl (fun R h => h) (by decide) (by rfl) fun H6 s6 => iteF ?_
      refine wEqF rfl (by rfl) (iteF ?_)
      refine wEqF rfl (by rfl) (iteF ?_)
      have s56 := s5.trans s6
      have m6 := m.same s56
      refine wEqT rfl (iteT ?_)
      have hcl6 := m6.cl j hj
      refine ⟨_, rfl, z.cl j, rfl, ⟨_, SqL.of hcl6⟩, fun D hD => ?_⟩
      refine lc_gen walk_list (L.cw j) (fun _ => true) (fun c => if c = x then y else c) (Fv V.str) (Fv V.str) (List.length_map _).symm (by rw [List.length_map]; exact Nat.lt_of_le_of_lt hcl (by decide)) hD (fun H' s => s.seq (SqL.of hcl6)) yS Fv.mono ?_ ?_
      · rintro i a v H3 hi s3 rfl nx sk hk hsk
        refine ⟨rfl, ?_⟩
        refine tyes ?_
        have ht3 := (s56.trans s3) _ _ ht
        refine ⟨_, rfl, ixD 3 rfl ht3 rfl ⟨by show 2 ≤ sizeLine; decide, fun c hc => ?_⟩⟩
        refine ⟨_, rfl, ixD 2 rfl ((Same.new hc) _ _ ht3) rfl ⟨rfl, .inr ⟨_, rfl, ?_⟩⟩⟩
        by_cases e : a = x
        · rw [decide_eq_true (congrArg V.str e)]
          refine ⟨c, _, 1, .str y, rfl, rfl, SqL.of upd_same, at1, hk rfl _ _ (Same.new hc) ?_⟩
          show V.str y = V.str (if a = x then y else a)
          rw [if_pos e]
        · rw [decide_eq_false fun z => e (V.str.inj z)]
          refine ⟨c, _, 0, .str a, rfl, rfl, SqL.of upd_same, at0, hk rfl _ _ (Same.new hc) ?_⟩
          show V.str a = V.str (if a = x then y else a)
          rw [if_neg e]
      intro H7 its s7 hD7 hp7
      rw [filter_all] at hp7
      have eo := Fv.eq hp7
      subst eo
      have m7 := m6.same s7
      refine ⟨_, rfl, _, _, rfl, dm_cw m7.rd.m, _, rfl, _, _, rfl, dp_old m7.cw (by omega) hj, ?_⟩
      have m8 := m7.upCw (j0 := j) (q := D) (hs := overL (L.cw j) x y) (g := ups (fun j => .ref (z.cl j)) j (.ref D)) hj hD7 fun a _ => ups_map V.ref z.cl j D a
      have kp8 := (Kp.same (ow := ow) (p := Ro.isM) (s56.trans s7)).upd (u := .dK (dk L.jobs (ups (fun j => .ref (z.cl j)) j (.ref D)))) (by rw [m7.rcw]; rfl) m7.cw
      exact fin ⟨{ z with cl := ups z.cl j D }, rfl, kp8, m8⟩
end
end Sm
namespace Sm
open PySem PySem.Spec PyProof.Rows L2
theorem six_sk {pl hm sk tg cw jb q : Addr} : putK (mk6 pl hm sk tg cw jb) (Sum.inr "stuck" : Key) (.ref q) = mk6 pl hm q tg cw jb := by rfl
theorem putSk {H : Hp} {a pl hm sk tg cw jb q : Addr} (h : H a = some (.dK (mk6 pl hm sk tg cw jb))) : DPut H a (.str "stuck") (.ref q) (upd H a (.dK (mk6 pl hm q tg cw jb))) := by
  have z := DPut.k (k := Sum.inr "stuck") (v := V.ref q) h (sz_lt (show 6 < 100000 by decide))
  rw [six_sk] at z
  exact z
theorem pk5_m {ab : Addr} {ph : Str} {en : Bool} {cu em : Addr} : mergeK [] (pk5 ab ph en cu em) = pk5 ab ph en cu em := by rfl
/-- what a deed tells -/
def ResV (H : Hp) (v : V) : Option Stp → Prop
  | none => v = .non
  | some s => ∃ t, v = .ref t ∧ H t = some (.tup (stV s))
def res (L : BS) (pp : Str → PS) : Deed → Option Stp
  | .step j => (L.steps j (pp j)).head?
  | _ => none
section
variable {ow ow' : Addr → Ro} {p : Ro → Bool} {z : MA} {L : BS} {pp : Str → PS} {H H' : Hp}
theorem nn {H : Hp} {a : Addr} {o : HO} (h : H a = some o) : H a ≠ none := by rw [h]; intro z; cases z
theorem Kp.roles (k : Kp ow p H H') (h : ∀ a, H a ≠ none → ow' a = ow a) : Kp ow' p H H' := fun a o e z => k a o e (by rw [h a (nn e)] at z; exact z)
theorem MAt.roles (m : MAt ow z L pp H) (h : ∀ a, H a ≠ none → ow' a = ow a) : MAt ow' z L pp H :=
  { m with
    rm := (h _ (nn m.m)).trans m.rm
    rpl := (h _ (nn m.pl)).trans m.rpl
    rhm := (h _ (nn m.hm)).trans m.rhm
    rtg := (h _ (nn m.tg)).trans m.rtg
    rcw := (h _ (nn m.cw)).trans m.rcw
    rjb := (h _ (nn m.jb)).trans m.rjb
    rpa := fun j hj => (h _ (nn (m.pa j hj))).trans (m.rpa j hj) }
theorem BAt.roles {K : PySem.W.Frag} {x : BA} {B : BS} (b : BAt K ow x B H) (h : ∀ a, H a ≠ none → ow' a = ow a) : BAt K ow' x B H :=
  { b with
    rst := (h _ (nn b.st)).trans b.rst
    rho := (h _ (nn b.ho)).trans b.rho
    rfa := (h _ (nn b.fa)).trans b.rfa
    rmk := (h _ (nn b.mr)).trans b.rmk
    rro := (h _ (nn b.ro)).trans b.rro
    rmd := fun d hd => (h _ (nn (b.md d hd))).trans (b.rmd d hd) }
/-- a job is asked for -/
theorem MAt.upAsk (m : MAt ow z L pp H) {j h0 : Str} {rooms : List Str} {g a b c l : Addr} (hj : j ∉ L.jobs) (hg : H g = some (.dK (pk5 a "by" false b c))) (rg : ow g = .pp j) (ha : H a = some (.lst (rooms.map V.str))) (hb : H b = some (.lst [])) (hc : H c = some (.lst [])) (hl : H l = some (.lst [.str h0])) :
    MAt ow { z with pa := ups z.pa j g, ab := ups z.ab j a, cu := ups z.cu j b, em := ups z.em j c, cl := ups z.cl j l } (L.crew j [h0]) (ups pp j ⟨rooms, "by", false, [], []⟩)
      (upd (upd H z.jb (.dK (dk (L.jobs ++ [j]) (ups (fun j => .ref (z.pa j)) j (.ref g))))) z.cw (.dK (dk (L.jobs ++ [j]) (ups (fun j => .ref (z.cl j)) j (.ref l))))) := by
  have e : L.crew j [h0] = { L with jobs := L.jobs ++ [j], cw := ups L.cw j [h0] } := by unfold BS.crew; rw [addk_out hj]
  rw [e]
  have two : ∀ {x : Addr} {o : HO} {r : Ro}, H x = some o → ow x = r → r ≠ .jb → r ≠ .cw → (upd (upd H z.jb (.dK (dk (L.jobs ++ [j]) (ups (fun j => .ref (z.pa j)) j (.ref g))))) z.cw (.dK (dk (L.jobs ++ [j]) (ups (fun j => .ref (z.cl j)) j (.ref l))))) x = some o := fun h1 h2 h3 h4 =>
    up_ro (up_ro h1 h2 m.rjb h3) h2 m.rcw h4
  have twl : ∀ {x : Addr} {y : List V}, H x = some (.lst y) → (upd (upd H z.jb (.dK (dk (L.jobs ++ [j]) (ups (fun j => .ref (z.pa j)) j (.ref g))))) z.cw (.dK (dk (L.jobs ++ [j]) (ups (fun j => .ref (z.cl j)) j (.ref l))))) x = some (.lst y) := fun h1 =>
    up_k (up_k h1 m.jb (by intro z; cases z)) (up_ro m.cw m.rcw m.rjb (by intro z; cases z)) (by intro z; cases z)
  have old : ∀ {k : Str}, k ∈ L.jobs ++ [j] → k ≠ j → k ∈ L.jobs := fun hk ne => (List.mem_append.mp hk).resolve_right fun z => ne (List.mem_singleton.mp z)
  exact { m with
    m := two m.m m.rm (by intro z; cases z) (by intro z; cases z)
    pl := two m.pl m.rpl (by intro z; cases z) (by intro z; cases z)
    hm := two m.hm m.rhm (by intro z; cases z) (by intro z; cases z)
    sk := twl m.sk
    tg := two m.tg m.rtg (by intro z; cases z) (by intro z; cases z)
    tl := fun d hd => twl (m.tl d hd)
    cw := by
      rw [upd_same]
      congr 2
      exact dk_congr fun k _ => ups_map V.ref z.cl j l k
    cl := fun k hk => by
      show _ = some (HO.lst ((ups L.cw j [h0] k).map V.str))
      by_cases e : k = j
      · subst e
        rw [ups_same]
        show _ = some (HO.lst [V.str h0])
        have : (ups z.cl k l k) = l := ups_same
        show (upd _ _ _) (ups z.cl k l k) = _
        rw [this]
        exact twl hl
      · rw [ups_ne e]
        have : (ups z.cl j l k) = z.cl k := ups_ne e
        show (upd _ _ _) (ups z.cl j l k) = _
        rw [this]
        exact twl (m.cl k (old hk e))
    jb := by
      rw [upd_ne (ro_ne m.rjb m.rcw (by intro z; cases z)), upd_same]
      congr 2
      exact dk_congr fun k _ => ups_map V.ref z.pa j g k
    pa := fun k hk => by
      show (upd _ _ _) (ups z.pa j g k) = some (HO.dK (pk5 (ups z.ab j a k) (ups pp j _ k).ph (ups pp j _ k).en (ups z.cu j b k) (ups z.em j c k)))
      by_cases e : k = j
      · subst e
        rw [ups_same, ups_same, ups_same, ups_same, ups_same]
        exact two hg rg (by intro z; cases z) (by intro z; cases z)
      · rw [ups_ne e, ups_ne e, ups_ne e, ups_ne e, ups_ne e]
        exact two (m.pa k (old hk e)) (m.rpa k (old hk e)) (by intro z; cases z) (by intro z; cases z)
    ab := fun k hk => by
      show (upd _ _ _) (ups z.ab j a k) = some (HO.lst ((ups pp j _ k).ab.map V.str))
      by_cases e : k = j
      · subst e
        rw [ups_same, ups_same]
        exact twl ha
      · rw [ups_ne e, ups_ne e]
        exact twl (m.ab k (old hk e))
    cu := fun k hk => by
      show (upd _ _ _) (ups z.cu j b k) = some (HO.lst ((ups pp j _ k).cu.map V.str))
      by_cases e : k = j
      · subst e
        rw [ups_same, ups_same]
        exact twl hb
      · rw [ups_ne e, ups_ne e]
        exact twl (m.cu k (old hk e))
    em := fun k hk => by
      show (upd _ _ _) (ups z.em j c k) = some (HO.lst ((ups pp j _ k).em.map V.str))
      by_cases e : k = j
      · subst e
        rw [ups_same, ups_same]
        exact twl hc
      · rw [ups_ne e, ups_ne e]
        exact twl (m.em k (old hk e))
    rpa := fun k hk => by
      show ow (ups z.pa j g k) = _
      by_cases e : k = j
      · subst e
        rw [ups_same]
        exact rg
      · rw [ups_ne e]
        exact m.rpa k (old hk e) }
end
section
variable {P : Program} {w : World} {K : PySem.W.Frag} {mg : Str → Option Value} {base : Heap}
def spDo : Sp := fun vs H Q _ => ∃ (ow : Addr → Ro) (z : MA) (L : BS) (pp : Str → PS) (t : Addr) (d : Deed), vs = [.ref z.m, .ref t] ∧ MAt ow z L pp H ∧ BOk L ∧ (∀ j ∈ L.jobs, JOk L j (pp j)) ∧ d.fits L ∧ DAt H t d ∧ due L pp d = none ∧
  ∀ H' z' ow' v, z'.m = z.m → (∀ a, H a ≠ none → ow' a = ow a) → Kp ow Ro.isM H H' → MAt ow' z' (lact L pp d).1 (lact L pp d).2 H' → ResV H' v (res L pp d) → Q v H'
abbrev N_l_do : List Str := ["_law_m", "_law_deed_here", "_law_word", "_law_name_here", "_law_paper", "_law_one_here"]
theorem sc_l_do : FnScope N_l_do ["_law_m", "_law_deed_here"] (defScope s_ldo) := ⟨rfl, rfl, rfl, by decide +kernel, rfl, by decide +kernel, by decide +kernel⟩
theorem ok_l_do (T : Txt K mg) : GFn P w K mg base CX0 4 "_law_do" ["_law_m", "_law_deed_here"] spDo := by
  refine T.f_l_do.ok0 sc_l_do (fun vs H Q E h => ?_) (fun f cdv A outer s H vs Q E hr h => ?_)
  · obtain ⟨ow, z, L, pp, t, d, rfl, _⟩ := h
    rfl
  · obtain ⟨ow, z, L, pp, t, d, rfl, m, ok, oks, hf, hd, hdue, k⟩ := h
    have hu := hu_of hr
    refine ⟨_, (pss_cons (ps_asg (pe_tup (pa_cons (pe_ix ix_tup (pv 1) pe_int (fun _ _ => rfl)) (pa_cons (pe_ix ix_tup (pv 1) pe_int (fun _ _ => rfl)) pa_nil))) (pg_tup (by rfl) (pgs_cons (pg_name (i := 2) sc_l_do.nd rfl (Or.inl rfl)) (pgs_cons (pg_name (i := 3) sc_l_do.nd rfl (Or.inr rfl)) pgs_nil))))
    (pss_cons (ps_if (pt_cmpR op_eq (pv 2) pe_str (nomark _))
      (pss_cons (ps_dput hu (pe_dget hu (pv 0) pe_str (fun _ _ => rfl)) (pv 3) (pe_ix ix_tup (pv 1) pe_int (fun _ _ => rfl)) rfl)
    (pss_one (ps_dput hu (pe_dget hu (pv 0) pe_str (fun _ _ => rfl)) (pv 3) (pe_ix ix_tup (pv 1) pe_int (fun _ _ => rfl)) rfl)))
      (pss_one (ps_if (PW.pt (pw_or (pt_cmpR op_eq (pv 2) pe_str (nomark _)) (pw_or1 (pt_cmpR op_eq (pv 2) pe_str (nomark _)))))
      (pss_one (ps_dput hu (pv 0) pe_str (pe_op op_cat (pe_lc (own := [("_law_one_here", 5)]) (by rfl) sc_l_do.nd (pi_list (pe_dget hu (pv 0) pe_str (fun _ _ => rfl))) (blkOk_by (own := [("_law_one_here", 5)]) (N := N_l_do) (sc := defScope s_ldo) (by decide +kernel)) (fun _ _ _ _ _ => (pg_name (i := 5) sc_l_do.nd rfl (Or.inl rfl))) (fun _ _ _ _ _ => (pts_one (pt_cmpR op_ne (pv 5) (pv 3) (nomark _)))) (fun _ _ _ _ _ => (pv 5))) (pe_op op_rep (pe_lst (pa_cons (pv 3) pa_nil)) (pe_callTy call_int1 (by rfl) T.b_int (by decide +kernel) (by exact (pa_cons (pe_cmpR op_eq (pv 2) pe_str (nomark _)) pa_nil))))) rfl))
      (pss_one (ps_if (pt_cmpR op_eq (pv 2) pe_str (nomark _))
      (pss_cons (ps_set (i := 4) sc_l_do.nd rfl (Or.inl rfl) (pe_disp (pps_cons pe_str (pe_callTy call_list_of (by rfl) T.b_list (by decide +kernel) (pa_cons (pe_ix ix_tup (pv 1) pe_int (fun _ _ => rfl)) pa_nil)) (pps_cons pe_str pe_str (pps_cons pe_str pe_bl (pps_cons pe_str (pe_lst pa_nil) (pps_cons pe_str (pe_lst pa_nil) pps_nil))))) (by rfl) (by rfl) (fun z => by cases z) (by decide)))
    (pss_cons (ps_dput hu (pe_dget hu (pv 0) pe_str (fun _ _ => rfl)) (pv 3) (pv 4) rfl)
    (pss_one (ps_dput hu (pe_dget hu (pv 0) pe_str (fun _ _ => rfl)) (pv 3) (pe_lst (pa_cons (pe_ix ix_tup (pv 1) pe_int (fun _ _ => rfl)) pa_nil)) rfl))))
      (pss_one (ps_if (pt_cmpR op_eq (pv 2) pe_str (nomark _))
      (pss_one (ps_ret (pe_fn (ok_l_do_step T) (hr.mono (by decide)) pass0 (pa_cons (pv 0) (pa_cons (pv 3) pa_nil)))))
      (pss_one (ps_ret (pe_fn (ok_l_do_job T) (hr.mono (by decide)) pass0 (pa_cons (pv 0) (pa_cons (pv 1) pa_nil))))))))))))
    (pss_one (ps_ret pe_non)))), ?_⟩
    obtain ⟨p, q, ht, hls⟩ := id hd
    have hdl := ok.dv.len
    have hjl := ok.jb.len
    refine ixD 0 rfl ht Deed.row0 (ixD 1 rfl ht Deed.row1 ⟨by show 2 ≤ sizeLine; decide, fun u hu' => ?_⟩)
    have s1 : Same H (upd H u (.tup [.str d.word, .str d.name])) := Same.new hu'
    refine ⟨u, _, rfl, SqT.of upd_same, rfl, _, _, rfl, _, _, rfl, rfl, ?_⟩
    have m1 := m.same s1
    have ht1 := s1 _ _ ht
    have hd1 := hd.same s1
    generalize (upd H u (.tup [.str d.word, .str d.name])) = H1 at s1 m1 ht1 hd1 ⊢
    cases d with
    | turn d0 x =>
      have hmem : d0 ∈ L.devs := Classical.byContradiction fun h => by
        have : due L pp (.turn d0 x) = some (.lacks d0) := if_pos h
        rw [this] at hdue
        cases hdue
      refine wEqT rfl (iteT ?_)
      refine ixD 2 rfl ht1 rfl ⟨_, rfl, _, _, rfl, dm_pl m1.rd.m, _, rfl, _, _, rfl, dp_old m1.pl (by omega) hmem, ?_⟩
      have m2 := m1.upPl (g := ups (fun d => V.str (L.pl d)) d0 (.str x)) (pl' := ups L.pl d0 x) fun a _ => ups_map V.str L.pl d0 x a
      have kp2 := (Kp.same (ow := ow) (p := Ro.isM) s1).upd (u := .dK (dk L.devs (ups (fun d => V.str (L.pl d)) d0 (.str x)))) (by rw [m1.rpl]; rfl) m1.pl
      have ht2 : (upd H1 z.pl (.dK (dk L.devs (ups (fun d => V.str (L.pl d)) d0 (.str x))))) t = _ := up_k ht1 m1.pl (by intro z; cases z)
      refine ixD 2 rfl ht2 rfl ⟨_, rfl, _, _, rfl, dm_hm m2.rd.m, _, rfl, _, _, rfl, dp_old m2.hm (by show L.devs.length < 1000; omega) hmem, ?_⟩
      have m3 := m2.upHm (g := ups (fun d => V.str (L.hm d)) d0 (.str x)) (hm' := ups L.hm d0 x) fun a _ => ups_map V.str L.hm d0 x a
      exact k _ z ow _ rfl (fun _ _ => rfl) (kp2.upd (by rw [m2.rhm]; rfl) m2.hm) m3 rfl
    | stick d0 =>
      refine wEqF rfl (by rfl) (iteF ?_)
      refine wEqT rfl (iteT (iteT ?_))
      have hsk := m1.sk
      have hfl : L.fs.length ≤ 24 := Nat.le_trans (nd_len ok.fs.1 ok.fs.2) ok.dv.len
      refine ⟨_, rfl, _, _, rfl, dm_sk m1.rd.m, z.sk, rfl, ⟨_, SqL.of hsk⟩, fun D hD => ?_⟩
      refine lc_gen walk_list L.fs (fun a => decide (a ≠ d0)) id (Fv V.str) (Fv V.str) (List.length_map _).symm (by rw [List.length_map]; omega) hD (fun H' s => s.seq (SqL.of hsk)) yS Fv.mono ?_ ?_
      · rintro i a v H3 hi s3 rfl nx sk hk hsk'
        refine ⟨rfl, ?_⟩
        refine ⟨_, rfl, _, rfl, rfl, _, rfl, ?_⟩
        exact iteNd (fun e => ⟨_, rfl, hk (decide_eq_true fun z => e (congrArg V.str z)) _ _ (Same.refl _) rfl⟩) (fun e => hsk' (decide_eq_false fun z => z (V.str.inj e)) H3 (Same.refl _))
      intro H3 its s3 hD3 hp3
      rw [List.map_id] at hp3
      have eo := Fv.eq hp3
      subst eo
      have hfl2 : (L.fs.filter fun a => decide (a ≠ d0)).length ≤ 24 := Nat.le_trans (List.length_filter_le _ _) hfl
      refine ⟨_, rfl, by show 1 ≤ sizeLine; decide, fun r hr' => ?_⟩
      refine ⟨_, rfl, rfl, .inr ⟨true, rfl, r, _, [.str d0], rfl, rfl, upd_same, by decide, by decide, by show 1 * _ ≤ sizeLine; decide, fun r2 hr2 => ?_⟩⟩
      have s5 := (Same.new (o := .lst [.str d0]) hr').trans (Same.new (o := .lst (List.replicate (Int.toNat (if true = true then 1 else 0)) [V.str d0]).flatten) hr2)
      refine ⟨D, r2, _, _, rfl, rfl, s5 _ _ hD3, upd_same, sz_of (by rw [List.length_map]; exact Nat.le_trans (Nat.add_le_add hfl2 (Nat.le_refl 1)) (by decide)), fun q2 hq2 => ?_⟩
      have s6 := s5.trans (Same.new (o := .lst ((L.fs.filter fun a => decide (a ≠ d0)).map V.str ++ (List.replicate (Int.toNat (if true = true then 1 else 0)) [V.str d0]).flatten)) hq2)
      have s16 := s1.trans (s3.trans s6)
      have m6 := m.same s16
      refine ⟨_, rfl, _, _, rfl, putSk m6.m, ?_⟩
      have hq6 : (upd (upd (upd H3 r (.lst [.str d0])) r2 (.lst (List.replicate (Int.toNat (if true = true then 1 else 0)) [V.str d0]).flatten)) q2 (.lst ((L.fs.filter fun a => decide (a ≠ d0)).map V.str ++ (List.replicate (Int.toNat (if true = true then 1 else 0)) [V.str d0]).flatten))) q2 = some (.lst (((L.fs.filter fun a => decide (a ≠ d0)) ++ [d0]).map V.str)) := by
        rw [upd_same]
        congr 2
        rw [List.map_append]
        rfl
      have m7 := m6.upSk (fs' := (L.fs.filter fun a => decide (a ≠ d0)) ++ [d0]) hq6
      exact k _ { z with sk := q2 } ow _ rfl (fun _ _ => rfl) ((Kp.same s16).upd (by rw [m6.rm]; rfl) m6.m) m7 rfl
    | mend d0 =>
      refine wEqF rfl (by rfl) (iteF ?_)
      refine wEqF rfl (by rfl) (iteF (wEqT rfl (iteT ?_)))
      have hsk := m1.sk
      have hfl : L.fs.length ≤ 24 := Nat.le_trans (nd_len ok.fs.1 ok.fs.2) ok.dv.len
      refine ⟨_, rfl, _, _, rfl, dm_sk m1.rd.m, z.sk, rfl, ⟨_, SqL.of hsk⟩, fun D hD => ?_⟩
      refine lc_gen walk_list L.fs (fun a => decide (a ≠ d0)) id (Fv V.str) (Fv V.str) (List.length_map _).symm (by rw [List.length_map]; omega) hD (fun H' s => s.seq (SqL.of hsk)) yS Fv.mono ?_ ?_
      · rintro i a v H3 hi s3 rfl nx sk hk hsk'
        refine ⟨rfl, ?_⟩
        refine ⟨_, rfl, _, rfl, rfl, _, rfl, ?_⟩
        exact iteNd (fun e => ⟨_, rfl, hk (decide_eq_true fun z => e (congrArg V.str z)) _ _ (Same.refl _) rfl⟩) (fun e => hsk' (decide_eq_false fun z => z (V.str.inj e)) H3 (Same.refl _))
      intro H3 its s3 hD3 hp3
      rw [List.map_id] at hp3
      have eo := Fv.eq hp3
      subst eo
      have hfl2 : (L.fs.filter fun a => decide (a ≠ d0)).length ≤ 24 := Nat.le_trans (List.length_filter_le _ _) hfl
      refine ⟨_, rfl, by show 1 ≤ sizeLine; decide, fun r hr' => ?_⟩
      refine ⟨_, rfl, rfl, .inr ⟨false, rfl, r, _, [.str d0], rfl, rfl, upd_same, by decide, by decide, by show 1 * _ ≤ sizeLine; decide, fun r2 hr2 => ?_⟩⟩
      have s5 := (Same.new (o := .lst [.str d0]) hr').trans (Same.new (o := .lst (List.replicate (Int.toNat (if false = true then 1 else 0)) [V.str d0]).flatten) hr2)
      refine ⟨D, r2, _, _, rfl, rfl, s5 _ _ hD3, upd_same, sz_of (by rw [List.length_map]; exact Nat.le_trans (Nat.add_le_add hfl2 (Nat.zero_le 1)) (by decide)), fun q2 hq2 => ?_⟩
      have s6 := s5.trans (Same.new (o := .lst ((L.fs.filter fun a => decide (a ≠ d0)).map V.str ++ (List.replicate (Int.toNat (if false = true then 1 else 0)) [V.str d0]).flatten)) hq2)
      have s16 := s1.trans (s3.trans s6)
      have m6 := m.same s16
      refine ⟨_, rfl, _, _, rfl, putSk m6.m, ?_⟩
      have hq6 : (upd (upd (upd H3 r (.lst [.str d0])) r2 (.lst (List.replicate (Int.toNat (if false = true then 1 else 0)) [V.str d0]).flatten)) q2 (.lst ((L.fs.filter fun a => decide (a ≠ d0)).map V.str ++ (List.replicate (Int.toNat (if false = true then 1 else 0)) [V.str d0]).flatten))) q2 = some (.lst ((L.fs.filter fun a => decide (a ≠ d0)).map V.str)) := by
        rw [upd_same]
        congr 2
        exact List.append_nil _
      have m7 := m6.upSk (fs' := L.fs.filter fun a => decide (a ≠ d0)) hq6
      exact k _ { z with sk := q2 } ow _ rfl (fun _ _ => rfl) ((Kp.same s16).upd (by rw [m6.rm]; rfl) m6.m) m7 rfl
    | ask j h rooms =>
      have hjn : j ∉ L.jobs ∧ L.jobs.length ≠ 8 := by
        have e : askR L j = none := hdue
        unfold askR at e
        by_cases h1 : j ∈ L.jobs
        · rw [if_pos h1] at e; cases e
        · rw [if_neg h1] at e
          refine ⟨h1, fun h2 => ?_⟩
          rw [if_pos h2] at e; cases e
      have hroom := s1 _ _ hls
      refine wEqF rfl (by rfl) (iteF ?_)
      refine wEqF rfl (by rfl) (iteF (wEqF rfl (by rfl) (iteF ?_)))
      refine wEqT rfl (iteT ?_)
      intro g hg
      have sg : Same H1 (upd H1 g (.dK [])) := Same.new hg
      refine ixD 3 rfl (sg _ _ ht1) rfl ⟨p, _, rfl, .inl (SqL.of (sg _ _ hroom)), fun a ha => ?_⟩
      refine ⟨by show 0 ≤ sizeLine; exact Nat.zero_le _, fun b hb => ⟨by show 0 ≤ sizeLine; exact Nat.zero_le _, fun c hc => ?_⟩⟩
      have sa := (((Same.new (o := .lst (rooms.map V.str)) ha).trans (Same.new (o := .lst []) hb)).trans (Same.new (o := .lst []) hc))
      have hgc := sa _ _ (upd_same (H := H1) (a := g) (o := HO.dK []))
      refine ⟨hgc, pk5 a "by" false b c, rfl, by show 5 ≤ 15; decide, ?_⟩
      rw [pk5_m]
      have hag : a ≠ g := fun z => by rw [z, upd_same] at ha; cases ha
      have hbg : b ≠ g := fun z => by rw [z, (Same.new ha) _ _ (upd_same (a := g) (o := HO.dK []))] at hb; cases hb
      have hcg : c ≠ g := fun z => by rw [z, (Same.new hb) _ _ ((Same.new ha) _ _ (upd_same (a := g) (o := HO.dK [])))] at hc; cases hc
      have s3 : Same H1 (upd (upd (upd (upd (upd H1 g (.dK [])) a (.lst (rooms.map V.str))) b (.lst [])) c (.lst [])) g (.dK (pk5 a "by" false b c))) := fun x o e => by
        rw [upd_ne (ne_of_none e hg)]
        exact sa _ _ (sg _ _ e)
      have ha3 : (upd (upd (upd (upd (upd H1 g (.dK [])) a (.lst (rooms.map V.str))) b (.lst [])) c (.lst [])) g (.dK (pk5 a "by" false b c))) a = some (.lst (rooms.map V.str)) := by
        rw [upd_ne hag]
        exact (Same.new hc) _ _ ((Same.new hb) _ _ upd_same)
      have hb3 : (upd (upd (upd (upd (upd H1 g (.dK [])) a (.lst (rooms.map V.str))) b (.lst [])) c (.lst [])) g (.dK (pk5 a "by" false b c))) b = some (.lst []) := by
        rw [upd_ne hbg]
        exact (Same.new hc) _ _ upd_same
      have hc3 : (upd (upd (upd (upd (upd H1 g (.dK [])) a (.lst (rooms.map V.str))) b (.lst [])) c (.lst [])) g (.dK (pk5 a "by" false b c))) c = some (.lst []) := by
        rw [upd_ne hcg]
        exact upd_same
      have hg3 : (upd (upd (upd (upd (upd H1 g (.dK [])) a (.lst (rooms.map V.str))) b (.lst [])) c (.lst [])) g (.dK (pk5 a "by" false b c))) g = some (.dK (pk5 a "by" false b c)) := upd_same
      generalize (upd (upd (upd (upd (upd H1 g (.dK [])) a (.lst (rooms.map V.str))) b (.lst [])) c (.lst [])) g (.dK (pk5 a "by" false b c))) = H3 at s3 ha3 hb3 hc3 hg3 ⊢
      have s13 := s1.trans s3
      have hgH : H g = none := s1.free hg
      let ow2 : Addr → Ro := fun x => if x = g then .pp j else ow x
      have howH : ∀ x, H x ≠ none → ow2 x = ow x := fun x hx => if_neg fun z => hx (by rw [z]; exact hgH)
      have m3 := (m.roles howH).same s13
      have kp3 : Kp ow2 Ro.isM H H3 := Kp.same s13
      refine ⟨_, rfl, _, rfl, _, _, rfl, dm_jb m3.rd.m, _, rfl, _, _, rfl, dp_new m3.jb (by omega) hjn.1, ?_⟩
      have up1 : ∀ {x : Addr} {y : List V}, H3 x = some (.lst y) → (upd H3 z.jb (.dK (dk (L.jobs ++ [j]) (ups (fun j => .ref (z.pa j)) j (.ref g))))) x = some (.lst y) := fun h1 => up_k h1 m3.jb (by intro z; cases z)
      have hm4 : (upd H3 z.jb (.dK (dk (L.jobs ++ [j]) (ups (fun j => .ref (z.pa j)) j (.ref g))))) z.m = some (.dK z.six) := up_ro m3.m m3.rm m3.rjb (by intro z; cases z)
      have hc4 : (upd H3 z.jb (.dK (dk (L.jobs ++ [j]) (ups (fun j => .ref (z.pa j)) j (.ref g))))) z.cw = some (.dK (dk L.jobs fun j => .ref (z.cl j))) := up_ro m3.cw m3.rcw m3.rjb (by intro z; cases z)
      have ht4 : (upd H3 z.jb (.dK (dk (L.jobs ++ [j]) (ups (fun j => .ref (z.pa j)) j (.ref g))))) t = _ := up_k (s3 _ _ ht1) m3.jb (by intro z; cases z)
      refine ixD 2 rfl ht4 rfl ⟨by show 1 ≤ sizeLine; decide, fun l hl => ?_⟩
      have sl := Same.new (o := .lst [.str h]) hl
      refine ⟨_, rfl, _, _, rfl, dm_cw (.inl (sl _ _ hm4)), _, rfl, _, _, rfl, dp_new (sl _ _ hc4) (by omega) hjn.1, ?_⟩
      have hl3 : H3 l = none := by
        cases e : H3 l with
        | none => rfl
        | some o =>
          by_cases e2 : l = z.jb
          · rw [e2, upd_same] at hl; cases hl
          · rw [upd_ne e2, e] at hl; cases hl
      have m4 := (m3.same (Same.new (o := .lst [.str h]) hl3)).upAsk (j := j) (h0 := h) (rooms := rooms) (g := g) (a := a) (b := b) (c := c) (l := l) hjn.1 ((Same.new hl3) _ _ hg3) (if_pos rfl) ((Same.new hl3) _ _ ha3) ((Same.new hl3) _ _ hb3) ((Same.new hl3) _ _ hc3) upd_same
      have ejl : z.jb ≠ l := ne_of_none m3.jb hl3
      have ecl : z.cw ≠ l := ne_of_none m3.cw hl3
      have eH : upd (upd (upd H3 l (.lst [.str h])) z.jb (.dK (dk (L.jobs ++ [j]) (ups (fun j => .ref (z.pa j)) j (.ref g))))) z.cw (.dK (dk (L.jobs ++ [j]) (ups (fun j => .ref (z.cl j)) j (.ref l)))) = upd (upd (upd H3 z.jb (.dK (dk (L.jobs ++ [j]) (ups (fun j => .ref (z.pa j)) j (.ref g))))) l (.lst [.str h])) z.cw (.dK (dk (L.jobs ++ [j]) (ups (fun j => .ref (z.cl j)) j (.ref l)))) := by
        congr 1
        funext x
        by_cases e1 : x = l
        · subst e1
          rw [upd_ne ejl.symm, upd_same, upd_same]
        · by_cases e2 : x = z.jb
          · subst e2
            rw [upd_same, upd_ne e1, upd_same]
          · rw [upd_ne e2, upd_ne e1, upd_ne e1, upd_ne e2]
      rw [eH] at m4
      have kp4 := ((kp3.upd (u := .dK (dk (L.jobs ++ [j]) (ups (fun j => .ref (z.pa j)) j (.ref g)))) (by rw [m3.rjb]; rfl) m3.jb).new (u := .lst [.str h]) hl).upd (u := .dK (dk (L.jobs ++ [j]) (ups (fun j => .ref (z.cl j)) j (.ref l)))) (by rw [m3.rcw]; rfl) (sl _ _ hc4)
      exact k _ { z with pa := ups z.pa j g, ab := ups z.ab j a, cu := ups z.cu j b, em := ups z.em j c, cl := ups z.cl j l } ow2 _ rfl howH (kp4.roles fun x hx => (howH x hx).symm) m4 rfl
    | step j =>
      refine wEqF rfl (by rfl) (iteF ?_)
      refine wEqF rfl (by rfl) (iteF (wEqF rfl (by rfl) (iteF ?_)))
      refine wEqF rfl (by rfl) (iteF ?_)
      refine wEqT rfl (iteT ?_)
      have hj : j ∈ L.jobs := hf
      have hst : stepR L j (pp j) = none := hdue
      obtain ⟨s, rest, hs⟩ : ∃ s rest, L.steps j (pp j) = s :: rest := by
        cases e : L.steps j (pp j) with
        | nil =>
          unfold stepR at hst
          rw [e] at hst
          cases hst
        | cons a r => exact ⟨a, r, rfl⟩
      refine ⟨_, rfl, _, rfl, ow, z, L, pp, j, s, rest, rfl, m1, oks j hj, hs, fun H2 z2 t2 hz2 kp2 m2 ht2 => ?_⟩
      refine k _ z2 ow _ hz2 (fun _ _ => rfl) ((Kp.same s1).trans kp2) ?_ ?_
      · have e : lact L pp (.step j) = setl (lstep L j s) pp j := by
          show (match L.steps j (pp j) with | [] => (L, pp) | s :: _ => setl (lstep L j s) pp j) = _
          rw [hs]
        rw [e]
        exact m2
      · have e : res L pp (.step j) = some s := by
          show (L.steps j (pp j)).head? = _
          rw [hs]
          rfl
        rw [e]
        exact ⟨t2, rfl, ht2⟩
    | begin j x y =>
      refine wEqF rfl (by rfl) (iteF ?_)
      refine wEqF rfl (by rfl) (iteF (wEqF rfl (by rfl) (iteF ?_)))
      refine wEqF rfl (by rfl) (iteF ?_)
      refine wEqF rfl (by rfl) (iteF ?_)
      have hj : j ∈ L.jobs := by first | exact hf.1 | exact hf
      refine ⟨_, rfl, _, rfl, ow, z, L, pp, t, .begin j x y, rfl, m1, oks j hj, trivial, hd1, hdue, fun H2 z2 hz2 kp2 m2 => ?_⟩
      exact k _ z2 ow _ hz2 (fun _ _ => rfl) ((Kp.same s1).trans kp2) m2 rfl
    | give j =>
      refine wEqF rfl (by rfl) (iteF ?_)
      refine wEqF rfl (by rfl) (iteF (wEqF rfl (by rfl) (iteF ?_)))
      refine wEqF rfl (by rfl) (iteF ?_)
      refine wEqF rfl (by rfl) (iteF ?_)
      have hj : j ∈ L.jobs := by first | exact hf.1 | exact hf
      refine ⟨_, rfl, _, rfl, ow, z, L, pp, t, .give j, rfl, m1, oks j hj, trivial, hd1, hdue, fun H2 z2 hz2 kp2 m2 => ?_⟩
      exact k _ z2 ow _ hz2 (fun _ _ => rfl) ((Kp.same s1).trans kp2) m2 rfl
    | tryOut j =>
      refine wEqF rfl (by rfl) (iteF ?_)
      refine wEqF rfl (by rfl) (iteF (wEqF rfl (by rfl) (iteF ?_)))
      refine wEqF rfl (by rfl) (iteF ?_)
      refine wEqF rfl (by rfl) (iteF ?_)
      have hj : j ∈ L.jobs := by first | exact hf.1 | exact hf
      refine ⟨_, rfl, _, rfl, ow, z, L, pp, t, .tryOut j, rfl, m1, oks j hj, trivial, hd1, hdue, fun H2 z2 hz2 kp2 m2 => ?_⟩
      exact k _ z2 ow _ hz2 (fun _ _ => rfl) ((Kp.same s1).trans kp2) m2 rfl
    | goOn j =>
      refine wEqF rfl (by rfl) (iteF ?_)
      refine wEqF rfl (by rfl) (iteF (wEqF rfl (by rfl) (iteF ?_)))
      refine wEqF rfl (by rfl) (iteF ?_)
      refine wEqF rfl (by rfl) (iteF ?_)
      have hj : j ∈ L.jobs := by first | exact hf.1 | exact hf
      refine ⟨_, rfl, _, rfl, ow, z, L, pp, t, .goOn j, rfl, m1, oks j hj, trivial, hd1, hdue, fun H2 z2 hz2 kp2 m2 => ?_⟩
      exact k _ z2 ow _ hz2 (fun _ _ => rfl) ((Kp.same s1).trans kp2) m2 rfl
    | putBy j =>
      refine wEqF rfl (by rfl) (iteF ?_)
      refine wEqF rfl (by rfl) (iteF (wEqF rfl (by rfl) (iteF ?_)))
      refine wEqF rfl (by rfl) (iteF ?_)
      refine wEqF rfl (by rfl) (iteF ?_)
      have hj : j ∈ L.jobs := by first | exact hf.1 | exact hf
      refine ⟨_, rfl, _, rfl, ow, z, L, pp, t, .putBy j, rfl, m1, oks j hj, trivial, hd1, hdue, fun H2 z2 hz2 kp2 m2 => ?_⟩
      exact k _ z2 ow _ hz2 (fun _ _ => rfl) ((Kp.same s1).trans kp2) m2 rfl
    | fin j =>
      refine wEqF rfl (by rfl) (iteF ?_)
      refine wEqF rfl (by rfl) (iteF (wEqF rfl (by rfl) (iteF ?_)))
      refine wEqF rfl (by rfl) (iteF ?_)
      refine wEqF rfl (by rfl) (iteF ?_)
      have hj : j ∈ L.jobs := by first | exact hf.1 | exact hf
      refine ⟨_, rfl, _, rfl, ow, z, L, pp, t, .fin j, rfl, m1, oks j hj, trivial, hd1, hdue, fun H2 z2 hz2 kp2 m2 => ?_⟩
      exact k _ z2 ow _ hz2 (fun _ _ => rfl) ((Kp.same s1).trans kp2) m2 rfl
    | on j x =>
      refine wEqF rfl (by rfl) (iteF ?_)
      refine wEqF rfl (by rfl) (iteF (wEqF rfl (by rfl) (iteF ?_)))
      refine wEqF rfl (by rfl) (iteF ?_)
      refine wEqF rfl (by rfl) (iteF ?_)
      have hj : j ∈ L.jobs := by first | exact hf.1 | exact hf
      refine ⟨_, rfl, _, rfl, ow, z, L, pp, t, .on j x, rfl, m1, oks j hj, trivial, hd1, hdue, fun H2 z2 hz2 kp2 m2 => ?_⟩
      exact k _ z2 ow _ hz2 (fun _ _ => rfl) ((Kp.same s1).trans kp2) m2 rfl
    | off j x =>
      refine wEqF rfl (by rfl) (iteF ?_)
      refine wEqF rfl (by rfl) (iteF (wEqF rfl (by rfl) (iteF ?_)))
      refine wEqF rfl (by rfl) (iteF ?_)
      refine wEqF rfl (by rfl) (iteF ?_)
      have hj : j ∈ L.jobs := by first | exact hf.1 | exact hf
      refine ⟨_, rfl, _, rfl, ow, z, L, pp, t, .off j x, rfl, m1, oks j hj, trivial, hd1, hdue, fun H2 z2 hz2 kp2 m2 => ?_⟩
      exact k _ z2 ow _ hz2 (fun _ _ => rfl) ((Kp.same s1).trans kp2) m2 rfl
    | over j x y =>
      refine wEqF rfl (by rfl) (iteF ?_)
      refine wEqF rfl (by rfl) (iteF (wEqF rfl (by rfl) (iteF ?_)))
      refine wEqF rfl (by rfl) (iteF ?_)
      refine wEqF rfl (by rfl) (iteF ?_)
      have hj : j ∈ L.jobs := by first | exact hf.1 | exact hf
      refine ⟨_, rfl, _, rfl, ow, z, L, pp, t, .over j x y, rfl, m1, oks j hj, trivial, hd1, hdue, fun H2 z2 hz2 kp2 m2 => ?_⟩
      exact k _ z2 ow _ hz2 (fun _ _ => rfl) ((Kp.same s1).trans kp2) m2 rfl
end
end Sm
namespace Sm
open PySem PySem.Spec PyProof.Rows L2
/-- the board and the job's paper behind a deed of a job -/
def jact (B : BS) (P : PS) : Deed → BS × PS
  | .begin _ sw dr => (B, { P with cu := sw, em := dr, ph := "still" })
  | .step j => match B.steps j P with
    | [] => (B, P)
    | s :: _ => settle (stepB B j s) j P
  | .give _ => (B, { P with ph := "given" })
  | .tryOut _ => (B, { P with ph := "trial" })
  | .goOn _ => (B, { P with ph := "still" })
  | .putBy j => settle B j { P with en := false, ph := "away" }
  | .fin j => settle B j { P with en := true, ph := "away" }
  | .on j h => (B.crew j (B.cw j ++ [h]), P)
  | .off j h => (B.crew j ((B.cw j).filter fun a => decide (a ≠ h)), P)
  | .over j a b => (B.crew j (overL (B.cw j) a b), P)
  | _ => (B, P)
theorem JSt.pre {K : PySem.W.Frag} {ow : Addr → Ro} {x : BA} {B : BS} {y : JA} {ji : Addr} {nm : Str} {P : PS} {H0 H1 H : Hp} (s : JSt K ow x B y ji nm P H1 H) (h : Same H0 H1) : JSt K ow x B y ji nm P H0 H := ⟨(KpX.same h).trans s.kp, s.b, s.j⟩
section
variable {P : Program} {w : World} {K : PySem.W.Frag} {mg : Str → Option Value} {base : Heap}
def spCallJob (K : PySem.W.Frag) : Sp := fun vs H Q E => ∃ (ow : Addr → Ro) (x : BA) (B : BS) (y : JA) (ji : Addr) (pp : Str → PS) (t : Addr) (d : Deed), vs = [.ref ji, .ref t] ∧ JAt K x.bd y ji d.name (pp d.name) H ∧ BAt K ow x B H ∧ JOk B d.name (pp d.name) ∧ ¬ d.board ∧ d.fits B ∧ DAt H t d ∧
  (∀ r, due B pp d = some r → Threw K r H E) ∧
  (due B pp d = none → ∀ H' x' y' v, x'.bd = x.bd → JSt K ow x' (jact B (pp d.name) d).1 y' ji d.name (jact B (pp d.name) d).2 H H' → ResV H' v (res B pp d) → Q v H')
abbrev N_l_call_job : List Str := ["_law_job", "_law_deed_here", "_law_word"]
theorem sc_l_call_job : FnScope N_l_call_job ["_law_job", "_law_deed_here"] (defScope s_lcall_job) := ⟨rfl, rfl, rfl, by decide +kernel, rfl, by decide +kernel, by decide +kernel⟩
theorem ok_l_call_job (T : Txt K mg) : GFn P w K mg base (L2.CX P w) 9 "_law_call_job" ["_law_job", "_law_deed_here"] (spCallJob K) := by
  refine T.f_l_call_job.ok sc_l_call_job (fun vs H Q E h => ?_) (fun f cdv A outer s H vs Q E hr h => ?_)
  · obtain ⟨ow, x, B, y, ji, pp, t, d, rfl, _⟩ := h
    rfl
  · obtain ⟨ow, x, B, y, ji, pp, t, d, rfl, j, b, ok, hb, hf, hd, k2, k1⟩ := h
    refine ⟨_, (pss_cons (ps_set (i := 2) sc_l_call_job.nd rfl (Or.inl rfl) (pe_ix ix_tup (pv 1) pe_int (fun _ _ => rfl)))
      (pss_cons (ps_if (pt_cmpR op_eq (pv 2) pe_str (nomark _))
        (pss_one (ps_ret (pe_mth (pv 0) T.clJ (ok_J_begin T) (hr.mono (by decide)) (passes_call (takes_of rfl rfl rfl rfl) fun _ _ _ _ h => h) (pa_cons (pe_callTy call_list_of (by rfl) T.b_list (by decide +kernel) (pa_cons (pe_ix ix_tup (pv 1) pe_int (fun _ _ => rfl)) pa_nil)) (pa_cons (pe_callTy call_list_of (by rfl) T.b_list (by decide +kernel) (pa_cons (pe_ix ix_tup (pv 1) pe_int (fun _ _ => rfl)) pa_nil)) pa_nil)))))
        pss_nil)
      (pss_cons (ps_if (pt_cmpR op_eq (pv 2) pe_str (nomark _))
        (pss_one (ps_ret (pe_mth0 (pv 0) T.clJ (ok_J_step T) (hr.mono (by decide)) (passes_call (takes_of rfl rfl rfl rfl) fun _ _ _ _ h => h))))
        pss_nil)
      (pss_cons (ps_if (pt_cmpR op_eq (pv 2) pe_str (nomark _))
        (pss_one (ps_ret (pe_mth0 (pv 0) T.clJ (ok_J_give T) (hr.mono (by decide)) (passes_call (takes_of rfl rfl rfl rfl) fun _ _ _ _ h => h))))
        pss_nil)
      (pss_cons (ps_if (pt_cmpR op_eq (pv 2) pe_str (nomark _))
        (pss_one (ps_ret (pe_mth0 (pv 0) T.clJ (ok_J_try_out T) (hr.mono (by decide)) (passes_call (takes_of rfl rfl rfl rfl) fun _ _ _ _ h => h))))
        pss_nil)
      (pss_cons (ps_if (pt_cmpR op_eq (pv 2) pe_str (nomark _))
        (pss_one (ps_ret (pe_mth0 (pv 0) T.clJ (ok_J_go_on T) (hr.mono (by decide)) (passes_call (takes_of rfl rfl rfl rfl) fun _ _ _ _ h => h))))
        pss_nil)
      (pss_cons (ps_if (pt_cmpR op_eq (pv 2) pe_str (nomark _))
        (pss_one (ps_ret (pe_mth0 (pv 0) T.clJ (ok_J_put_by T) (hr.mono (by decide)) (passes_call (takes_of rfl rfl rfl rfl) fun _ _ _ _ h => h))))
        pss_nil)
      (pss_cons (ps_if (pt_cmpR op_eq (pv 2) pe_str (nomark _))
        (pss_one (ps_ret (pe_mth0 (pv 0) T.clJ (ok_J_end T) (hr.mono (by decide)) (passes_call (takes_of rfl rfl rfl rfl) fun _ _ _ _ h => h))))
        pss_nil)
      (pss_cons (ps_if (pt_cmpR op_eq (pv 2) pe_str (nomark _))
        (pss_one (ps_ret (pe_mth (pv 0) T.clJ (ok_J_sign_on T) (hr.mono (by decide)) (passes_call (takes_of rfl rfl rfl rfl) fun _ _ _ _ h => h) (pa_cons (pe_ix ix_tup (pv 1) pe_int (fun _ _ => rfl)) pa_nil))))
        pss_nil)
      (pss_cons (ps_if (pt_cmpR op_eq (pv 2) pe_str (nomark _))
        (pss_one (ps_ret (pe_mth (pv 0) T.clJ (ok_J_sign_off T) (hr.mono (by decide)) (passes_call (takes_of rfl rfl rfl rfl) fun _ _ _ _ h => h) (pa_cons (pe_ix ix_tup (pv 1) pe_int (fun _ _ => rfl)) pa_nil))))
        pss_nil)
      (pss_one (ps_ret (pe_mth (pv 0) T.clJ (ok_J_hand_over T) (hr.mono (by decide)) (passes_call (takes_of rfl rfl rfl rfl) fun _ _ _ _ h => h) (pa_cons (pe_ix ix_tup (pv 1) pe_int (fun _ _ => rfl)) (pa_cons (pe_ix ix_tup (pv 1) pe_int (fun _ _ => rfl)) pa_nil))))))))))))))), ?_⟩
    obtain ⟨p, q, ht, hls⟩ := id hd
    refine ixD 0 rfl ht Deed.row0 ?_
    cases d with
    | turn | stick | mend | ask => exact absurd trivial hb
    | begin n u v =>
      refine wEqT rfl (iteT ?_)
      obtain ⟨hn, h1, h2, h3⟩ := hf
      refine ⟨_, rfl, ji, _, _, rfl, j.ob, jf_no (by decide +kernel), ?_⟩
      refine ixD 2 rfl ht rfl ⟨p, _, rfl, .inl (SqL.of hls.1), fun l hl => ?_⟩
      have s1 : Same H (upd H l (.lst (u.map V.str))) := Same.new hl
      refine ixD 3 rfl (s1 _ _ ht) rfl ⟨q, _, rfl, .inl (SqL.of (s1 _ _ hls.2)), fun r hr2 => ?_⟩
      have s2 : Same H (upd (upd H l (.lst (u.map V.str))) r (.lst (v.map V.str))) := s1.trans (Same.new hr2)
      refine ⟨ow, x, B, y, ji, n, pp n, l, r, u, v, rfl, j.same s2, b.same s2, ok, (Same.new hr2) _ _ upd_same, upd_same, h1.mono (by decide), h2.mono (by decide), h3, fun e he => (k2 e he).mono s2, fun he H' x' y' hx st => ?_⟩
      exact k1 he H' x' y' .non hx (st.pre s2) rfl
    | step n  =>
      refine wEqF rfl (by rfl) (iteF ?_)
      refine wEqT rfl (iteT ?_)
      refine ⟨_, rfl, ji, _, _, rfl, j.ob, jf_no (by decide +kernel), ow, x, B, y, ji, n, pp n, rfl, j, b, ok, k2, fun s rest he hs H' x' y' t' hx st ht' => ?_⟩
      refine k1 he H' x' y' (.ref t') hx ?_ ?_
      · have e : jact B (pp n) (.step n) = settle (stepB B n s) n (pp n) := by
          show (match B.steps n (pp n) with | [] => (B, pp n) | s :: _ => settle (stepB B n s) n (pp n)) = _
          rw [hs]
        show JSt K ow x' (jact B (pp n) (.step n)).1 y' ji n (jact B (pp n) (.step n)).2 H H'
        rw [e]
        exact st
      · have e : res B pp (.step n) = some s := by
          show (B.steps n (pp n)).head? = _
          rw [hs]
          rfl
        rw [e]
        exact ⟨t', rfl, ht'⟩
    | give n  =>
      refine wEqF rfl (by rfl) (iteF ?_)
      refine wEqF rfl (by rfl) (iteF ?_)
      refine wEqT rfl (iteT ?_)
      refine ⟨_, rfl, ji, _, _, rfl, j.ob, jf_no (by decide +kernel), ow, x, B, y, ji, n, pp n, rfl, j, b, ok, ok.ne, k2, fun he H' x' y' hx st => ?_⟩
      exact k1 he H' x' y' .non hx st rfl
    | tryOut n  =>
      refine wEqF rfl (by rfl) (iteF ?_)
      refine wEqF rfl (by rfl) (iteF ?_)
      refine wEqF rfl (by rfl) (iteF ?_)
      refine wEqT rfl (iteT ?_)
      refine ⟨_, rfl, ji, _, _, rfl, j.ob, jf_no (by decide +kernel), ow, x, B, y, ji, n, pp n, rfl, j, b, ok, ok.ne, k2, fun he H' x' y' hx st => ?_⟩
      exact k1 he H' x' y' .non hx st rfl
    | goOn n  =>
      refine wEqF rfl (by rfl) (iteF ?_)
      refine wEqF rfl (by rfl) (iteF ?_)
      refine wEqF rfl (by rfl) (iteF ?_)
      refine wEqF rfl (by rfl) (iteF ?_)
      refine wEqT rfl (iteT ?_)
      refine ⟨_, rfl, ji, _, _, rfl, j.ob, jf_no (by decide +kernel), ow, x, B, y, ji, n, pp n, rfl, j, b, ok, ok.ne, k2, fun he H' x' y' hx st => ?_⟩
      exact k1 he H' x' y' .non hx st rfl
    | putBy n  =>
      refine wEqF rfl (by rfl) (iteF ?_)
      refine wEqF rfl (by rfl) (iteF ?_)
      refine wEqF rfl (by rfl) (iteF ?_)
      refine wEqF rfl (by rfl) (iteF ?_)
      refine wEqF rfl (by rfl) (iteF ?_)
      refine wEqT rfl (iteT ?_)
      refine ⟨_, rfl, ji, _, _, rfl, j.ob, jf_no (by decide +kernel), ow, x, B, y, ji, n, pp n, rfl, j, b, ok, ok.ne, k2, fun he H' x' y' hx st => ?_⟩
      exact k1 he H' x' y' .non hx st rfl
    | fin n  =>
      refine wEqF rfl (by rfl) (iteF ?_)
      refine wEqF rfl (by rfl) (iteF ?_)
      refine wEqF rfl (by rfl) (iteF ?_)
      refine wEqF rfl (by rfl) (iteF ?_)
      refine wEqF rfl (by rfl) (iteF ?_)
      refine wEqF rfl (by rfl) (iteF ?_)
      refine wEqT rfl (iteT ?_)
      refine ⟨_, rfl, ji, _, _, rfl, j.ob, jf_no (by decide +kernel), ow, x, B, y, ji, n, pp n, rfl, j, b, ok, ok.ne, k2, fun he H' x' y' hx st => ?_⟩
      exact k1 he H' x' y' .non hx st rfl
    | on n u =>
      refine wEqF rfl (by rfl) (iteF ?_)
      refine wEqF rfl (by rfl) (iteF ?_)
      refine wEqF rfl (by rfl) (iteF ?_)
      refine wEqF rfl (by rfl) (iteF ?_)
      refine wEqF rfl (by rfl) (iteF ?_)
      refine wEqF rfl (by rfl) (iteF ?_)
      refine wEqF rfl (by rfl) (iteF ?_)
      refine wEqT rfl (iteT ?_)
      refine ⟨_, rfl, ji, _, _, rfl, j.ob, jf_no (by decide +kernel), ?_⟩
      refine ixD 2 rfl ht rfl ⟨ow, x, B, y, ji, n, pp n, u, rfl, j, b, ok, hf.2, k2, fun he H' x' y' hx st => ?_⟩
      exact k1 he H' x' y' .non hx st rfl
    | off n u =>
      refine wEqF rfl (by rfl) (iteF ?_)
      refine wEqF rfl (by rfl) (iteF ?_)
      refine wEqF rfl (by rfl) (iteF ?_)
      refine wEqF rfl (by rfl) (iteF ?_)
      refine wEqF rfl (by rfl) (iteF ?_)
      refine wEqF rfl (by rfl) (iteF ?_)
      refine wEqF rfl (by rfl) (iteF ?_)
      refine wEqF rfl (by rfl) (iteF ?_)
      refine wEqT rfl (iteT ?_)
      refine ⟨_, rfl, ji, _, _, rfl, j.ob, jf_no (by decide +kernel), ?_⟩
      refine ixD 2 rfl ht rfl ⟨ow, x, B, y, ji, n, pp n, u, rfl, j, b, ok, hf.2, k2, fun he H' x' y' hx st => ?_⟩
      exact k1 he H' x' y' .non hx st rfl
    | over n u v =>
      refine wEqF rfl (by rfl) (iteF ?_)
      refine wEqF rfl (by rfl) (iteF ?_)
      refine wEqF rfl (by rfl) (iteF ?_)
      refine wEqF rfl (by rfl) (iteF ?_)
      refine wEqF rfl (by rfl) (iteF ?_)
      refine wEqF rfl (by rfl) (iteF ?_)
      refine wEqF rfl (by rfl) (iteF ?_)
      refine wEqF rfl (by rfl) (iteF ?_)
      refine wEqF rfl (by rfl) (iteF ?_)
      refine ⟨_, rfl, ji, _, _, rfl, j.ob, jf_no (by decide +kernel), ?_⟩
      refine ixD 2 rfl ht rfl (ixD 3 rfl ht rfl ⟨ow, x, B, y, ji, n, pp n, u, v, rfl, j, b, ok, hf.2.1, hf.2.2, k2, fun he H' x' y' hx st => ?_⟩)
      exact k1 he H' x' y' .non hx st rfl
end
end Sm
namespace Sm
open PySem PySem.Spec PyProof.Rows L2
/-- the program's side behind a deed -/
def bact (B : BS) (pp : Str → PS) : Deed → BS × (Str → PS)
  | .turn d p => (B.turn d p, pp)
  | .stick d => (B.stick d, pp)
  | .mend d => (B.mend d, pp)
  | .ask j h r => (B.crew j [h], ups pp j ⟨r, "by", false, [], []⟩)
  | d => ((jact B (pp d.name) d).1, ups pp d.name (jact B (pp d.name) d).2)
theorem bact_job {B : BS} {pp : Str → PS} {d : Deed} (h : ¬ d.board) : bact B pp d = ((jact B (pp d.name) d).1, ups pp d.name (jact B (pp d.name) d).2) := by
  cases d <;> first | rfl | exact absurd trivial h
/-- the jobs asked for, by their names -/
def hkeys (hk : List Str) : Deed → List Str
  | .ask j _ _ => hk ++ [j]
  | _ => hk
def Ro.isBH (r : Ro) : Bool := r.isB || decide (r = .hr)
/-- all that stood stands, but these instances and the dicts of these roles -/
def KpA (ow : Addr → Ro) (p : Ro → Bool) (js : List Addr) (H H' : Hp) : Prop := ∀ a o, H a = some o → a ∉ js → (p (ow a) = false ∨ ∀ kvs, o ≠ .dK kvs) → H' a = some o
structure JSs (K : PySem.W.Frag) (ow : Addr → Ro) (bd : Addr) (pp : Str → PS) (hi : Addr) (hk : List Str) (ji : Str → Addr) (H : Hp) : Prop where
  he : H hi = some (.dK (dk hk fun j => .ref (ji j)))
  rhe : ow hi = .hr
  jt : ∀ j ∈ hk, ∃ y, JAt K bd y (ji j) j (pp j) H
section
variable {K : PySem.W.Frag} {ow : Addr → Ro} {bd : Addr} {pp : Str → PS} {hi : Addr} {hk : List Str} {ji : Str → Addr} {H H' : Hp}
theorem JAt.nm_inj {y y' : JA} {i : Addr} {a b : Str} {P P' : PS} {bd' : Addr} (h : JAt K bd y i a P H) (h' : JAt K bd' y' i b P' H) : a = b ∧ P.ph = P'.ph := by
  have e := h.ob
  rw [h'.ob] at e
  have e1 := (HO.ins.inj (Option.some.inj e)).2.2
  have e2 := congrArg (fun l => l.lookup ("named" : Str)) e1
  have e3 := congrArg (fun l => l.lookup ("now" : Str)) e1
  rw [jf_nm, jf_nm] at e2
  rw [jf_ph, jf_ph] at e3
  exact ⟨(V.str.inj (Option.some.inj e2)).symm, (V.str.inj (Option.some.inj e3)).symm⟩
theorem JAt.keepA {p : Ro → Bool} {js : List Addr} {y : JA} {i : Addr} {nm : Str} {P : PS} (j : JAt K bd y i nm P H) (k : KpA ow p js H H') (hn : i ∉ js) (hj : ∀ a ∈ js, ∃ C d f, H a = some (.ins C d f)) : JAt K bd y i nm P H' := by
  have nl : ∀ {a : Addr} {l : List V}, H a = some (.lst l) → a ∉ js := fun h z => by
    obtain ⟨C, d, f, e⟩ := hj _ z
    rw [h] at e
    cases e
  exact ⟨k _ _ j.ob hn (.inr (by intro _ z; cases z)), k _ _ j.la (nl j.la) (.inr (by intro _ z; cases z)), k _ _ j.lc (nl j.lc) (.inr (by intro _ z; cases z)), k _ _ j.le (nl j.le) (.inr (by intro _ z; cases z))⟩
theorem KpA.ofX {p : Ro → Bool} {i : Addr} {js : List Addr} (k : KpX ow p i H H') (hi : i ∈ js) : KpA ow p js H H' := fun a o e hn z => k a o e (fun h => hn (h ▸ hi)) z
theorem KpA.ofK {p : Ro → Bool} {js : List Addr} (k : Kp ow p H H') : KpA ow p js H H' := fun a o e _ z => k a o e z
theorem KpA.imp {p q : Ro → Bool} {js : List Addr} (k : KpA ow p js H H') (h : ∀ r, q r = false → p r = false) : KpA ow q js H H' := fun a o e hn z => k a o e hn (z.imp (h _) id)
theorem isBH_B : ∀ r : Ro, Ro.isBH r = false → Ro.isB r = false := fun r h => by
  unfold Ro.isBH at h
  cases e : r.isB
  · rfl
  · rw [e] at h; cases h
/-- a job's turn: the others stand -/
theorem JSs.job (s : JSs K ow bd pp hi hk ji H) {j : Str} (hj : j ∈ hk) {x : BA} {B : BS} {y' : JA} {P' : PS} (t : JSt K ow x B y' (ji j) j P' H H') (hx : x.bd = bd) : JSs K ow bd (ups pp j P') hi hk ji H' := by
  obtain ⟨y0, j0⟩ := s.jt j hj
  have one : ∀ a ∈ [ji j], ∃ C d f, H a = some (.ins C d f) := fun a ha => by
    rw [List.mem_singleton.mp ha]
    exact ⟨_, _, _, j0.ob⟩
  have kA : KpA ow Ro.isB [ji j] H H' := KpA.ofX t.kp List.mem_cons_self
  refine ⟨kA _ _ s.he (fun z => ?_) (.inl (by rw [s.rhe]; rfl)), s.rhe, fun k hk' => ?_⟩
  · obtain ⟨C, d, f, e⟩ := one _ z
    rw [s.he] at e
    cases e
  · by_cases e : k = j
    · subst e
      rw [ups_same, ← hx]
      exact ⟨y', t.j⟩
    · rw [ups_ne e]
      obtain ⟨y1, j1⟩ := s.jt k hk'
      refine ⟨y1, j1.keepA kA (fun z => e ?_) one⟩
      have z := List.mem_singleton.mp z
      rw [z] at j1
      exact (j1.nm_inj j0).1
theorem JSs.kp (s : JSs K ow bd pp hi hk ji H) (k : Kp ow Ro.isB H H') : JSs K ow bd pp hi hk ji H' :=
  ⟨k _ _ s.he (.inl (by rw [s.rhe]; rfl)), s.rhe, fun j hj => let ⟨y, h⟩ := s.jt j hj; ⟨y, h.keep k⟩⟩
theorem JSs.same (s : JSs K ow bd pp hi hk ji H) (k : Same H H') : JSs K ow bd pp hi hk ji H' := s.kp (Kp.same k)
/-- a new job is put there -/
theorem JSs.ask (s : JSs K ow bd pp hi hk ji H) {j : Str} {i : Addr} {y : JA} {P' : PS} (hj : j ∉ hk) (h : JAt K bd y i j P' H) : JSs K ow bd (ups pp j P') hi (hk ++ [j]) (ups ji j i) (upd H hi (.dK (dk (hk ++ [j]) (ups (fun j => .ref (ji j)) j (.ref i))))) := by
  refine ⟨?_, s.rhe, fun k hk' => ?_⟩
  · rw [upd_same]
    congr 2
    exact dk_congr fun k _ => ups_map V.ref ji j i k
  · have up : ∀ {y : JA} {i : Addr} {nm : Str} {P : PS}, JAt K bd y i nm P H → JAt K bd y i nm P (upd H hi (.dK (dk (hk ++ [j]) (ups (fun j => .ref (ji j)) j (.ref i))))) := fun h =>
      ⟨up_k h.ob s.he (by intro z; cases z), up_k h.la s.he (by intro z; cases z), up_k h.lc s.he (by intro z; cases z), up_k h.le s.he (by intro z; cases z)⟩
    by_cases e : k = j
    · subst e
      rw [ups_same, ups_same]
      have z := up h
      exact ⟨y, ⟨up_k h.ob s.he (by intro z; cases z), up_k h.la s.he (by intro z; cases z), up_k h.lc s.he (by intro z; cases z), up_k h.le s.he (by intro z; cases z)⟩⟩
    · rw [ups_ne e, ups_ne e]
      obtain ⟨y1, j1⟩ := s.jt k ((List.mem_append.mp hk').resolve_right fun z => e (List.mem_singleton.mp z))
      exact ⟨y1, ⟨up_k j1.ob s.he (by intro z; cases z), up_k j1.la s.he (by intro z; cases z), up_k j1.lc s.he (by intro z; cases z), up_k j1.le s.he (by intro z; cases z)⟩⟩
end
section
variable {P : Program} {w : World} {K : PySem.W.Frag} {mg : Str → Option Value} {base : Heap}
/-- what a call tells, and the program's side behind it -/
def CEnd (K : PySem.W.Frag) (ow : Addr → Ro) (x : BA) (B : BS) (pp : Str → PS) (hi : Addr) (hk : List Str) (ji : Str → Addr) (d : Deed) (H : Hp) (Q : VK) : Prop :=
  ∀ H' x' ji' v, x'.bd = x.bd → KpA ow Ro.isBH (hk.map ji) H H' → (∀ j ∈ hk, ji' j = ji j) → (∀ j ∈ hkeys hk d, j ∉ hk → H (ji' j) = none) → BAt K ow x' (bact B pp d).1 H' → JSs K ow x.bd (bact B pp d).2 hi (hkeys hk d) ji' H' → ResV H' v (res B pp d) → Q v H'
def spCall (K : PySem.W.Frag) : Sp := fun vs H Q E => ∃ (ow : Addr → Ro) (x : BA) (B : BS) (pp : Str → PS) (hi : Addr) (hk : List Str) (ji : Str → Addr) (t : Addr) (d : Deed), vs = [.ref x.bd, .ref hi, .ref t] ∧ BAt K ow x B H ∧ BOk B ∧ (∀ j ∈ B.jobs, JOk B j (pp j)) ∧
  JSs K ow x.bd pp hi hk ji H ∧ hk = B.jobs ∧ d.fits B ∧ DAt H t d ∧ (∀ r, due B pp d = some r → Threw K r H E) ∧ (due B pp d = none → CEnd K ow x B pp hi hk ji d H Q)
abbrev N_l_call : List Str := ["_law_board", "_law_here", "_law_deed_here", "_law_word", "_law_name_here"]
theorem sc_l_call : FnScope N_l_call ["_law_board", "_law_here", "_law_deed_here"] (defScope s_lcall) := ⟨rfl, rfl, rfl, by decide +kernel, rfl, by decide +kernel, by decide +kernel⟩
theorem ok_l_call (T : Txt K mg) : GFn P w K mg base (L2.CX P w) 10 "_law_call" ["_law_board", "_law_here", "_law_deed_here"] (spCall K) := by
  refine T.f_l_call.ok sc_l_call (fun vs H Q E h => ?_) (fun f cdv A outer s H vs Q E hr h => ?_)
  · obtain ⟨ow, x, B, pp, hi, hk, ji, t, d, rfl, _⟩ := h
    rfl
  · obtain ⟨ow, x, B, pp, hi, hk, ji, t, d, rfl, b, ok, oks, js, hhk, hf, hd, k2, k1⟩ := h
    have hu := hu_of hr
    refine ⟨_, (pss_cons (ps_par (i := 3) (j := 4) (by rfl) sc_l_call.nd rfl rfl (by decide) rfl rfl (pa_cons (pe_ix ix_tup (pv 2) pe_int (fun _ _ => rfl)) (pa_cons (pe_ix ix_tup (pv 2) pe_int (fun _ _ => rfl)) pa_nil)) (by rfl))
      (pss_cons (ps_if (pt_cmpR op_eq (pv 3) pe_str (nomark _))
        (pss_one (ps_ret (pe_mth (pv 0) T.clB (ok_B_turn T) (hr.mono (by decide)) (passes_call (takes_of rfl rfl rfl rfl) fun _ _ _ _ h => h) (pa_cons (pv 4) (pa_cons (pe_ix ix_tup (pv 2) pe_int (fun _ _ => rfl)) pa_nil)))))
        pss_nil)
      (pss_cons (ps_if (pt_cmpR op_eq (pv 3) pe_str (nomark _))
        (pss_one (ps_ret (pe_mth (pv 0) T.clB (ok_B_stick T) (hr.mono (by decide)) (passes_call (takes_of rfl rfl rfl rfl) fun _ _ _ _ h => h) (pa_cons (pv 4) pa_nil))))
        pss_nil)
      (pss_cons (ps_if (pt_cmpR op_eq (pv 3) pe_str (nomark _))
        (pss_one (ps_ret (pe_mth (pv 0) T.clB (ok_B_mend T) (hr.mono (by decide)) (passes_call (takes_of rfl rfl rfl rfl) fun _ _ _ _ h => h) (pa_cons (pv 4) pa_nil))))
        pss_nil)
      (pss_cons (ps_if (pt_cmpR op_eq (pv 3) pe_str (nomark _))
        (pss_cons (ps_dput hu (pv 1) (pv 4) (pe_mk (ok_J_init T) (hr.mono (by decide)) (passes_call (takes_of rfl rfl rfl rfl) fun _ _ _ _ h => h) (pa_cons (pv 0) (pa_cons (pv 4) (pa_cons (pe_ix ix_tup (pv 2) pe_int (fun _ _ => rfl)) (pa_cons (pe_callTy call_list_of (by rfl) T.b_list (by decide +kernel) (pa_cons (pe_ix ix_tup (pv 2) pe_int (fun _ _ => rfl)) pa_nil)) pa_nil))))) rfl)
      (pss_one (ps_ret pe_non)))
        pss_nil)
      (pss_one (ps_ret (pe_fn (ok_l_call_job T) (hr.mono (by decide)) (passes_call (takes_of rfl rfl rfl rfl) fun _ _ _ _ h => h) (pa_cons (pe_dget hu (pv 1) (pv 4) (fun _ _ => rfl)) (pa_cons (pv 2) pa_nil)))))))))), ?_⟩
    obtain ⟨p, q, ht, hls⟩ := id hd
    refine ixD 0 rfl ht Deed.row0 (ixD 1 rfl ht Deed.row1 ⟨_, _, rfl, ?_⟩)
    have jins : ∀ a ∈ hk.map ji, ∃ C d f, H a = some (.ins C d f) := fun a ha => by
      obtain ⟨j, hj, rfl⟩ := List.mem_map.mp ha
      obtain ⟨y, h⟩ := js.jt j hj
      exact ⟨_, _, _, h.ob⟩
    by_cases hbd : d.board
    · cases d with
      | turn d0 x0 =>
        refine wEqT rfl (iteT ?_)
        refine ⟨_, rfl, _, _, _, rfl, b.ob, bf_no (by decide +kernel), _, rfl, ixD 2 rfl ht rfl ?_⟩
        refine ⟨ow, x, B, d0, x0, rfl, b, ok, hf.1, hf.2, k2, fun he H' x' hx kp b' => ?_⟩
        exact k1 he H' x' ji .non hx ((KpA.ofK kp).imp isBH_B) (fun _ _ => rfl) (fun j hj hn => absurd hj hn) b' (js.kp kp) rfl
      | stick d0 =>
        refine wEqF rfl (by rfl) (iteF (wEqT rfl (iteT ?_)))
        refine ⟨_, rfl, _, _, _, rfl, b.ob, bf_no (by decide +kernel), _, rfl, ?_⟩
        have hR : due B pp (.stick d0) = if d0 ∈ B.devs then none else some (.lacks d0) := rfl
        refine ⟨ow, x, B, d0, rfl, b, ok, hf, fun hn => k2 _ (by rw [hR, if_neg hn]), fun hm H' x' hx kp b' => ?_⟩
        exact k1 (by rw [hR, if_pos hm]) H' x' ji .non hx ((KpA.ofK kp).imp isBH_B) (fun _ _ => rfl) (fun j hj hn => absurd hj hn) b' (js.kp kp) rfl
      | mend d0 =>
        refine wEqF rfl (by rfl) (iteF (wEqF rfl (by rfl) (iteF (wEqT rfl (iteT ?_)))))
        refine ⟨_, rfl, _, _, _, rfl, b.ob, bf_no (by decide +kernel), _, rfl, ?_⟩
        have hR : due B pp (.mend d0) = if d0 ∈ B.devs then none else some (.lacks d0) := rfl
        refine ⟨ow, x, B, d0, rfl, b, ok, hf, fun hn => k2 _ (by rw [hR, if_neg hn]), fun hm H' x' hx kp b' => ?_⟩
        exact k1 (by rw [hR, if_pos hm]) H' x' ji .non hx ((KpA.ofK kp).imp isBH_B) (fun _ _ => rfl) (fun j hj hn => absurd hj hn) b' (js.kp kp) rfl
      | ask j h r =>
        refine wEqF rfl (by rfl) (iteF (wEqF rfl (by rfl) (iteF (wEqF rfl (by rfl) (iteF (wEqT rfl (iteT ?_)))))))
        refine ⟨_, rfl, _, rfl, ixD 2 rfl ht rfl (ixD 3 rfl ht rfl ⟨p, _, rfl, .inl (SqL.of hls), fun l hl => ?_⟩)⟩
        have s1 : Same H (upd H l (.lst (r.map V.str))) := Same.new hl
        have hl1 : (upd H l (.lst (r.map V.str))) l = some (.lst (r.map V.str)) := upd_same
        generalize (upd H l (.lst (r.map V.str))) = H1 at s1 hl1 ⊢
        intro i dx hi1 hdx1 hne
        have s2 : Same H1 (upd (upd H1 dx (.own i)) i (.ins (cJ K) dx [])) := (Same.new hdx1).trans (Same.new (by rw [upd_ne hne.symm]; exact hi1))
        have hin : (upd (upd H1 dx (.own i)) i (.ins (cJ K) dx [])) i = some (.ins (cJ K) dx []) := upd_same
        have s12 := s1.trans s2
        have hiH : H i = none := by
          cases e : H i with
          | none => rfl
          | some o => have := s1 _ _ e; rw [hi1] at this; cases this
        refine ⟨ow, x, B, i, dx, j, h, l, r, rfl, hin, b.same s12, ok, hf.1, hf.2.1, s2 _ _ hl1, hf.2.2.1, hf.2.2.2, fun e he => (k2 e he).mono s12, fun he H3 x3 y3 hx st => ⟨rfl, ?_⟩⟩
        have hjn : j ∉ B.jobs := fun z => by
          have e : askR B j = some (.there j) := if_pos z
          rw [e] at he
          cases he
        have hlen := ok.jb.len
        have js2 := js.same s12
        have kA : KpA ow Ro.isB [i] (upd (upd H1 dx (.own i)) i (.ins (cJ K) dx [])) H3 := KpA.ofX st.kp List.mem_cons_self
        have hil : ∀ a ∈ [i], ∃ C d f, (upd (upd H1 dx (.own i)) i (.ins (cJ K) dx [])) a = some (.ins C d f) := fun a ha => by rw [List.mem_singleton.mp ha]; exact ⟨_, _, _, hin⟩
        have js3 : JSs K ow x.bd pp hi hk ji H3 := by
          refine ⟨kA _ _ js2.he (fun z => ?_) (.inl (by rw [js2.rhe]; rfl)), js2.rhe, fun k hk' => ?_⟩
          · obtain ⟨C, d, f, e⟩ := hil _ z
            rw [js2.he] at e
            cases e
          · obtain ⟨y1, j1⟩ := js.jt k hk'
            refine ⟨y1, (j1.same s12).keepA kA (fun z => ?_) hil⟩
            have e := j1.ob
            rw [List.mem_singleton.mp z, hiH] at e
            cases e
        refine ⟨_, rfl, _, rfl, _, _, rfl, dp_new js3.he (by rw [hhk]; omega) (by rw [hhk]; exact hjn), ?_⟩
        have js4 := js3.ask (P' := ⟨r, "by", false, [], []⟩) (by rw [hhk]; exact hjn) (by rw [← hx]; exact st.j)
        have kp4 : Kp ow (fun r => decide (r = .hr)) H3 (upd H3 hi (.dK (dk (hk ++ [j]) (ups (fun j => .ref (ji j)) j (.ref i))))) := Kp.refl.upd (by show decide (ow hi = .hr) = true; rw [js.rhe]; rfl) js3.he
        have b4 := st.b.keep kp4 fun r hr => by cases r <;> first | rfl | cases hr
        refine k1 he _ x3 (ups ji j i) .non hx ?_ (fun k hk' => ups_ne fun z => hjn (by rw [← z, ← hhk]; exact hk')) (fun k hk' hn => ?_) b4 js4 rfl
        · intro a o e hn z
          refine kp4 _ _ (kA _ _ (s12 _ _ e) (fun z => ?_) (z.imp (isBH_B _) id)) (z.imp (fun z => ?_) id)
          · rw [List.mem_singleton.mp z, hiH] at e
            cases e
          · unfold Ro.isBH at z
            exact (Bool.or_eq_false_iff.mp z).2
        · have : k = j := List.mem_singleton.mp ((List.mem_append.mp hk').resolve_left hn)
          subst this
          rw [ups_same]
          exact hiH
      | begin | step | give | tryOut | goOn | putBy | fin | on | off | over => exact hbd.elim
    · have hj := Deed.fits_job hf hbd
      have hjk : d.name ∈ hk := by rw [hhk]; exact hj
      obtain ⟨y, hjt⟩ := js.jt _ hjk
      refine wEqF rfl (by cases d <;> first | rfl | exact absurd trivial hbd) (iteF ?_)
      refine wEqF rfl (by cases d <;> first | rfl | exact absurd trivial hbd) (iteF ?_)
      refine wEqF rfl (by cases d <;> first | rfl | exact absurd trivial hbd) (iteF ?_)
      refine wEqF rfl (by cases d <;> first | rfl | exact absurd trivial hbd) (iteF ?_)
      refine ⟨_, rfl, _, rfl, _, _, rfl, dgs js.he hjk, _, rfl, ?_⟩
      refine ⟨ow, x, B, y, ji d.name, pp, t, d, rfl, hjt, b, oks _ hj, hbd, hf, hd, k2, fun he H' x' y' v hx st hv => ?_⟩
      have hkk : hkeys hk d = hk := by cases d <;> first | rfl | exact absurd trivial hbd
      have eb := bact_job (B := B) (pp := pp) hbd
      have c := k1 he H' x' ji v hx ((KpA.ofX st.kp (List.mem_map.mpr ⟨_, hjk, rfl⟩)).imp isBH_B) (fun _ _ => rfl)
      rw [hkk, eb] at c
      exact c (fun j hj hn => absurd hj hn) st.b (js.job hjk st hx) hv
end
end Sm
namespace Sm
open PySem PySem.Spec PyProof.Rows L2
/-! ### a def called in an except suite, on the error that is handled -/
/-- a promise on the error: its place, class and dict -/
abbrev SpE := Addr → Value → Option Addr → Sp
def ErrAt (cls : Value) (d : Option Addr) (p : Addr × Obj) : Prop := Zc cls d p.2 ∧ ∃ vs, p.2.data = .fields vs
section
variable (P : Program) (w : World) (K : PySem.W.Frag) (mg : Str → Option Value) (base : Heap)
structure FnE (CX : CXT) (k : Nat) (f : Addr) (fd : FuncData) (ps : List Str) (sp : SpE) : Prop where
  len : ∀ a c d vs H Q E, sp a c d vs H Q E → vs.length = ps.length
  run : ∀ (A : Around) (outer : List Env) (s : Shared) (H : Hp) (args : Args) (us : List Value) (vs : List V) (Q : VK) (E : XK) (p : Addr × Obj) (cls : Value) (d : Option Addr), L2H.RoomH k A → ErrAt cls d p → L2H.PinOk outer H s p → Env0 P w K mg base A outer s H → BindsTo s fd args (ps.zip us) → Vals vs us → sp p.1 cls d vs H Q E →
    codeAny (model P w) A (.call (.ref f) args) (CR CX outer P w H s Q E) s
end
section
variable {CX : CXT} {P : Program} {w : World} {K : PySem.W.Frag} {mg : Str → Option Value} {base : Heap} {k : Nat}
theorem fn_ofE {f : Addr} {name qual : Str} {params : Arguments} {body : List Stmt} {scope : Scope} {dV kV doc pm cdv ct oc : Value} {an od : Option Addr}
    {osl : Array (Option Value)} {N ps : List Str} {sp : SpE} (lk : K.lookup f = some ⟨oc, od, .func (PySem.W.fnOf name qual params body scope dV kV doc pm an cdv ct), osl⟩) (hcd : PySem.W.codeIn K cdv qual = true) (S : FnScope N ps scope)
    (len : ∀ a c d vs H Q E, sp a c d vs H Q E → vs.length = ps.length)
    (hbody : ∀ (A : Around) (outer : List Env) (s : Shared) (H : Hp) (vs : List V) (Q : VK) (E : XK) (p : Addr × Obj) (cls : Value) (d : Option Addr), ErrAt cls d p → L2H.RoomH k (A.deeper (envOfC qual scope s.heap.objs.size f cdv)) → sp p.1 cls d vs H Q E →
      ∃ t, PSs (L2H.cxH CX P w K mg base N qual scope f cdv A outer s H E p) body t ∧ t { nx := fun _ H' => Q .non H', rt := Q } (L2.start N vs) H) :
    FnE P w K mg base CX (k + 1) f (PySem.W.fnOf name qual params body scope dV kV doc pm an cdv ct) ps sp := by
  refine ⟨len, fun A outer s H args us vs Q E p cls d hr herr hpin e0 hb r hsp => ?_⟩
  have hl := len _ _ _ _ _ _ _ hsp
  have KX : K.In s.heap := e0.mod.kin.keeps fun b o e => (e0.bs b o e).1
  have lim : s.heap.NoLimit := e0.mod.nolimit.keeps fun b o e => (e0.bs b o e).1
  have hkind : ∀ y ∈ ps.zip us, scope.names.lookup y.1 = some .local ∨ (scope.names.lookup y.1 = some .cell ∧ ((cellsFrom (s.heap.objs.size + 1) scope.names []).lookup y.1).isSome = true) := fun ⟨n, v⟩ hy => by
    rcases S.par n (List.of_mem_zip hy).1 with q | q
    · exact .inl q
    · exact .inr ⟨q, PySem.W.cellsFrom_some _ _ _ (.inl q)⟩
  refine codeAny_call_function hr.depth (KX _ _ lk) rfl S.co S.gen rfl (PySem.W.codeRec_of KX hcd) (hb _ _ _ _ ?_)
  refine wpAny_newFunctionEnv_cells S.kind hkind fun env he s1 x => ?_
  subst he
  refine ⟨lim.keeps x.toInCall.keep, codeAny_func ?_⟩
  obtain ⟨t, ht, hq⟩ := hbody A outer s H vs Q E p cls d herr (hr.deeper _) hsp
  have I : Inv (L2H.cxH CX P w K mg base N qual scope f cdv A outer s H E p) [] (L2.start N vs) H s1 := L2H.inv_startH S hpin e0 hl r x
  refine wpAny_mono (ht.run [] s1 (L2.start N vs) H _ I hq) (fun fl s' hs => ?_) fun e s' hs => hs
  cases fl with
  | ret u =>
    obtain ⟨v, σ', H', J, rv, q⟩ := hs
    exact ⟨v, H', J.os, J.bare, J.base, J.hok, rv, q⟩
  | next =>
    obtain ⟨σ', H', J, q⟩ := hs
    exact ⟨V.non, H', J.os, J.bare, J.base, J.hok, rfl, q⟩
  | brk =>
    obtain ⟨_, _, _, q⟩ := hs
    exact False.elim q
  | cont =>
    obtain ⟨_, _, _, q⟩ := hs
    exact False.elim q
end
section
variable {X : Cx} {CX : CXT} {k : Nat} {f : Addr} {fd : FuncData} {ps : List Str} {sp : SpE} {E : XK} {x : Str} {q pos : Pos} {e : Expr} {es : List Expr} {t : TA}
/-- the call: the error stands among the pins -/
theorem pe_callE {a : Addr} {oe : Obj} {cls : Value} {d : Option Addr} (hp : (a, oe) ∈ X.pn) (he0 : ErrAt cls d (a, oe)) (F : FnE X.prog X.w X.K X.mg X.base CX k f fd ps sp) (hr : L2H.RoomH k X.A) (hg : Gl X x) (hm : X.mg x = some (.ref f)) (hk : PySem.W.keepIn X.K (.ref f) = true) (hb : Binds X.K fd ps []) (hx : Passes CX X E)
    (ha : PA X (e :: es) t) (hdb : (x == ("__debug__" : Str)) = false := by decide) (he : starEach (e :: es) X.env = (false, eval e X.env) :: starEach es X.env := by rfl) (hpl : (backTo pos (starEach es X.env)).any (·.1) = false := by rfl) :
    PE X (.Call (.Name x q) (e :: es) [] pos) (tCall (sp a cls d) [] E t) := by
  refine ⟨fun pins s σ H Q I h => ?_⟩
  refine wpAny_Call_Name_kw (ld_glob I hg hm ?_ hdb)
  refine PySem.W.callWith_K (h₀ := X.base) I.ok.mod.kin hk (thn (ha.run pos pins s σ H _ I h) fun us s1 ⟨vs, H1, I1, r, q⟩ => ⟨I1.kIn, ?_⟩) he hpl
  have q : sp a cls d (vs ++ []) H1 Q E := q
  rw [List.append_nil] at q
  have hl : us.length = ps.length := by rw [← r.length]; exact F.len _ _ _ _ _ _ _ q
  have b := hb s1 us I1.kIn (by rw [List.append_nil]; exact hl)
  rw [List.append_nil] at b
  have P1 := I1.pin (a, oe) (List.mem_append_left _ hp)
  have hpin : L2H.PinOk X.stack H1 s1 (a, oe) := ⟨P1.1, P1.2.1, fun hm => (List.mem_cons.mp (I1.stkSub a hm)).elim P1.2.2.1 P1.2.2.2.1, P1.2.2.2.2⟩
  refine wpAny_call (codeAny_mono (F.run X.A X.stack s1 H1 ⟨us, []⟩ us vs Q E (a, oe) cls d hr he0 hpin I1.env0 b r q) fun r s' hq => ?_)
  cases r with
  | error e => exact hx pins σ H1 s1 e s' I1 hq
  | ok fl =>
    cases fl with
    | ret u => exact I1.after hq
    | next => exact False.elim hq
    | brk => exact False.elim hq
    | cont => exact False.elim hq
end
/-! ### isinstance of it, its fields -/
def rIsD (K : PySem.W.Frag) (a : Addr) (cls : Value) (d : Option Addr) : List V → Hp → VK → Prop := fun xs H Q => ∃ (D : Addr) (dd : Addr) (fs : List (Str × V)) (c : V) (cv : Value) (b : Bool),
  cls = .ref D ∧ d = some dd ∧ H dd = some (.xd fs) ∧ ExcC K D ∧ xs = [.ref a, c] ∧ (∀ u, RelV c u → u = cv) ∧ PySem.W.kitOne K (.ref D) cv = some b ∧ Q (.bl b) H
section
variable {X : Cx} {a : Addr} {oe : Obj} {cls : Value} {d : Option Addr}
theorem err_inst {pins : List (Addr × Obj)} {σ : L2.St} {H : Hp} {s : Shared} (I : Inv X pins σ H s) (hp : (a, oe) ∈ X.pn) {D dd : Addr} {fs : List (Str × V)} (he : ErrAt (.ref D) (some dd) (a, oe)) (ea : H dd = some (.xd fs)) :
    ∃ (od : Obj) (mA : Str → Option Value), PySem.W.InstAt s.heap a oe D (some od) ∧ (∀ n, PySem.W.lookIn n od = some (mA n)) ∧ ∀ n, RelO (fs.lookup n) (mA n) := by
  obtain ⟨ha, _⟩ := I.pin (a, oe) (List.mem_append_left _ hp)
  obtain ⟨hz, vs, hd⟩ := he
  have hx : ObjOk X.prog X.w H s.heap dd (.xd fs) := I.hok dd _ ea
  obtain ⟨mA, hns, hr⟩ := hx
  obtain ⟨od, ho, hl⟩ := lookIn_ns hns
  exact ⟨od, mA, ⟨ha, hz.1, by unfold PySem.W.notCls; rw [hd] <;> rfl, by rw [hz.2]; exact ho⟩, hl, hr⟩
theorem call_isD (hp : (a, oe) ∈ X.pn) (he : ErrAt cls d (a, oe)) : CallR X (.builtin "isinstance") (rIsD X.K a cls d) := by
  intro pins s σ H xs us Q I r h
  obtain ⟨D, dd, fs, c, cv, b, rfl, rfl, ea, C, rfl, hcv, e, q⟩ := h
  cases r with
  | cons rx rr =>
    cases rr with
    | cons rt rr =>
      cases rr
      cases rx
      have ec := hcv _ rt
      subst ec
      obtain ⟨od, mA, J, _⟩ := err_inst I hp he ea
      obtain ⟨cdD, hcD, _⟩ := PySem.W.any_some C.hd
      exact PySem.W.kia_one (PySem.W.kitx_exc (by rw [hcD]; rfl) C.hg C.hk C.hs C.ha C.hn C.ht C.hm) I.kIn J e (fun z => nomatch z) fun tk => ⟨.bl b, H, I.kept (t' := tk) fun _ _ z => z, rfl, q⟩
/-- a field of it -/
def tXD (K : PySem.W.Frag) (a : Addr) (cls : Value) (d : Option Addr) (f : Str) (te : TE) : TE := fun σ H Q => te σ H fun x H1 => x = .ref a ∧ ∃ (C dd : Addr) (fs : List (Str × V)) (v : V), cls = .ref C ∧ ExcC K C ∧ PySem.W.findIn K (.ref C) f = some none ∧ d = some dd ∧ H1 dd = some (.xd fs) ∧ fs.lookup f = some v ∧ Q v H1
theorem pe_xD {e : Expr} {te : TE} {pos : Pos} {n : Str} (hp : (a, oe) ∈ X.pn) (hr : ErrAt cls d (a, oe)) (he : PE X e te) (hb : attributeBase e n X.env (eval e X.env) = eval e X.env := by rfl) : PE X (.Attribute e n pos) (tXD X.K a cls d n te) := by
  refine ⟨fun pins s σ H Q I h => ?_⟩
  refine attr_of hb (thn (he.run pins s σ H _ I h) fun u s1 hh => ?_)
  obtain ⟨x, H1, I1, rx, ex, C, dd, fs, v, ec, T, hno, ed, ea, l, q⟩ := hh
  subst ex
  obtain rfl : u = Value.ref a := rx
  subst ec
  subst ed
  obtain ⟨od, mA, J, hl, hm⟩ := err_inst I1 hp hr ea
  obtain ⟨u, hu, ru⟩ := RelO.some_of (v := v) (o := mA n) (by rw [← l]; exact hm n)
  exact HandSPX.exc_get I1.kIn J T.hg T.hk T.hs (PySem.W.findObj_own T.hd hno rfl (by rw [hl, hu])) (handed_of ru) ⟨v, H1, I1.tok _, ru, q⟩
/-! ### list.count, flat items -/
def rCountF (K : PySem.W.Frag) : V → List V → Hp → VK → Prop := fun x xs H Q => ∃ (a : Addr) (ys : List V) (y : V), x = V.ref a ∧ xs = [y] ∧ SqL K H a ys ∧ flatV y = true ∧ ys.all flatV = true ∧ Q (.int (ys.countP fun z => eqV z y : Nat)) H
theorem countU {y : V} : ∀ {ys : List V} {us : List Value}, Vals ys us → ys.all flatV = true → us.countP (eqU y) = ys.countP fun z => eqV z y
  | _, _, .nil, _ => rfl
  | z :: ys, u :: us, .cons r t, f => by
    rw [List.all_cons, Bool.and_eq_true] at f
    rw [List.countP_cons, List.countP_cons, countU t f.2, eqU_of r f.1]
theorem mt_countF : MtR X "list.count" (rCountF X.K) := by
  intro pins s σ H x xs v us Q I rx rxs h
  obtain ⟨a, ys, y, rfl, rfl, hs, fy, fys, q⟩ := h
  cases rx
  cases rxs with
  | cons ry rt =>
    rename_i uy ut
    cases rt
    obtain ⟨its, rv, ⟨⟨cls, dd, data, sl⟩, n, ho, hc, hdn, hd⟩, hlen⟩ := I.list hs
    simp only at hc hd
    subst hc hd
    refine call_meets PySem.F.slot_list_count ⟨_, ho, rfl⟩ PySem.F.entry_list_count (PySem.F.args_list_count_2 _ _)
      (SeqAt.list_countAt a its.toArray n dd sl uy (eqU y)) ⟨ho, fun u' hu' => mem_eqAt ry fy rv fys u' (by simpa using hu'), ?_⟩
    rw [show its.toArray.toList = its from rfl, countU rv fys]
    exact ⟨.int (ys.countP fun z => eqV z y : Nat), H, I.tok _, ⟨_, rfl⟩, q⟩
end
end Sm
namespace Sm
open PySem PySem.Spec PyProof.Rows L2
section
variable {X : Cx} {pos : Pos}
theorem gx_There (T : Txt X.K X.mg) (hg : Gl X "There" := by rfl) : PE X (.Name "There" pos) (tC (.ref (cX X.K "There"))) := pe_glob hg T.x_There.gm rfl
theorem gx_Lacks (T : Txt X.K X.mg) (hg : Gl X "Lacks" := by rfl) : PE X (.Name "Lacks" pos) (tC (.ref (cX X.K "Lacks"))) := pe_glob hg T.x_Lacks.gm rfl
theorem gx_Stuck (T : Txt X.K X.mg) (hg : Gl X "Stuck" := by rfl) : PE X (.Name "Stuck" pos) (tC (.ref (cX X.K "Stuck"))) := pe_glob hg T.x_Stuck.gm rfl
theorem gx_TooMany (T : Txt X.K X.mg) (hg : Gl X "TooMany" := by rfl) : PE X (.Name "TooMany" pos) (tC (.ref (cX X.K "TooMany"))) := pe_glob hg T.x_TooMany.gm rfl
theorem gx_Held (T : Txt X.K X.mg) (hg : Gl X "Held" := by rfl) : PE X (.Name "Held" pos) (tC (.ref (cX X.K "Held"))) := pe_glob hg T.x_Held.gm rfl
theorem gx_NotNow (T : Txt X.K X.mg) (hg : Gl X "NotNow" := by rfl) : PE X (.Name "NotNow" pos) (tC (.ref (cX X.K "NotNow"))) := pe_glob hg T.x_NotNow.gm rfl
theorem gx_Wrong (T : Txt X.K X.mg) (hg : Gl X "Wrong" := by rfl) : PE X (.Name "Wrong" pos) (tC (.ref (cX X.K "Wrong"))) := pe_glob hg T.x_Wrong.gm rfl
theorem bl_ValueError (T : Txt X.K X.mg) (hg : Gl X "ValueError" := by rfl) : PE X (.Name "ValueError" pos) (tC (.ty "ValueError")) := pe_bltn hg T.b_ValueError (u := .type "ValueError") (by decide +kernel) rfl
end
theorem Rf.is_same {r : Rf} {H H' : Hp} {v : V} (h : r.is H v) (s : Same H H') : r.is H' v := by
  cases r <;> first | exact h | exact let ⟨l, e, hl⟩ := h; ⟨l, e, s _ _ hl⟩
/-- what the classes say -/
structure RfT (K : PySem.W.Frag) (r : Rf) : Prop where
  ec : ExcC K (cX K r.nm)
  no : PySem.W.findIn K (.ref (cX K r.nm)) r.fld = some none
  kit : ∀ y ∈ seven, PySem.W.kitOne K (.ref (cX K r.nm)) (.ref (cX K y)) = some (decide (r.nm = y))
  kve : PySem.W.kitOne K (.ref (cX K r.nm)) (.type "ValueError") = some true
  exm : PySem.W.exmOne K (.ref (cX K r.nm)) (.ref (cX K "MainsError")) = some true
theorem Txt.rf {K : PySem.W.Frag} {mg : Str → Option Value} (T : Txt K mg) (r : Rf) : RfT K r := by
  cases r
  · exact ⟨T.x_There.ec, T.x_There.no, T.x_There.kit, T.x_There.kve, T.x_There.exm⟩
  · exact ⟨T.x_Lacks.ec, T.x_Lacks.no, T.x_Lacks.kit, T.x_Lacks.kve, T.x_Lacks.exm⟩
  · exact ⟨T.x_TooMany.ec, T.x_TooMany.no, T.x_TooMany.kit, T.x_TooMany.kve, T.x_TooMany.exm⟩
  · exact ⟨T.x_Held.ec, T.x_Held.no, T.x_Held.kit, T.x_Held.kve, T.x_Held.exm⟩
  · exact ⟨T.x_Stuck.ec, T.x_Stuck.no, T.x_Stuck.kit, T.x_Stuck.kve, T.x_Stuck.exm⟩
  · exact ⟨T.x_NotNow.ec, T.x_NotNow.no, T.x_NotNow.kit, T.x_NotNow.kve, T.x_NotNow.exm⟩
section
variable {P : Program} {w : World} {K : PySem.W.Frag} {mg : Str → Option Value} {base : Heap}
def spClass (K : PySem.W.Frag) : SpE := fun a cls d vs H Q _ => ∃ (r : Rf) (dd : Addr) (v : V), vs = [.ref a] ∧ cls = .ref (cX K r.nm) ∧ d = some dd ∧ H dd = some (.xd [(r.fld, v)]) ∧ r.is H v ∧ ∀ H' t, Same H H' → DueV H' (.ref t) (some r) → Q (.ref t) H'
theorem isRead {K : PySem.W.Frag} {σ : L2.St} {H : Hp} {a dd : Addr} {r : Rf} {fs : List (Str × V)} {Q : VK} (R : RfT K r) (h0 : σ[0]? = some (some (.ref a))) (ea : H dd = some (.xd fs)) (y : Str) (hy : y ∈ seven) (q : Q (.bl (decide (r.nm = y))) H) :
    tCB (rIsD K a (.ref (cX K r.nm)) (some dd)) (tCons (tVar 0) (tCons (tC (.ref (cX K y))) tNil)) σ H Q :=
  ⟨_, h0, cX K r.nm, dd, fs, .ref (cX K y), _, _, rfl, rfl, ea, R.ec, rfl, fun u hu => hu, R.kit y hy, q⟩
abbrev N_l_class : List Str := ["_law_e", "_law_kinds", "_law_at"]
theorem sc_l_class : FnScope N_l_class ["_law_e"] (defScope s_lclass) := ⟨rfl, rfl, rfl, by decide +kernel, rfl, by decide +kernel, by decide +kernel⟩
def GFnE (P : Program) (w : World) (K : PySem.W.Frag) (mg : Str → Option Value) (base : Heap) (CX : CXT) (k : Nat) (x : Str) (ps : List Str) (sp : SpE) : Prop :=
  ∃ f fd, FnE P w K mg base CX k f fd ps sp ∧ mg x = some (.ref f) ∧ PySem.W.keepIn K (.ref f) = true ∧ Binds K fd ps []
theorem ok_l_class (T : Txt K mg) : GFnE P w K mg base CX0 1 "_law_class" ["_law_e"] (spClass K) := by
  obtain ⟨f, fd, F, hm, hb⟩ := T.f_l_class
  refine ⟨f, fd, ?_, hm, F.kp, hb⟩
  obtain ⟨oc, od, dV, kV, doc, pm, an, cdv, ct, osl, rfl, lk, hcd, _, _⟩ := F.ex
  refine fn_ofE lk hcd sc_l_class (fun a c d vs H Q E h => ?_) (fun A outer s H vs Q E p cls d herr hr h => ?_)
  · obtain ⟨r, dd, v, rfl, _⟩ := h
    rfl
  · obtain ⟨r, dd, v, rfl, rfl, rfl, ea, hv, k⟩ := h
    obtain ⟨a, oe⟩ := p
    have hpn : (a, oe) ∈ [(a, oe)] := List.mem_cons_self
    refine ⟨_, (pss_cons (ps_set (i := 1) sc_l_class.nd rfl (Or.inl rfl) (pe_lst (pa_cons (pe_callB (call_isD hpn herr) (by rfl) T.b_isinstance (by decide +kernel) (pa_cons (pv 0) (pa_cons (gx_There T) pa_nil))) (pa_cons (pe_callB (call_isD hpn herr) (by rfl) T.b_isinstance (by decide +kernel) (pa_cons (pv 0) (pa_cons (gx_Lacks T) pa_nil))) (pa_cons (pe_callB (call_isD hpn herr) (by rfl) T.b_isinstance (by decide +kernel) (pa_cons (pv 0) (pa_cons (gx_Stuck T) pa_nil))) (pa_cons (pe_callB (call_isD hpn herr) (by rfl) T.b_isinstance (by decide +kernel) (pa_cons (pv 0) (pa_cons (gx_TooMany T) pa_nil))) pa_nil))))))
      (pss_cons (ps_set (i := 1) sc_l_class.nd rfl (Or.inl rfl) (pe_op op_cat (pv 1) (pe_lst (pa_cons (pe_callB (call_isD hpn herr) (by rfl) T.b_isinstance (by decide +kernel) (pa_cons (pv 0) (pa_cons (gx_Held T) pa_nil))) (pa_cons (pe_callB (call_isD hpn herr) (by rfl) T.b_isinstance (by decide +kernel) (pa_cons (pv 0) (pa_cons (gx_NotNow T) pa_nil))) (pa_cons (pe_callB (call_isD hpn herr) (by rfl) T.b_isinstance (by decide +kernel) (pa_cons (pv 0) (pa_cons (gx_Wrong T) pa_nil))) pa_nil))))))
      (pss_cons (ps_if (PW.pt (pw_or (pt_not (pt_val (pe_callB (call_isD hpn herr) (by rfl) T.b_isinstance (by decide +kernel) (pa_cons (pv 0) (pa_cons (bl_ValueError T) pa_nil))))) (pw_or1 (pt_cmpR op_ne (pe_bm PySem.F.plainAttrs_list PySem.F.slot_list_count PySem.F.type_list_count mt_countF (pv 1) (pa_cons pe_bl pa_nil)) pe_int (nomark _)))))
        (pss_one (ps_ret (pe_tup (pa_cons pe_str pa_nil))))
        pss_nil)
      (pss_cons (ps_set (i := 2) sc_l_class.nd rfl (Or.inl rfl) (pe_bm PySem.F.plainAttrs_list PySem.F.slot_list_index PySem.F.type_list_index mt_index (pv 1) (pa_cons pe_bl pa_nil)))
      (pss_cons (ps_if (pt_cmpR op_lt (pv 2) pe_int (nomark _))
        (pss_one (ps_ret (pe_tup (pa_cons (pe_ix ix_list (pe_lst (pa_cons pe_str (pa_cons pe_str (pa_cons pe_str pa_nil)))) (pv 2) (fun _ _ => rfl)) (pa_cons (pe_xD hpn herr (pv 0)) pa_nil)))))
        pss_nil)
      (pss_cons (ps_if (pt_cmpR op_eq (pv 2) pe_int (nomark _))
        (pss_one (ps_ret (pe_tup (pa_cons pe_str (pa_cons (pe_xD hpn herr (pv 0)) pa_nil)))))
        pss_nil)
      (pss_cons (ps_if (pt_cmpR op_eq (pv 2) pe_int (nomark _))
        (pss_one (ps_ret (pe_tup (pa_cons pe_str (pa_cons (pe_xD hpn herr (pv 0)) pa_nil)))))
        pss_nil)
      (pss_cons (ps_if (pt_cmpR op_eq (pv 2) pe_int (nomark _))
        (pss_one (ps_ret (pe_tup (pa_cons pe_str (pa_cons (pe_xD hpn herr (pv 0)) pa_nil)))))
        pss_nil)
      (pss_one (ps_ret (pe_tup (pa_cons pe_str (pa_cons (pe_xD hpn herr (pv 0)) pa_nil))))))))))))), ?_⟩
    have R := T.rf r
    have h7 : ∀ y, y ∈ seven → ∀ {σ : L2.St} {H : Hp} {Q : VK}, σ[0]? = some (some (.ref a)) → H dd = some (.xd [(r.fld, v)]) → Q (.bl (decide (r.nm = y))) H → tCB (rIsD K a (.ref (cX K r.nm)) (some dd)) (tCons (tVar 0) (tCons (tC (.ref (cX K y))) tNil)) σ H Q := fun y hy _ _ _ h0 ea q => isRead R h0 ea y hy q
    refine h7 "There" (by decide) rfl ea (h7 "Lacks" (by decide) rfl ea (h7 "Stuck" (by decide) rfl ea (h7 "TooMany" (by decide) rfl ea ?_)))
    refine ⟨by show 4 ≤ sizeLine; decide, fun q1 hq1 => ?_⟩
    have s1 := Same.new (o := .lst [V.bl (decide (r.nm = "There")), V.bl (decide (r.nm = "Lacks")), V.bl (decide (r.nm = "Stuck")), V.bl (decide (r.nm = "TooMany"))]) hq1
    have hp1 : (upd H q1 (.lst [V.bl (decide (r.nm = "There")), V.bl (decide (r.nm = "Lacks")), V.bl (decide (r.nm = "Stuck")), V.bl (decide (r.nm = "TooMany"))])) q1 = some (.lst [V.bl (decide (r.nm = "There")), V.bl (decide (r.nm = "Lacks")), V.bl (decide (r.nm = "Stuck")), V.bl (decide (r.nm = "TooMany"))]) := upd_same
    generalize (upd H q1 (.lst [V.bl (decide (r.nm = "There")), V.bl (decide (r.nm = "Lacks")), V.bl (decide (r.nm = "Stuck")), V.bl (decide (r.nm = "TooMany"))])) = H1 at s1 hp1 ⊢
    have ea1 := s1 _ _ ea
    refine ⟨_, rfl, h7 "Held" (by decide) rfl ea1 (h7 "NotNow" (by decide) rfl ea1 (h7 "Wrong" (by decide) rfl ea1 ?_))⟩
    refine ⟨by show 3 ≤ sizeLine; decide, fun q2 hq2 => ?_⟩
    have s2 := Same.new (o := .lst [V.bl (decide (r.nm = "Held")), V.bl (decide (r.nm = "NotNow")), V.bl (decide (r.nm = "Wrong"))]) hq2
    refine ⟨q1, q2, _, _, rfl, rfl, s2 _ _ hp1, upd_same, by show 7 ≤ sizeLine; decide, fun q3 hq3 => ?_⟩
    have s3 := s2.trans (Same.new (o := .lst ([V.bl (decide (r.nm = "There")), V.bl (decide (r.nm = "Lacks")), V.bl (decide (r.nm = "Stuck")), V.bl (decide (r.nm = "TooMany"))] ++ [V.bl (decide (r.nm = "Held")), V.bl (decide (r.nm = "NotNow")), V.bl (decide (r.nm = "Wrong"))])) hq3)
    have hp3 : (upd (upd H1 q2 (.lst [V.bl (decide (r.nm = "Held")), V.bl (decide (r.nm = "NotNow")), V.bl (decide (r.nm = "Wrong"))])) q3 (.lst ([V.bl (decide (r.nm = "There")), V.bl (decide (r.nm = "Lacks")), V.bl (decide (r.nm = "Stuck")), V.bl (decide (r.nm = "TooMany"))] ++ [V.bl (decide (r.nm = "Held")), V.bl (decide (r.nm = "NotNow")), V.bl (decide (r.nm = "Wrong"))]))) q3 = some (.lst (seven.map fun y => V.bl (decide (r.nm = y)))) := upd_same
    generalize (upd (upd H1 q2 (.lst [V.bl (decide (r.nm = "Held")), V.bl (decide (r.nm = "NotNow")), V.bl (decide (r.nm = "Wrong"))])) q3 (.lst ([V.bl (decide (r.nm = "There")), V.bl (decide (r.nm = "Lacks")), V.bl (decide (r.nm = "Stuck")), V.bl (decide (r.nm = "TooMany"))] ++ [V.bl (decide (r.nm = "Held")), V.bl (decide (r.nm = "NotNow")), V.bl (decide (r.nm = "Wrong"))]))) = H3 at s3 hp3 ⊢
    have ea3 := s3 _ _ ea1
    have s13 := s1.trans s3
    refine ⟨_, rfl, cX K r.nm, dd, _, .ty "ValueError", .type "ValueError", true, rfl, rfl, ea3, R.ec, rfl, fun u hu => hu, R.kve, true, rfl, iteF ?_⟩
    have fin : ∀ (nm : Str) (hn : nm = r.nm) (H' : Hp) (t : Addr), Same H3 H' → H' t = none → Q (.ref t) (upd H' t (.tup [.str nm, v])) := fun nm hn H' t s ht => k _ t ((s13.trans s).trans (Same.new ht)) (DueV.mk upd_same hn (Rf.is_same hv ((s13.trans s).trans (Same.new ht))))
    have fld : ∀ (fld : Str), fld = r.fld → ∀ {σ : L2.St} {H' : Hp} {Q' : VK}, σ[0]? = some (some (.ref a)) → Same H3 H' → Q' v H' → tXD K a (.ref (cX K r.nm)) (some dd) fld (tVar 0) σ H' Q' := fun fld hf _ H' _ h0 s q => by
      subst hf
      exact ⟨_, h0, rfl, cX K r.nm, dd, _, v, rfl, R.ec, R.no, rfl, s _ _ ea3, by show List.lookup r.fld [(r.fld, v)] = some v; simp [List.lookup], q⟩
    cases r with
    | there n =>
      refine ⟨_, rfl, .inl ⟨rfl, _, SqL.of hp3⟩, ⟨q3, _, .bl true, rfl, rfl, SqL.of hp3, rfl, by rfl, rfl, false, by rfl, iteF ?_⟩⟩
      refine ⟨_, rfl, .inl ⟨rfl, _, SqL.of hp3⟩, q3, _, .bl true, 0, _, rfl, rfl, SqL.of hp3, rfl, by rfl, by rfl, by rfl, fun m z hm hz => ?_, ?_⟩
      · exact absurd hm (by omega)
      refine ⟨_, rfl, _, _, rfl, rfl, true, by rfl, iteT ?_⟩
      refine ⟨by show 3 ≤ sizeLine; decide, fun l hl => ⟨_, rfl, l, _, 0, .str "There", rfl, rfl, SqL.of upd_same, by rfl, ?_⟩⟩
      refine fld "name" rfl rfl (Same.new hl) ⟨by show 2 ≤ sizeLine; decide, fun t ht => fin _ rfl _ t (Same.new hl) ht⟩
    | lacks n =>
      refine ⟨_, rfl, .inl ⟨rfl, _, SqL.of hp3⟩, ⟨q3, _, .bl true, rfl, rfl, SqL.of hp3, rfl, by rfl, rfl, false, by rfl, iteF ?_⟩⟩
      refine ⟨_, rfl, .inl ⟨rfl, _, SqL.of hp3⟩, q3, _, .bl true, 1, _, rfl, rfl, SqL.of hp3, rfl, by rfl, by rfl, by rfl, fun m z hm hz => ?_, ?_⟩
      · have hz : (seven.map fun y => V.bl (decide (("Lacks" : Str) = y)))[m]? = some z := hz
        obtain rfl : m = 0 := by omega
        cases Option.some.inj hz; rfl
      refine ⟨_, rfl, _, _, rfl, rfl, true, by rfl, iteT ?_⟩
      refine ⟨by show 3 ≤ sizeLine; decide, fun l hl => ⟨_, rfl, l, _, 1, .str "Lacks", rfl, rfl, SqL.of upd_same, by rfl, ?_⟩⟩
      refine fld "name" rfl rfl (Same.new hl) ⟨by show 2 ≤ sizeLine; decide, fun t ht => fin _ rfl _ t (Same.new hl) ht⟩
    | stuck n =>
      refine ⟨_, rfl, .inl ⟨rfl, _, SqL.of hp3⟩, ⟨q3, _, .bl true, rfl, rfl, SqL.of hp3, rfl, by rfl, rfl, false, by rfl, iteF ?_⟩⟩
      refine ⟨_, rfl, .inl ⟨rfl, _, SqL.of hp3⟩, q3, _, .bl true, 2, _, rfl, rfl, SqL.of hp3, rfl, by rfl, by rfl, by rfl, fun m z hm hz => ?_, ?_⟩
      · have hz : (seven.map fun y => V.bl (decide (("Stuck" : Str) = y)))[m]? = some z := hz
        obtain h | h  := (by omega : m = 0 ∨ m = 1)
        all_goals (subst h; cases Option.some.inj hz; rfl)
      refine ⟨_, rfl, _, _, rfl, rfl, true, by rfl, iteT ?_⟩
      refine ⟨by show 3 ≤ sizeLine; decide, fun l hl => ⟨_, rfl, l, _, 2, .str "Stuck", rfl, rfl, SqL.of upd_same, by rfl, ?_⟩⟩
      refine fld "name" rfl rfl (Same.new hl) ⟨by show 2 ≤ sizeLine; decide, fun t ht => fin _ rfl _ t (Same.new hl) ht⟩
    | tooMany n =>
      refine ⟨_, rfl, .inl ⟨rfl, _, SqL.of hp3⟩, ⟨q3, _, .bl true, rfl, rfl, SqL.of hp3, rfl, by rfl, rfl, false, by rfl, iteF ?_⟩⟩
      refine ⟨_, rfl, .inl ⟨rfl, _, SqL.of hp3⟩, q3, _, .bl true, 3, _, rfl, rfl, SqL.of hp3, rfl, by rfl, by rfl, by rfl, fun m z hm hz => ?_, ?_⟩
      · have hz : (seven.map fun y => V.bl (decide (("TooMany" : Str) = y)))[m]? = some z := hz
        obtain h | h | h  := (by omega : m = 0 ∨ m = 1 ∨ m = 2)
        all_goals (subst h; cases Option.some.inj hz; rfl)
      refine ⟨_, rfl, _, _, rfl, rfl, false, by rfl, iteF ?_⟩
      refine ⟨_, rfl, rfl, true, by rfl, iteT ?_⟩
      refine fld "most" rfl rfl (Same.refl _) ⟨by show 2 ≤ sizeLine; decide, fun t ht => fin _ rfl _ t (Same.refl _) ht⟩
    | held n =>
      refine ⟨_, rfl, .inl ⟨rfl, _, SqL.of hp3⟩, ⟨q3, _, .bl true, rfl, rfl, SqL.of hp3, rfl, by rfl, rfl, false, by rfl, iteF ?_⟩⟩
      refine ⟨_, rfl, .inl ⟨rfl, _, SqL.of hp3⟩, q3, _, .bl true, 4, _, rfl, rfl, SqL.of hp3, rfl, by rfl, by rfl, by rfl, fun m z hm hz => ?_, ?_⟩
      · have hz : (seven.map fun y => V.bl (decide (("Held" : Str) = y)))[m]? = some z := hz
        obtain h | h | h | h  := (by omega : m = 0 ∨ m = 1 ∨ m = 2 ∨ m = 3)
        all_goals (subst h; cases Option.some.inj hz; rfl)
      refine ⟨_, rfl, _, _, rfl, rfl, false, by rfl, iteF ?_⟩
      refine ⟨_, rfl, rfl, false, by rfl, iteF ?_⟩
      refine ⟨_, rfl, rfl, true, by rfl, iteT ?_⟩
      refine fld "hands" rfl rfl (Same.refl _) ⟨by show 2 ≤ sizeLine; decide, fun t ht => fin _ rfl _ t (Same.refl _) ht⟩
    | notNow n =>
      refine ⟨_, rfl, .inl ⟨rfl, _, SqL.of hp3⟩, ⟨q3, _, .bl true, rfl, rfl, SqL.of hp3, rfl, by rfl, rfl, false, by rfl, iteF ?_⟩⟩
      refine ⟨_, rfl, .inl ⟨rfl, _, SqL.of hp3⟩, q3, _, .bl true, 5, _, rfl, rfl, SqL.of hp3, rfl, by rfl, by rfl, by rfl, fun m z hm hz => ?_, ?_⟩
      · have hz : (seven.map fun y => V.bl (decide (("NotNow" : Str) = y)))[m]? = some z := hz
        obtain h | h | h | h | h  := (by omega : m = 0 ∨ m = 1 ∨ m = 2 ∨ m = 3 ∨ m = 4)
        all_goals (subst h; cases Option.some.inj hz; rfl)
      refine ⟨_, rfl, _, _, rfl, rfl, false, by rfl, iteF ?_⟩
      refine ⟨_, rfl, rfl, false, by rfl, iteF ?_⟩
      refine ⟨_, rfl, rfl, false, by rfl, iteF ?_⟩
      refine ⟨_, rfl, rfl, true, by rfl, iteT ?_⟩
      refine fld "job" rfl rfl (Same.refl _) ⟨by show 2 ≤ sizeLine; decide, fun t ht => fin _ rfl _ t (Same.refl _) ht⟩
end
end Sm
namespace Sm
open PySem PySem.Spec PyProof.Rows L2
section
variable {X : Cx} {CX : CXT} {k : Nat} {ps : List Str} {sp : Sp} {E : L2.St → XK} {x : Str} {p pos : Pos} {e : Expr} {es : List Expr} {t : TA}
theorem pe_fnS (F : GFn X.prog X.w X.K X.mg X.base CX k x ps sp) (hr : Room k X.A) (hx : ∀ σ, PassesAt CX X σ (E σ)) (ha : PA X (e :: es) t) (hg : Gl X x := by rfl)
    (hdb : (x == ("__debug__" : Str)) = false := by decide) (he : starEach (e :: es) X.env = (false, eval e X.env) :: starEach es X.env := by rfl) (hpl : (backTo pos (starEach es X.env)).any (·.1) = false := by rfl) :
    PE X (.Call (.Name x p) (e :: es) [] pos) (tCallS sp E t) := by
  obtain ⟨f, fd, F, hm, hk, hb⟩ := F
  exact pe_callS F hr hg hm hk hb hx ha hdb he hpl
theorem pe_fnE {a : Addr} {oe : Obj} {cls : Value} {d : Option Addr} {sp : SpE} {E : XK} (hp : (a, oe) ∈ X.pn) (he0 : ErrAt cls d (a, oe)) (F : GFnE X.prog X.w X.K X.mg X.base CX k x ps sp) (hr : L2H.RoomH k X.A) (hx : Passes CX X E) (ha : PA X (e :: es) t) (hg : Gl X x := by rfl)
    (hdb : (x == ("__debug__" : Str)) = false := by decide) (he : starEach (e :: es) X.env = (false, eval e X.env) :: starEach es X.env := by rfl) (hpl : (backTo pos (starEach es X.env)).any (·.1) = false := by rfl) :
    PE X (.Call (.Name x p) (e :: es) [] pos) (tCall (sp a cls d) [] E t) := by
  obtain ⟨f, fd, F, hm, hk, hb⟩ := F
  exact pe_callE hp he0 F hr hg hm hk hb hx ha hdb he hpl
end
theorem DueV.same {H H' : Hp} {v : V} {o : Option Rf} (h : DueV H v o) (s : Same H H') : DueV H' v o := by
  cases o with
  | none => exact h
  | some r => exact let ⟨t, x, e, ht, hx⟩ := h; ⟨t, x, e, s _ _ ht, Rf.is_same hx s⟩
section
variable {P : Program} {w : World} {K : PySem.W.Frag} {mg : Str → Option Value} {base : Heap}
def spSay (K : PySem.W.Frag) : Sp := fun vs H Q E => ∃ (ow : Addr → Ro) (x : BA) (B : BS) (pp : Str → PS) (hi : Addr) (hk : List Str) (ji : Str → Addr) (t : Addr) (d : Deed), vs = [.ref x.bd, .ref hi, .ref t] ∧ BAt K ow x B H ∧ BOk B ∧ (∀ j ∈ B.jobs, JOk B j (pp j)) ∧
  JSs K ow x.bd pp hi hk ji H ∧ hk = B.jobs ∧ d.fits B ∧ DAt H t d ∧
  (∀ r, due B pp d = some r → ∀ H' t v, Same H H' → H' t = some (.tup [.str "refused", v]) → DueV H' v (some r) → Q (.ref t) H') ∧
  (due B pp d = none → CEnd K ow x B pp hi hk ji d H fun v H1 => ∀ H' t, Same H1 H' → H' t = some (.tup [.str "told", v]) → Q (.ref t) H')
abbrev N_l_say : List Str := ["_law_board", "_law_here", "_law_deed_here", "_law_found", "_law_e"]
theorem sc_l_say : FnScope N_l_say ["_law_board", "_law_here", "_law_deed_here"] (defScope s_lsay) := ⟨rfl, rfl, rfl, by decide +kernel, rfl, by decide +kernel, by decide +kernel⟩
theorem ok_l_say (T : Txt K mg) : GFn P w K mg base CX0 11 "_law_say" ["_law_board", "_law_here", "_law_deed_here"] (spSay K) := by
  refine T.f_l_say.ok0 sc_l_say (fun vs H Q E h => ?_) (fun f cdv A outer s H vs Q E hr h => ?_)
  · obtain ⟨ow, x, B, pp, hi, hk, ji, t, d, rfl, _⟩ := h
    rfl
  · obtain ⟨ow, x, B, pp, hi, hk, ji, t, d, rfl, b, ok, oks, js, hhk, hf, hd, k2, k1⟩ := h
    have hu := hu_of hr
    refine ⟨_, (pss_cons (ps_set (i := 3) sc_l_say.nd rfl (Or.inl rfl) pe_non)
      (pss_cons (ps_try_as (i := 4) (Wout := fun _ _ _ _ => False) rfl rfl sc_l_say.nd rfl rfl ⟨rfl, by decide, .inl T.me.gm⟩ (fun u s' ⟨_, _, _, _, _, _, _, _, _, _, _, _, _, _, _, _, w⟩ => w.elim)
        (fun W pn xe tk po => pss_one (ps_set (i := 3) sc_l_say.nd rfl (Or.inl rfl) (pe_fnS (ok_l_call T) (hr.mono (by decide)) (fun σ => passAt tk σ) (pa_cons (pv 0) (pa_cons (pv 1) (pa_cons (pv 2) pa_nil))))))
        (fun a oe cls d pn hz hv => pss_one (ps_ret (pe_tup (pa_cons pe_str (by exact (pa_cons (pe_fnE List.mem_cons_self ⟨hz, hv⟩ (ok_l_class T) (let z : L2H.RoomH 1 _ := (L2H.roomH_of hr).mono (by decide); ⟨z.dp, z.un⟩) pass0 (pa_cons (pv 4) pa_nil)) pa_nil)))))))
      (pss_one (ps_ret (pe_tup (pa_cons pe_str (pa_cons (pv 3) pa_nil))))))), ?_⟩
    refine ⟨_, rfl, _, rfl, _, rfl, ow, x, B, pp, hi, hk, ji, t, d, rfl, b, ok, oks, js, hhk, hf, hd, fun r hr2 => ?_, fun hn H' x' ji' v hx kp hj hj2 b' js' hv => ?_⟩
    · intro dd H' v s1 ea hv
      refine ⟨true, (T.rf r).exm, fun _ a ha => ?_, fun z => by cases z⟩
      refine ⟨_, rfl, r, dd, v, rfl, rfl, rfl, ea, hv, fun H2 u s2 hd2 => ?_⟩
      exact ⟨by show 2 ≤ sizeLine; decide, fun q hq => k2 r hr2 _ q _ ((s1.trans s2).trans (Same.new hq)) upd_same (hd2.same (Same.new hq))⟩
    · refine ⟨_, rfl, by show 2 ≤ sizeLine; decide, fun q hq => ?_⟩
      exact k1 hn H' x' ji' v hx kp hj hj2 b' js' hv _ q (Same.new hq) upd_same
end
end Sm
namespace Sm
open PySem PySem.Spec PyProof.Rows L2
/-- the board and the law's m say the same: but the order of stuck and of tags -/
structure Sim (B L : BS) : Prop where
  dv : B.devs = L.devs
  pl : B.pl = L.pl
  hm : B.hm = L.hm
  jb : B.jobs = L.jobs
  cw : B.cw = L.cw
  fs : ∀ d, d ∈ B.fs ↔ d ∈ L.fs
  ms : ∀ d j, j ∈ B.ms d ↔ j ∈ L.ms d
  fn : L.fs.Nodup
  mn : ∀ d, (L.ms d).Nodup
section
variable {B L : BS} {pp : Str → PS}
theorem Sim.on (s : Sim B L) : B.on = L.on := by
  funext j d
  exact decide_eq_decide.mpr (s.ms d j)
theorem Sim.steps (s : Sim B L) (j : Str) (P : PS) : B.steps j P = L.steps j P := by
  unfold BS.steps
  rw [s.pl, s.hm, s.on]
theorem Sim.ok (s : Sim B L) (ok : BOk B) : BOk L where
  dv := s.dv ▸ ok.dv
  pl := fun d hd => by rw [← s.pl]; exact ok.pl d (by rw [s.dv]; exact hd)
  hm := fun d hd => by rw [← s.hm]; exact ok.hm d (by rw [s.dv]; exact hd)
  fs := ⟨s.fn, fun d hd => by rw [← s.dv]; exact ok.fs.2 d ((s.fs d).mpr hd)⟩
  ms := fun d hd => ⟨s.mn d, fun j hj => by rw [← s.jb]; exact (ok.ms d (by rw [s.dv]; exact hd)).2 j ((s.ms d j).mpr hj)⟩
  jb := s.jb ▸ ok.jb
  cw := fun j hj => by rw [← s.cw]; exact ok.cw j (by rw [s.jb]; exact hj)
theorem Sim.jok (s : Sim B L) {j : Str} {P : PS} (k : JOk B j P) : JOk L j P where
  ok := s.ok k.ok
  po := { k.po with sub := fun d hd => by rw [← s.dv]; exact k.po.sub d hd }
  jn := by rw [← s.jb]; exact k.jn
  on := fun d hd hm => k.on d (by rw [s.dv]; exact hd) ((s.ms d j).mpr hm)
theorem nil_mem {l m : List Str} (h : ∀ a, a ∈ l ↔ a ∈ m) : l = [] ↔ m = [] := by
  constructor
  · rintro rfl
    cases m with
    | nil => rfl
    | cons a r => exact absurd ((h a).mpr List.mem_cons_self) (by simp)
  · rintro rfl
    cases l with
    | nil => rfl
    | cons a r => exact absurd ((h a).mp List.mem_cons_self) (by simp)
theorem ite_congr' {α : Type} {p q : Prop} [Decidable p] [Decidable q] {a b c d : α} (h : p ↔ q) (h1 : a = c) (h2 : b = d) : (if p then a else b) = if q then c else d := by
  by_cases e : p
  · rw [if_pos e, if_pos (h.mp e), h1]
  · rw [if_neg e, if_neg fun z => e (h.mpr z), h2]
theorem Sim.len (s : Sim B L) (ok : BOk B) {d : Str} (hd : d ∈ B.devs) : (B.ms d).length = (L.ms d).length :=
  ((List.perm_ext_iff_of_nodup (ok.ms d hd).1 (s.mn d)).mpr fun a => s.ms d a).length_eq
theorem Sim.stepR (s : Sim B L) (ok : BOk B) {j : Str} {P : PS} (po : POk B P) : stepR B j P = stepR L j P := by
  unfold Sm.stepR
  rw [s.steps]
  cases e : L.steps j P with
  | nil => rfl
  | cons a r =>
    obtain ⟨d, o⟩ := a
    have hm := mem_steps ok po (s := (d, o)) (j := j) (by rw [s.steps, e]; exact List.mem_cons_self)
    cases o with
    | none =>
      show freeR B d j = freeR L d j
      unfold freeR
      rw [s.len ok hm.2.1, s.pl, s.hm]
      exact ite_congr' (and_congr Iff.rfl (and_congr Iff.rfl (s.fs d))) rfl rfl
    | some t =>
      show holdR B d t j = holdR L d t j
      have ho : ∀ a, a ∈ oth (B.ms d) (some j) ↔ a ∈ oth (L.ms d) (some j) := fun a => by rw [oth_mem, oth_mem, s.ms]
      unfold holdR
      rw [s.pl, s.cw, hset_congr ho]
      exact ite_congr' Iff.rfl rfl (ite_congr' (not_congr (nil_mem ho)) rfl (ite_congr' (s.fs d) rfl rfl))
theorem Sim.due (s : Sim B L) (ok : BOk B) (oks : ∀ j ∈ B.jobs, JOk B j (pp j)) {d : Deed} (hf : d.fits B) : due B pp d = due L pp d := by
  cases d with
  | turn d p =>
    show turnR B d p = turnR L d p
    unfold turnR
    rw [s.pl, s.cw, s.dv, hset_congr (s.ms d)]
    exact ite_congr' Iff.rfl rfl (ite_congr' (not_congr (nil_mem (s.ms d))) rfl (ite_congr' (and_congr Iff.rfl (s.fs d)) rfl rfl))
  | stick d => show (if d ∈ B.devs then none else some (Rf.lacks d)) = if d ∈ L.devs then none else some (Rf.lacks d); rw [s.dv]
  | mend d => show (if d ∈ B.devs then none else some (Rf.lacks d)) = if d ∈ L.devs then none else some (Rf.lacks d); rw [s.dv]
  | ask j h r => show askR B j = askR L j; unfold askR; rw [s.jb]
  | begin j sw dr => show beginR B j (pp j) sw dr = beginR L j (pp j) sw dr; unfold beginR lackR; rw [s.dv]
  | step j => exact s.stepR ok (oks j hf).po
  | give j => show giveR B j (pp j) = giveR L j (pp j); unfold giveR; rw [s.steps]
  | tryOut j => show tryR B j (pp j) = tryR L j (pp j); unfold tryR heldR; rw [s.cw]
  | goOn j => rfl
  | putBy j => show putR B j (pp j) = putR L j (pp j); unfold putR heldR; rw [s.cw]
  | fin j => show endR B j (pp j) = endR L j (pp j); unfold endR heldR; rw [s.cw]
  | on j h => show onR B j (pp j) h = onR L j (pp j) h; unfold onR; rw [s.cw]
  | off j h => show offR B j (pp j) h = offR L j (pp j) h; unfold offR; rw [s.cw]
  | over j a b => show overR B j a b = overR L j a b; unfold overR; rw [s.cw]
theorem Sim.res (s : Sim B L) (d : Deed) : res B pp d = res L pp d := by
  cases d <;> first | rfl | (show (B.steps _ _).head? = (L.steps _ _).head?; rw [s.steps])
theorem Sim.fits (s : Sim B L) {d : Deed} (h : d.fits B) : d.fits L := by
  cases d <;> first | exact h | exact ⟨by rw [← s.jb]; exact h.1, h.2⟩ | (show _ ∈ L.jobs; rw [← s.jb]; exact h)
/-! ### deeds, on both sides -/
theorem Sim.crew (s : Sim B L) (j : Str) (hs : List Str) : Sim (B.crew j hs) (L.crew j hs) where
  dv := s.dv
  pl := s.pl
  hm := s.hm
  jb := by show addk B.jobs j = addk L.jobs j; rw [s.jb]
  cw := by show ups B.cw j hs = ups L.cw j hs; rw [s.cw]
  fs := s.fs
  ms := s.ms
  fn := s.fn
  mn := s.mn
theorem Sim.leave (s : Sim B L) (j : Str) : Sim (B.leave j) (L.leave j) where
  dv := s.dv
  pl := s.pl
  hm := s.hm
  jb := by show B.jobs.filter _ = L.jobs.filter _; rw [s.jb]
  cw := s.cw
  fs := s.fs
  ms := s.ms
  fn := s.fn
  mn := s.mn
theorem Sim.turn (s : Sim B L) (d p : Str) : Sim (B.turn d p) (L.turn d p) where
  dv := s.dv
  pl := by show ups B.pl d p = ups L.pl d p; rw [s.pl]
  hm := by show ups B.hm d p = ups L.hm d p; rw [s.hm]
  jb := s.jb
  cw := s.cw
  fs := s.fs
  ms := s.ms
  fn := s.fn
  mn := s.mn
theorem Sim.stick (s : Sim B L) (d : Str) : Sim (B.stick d) (L.lstick d) where
  dv := s.dv
  pl := s.pl
  hm := s.hm
  jb := s.jb
  cw := s.cw
  fs := fun a => by
    show a ∈ addk B.fs d ↔ a ∈ (L.fs.filter fun a => decide (a ≠ d)) ++ [d]
    rw [mem_addk, mem_filt_snoc, s.fs]
  ms := s.ms
  fn := filt_snoc_nd s.fn
  mn := s.mn
theorem Sim.mend (s : Sim B L) (d : Str) : Sim (B.mend d) (L.mend d) where
  dv := s.dv
  pl := s.pl
  hm := s.hm
  jb := s.jb
  cw := s.cw
  fs := fun a => by
    show a ∈ B.fs.filter _ ↔ a ∈ L.fs.filter _
    rw [List.mem_filter, List.mem_filter, s.fs]
  ms := s.ms
  fn := s.fn.sublist List.filter_sublist
  mn := s.mn
theorem Sim.step (s : Sim B L) (ok : BOk B) {j : Str} {st : Stp} (hd : st.1 ∈ B.devs) : Sim (stepB B j st) (lstep L j st) := by
  obtain ⟨d, o⟩ := st
  cases o with
  | none =>
    show Sim (B.free d j) (L.free d j)
    exact { s with
      pl := by
        show ups B.pl d (if (B.ms d).length = 1 then B.hm d else B.pl d) = ups L.pl d (if (L.ms d).length = 1 then L.hm d else L.pl d)
        rw [s.len ok hd, s.pl, s.hm]
      ms := fun a k => by
        show k ∈ ups B.ms d _ a ↔ k ∈ ups L.ms d _ a
        by_cases e : a = d
        · subst e
          rw [ups_same, ups_same, List.mem_filter, List.mem_filter, s.ms]
        · rw [ups_ne e, ups_ne e, s.ms]
      mn := fun a => by
        show (ups L.ms d _ a).Nodup
        by_cases e : a = d
        · subst e
          rw [ups_same]
          exact (s.mn a).sublist List.filter_sublist
        · rw [ups_ne e]
          exact s.mn a }
  | some t =>
    show Sim (B.hold d t j) (L.lhold d t j)
    exact { s with
      pl := by show ups B.pl d t = ups L.pl d t; rw [s.pl]
      ms := fun a k => by
        show k ∈ ups B.ms d _ a ↔ k ∈ ups L.ms d _ a
        by_cases e : a = d
        · subst e
          rw [ups_same, ups_same, mem_addk, mem_filt_snoc, s.ms]
        · rw [ups_ne e, ups_ne e, s.ms]
      mn := fun a => by
        show (ups L.ms d _ a).Nodup
        by_cases e : a = d
        · subst e
          rw [ups_same]
          exact filt_snoc_nd (s.mn a)
        · rw [ups_ne e]
          exact s.mn a }
theorem Sim.settle (s : Sim B L) (j : Str) (P : PS) : Sim (settle B j P).1 (settle L j P).1 ∧ (settle B j P).2 = (settle L j P).2 := by
  unfold Sm.settle
  rw [s.steps]
  by_cases h : P.ph = "away" ∧ L.steps j P = []
  · rw [if_pos h, if_pos h]
    by_cases e : P.en = true
    · rw [if_pos e, if_pos e]
      exact ⟨s.leave j, rfl⟩
    · rw [if_neg e, if_neg e]
      exact ⟨s, rfl⟩
  · rw [if_neg h, if_neg h]
    exact ⟨s, rfl⟩
theorem Sim.act (s : Sim B L) (ok : BOk B) (oks : ∀ j ∈ B.jobs, JOk B j (pp j)) {d : Deed} (hf : d.fits B) : Sim (bact B pp d).1 (lact L pp d).1 ∧ (bact B pp d).2 = (lact L pp d).2 := by
  cases d with
  | turn d p => exact ⟨s.turn d p, rfl⟩
  | stick d => exact ⟨s.stick d, rfl⟩
  | mend d => exact ⟨s.mend d, rfl⟩
  | ask j h r => exact ⟨s.crew j [h], rfl⟩
  | begin j sw dr => exact ⟨s, rfl⟩
  | give j => exact ⟨s, rfl⟩
  | tryOut j => exact ⟨s, rfl⟩
  | goOn j => exact ⟨s, rfl⟩
  | putBy j =>
    obtain ⟨h1, h2⟩ := s.settle j { pp j with en := false, ph := "away" }
    exact ⟨h1, congrArg (ups pp j) h2⟩
  | fin j =>
    obtain ⟨h1, h2⟩ := s.settle j { pp j with en := true, ph := "away" }
    exact ⟨h1, congrArg (ups pp j) h2⟩
  | on j h =>
    refine ⟨?_, ups_id⟩
    show Sim (B.crew j (B.cw j ++ [h])) (L.crew j (L.cw j ++ [h]))
    rw [s.cw]
    exact s.crew _ _
  | off j h =>
    refine ⟨?_, ups_id⟩
    show Sim (B.crew j ((B.cw j).filter _)) (L.crew j ((L.cw j).filter _))
    rw [s.cw]
    exact s.crew _ _
  | over j a b =>
    refine ⟨?_, ups_id⟩
    show Sim (B.crew j (overL (B.cw j) a b)) (L.crew j (overL (L.cw j) a b))
    rw [s.cw]
    exact s.crew _ _
  | step j =>
    have e1 : bact B pp (.step j) = ((match B.steps j (pp j) with | [] => (B, pp j) | t :: _ => Sm.settle (stepB B j t) j (pp j)).1, ups pp j (match B.steps j (pp j) with | [] => (B, pp j) | t :: _ => Sm.settle (stepB B j t) j (pp j)).2) := rfl
    have e2 : lact L pp (.step j) = (match L.steps j (pp j) with | [] => (L, pp) | t :: _ => setl (lstep L j t) pp j) := rfl
    rw [e1, e2, s.steps]
    cases e : L.steps j (pp j) with
    | nil => exact ⟨s, ups_id⟩
    | cons t r =>
      have hm := mem_steps ok (oks j hf).po (s := t) (j := j) (by rw [s.steps, e]; exact List.mem_cons_self)
      obtain ⟨h1, h2⟩ := (s.step ok (j := j) hm.2.1).settle j (pp j)
      exact ⟨h1, congrArg (ups pp j) h2⟩
end
end Sm
namespace Sm
open PySem PySem.Spec PyProof.Rows L2
structure EndP (P : PS) : Prop where
  ph : P.ph = "ended"
  cu : P.cu = []
  em : P.em = []
section
variable {B B' : BS} {pp : Str → PS}
theorem JOk.move {j : Str} {P : PS} (k : JOk B j P) (ok : BOk B') (hd : B'.devs = B.devs) (hj : j ∈ B'.jobs) (hm : ∀ d ∈ B.devs, j ∈ B'.ms d → j ∈ B.ms d) : JOk B' j P where
  ok := ok
  po := { k.po with sub := fun d h => by rw [hd]; exact k.po.sub d h }
  jn := hj
  on := fun d hd' h => k.on d (by rw [← hd]; exact hd') (hm d (by rw [← hd]; exact hd') h)
theorem oks_job (oks : ∀ j ∈ B.jobs, JOk B j (pp j)) {nm : Str} {P' : PS} (ok : BOk B') (hd : B'.devs = B.devs) (hj : ∀ k ∈ B'.jobs, k ∈ B.jobs ∨ k = nm) (hm : ∀ k, k ≠ nm → ∀ d ∈ B.devs, k ∈ B'.ms d → k ∈ B.ms d) (h : nm ∈ B'.jobs → JOk B' nm P') :
    ∀ j ∈ B'.jobs, JOk B' j (ups pp nm P' j) := fun j hj' => by
  by_cases e : j = nm
  · subst e
    rw [ups_same]
    exact h hj'
  · rw [ups_ne e]
    exact (oks j ((hj j hj').resolve_right e)).move ok hd hj' (hm j e)
theorem JOk.settle {nm : Str} {P : PS} (k : JOk B nm P) : BOk (settle B nm P).1 ∧ (settle B nm P).1.devs = B.devs ∧ (settle B nm P).1.ms = B.ms ∧ (nm ∈ (settle B nm P).1.jobs → JOk (settle B nm P).1 nm (settle B nm P).2) ∧
    ((settle B nm P).1.jobs = B.jobs ∨ (settle B nm P).1.jobs = B.jobs.filter (fun a => decide (a ≠ nm)) ∧ EndP (settle B nm P).2) := by
  unfold Sm.settle
  by_cases h : P.ph = "away" ∧ B.steps nm P = []
  · rw [if_pos h]
    have hfree := away_free k h.1 h.2
    by_cases e : P.en = true
    · rw [if_pos e]
      refine ⟨k.ok.leave hfree, rfl, rfl, fun z => ?_, .inr ⟨rfl, rfl, rfl, rfl⟩⟩
      have z : nm ∈ B.jobs.filter fun a => decide (a ≠ nm) := z
      exact absurd rfl (of_decide_eq_true (List.mem_filter.mp z).2)
    · rw [if_neg e]
      refine ⟨k.ok, rfl, rfl, fun _ => ⟨k.ok, ⟨k.po.ab, List.nodup_nil, fun d hd => absurd hd (by simp), .inl rfl, fun _ => ⟨rfl, rfl⟩⟩, k.jn, fun d hd hm => absurd hm (hfree d hd)⟩, .inl rfl⟩
  · rw [if_neg h]
    exact ⟨k.ok, rfl, rfl, fun _ => k, .inl rfl⟩
theorem lack_none {l : List Str} (h : lackR B l = none) : ∀ d ∈ l, d ∈ B.devs := fun d hd => by
  unfold lackR at h
  cases e : l.find? fun d => decide (d ∉ B.devs) with
  | some a => rw [e] at h; cases h
  | none =>
    have := List.find?_eq_none.mp e d hd
    exact Classical.byContradiction fun z => this (decide_eq_true z)
/-- what a deed leaves of the names of the jobs -/
def Left (B B' : BS) (pp' : Str → PS) (d : Deed) : Prop := B'.jobs = hkeys B.jobs d ∨ ∃ j ∈ B.jobs, hkeys B.jobs d = B.jobs ∧ B'.jobs = B.jobs.filter (fun a => decide (a ≠ j)) ∧ EndP (pp' j)
theorem set_ok (oks : ∀ j ∈ B.jobs, JOk B j (pp j)) {B1 : BS} {j : Str} {P : PS} (hj : j ∈ B.jobs) (k : JOk B1 j P) (hd : B1.devs = B.devs) (hjb : B1.jobs = B.jobs) (hm : ∀ k, k ≠ j → ∀ d ∈ B.devs, k ∈ B1.ms d → k ∈ B.ms d) :
    BOk (settle B1 j P).1 ∧ (∀ k ∈ (settle B1 j P).1.jobs, JOk (settle B1 j P).1 k (ups pp j (settle B1 j P).2 k)) ∧
      ((settle B1 j P).1.jobs = B.jobs ∨ ∃ k ∈ B.jobs, B.jobs = B.jobs ∧ (settle B1 j P).1.jobs = B.jobs.filter (fun a => decide (a ≠ k)) ∧ EndP (ups pp j (settle B1 j P).2 k)) := by
  obtain ⟨h1, h2, h3, h4, h5⟩ := k.settle
  refine ⟨h1, oks_job oks h1 (h2.trans hd) (fun k hk => ?_) (fun k hk d hd' hm' => hm k hk d hd' (by rw [h3] at hm'; exact hm')) h4, ?_⟩
  · rcases h5 with h5 | h5
    · rw [h5, hjb] at hk; exact .inl hk
    · rw [h5.1, hjb] at hk; exact .inl (List.mem_filter.mp hk).1
  · rcases h5 with h5 | h5
    · exact .inl (h5.trans hjb)
    · refine .inr ⟨j, hj, rfl, by rw [h5.1, hjb], ?_⟩
      rw [ups_same]
      exact h5.2
theorem act_ok (ok : BOk B) (oks : ∀ j ∈ B.jobs, JOk B j (pp j)) {d : Deed} (hf : d.fits B) (hd : due B pp d = none) :
    BOk (bact B pp d).1 ∧ (∀ j ∈ (bact B pp d).1.jobs, JOk (bact B pp d).1 j ((bact B pp d).2 j)) ∧ Left B (bact B pp d).1 (bact B pp d).2 d := by
  have ifn : ∀ {p : Prop} [Decidable p] {r : Rf} {o : Option Rf}, (if p then some r else o) = none → ¬ p ∧ o = none := fun {p _ r o} h => by
    by_cases e : p
    · rw [if_pos e] at h; cases h
    · rw [if_neg e] at h; exact ⟨e, h⟩
  have ifp : ∀ {p : Prop} [Decidable p] {r : Rf} {o : Option Rf}, (if p then o else some r) = none → p ∧ o = none := fun {p _ r o} h => by
    by_cases e : p
    · rw [if_pos e] at h; exact ⟨e, h⟩
    · rw [if_neg e] at h; cases h
  have heldN : ∀ {j : Str}, heldR B j = none → True := fun _ => trivial
  cases d with
  | turn d p =>
    have ok' := ok.turn (d := d) hf.2
    exact ⟨ok', fun j hj => (oks j hj).move ok' rfl hj fun _ _ h => h, .inl rfl⟩
  | stick d =>
    have hm : d ∈ B.devs := Classical.byContradiction fun z => by
      have hd : (if d ∈ B.devs then none else some (Rf.lacks d)) = none := hd
      rw [if_neg z] at hd; cases hd
    have ok' := ok.stick hm
    exact ⟨ok', fun j hj => (oks j hj).move ok' rfl hj fun _ _ h => h, .inl rfl⟩
  | mend d =>
    have ok' := ok.mend (d := d)
    exact ⟨ok', fun j hj => (oks j hj).move ok' rfl hj fun _ _ h => h, .inl rfl⟩
  | ask j h r =>
    have hd : askR B j = none := hd
    unfold askR at hd
    obtain ⟨h1, h2⟩ := ifn hd
    obtain ⟨h3, _⟩ := ifn h2
    have hl := ok.jb.len
    have ok' : BOk (B.crew j [h]) := ok.crew hf.1 ⟨fun x hx => by rw [List.mem_singleton.mp hx]; exact hf.2.1, by simp, by simp⟩ (by simp) (.inr (by omega))
    have ej : (B.crew j [h]).jobs = B.jobs ++ [j] := addk_out h1
    refine ⟨ok', oks_job oks ok' rfl (fun k hk => ?_) (fun k _ d _ hm => hm) (fun hj => ⟨ok', ⟨hf.2.2, List.nodup_nil, fun d hd => absurd hd (by simp), .inl rfl, fun _ => ⟨rfl, rfl⟩⟩, hj, fun d hd hm => absurd ((ok.ms d hd).2 j hm) h1⟩), .inl ej⟩
    have hk : k ∈ (B.crew j [h]).jobs := hk
    rw [ej] at hk
    exact (List.mem_append.mp hk).imp id fun z => List.mem_singleton.mp z
  | begin j sw dr =>
    have hd : beginR B j (pp j) sw dr = none := hd
    unfold beginR at hd
    obtain ⟨h1, h2⟩ := ifp hd
    have k := oks j hf.1
    have hall := lack_none h2
    obtain ⟨e1, e2⟩ := k.po.by_ h1
    refine ⟨ok, oks_job oks ok rfl (fun k hk => .inl hk) (fun _ _ _ _ h => h) (fun _ => ⟨ok, ⟨k.po.ab, ?_, hall, .inr (.inl rfl), fun z => absurd (show ("still" : Str) = "by" from z) (by decide)⟩, k.jn, fun d hd hm => ?_⟩), .inl rfl⟩
    · exact List.nodup_append.mpr ⟨hf.2.1.nd, hf.2.2.1.nd, fun a ha b hb z => hf.2.2.2 b hb (z ▸ ha)⟩
    · have := k.on d hd hm
      rw [e1, e2] at this
      cases this
  | give j =>
    exact ⟨ok, oks_job oks ok rfl (fun k hk => .inl hk) (fun _ _ _ _ h => h) (fun _ => (oks j hf).ph (.inr (.inl rfl))), .inl rfl⟩
  | tryOut j =>
    exact ⟨ok, oks_job oks ok rfl (fun k hk => .inl hk) (fun _ _ _ _ h => h) (fun _ => (oks j hf).ph (.inr (.inr (.inl rfl)))), .inl rfl⟩
  | goOn j =>
    exact ⟨ok, oks_job oks ok rfl (fun k hk => .inl hk) (fun _ _ _ _ h => h) (fun _ => (oks j hf).ph (.inl rfl)), .inl rfl⟩
  | putBy j => exact set_ok oks hf ((oks j hf).ph (.inr (.inr (.inr rfl)))) rfl rfl fun _ _ _ _ h => h
  | fin j => exact set_ok oks hf ((oks j hf).ph (.inr (.inr (.inr rfl)))) rfl rfl fun _ _ _ _ h => h
  | step j =>
    have e1 : bact B pp (.step j) = ((match B.steps j (pp j) with | [] => (B, pp j) | t :: _ => Sm.settle (stepB B j t) j (pp j)).1, ups pp j (match B.steps j (pp j) with | [] => (B, pp j) | t :: _ => Sm.settle (stepB B j t) j (pp j)).2) := rfl
    rw [e1]
    have k := oks j hf
    cases e : B.steps j (pp j) with
    | nil =>
      refine ⟨ok, ?_, .inl rfl⟩
      show ∀ k ∈ B.jobs, JOk B k (ups pp j (pp j) k)
      rw [ups_id]
      exact oks
    | cons t r =>
      have hm := mem_steps ok k.po (s := t) (j := j) (by rw [e]; exact List.mem_cons_self)
      obtain ⟨d, o⟩ := t
      cases o with
      | none =>
        refine set_ok oks hf (B1 := B.free d j) (k.free hm.2.1) rfl rfl fun a ha x hx h => ?_
        have h : a ∈ ups B.ms d _ x := h
        by_cases ex : x = d
        · subst ex
          rw [ups_same] at h
          exact (List.mem_filter.mp h).1
        · rw [ups_ne ex] at h
          exact h
      | some t =>
        have hp : IsPos t := by
          rcases hm.2.2 with ⟨t', z, hp⟩ | z
          · cases Option.some.inj z; exact hp
          · cases z.1
        refine set_ok oks hf (B1 := B.hold d t j) (k.hold hm.1 hp) rfl rfl fun a ha x hx h => ?_
        have h : a ∈ ups B.ms d _ x := h
        by_cases ex : x = d
        · subst ex
          rw [ups_same] at h
          exact (mem_addk.mp h).resolve_right ha
        · rw [ups_ne ex] at h
          exact h
  | on j h =>
    have hd : onR B j (pp j) h = none := hd
    unfold onR at hd
    obtain ⟨_, h2⟩ := ifp hd
    obtain ⟨h3, h4⟩ := ifn h2
    obtain ⟨h5, _⟩ := ifn h4
    have hc := (ok.cw j hf.1).1
    have hl := hc.len
    have ok' : BOk (B.crew j (B.cw j ++ [h])) := ok.crew (ok.jb.all j hf.1) (snoc_names hc hf.2 h3 (by omega)) (by simp) (.inl hf.1)
    have ej : (B.crew j (B.cw j ++ [h])).jobs = B.jobs := addk_in hf.1
    refine ⟨ok', ?_, .inl ej⟩
    show ∀ k ∈ (B.crew j (B.cw j ++ [h])).jobs, JOk (B.crew j (B.cw j ++ [h])) k (ups pp j (pp j) k)
    rw [ups_id]
    exact fun k hk => (oks k (by rw [← ej]; exact hk)).move ok' rfl hk fun _ _ h => h
  | off j h =>
    have hd : offR B j (pp j) h = none := hd
    unfold offR at hd
    obtain ⟨_, h2⟩ := ifp hd
    obtain ⟨h3, h4⟩ := ifn h2
    obtain ⟨h5, _⟩ := ifn h4
    have hc := (ok.cw j hf.1).1
    have ok' : BOk (B.crew j ((B.cw j).filter fun a => decide (a ≠ h))) := ok.crew (ok.jb.all j hf.1) (filt_names hc) (filt_ne hc.nd (Classical.byContradiction h3) h5) (.inl hf.1)
    have ej : (B.crew j ((B.cw j).filter fun a => decide (a ≠ h))).jobs = B.jobs := addk_in hf.1
    refine ⟨ok', ?_, .inl ej⟩
    show ∀ k ∈ (B.crew j ((B.cw j).filter fun a => decide (a ≠ h))).jobs, JOk (B.crew j ((B.cw j).filter fun a => decide (a ≠ h))) k (ups pp j (pp j) k)
    rw [ups_id]
    exact fun k hk => (oks k (by rw [← ej]; exact hk)).move ok' rfl hk fun _ _ h => h
  | over j a b =>
    have hd : overR B j a b = none := hd
    unfold overR at hd
    obtain ⟨h3, h4⟩ := ifn hd
    obtain ⟨h5, _⟩ := ifn h4
    have hc := ok.cw j hf.1
    have ok' : BOk (B.crew j (overL (B.cw j) a b)) := ok.crew (ok.jb.all j hf.1) (over_names hc.1 hf.2.2 h5) (over_ne hc.2) (.inl hf.1)
    have ej : (B.crew j (overL (B.cw j) a b)).jobs = B.jobs := addk_in hf.1
    refine ⟨ok', ?_, .inl ej⟩
    show ∀ k ∈ (B.crew j (overL (B.cw j) a b)).jobs, JOk (B.crew j (overL (B.cw j) a b)) k (ups pp j (pp j) k)
    rw [ups_id]
    exact fun k hk => (oks k (by rw [← ej]; exact hk)).move ok' rfl hk fun _ _ h => h
end
end Sm
namespace Sm
open PySem PySem.Spec PyProof.Rows L2
/-! ### defs that are called where no text is being shown -/
section
variable (P : Program) (w : World) (K : PySem.W.Frag) (mg : Str → Option Value) (base : Heap)
structure FnG (k : Nat) (f : Addr) (fd : FuncData) (ps : List Str) (sp : Sp) : Prop where
  len : ∀ vs H Q E, sp vs H Q E → vs.length = ps.length
  run : ∀ (A : Around) (outer : List Env) (s : Shared) (H : Hp) (args : Args) (us : List Value) (vs : List V) (Q : VK) (E : XK), Room k A → A.guards = some [] → Env0 P w K mg base A outer s H → BindsTo s fd args (ps.zip us) → Vals vs us → sp vs H Q E →
    codeAny (model P w) A (.call (.ref f) args) (CR CX0 outer P w H s Q E) s
def GFnG (k : Nat) (x : Str) (ps : List Str) (sp : Sp) : Prop :=
  ∃ f fd, FnG P w K mg base k f fd ps sp ∧ mg x = some (.ref f) ∧ PySem.W.keepIn K (.ref f) = true ∧ Binds K fd ps []
end
section
variable {P : Program} {w : World} {K : PySem.W.Frag} {mg : Str → Option Value} {base : Heap} {k : Nat} {x : Str} {st : Stmt} {ps N : List Str} {sp : Sp}
theorem okD {f : Addr} {fd : FuncData} (F : FunD K x x (defArgs st) (defBody st) (defScope st) [] [] f fd) (S : FnScope N ps (defScope st)) (len : ∀ vs H Q E, sp vs H Q E → vs.length = ps.length)
    (hbody : ∀ (cdv : Value) (A : Around) (outer : List Env) (s : Shared) (H : Hp) (vs : List V) (Q : VK) (E : XK), Room k (A.deeper (envOfC x (defScope st) s.heap.objs.size f cdv)) → A.guards = some [] → sp vs H Q E →
      ∃ t, PSs (cxOf CX0 P w K mg base N x (defScope st) f cdv A outer s H E).nox (defBody st) t ∧ t { nx := fun _ H' => Q .non H', rt := Q } (start N vs) H) : FnG P w K mg base (k + 1) f fd ps sp := by
  obtain ⟨oc, od, dV, kV, doc, pm, an, cdv, ct, osl, rfl, lk, hcd, _, _⟩ := F.ex
  refine ⟨len, fun A outer s H args us vs Q E hr hg e0 hb r hsp => ?_⟩
  have hl := len _ _ _ _ hsp
  have KX : K.In s.heap := e0.mod.kin.keeps fun b o e => (e0.bs b o e).1
  have lim : s.heap.NoLimit := e0.mod.nolimit.keeps fun b o e => (e0.bs b o e).1
  have hkind : ∀ y ∈ ps.zip us, (defScope st).names.lookup y.1 = some .local ∨ ((defScope st).names.lookup y.1 = some .cell ∧ ((cellsFrom (s.heap.objs.size + 1) (defScope st).names []).lookup y.1).isSome = true) := fun ⟨n, v⟩ hy => by
    rcases S.par n (List.of_mem_zip hy).1 with q | q
    · exact .inl q
    · exact .inr ⟨q, PySem.W.cellsFrom_some _ _ _ (.inl q)⟩
  refine codeAny_call_function hr.depth (KX _ _ lk) rfl S.co S.gen rfl (PySem.W.codeRec_of KX hcd) (hb _ _ _ _ ?_)
  refine wpAny_newFunctionEnv_cells S.kind hkind fun env he s1 x1 => ?_
  subst he
  refine ⟨lim.keeps x1.toInCall.keep, codeAny_func ?_⟩
  obtain ⟨t, ht0, hq⟩ := hbody cdv A outer s H vs Q E (hr.deeper _) hg hsp
  have ht := ht0.nox
  have I : Inv (cxOf CX0 P w K mg base N x (defScope st) f cdv A outer s H E) [] (start N vs) H s1 := inv_start S hr.hd e0 hl r x1
  refine wpAny_mono (ht.run [] s1 (start N vs) H _ I hq) (fun fl s' hs => ?_) fun e s' hs => hs
  cases fl with
  | ret u =>
    obtain ⟨v, σ', H', J, rv, q⟩ := hs
    exact ⟨v, H', J.os, J.bare, J.base, J.hok, rv, q⟩
  | next =>
    obtain ⟨σ', H', J, q⟩ := hs
    exact ⟨V.non, H', J.os, J.bare, J.base, J.hok, rfl, q⟩
  | brk =>
    obtain ⟨_, _, _, q⟩ := hs
    exact False.elim q
  | cont =>
    obtain ⟨_, _, _, q⟩ := hs
    exact False.elim q
theorem FnT.okG (F : FnT K mg x st ps) (S : FnScope N ps (defScope st)) (len : ∀ vs H Q E, sp vs H Q E → vs.length = ps.length)
    (hbody : ∀ (f : Addr) (cdv : Value) (A : Around) (outer : List Env) (s : Shared) (H : Hp) (vs : List V) (Q : VK) (E : XK), Room k (A.deeper (envOfC x (defScope st) s.heap.objs.size f cdv)) → A.guards = some [] → sp vs H Q E →
      ∃ t, PSs (cxOf CX0 P w K mg base N x (defScope st) f cdv A outer s H E).nox (defBody st) t ∧ t { nx := fun _ H' => Q .non H', rt := Q } (start N vs) H) : GFnG P w K mg base (k + 1) x ps sp :=
  let ⟨f, fd, D, hm, hb⟩ := F
  ⟨f, fd, okD D S len (hbody f), hm, D.kp, hb⟩
end
section
variable {X : Cx} {k : Nat} {ps : List Str} {sp : Sp} {x : Str} {q pos : Pos} {e : Expr} {es : List Expr} {t : TA}
theorem pe_fnG (F : GFnG X.prog X.w X.K X.mg X.base k x ps sp) (hr : Room k X.A) (hgd : X.A.guards = some []) (ha : PA X (e :: es) t) (hg : Gl X x := by rfl)
    (hdb : (x == ("__debug__" : Str)) = false := by decide) (he : starEach (e :: es) X.env = (false, eval e X.env) :: starEach es X.env := by rfl) (hpl : (backTo pos (starEach es X.env)).any (·.1) = false := by rfl) :
    PE X (.Call (.Name x q) (e :: es) [] pos) (tCall sp [] (fun _ _ _ => False) t) := by
  obtain ⟨f, fd, F, hm, hk, hb⟩ := F
  refine ⟨fun pins s σ H Q I h => ?_⟩
  refine wpAny_Call_Name_kw (ld_glob I hg hm ?_ hdb)
  refine PySem.W.callWith_K (h₀ := X.base) I.ok.mod.kin hk (thn (ha.run pos pins s σ H _ I h) fun us s1 ⟨vs, H1, I1, r, q⟩ => ⟨I1.kIn, ?_⟩) he hpl
  have q : sp (vs ++ []) H1 Q (fun _ _ _ => False) := q
  rw [List.append_nil] at q
  have hl : us.length = ps.length := by rw [← r.length]; exact F.len _ _ _ _ q
  have b := hb s1 us I1.kIn (by rw [List.append_nil]; exact hl)
  rw [List.append_nil] at b
  refine wpAny_call (codeAny_mono (F.run X.A X.stack s1 H1 ⟨us, []⟩ us vs Q (fun _ _ _ => False) hr hgd I1.env0 b r q) fun r s' hq => ?_)
  cases r with
  | error e => exact pass0 pins σ H1 s1 e s' I1 hq
  | ok fl =>
    cases fl with
    | ret u => exact I1.after hq
    | next => exact False.elim hq
    | brk => exact False.elim hq
    | cont => exact False.elim hq
/-! ### repr of lists and tuples -/
def rRepr (K : PySem.W.Frag) : List V → Hp → VK → Prop := fun xs H Q => ∃ (a : Addr) (d : PyData) (n b : Nat), xs = [.ref a] ∧ Dp K H (.ref a) d ∧ SmD n b d ∧ n ≤ 60 ∧ b ≤ sizeLine ∧ Q (.str d.shown) H
theorem call_repr (hg : X.A.guards = some []) (hu : X.A.units + 64 < cLine) : CallR X (.builtin "repr") (rRepr X.K) := by
  intro pins s σ H xs us Q I r h
  obtain ⟨a, d, n, b, rfl, hd, sm, hn, hb, q⟩ := h
  cases r with
  | cons rx rr =>
    cases rr
    cases rx
    obtain ⟨as, r1⟩ := Dp.reads I d _ _ hd rfl
    have D := sm.ok
    have hdep := D.dep
    exact PySem.repr_of_reads' r1 D.sh (fun h' => by rw [D.nd] at h'; cases h') hg (by omega) (fun _ _ e => e) (fun h' u tk hk => ⟨.str d.shown, H, I.kept (t' := tk) hk, ⟨u, rfl⟩, q⟩) (Nat.le_trans D.len hb)
end
end Sm
namespace Sm
open PySem PySem.Spec PyProof.Rows L2
section
variable {P : Program} {w : World} {K : PySem.W.Frag} {mg : Str → Option Value} {base : Heap}
def spAlike (K : PySem.W.Frag) : Sp := fun vs H Q _ => ∃ (a b : Addr) (d : PyData) (n m : Nat), vs = [.ref a, .ref b] ∧ Dp K H (.ref a) d ∧ Dp K H (.ref b) d ∧ SmD n m d ∧ n ≤ 60 ∧ m ≤ sizeLine ∧ Q (.bl true) H
abbrev N_l_alike : List Str := ["_law_found", "_law_due_here"]
theorem sc_l_alike : FnScope N_l_alike ["_law_found", "_law_due_here"] (defScope s_lalike) := ⟨rfl, rfl, rfl, by decide +kernel, rfl, by decide +kernel, by decide +kernel⟩
theorem ok_l_alike (T : Txt K mg) : GFnG P w K mg base 1 "_law_alike" ["_law_found", "_law_due_here"] (spAlike K) := by
  refine T.f_l_alike.okG sc_l_alike (fun vs H Q E h => ?_) (fun f cdv A outer s H vs Q E hr hg h => ?_)
  · obtain ⟨a, b, d, n, m, rfl, _⟩ := h
    rfl
  · obtain ⟨a, b, d, n, m, rfl, h1, h2, sm, hn, hm, k⟩ := h
    refine ⟨_, (pss_one (ps_ret (pe_and (pe_cmpR (op_eqD hr.units) (pv 0) (pv 1) (nomark _)) (pe_one (pe_cmpR op_eq (pe_callB (call_repr (by exact hg) hr.units) (by rfl) T.b_repr (by decide +kernel) (pa_cons (pv 0) pa_nil)) (pe_callB (call_repr (by exact hg) hr.units) (by rfl) T.b_repr (by decide +kernel) (pa_cons (pv 1) pa_nil)) (nomark _)))))), ?_⟩
    have hs := sm.shaped (by omega)
    refine ⟨_, rfl, _, rfl, d, d, h1, h2, hs, hs, ?_⟩
    rw [sm.refl]
    refine ⟨true, rfl, iteT ?_⟩
    refine ⟨_, rfl, a, d, n, m, rfl, h1, sm, hn, hm, ?_⟩
    refine ⟨_, rfl, b, d, n, m, rfl, h2, sm, hn, hm, ?_⟩
    refine ⟨rfl, ?_⟩
    show Q (.bl (decide (V.str d.shown = V.str d.shown))) H
    rw [decide_eq_true rfl]
    exact k
end
end Sm
namespace Sm
open PySem PySem.Spec PyProof.Rows L2
theorem sm_lst {xs : List PyData} {n b c : Nat} (hx : ∀ x ∈ xs, SmD n b x) (h : xs.length * (b + 2) + 3 ≤ c) : SmD (n + 1) c (.list xs) := .list hx h
theorem sm_s {x : Str} (h : WOk x) : SmD 2 6000 (.str x) := .str x h (by decide)
theorem sm_l {l : List Str} (h : ∀ x ∈ l, WOk x) (hl : l.length ≤ 60) : SmD 2 6000 (dS l) := (sm_strs h (c := 6000) (by omega)).mono (by decide) (Nat.le_refl _)
theorem sm_rows {l : List Stp} (hw : ∀ s ∈ l, WOk s.1 ∧ ∀ t, s.2 = some t → WOk t) (hl : l.length ≤ 24) : SmD 2 6000 (.list ((l.map stV).map rowD)) := sm_steps hw hl
theorem dpAll_keep {K : PySem.W.Frag} {H : Hp} {l : List V} {d : List PyData} (h : DpAll K H l d) : DpAll K H l d := h
section
variable {P : Program} {w : World} {K : PySem.W.Frag} {mg : Str → Option Value} {base : Heap}
/-! ### _law_ended -/
def spEnded (K : PySem.W.Frag) : Sp := fun vs H Q _ => ∃ (bd : Addr) (y : JA) (ji : Addr) (nm : Str) (P : PS), vs = [.ref ji, .str nm] ∧ JAt K bd y ji nm P H ∧ EndP P ∧ IsName nm ∧ ∀ H', Same H H' → Q (.bl true) H'
abbrev N_l_ended : List Str := ["_law_job", "_law_name_here", "_law_told"]
theorem sc_l_ended : FnScope N_l_ended ["_law_job", "_law_name_here"] (defScope s_lended) := ⟨rfl, rfl, rfl, by decide +kernel, rfl, by decide +kernel, by decide +kernel⟩
theorem ok_l_ended (T : Txt K mg) : GFnG P w K mg base 6 "_law_ended" ["_law_job", "_law_name_here"] (spEnded K) := by
  refine T.f_l_ended.okG sc_l_ended (fun vs H Q E h => ?_) (fun f cdv A outer s H vs Q E hr hg h => ?_)
  · obtain ⟨bd, y, ji, nm, P, rfl, _⟩ := h
    rfl
  · obtain ⟨bd, y, ji, nm, ⟨ab, ph, en, cu, em⟩, rfl, j, ⟨e1, e2, e3⟩, hnm, k⟩ := h
    have e1 : ph = "ended" := e1
    have e2 : cu = [] := e2
    have e3 : em = [] := e3
    subst e1 e2 e3
    refine ⟨_, (pss_cons (ps_set (i := 2) sc_l_ended.nd rfl (Or.inl rfl) (pe_lst (pa_cons (pe_mth0 (pv 0) T.clJ (ok_J_called T) (hr.mono (by decide)) pass0) (pa_cons (pe_mth0 (pv 0) T.clJ (ok_J_phase T) (hr.mono (by decide)) pass0) (pa_cons (pe_mth0 (pv 0) T.clJ (ok_J_switches T) (hr.mono (by decide)) pass0) (pa_cons (pe_mth0 (pv 0) T.clJ (ok_J_drains T) (hr.mono (by decide)) pass0) (pa_cons (pe_mth0 (pv 0) T.clJ (ok_J_crew_now T) (hr.mono (by decide)) pass0) (pa_cons (pe_mth0 (pv 0) T.clJ (ok_J_steps T) (hr.mono (by decide)) pass0) pa_nil))))))))
    (pss_one (ps_ret (pe_fnG (ok_l_alike T) (hr.mono (by decide)) (by exact hg) (pa_cons (pv 2) (pa_cons (pe_lst (pa_cons (pv 1) (pa_cons pe_str (pa_cons (pe_lst pa_nil) (pa_cons (pe_lst pa_nil) (pa_cons (pe_lst pa_nil) (pa_cons (pe_lst pa_nil) pa_nil))))))) pa_nil)))))), ?_⟩
    have z0 : (0 : Nat) ≤ sizeLine := Nat.zero_le _
    refine ⟨_, rfl, _, _, _, rfl, j.ob, jf_no (by decide +kernel), bd, y, ji, nm, _, rfl, j, ?_⟩
    refine ⟨_, rfl, _, _, _, rfl, j.ob, jf_no (by decide +kernel), bd, y, ji, nm, _, rfl, j, ?_⟩
    refine ⟨_, rfl, _, _, _, rfl, j.ob, jf_no (by decide +kernel), bd, y, ji, nm, _, rfl, j, fun H1 p1 s1 hp1 => ?_⟩
    have hp1 : H1 p1 = some (.lst []) := hp1
    have j1 := j.same s1
    refine ⟨_, rfl, _, _, _, rfl, j1.ob, jf_no (by decide +kernel), bd, y, ji, nm, _, rfl, j1, fun H2 p2 s2 hp2 => ?_⟩
    have hp2 : H2 p2 = some (.lst []) := hp2
    have j2 := j1.same s2
    refine ⟨_, rfl, _, _, _, rfl, j2.ob, jf_no (by decide +kernel), bd, y, ji, nm, _, [], rfl, j2, .inl ⟨rfl, rfl⟩, fun H3 p3 s3 hp3 => ?_⟩
    have j3 := j2.same s3
    refine ⟨_, rfl, _, _, _, rfl, j3.ob, jf_no (by decide +kernel), bd, y, ji, nm, _, [], rfl, j3, .inl ⟨rfl, rfl⟩, fun H4 p4 its s4 hp4 ht4 => ?_⟩
    cases ht4
    refine ⟨by show 6 ≤ sizeLine; decide, fun q hq => ?_⟩
    have s5 : Same H4 (upd H4 q (.lst [.str nm, .str "ended", .ref p1, .ref p2, .ref p3, .ref p4])) := Same.new hq
    have hq5 : (upd H4 q (.lst [.str nm, .str "ended", .ref p1, .ref p2, .ref p3, .ref p4])) q = some (.lst [.str nm, .str "ended", .ref p1, .ref p2, .ref p3, .ref p4]) := upd_same
    generalize (upd H4 q (.lst [.str nm, .str "ended", .ref p1, .ref p2, .ref p3, .ref p4])) = H5 at s5 hq5 ⊢
    refine ⟨_, rfl, _, rfl, z0, fun a1 ha1 => ⟨z0, fun a2 ha2 => ⟨z0, fun a3 ha3 => ⟨z0, fun a4 ha4 => ⟨by show 6 ≤ sizeLine; decide, fun r hr' => ?_⟩⟩⟩⟩⟩
    have t1 := Same.new (o := .lst []) ha1
    have t2 := Same.new (o := .lst []) ha2
    have t3 := Same.new (o := .lst []) ha3
    have t4 := Same.new (o := .lst []) ha4
    have t5 := Same.new (o := .lst [V.str nm, .str "ended", .ref a1, .ref a2, .ref a3, .ref a4]) hr'
    have emp : ∀ {H : Hp} {a : Addr}, H a = some (.lst []) → Dp K H (.ref a) (dS []) := fun h => dpL (l := []) (SqL.of h)
    refine ⟨q, r, .list [.str nm, .str "ended", dS [], dS [], dS [], dS []], 3, 40000, rfl, ?_, ?_, ?_, by decide, by decide, ?_⟩
    · have tt := t1.trans (t2.trans (t3.trans (t4.trans t5)))
      exact .lst (SqL.of (tt _ _ hq5)) (.cons (.str _) (.cons (.str _) (.cons (emp (tt _ _ (s5 _ _ (s4 _ _ (s3 _ _ (s2 _ _ hp1)))))) (.cons (emp (tt _ _ (s5 _ _ (s4 _ _ (s3 _ _ hp2))))) (.cons (emp (tt _ _ (s5 _ _ (s4 _ _ hp3)))) (.cons (emp (tt _ _ (s5 _ _ hp4))) .nil))))))
    · exact .lst (SqL.of upd_same) (.cons (.str _) (.cons (.str _) (.cons (emp (t5 _ _ (t4 _ _ (t3 _ _ (t2 _ _ upd_same))))) (.cons (emp (t5 _ _ (t4 _ _ (t3 _ _ upd_same)))) (.cons (emp (t5 _ _ (t4 _ _ upd_same))) (.cons (emp (t5 _ _ upd_same)) .nil))))))
    · refine sm_lst (n := 2) (b := 6000) (fun x hx => ?_) (by show 6 * 6002 + 3 ≤ 40000; decide)
      have em : SmD 2 6000 (dS []) := sm_l (fun x hx => absurd hx (by simp)) (by decide)
      simp only [List.mem_cons, List.not_mem_nil, or_false] at hx
      rcases hx with rfl | rfl | rfl | rfl | rfl | rfl
      · exact sm_s hnm.w
      · exact sm_s (by decide +kernel)
      · exact em
      · exact em
      · exact em
      · exact em
    · exact k _ (s1.trans (s2.trans (s3.trans (s4.trans (s5.trans (t1.trans (t2.trans (t3.trans (t4.trans t5)))))))))
end
end Sm
namespace Sm
open PySem PySem.Spec PyProof.Rows L2
section
variable {P : Program} {w : World} {K : PySem.W.Frag} {mg : Str → Option Value} {base : Heap}
/-! ### _law_same_job -/
def spSameJob (K : PySem.W.Frag) : Sp := fun vs H Q _ => ∃ (ow : Addr → Ro) (x : BA) (B : BS) (z : MA) (L : BS) (pp : Str → PS) (hi : Addr) (hk : List Str) (ji : Str → Addr) (nm : Str), vs = [.ref hi, .ref z.m, .str nm] ∧
  BAt K ow x B H ∧ JOk B nm (pp nm) ∧ MRd z L pp H ∧ Sim B L ∧ JSs K ow x.bd pp hi hk ji H ∧ nm ∈ hk ∧ ∀ H', Same H H' → Q (.bl true) H'
abbrev N_l_same_job : List Str := ["_law_here", "_law_m", "_law_name_here", "_law_job", "_law_paper", "_law_told", "_law_due_here"]
theorem sc_l_same_job : FnScope N_l_same_job ["_law_here", "_law_m", "_law_name_here"] (defScope s_lsame_job) := ⟨rfl, rfl, rfl, by decide +kernel, rfl, by decide +kernel, by decide +kernel⟩
theorem ok_l_same_job (T : Txt K mg) : GFnG P w K mg base 6 "_law_same_job" ["_law_here", "_law_m", "_law_name_here"] (spSameJob K) := by
  refine T.f_l_same_job.okG sc_l_same_job (fun vs H Q E h => ?_) (fun f cdv A outer s H vs Q E hr hg h => ?_)
  · obtain ⟨ow, x, B, z, L, pp, hi, hk, ji, nm, rfl, _⟩ := h
    rfl
  · obtain ⟨ow, x, B, z, L, pp, hi, hk, ji, nm, rfl, b, ok, m, sm, js, hn, k⟩ := h
    have hu := hu_of hr
    refine ⟨_, (pss_cons (ps_par (i := 3) (j := 4) (by rfl) sc_l_same_job.nd rfl rfl (by decide) rfl rfl (pa_cons (pe_dget hu (pv 0) (pv 2) (fun _ _ => rfl)) (pa_cons (pe_dget hu (pe_dget hu (pv 1) pe_str (fun _ _ => rfl)) (pv 2) (fun _ _ => rfl)) pa_nil)) (by rfl))
    (pss_cons (ps_set (i := 5) sc_l_same_job.nd rfl (Or.inl rfl) (pe_lst (pa_cons (pe_mth0 (pv 3) T.clJ (ok_J_called T) (hr.mono (by decide)) pass0) (pa_cons (pe_mth0 (pv 3) T.clJ (ok_J_phase T) (hr.mono (by decide)) pass0) (pa_cons (pe_mth0 (pv 3) T.clJ (ok_J_stretch T) (hr.mono (by decide)) pass0) (pa_cons (pe_mth0 (pv 3) T.clJ (ok_J_switches T) (hr.mono (by decide)) pass0) (pa_cons (pe_mth0 (pv 3) T.clJ (ok_J_drains T) (hr.mono (by decide)) pass0) (pa_cons (pe_mth0 (pv 3) T.clJ (ok_J_crew_now T) (hr.mono (by decide)) pass0) (pa_cons (pe_mth0 (pv 3) T.clJ (ok_J_steps T) (hr.mono (by decide)) pass0) pa_nil)))))))))
    (pss_cons (ps_set (i := 6) sc_l_same_job.nd rfl (Or.inl rfl) (pe_lst (pa_cons (pv 2) (pa_cons (pe_dget hu (pv 4) pe_str (fun _ _ => rfl)) (pa_cons (pe_dget hu (pv 4) pe_str (fun _ _ => rfl)) (pa_cons (pe_dget hu (pv 4) pe_str (fun _ _ => rfl)) (pa_cons (pe_dget hu (pv 4) pe_str (fun _ _ => rfl)) (pa_cons (pe_dget hu (pe_dget hu (pv 1) pe_str (fun _ _ => rfl)) (pv 2) (fun _ _ => rfl)) pa_nil))))))))
    (pss_one (ps_ret (pe_fnG (ok_l_alike T) (hr.mono (by decide)) (by exact hg) (pa_cons (pv 5) (pa_cons (pe_op op_cat (pv 6) (pe_lst (pa_cons (pe_fn (ok_l_steps T) (hr.mono (by decide)) pass0 (pa_cons (pv 1) (pa_cons (pv 2) pa_nil))) pa_nil))) pa_nil)))))))), ?_⟩
    have hj := ok.jn
    have hjL : nm ∈ L.jobs := by rw [← sm.jb]; exact hj
    have okL := sm.ok ok.ok
    obtain ⟨y, j⟩ := js.jt nm hn
    refine ⟨_, rfl, _, rfl, _, _, rfl, dgs js.he hn, _, rfl, _, _, rfl, dm_jb m.m, _, rfl, _, _, rfl, dg m.jb hjL, _, _, rfl, ?_⟩
    generalize hP : pp nm = P at j ok
    refine ⟨_, rfl, _, _, _, rfl, j.ob, jf_no (by decide +kernel), x.bd, y, ji nm, nm, P, rfl, j, ?_⟩
    refine ⟨_, rfl, _, _, _, rfl, j.ob, jf_no (by decide +kernel), x.bd, y, ji nm, nm, P, rfl, j, ?_⟩
    refine ⟨_, rfl, _, _, _, rfl, j.ob, jf_no (by decide +kernel), x.bd, y, ji nm, nm, P, rfl, j, fun H1 p1 s1 hp1 => ?_⟩
    have j1 := j.same s1
    refine ⟨_, rfl, _, _, _, rfl, j1.ob, jf_no (by decide +kernel), x.bd, y, ji nm, nm, P, rfl, j1, fun H2 p2 s2 hp2 => ?_⟩
    have j2 := j1.same s2
    refine ⟨_, rfl, _, _, _, rfl, j2.ob, jf_no (by decide +kernel), x.bd, y, ji nm, nm, P, rfl, j2, fun H3 p3 s3 hp3 => ?_⟩
    have j3 := j2.same s3
    have s13 := s1.trans (s2.trans s3)
    refine ⟨_, rfl, _, _, _, rfl, j3.ob, jf_no (by decide +kernel), x.bd, y, ji nm, nm, P, B.cw nm, rfl, j3, .inr ⟨ok.ne, ow, x, B, rfl, b.same s13, ok.ok, hj, rfl⟩, fun H4 p4 s4 hp4 => ?_⟩
    have j4 := j3.same s4
    have s14 := s13.trans s4
    refine ⟨_, rfl, _, _, _, rfl, j4.ob, jf_no (by decide +kernel), x.bd, y, ji nm, nm, P, B.steps nm P, rfl, j4, .inr ⟨ow, x, B, rfl, b.same s14, ok.ok, ok.po, rfl⟩, fun H5 p5 its s5 hp5 ht5 => ?_⟩
    have s15 := s14.trans s5
    refine ⟨by show 7 ≤ sizeLine; decide, fun q hq => ?_⟩
    have s6 : Same H5 (upd H5 q (.lst [.str nm, .str P.ph, .ref p1, .ref p2, .ref p3, .ref p4, .ref p5])) := Same.new hq
    have hq6 : (upd H5 q (.lst [.str nm, .str P.ph, .ref p1, .ref p2, .ref p3, .ref p4, .ref p5])) q = some (.lst [.str nm, .str P.ph, .ref p1, .ref p2, .ref p3, .ref p4, .ref p5]) := upd_same
    generalize (upd H5 q (.lst [.str nm, .str P.ph, .ref p1, .ref p2, .ref p3, .ref p4, .ref p5])) = H6 at s6 hq6 ⊢
    have m6 := m.same (s15.trans s6)
    have pa := m6.pa nm hjL
    rw [hP] at pa
    refine ⟨_, rfl, _, rfl, _, _, rfl, dp_ph pa, _, rfl, _, _, rfl, dp_ab pa, _, rfl, _, _, rfl, dp_cu pa, _, rfl, _, _, rfl, dp_em pa, _, rfl, _, _, rfl, dm_cw m6.m, _, rfl, _, _, rfl, dg m6.cw hjL, ?_⟩
    refine ⟨by show 6 ≤ sizeLine; decide, fun r hr' => ?_⟩
    have s7 : Same H6 (upd H6 r (.lst [.str nm, .str P.ph, .ref (z.ab nm), .ref (z.cu nm), .ref (z.em nm), .ref (z.cl nm)])) := Same.new hr'
    have hr7 : (upd H6 r (.lst [.str nm, .str P.ph, .ref (z.ab nm), .ref (z.cu nm), .ref (z.em nm), .ref (z.cl nm)])) r = some (.lst [.str nm, .str P.ph, .ref (z.ab nm), .ref (z.cu nm), .ref (z.em nm), .ref (z.cl nm)]) := upd_same
    generalize (upd H6 r (.lst [.str nm, .str P.ph, .ref (z.ab nm), .ref (z.cu nm), .ref (z.em nm), .ref (z.cl nm)])) = H7 at s7 hr7 ⊢
    have m7 := m6.same s7
    refine ⟨_, rfl, _, rfl, _, rfl, _, rfl, z, L, pp, nm, rfl, m7, okL, by rw [hP]; exact (sm.jok ok).po, hjL, fun H8 p8 its8 s8 hp8 ht8 => ?_⟩
    rw [hP] at ht8
    refine ⟨by show 1 ≤ sizeLine; decide, fun r1 hr1 => ?_⟩
    have s9 := s8.trans (Same.new (o := .lst [V.ref p8]) hr1)
    refine ⟨r, r1, _, _, rfl, rfl, s9 _ _ hr7, upd_same, by show 7 ≤ sizeLine; decide, fun r2 hr2 => ?_⟩
    have s10 := s9.trans (Same.new (o := .lst ([V.str nm, .str P.ph, .ref (z.ab nm), .ref (z.cu nm), .ref (z.em nm), .ref (z.cl nm)] ++ [V.ref p8])) hr2)
    have t8 := (Same.new (o := .lst [V.ref p8]) hr1).trans (Same.new (o := .lst ([V.str nm, .str P.ph, .ref (z.ab nm), .ref (z.cu nm), .ref (z.em nm), .ref (z.cl nm)] ++ [V.ref p8])) hr2)
    have m10 := m7.same s10
    have hab := m10.ab nm hjL
    have hcu := m10.cu nm hjL
    have hem := m10.em nm hjL
    have hcl := m10.cl nm hjL
    rw [hP] at hab hcu hem
    rw [← sm.cw] at hcl
    rw [← sm.steps] at ht8
    have s510 := s6.trans (s7.trans s10)
    have hlen := ok.po.len ok.ok
    rw [List.length_append] at hlen
    have hcw := (ok.ok.cw nm hj).1
    refine ⟨q, r2, .list [.str nm, .str P.ph, dS P.ab, dS P.cu, dS P.em, dS (B.cw nm), .list (((B.steps nm P).map stV).map rowD)], 3, 50000, rfl, ?_, ?_, ?_, by decide, by decide, ?_⟩
    · exact .lst (SqL.of ((s7.trans s10) _ _ hq6)) (.cons (.str _) (.cons (.str _) (.cons (dpL (SqL.of ((s2.trans (s3.trans (s4.trans (s5.trans s510)))) _ _ hp1))) (.cons (dpL (SqL.of ((s3.trans (s4.trans (s5.trans s510))) _ _ hp2))) (.cons (dpL (SqL.of ((s4.trans (s5.trans s510)) _ _ hp3))) (.cons (dpL (SqL.of ((s5.trans s510) _ _ hp4))) (.cons (dp_steps (s510 _ _ hp5) (ht5.keep (KpT.same s510))) .nil)))))))
    · exact .lst (SqL.of upd_same) (.cons (.str _) (.cons (.str _) (.cons (dpL (SqL.of hab)) (.cons (dpL (SqL.of hcu)) (.cons (dpL (SqL.of hem)) (.cons (dpL (SqL.of hcl)) (.cons (dp_steps (t8 _ _ hp8) (ht8.keep (KpT.same t8))) .nil)))))))
    · refine sm_lst (n := 2) (b := 6000) (fun x hx => ?_) (by show 7 * 6002 + 3 ≤ 50000; decide)
      simp only [List.mem_cons, List.not_mem_nil, or_false] at hx
      rcases hx with rfl | rfl | rfl | rfl | rfl | rfl | rfl
      · exact sm_s (ok.ok.jb.all nm hj).w
      · exact sm_s (by rcases ok.po.ph with h | h | h | h | h <;> rw [h] <;> decide +kernel)
      · exact sm_l (fun x hx => (ok.po.ab.1.all x hx).w) (by have := ok.po.ab.1.len; omega)
      · exact sm_l (fun x hx => (ok.ok.dv.all x (ok.po.sub x (List.mem_append.mpr (.inl hx)))).w) (by omega)
      · exact sm_l (fun x hx => (ok.ok.dv.all x (ok.po.sub x (List.mem_append.mpr (.inr hx)))).w) (by omega)
      · exact sm_l (fun x hx => (hcw.all x hx).w) (by have := hcw.len; omega)
      · exact st_sm ok.ok ok.po
    · exact k _ (s15.trans s510)
end
end Sm
namespace Sm
open PySem PySem.Spec PyProof.Rows L2
theorem tagR_flat {B : BS} {d : Str} : ∀ r ∈ tagR B d, r.all flatV = true := fun r hr => by
  obtain ⟨j, _, h⟩ := List.mem_flatMap.mp hr
  obtain ⟨a, _, rfl⟩ := List.mem_map.mp h
  rfl
theorem tag_len {cw : Str → List Str} {l : List Str} : (l.flatMap fun j => (srt (cw j)).map fun h => [V.str j, V.str h]).length = (l.flatMap cw).length := by
  induction l with
  | nil => rfl
  | cons a r ih => rw [List.flatMap_cons, List.flatMap_cons, List.length_append, List.length_append, ih, List.length_map, len_srt]
theorem tag_sm {B : BS} (ok : BOk B) {d : Str} (hd : d ∈ B.devs) : SmD 2 10000 (.list ((tagR B d).map rowD)) := by
  obtain ⟨n1, n2⟩ := ok.ms d hd
  have hl : (tagR B d).length ≤ 48 := by
    unfold tagR
    rw [tag_len]
    exact bcrew_len ok (nd_srt n1) fun j hj => n2 j (mem_srt.mp hj)
  refine .list (n := 1) (b := 187) (fun x hx => ?_) (by rw [List.length_map]; omega)
  obtain ⟨r, hr, rfl⟩ := List.mem_map.mp hx
  obtain ⟨j, hj, h⟩ := List.mem_flatMap.mp hr
  obtain ⟨a, ha, rfl⟩ := List.mem_map.mp h
  have hjj := n2 j (mem_srt.mp hj)
  refine .tuple (n := 0) (b := 90) (fun x hx => ?_) (by show 2 * 92 + 3 ≤ 187; decide)
  rcases List.mem_cons.mp hx with rfl | hx
  · exact .str j (ok.jb.all j hjj).w (Nat.le_refl _)
  · rw [List.map_singleton, List.mem_singleton] at hx
    subst hx
    exact .str a ((ok.cw j hjj).1.all a (mem_srt.mp ha)).w (Nat.le_refl _)
section
variable {P : Program} {w : World} {K : PySem.W.Frag} {mg : Str → Option Value} {base : Heap}
/-! ### _law_same_device -/
def spSameDev (K : PySem.W.Frag) : Sp := fun vs H Q _ => ∃ (ow : Addr → Ro) (x : BA) (B : BS) (z : MA) (L : BS) (pp : Str → PS) (d : Str), vs = [.ref x.bd, .ref z.m, .str d] ∧
  BAt K ow x B H ∧ BOk B ∧ MRd z L pp H ∧ Sim B L ∧ d ∈ B.devs ∧ ∀ H', Same H H' → Q (.bl true) H'
abbrev N_l_same_device : List Str := ["_law_board", "_law_m", "_law_name_here", "_law_tags", "_law_job", "_law_told", "_law_due_here", "_law_hand"]
theorem sc_l_same_device : FnScope N_l_same_device ["_law_board", "_law_m", "_law_name_here"] (defScope s_lsame_device) := ⟨rfl, rfl, rfl, by decide +kernel, rfl, by decide +kernel, by decide +kernel⟩
theorem ok_l_same_device (T : Txt K mg) : GFnG P w K mg base 4 "_law_same_device" ["_law_board", "_law_m", "_law_name_here"] (spSameDev K) := by
  refine T.f_l_same_device.okG sc_l_same_device (fun vs H Q E h => ?_) (fun f cdv A outer s H vs Q E hr hg h => ?_)
  · obtain ⟨ow, x, B, z, L, pp, d, rfl, _⟩ := h
    rfl
  · obtain ⟨ow, x, B, z, L, pp, d, rfl, b, ok, m, sm, hd, k⟩ := h
    have hu := hu_of hr
    refine ⟨_, (pss_cons (ps_set (i := 3) sc_l_same_device.nd rfl (Or.inl rfl) (pe_lst pa_nil))
    (pss_cons (ps_for PassesOwn.never rfl (pi_list (pe_callB cr_sortedS (by rfl) T.b_sorted (by decide +kernel) (pa_cons (pe_dget hu (pe_dget hu (pv 1) pe_str (fun _ _ => rfl)) (pv 2) (fun _ _ => rfl)) pa_nil))) (pg_name (i := 4) sc_l_same_device.nd rfl (Or.inr rfl))
      (pss_one (ps_set (i := 3) sc_l_same_device.nd rfl (Or.inl rfl) (pe_op op_cat (pv 3) (pe_lc (own := [("_law_hand", 7)]) (by rfl) sc_l_same_device.nd (pi_list (pe_callB cr_sortedS (by rfl) T.b_sorted (by decide +kernel) (pa_cons (pe_dget hu (pe_dget hu (pv 1) pe_str (fun _ _ => rfl)) (pv 4) (fun _ _ => rfl)) pa_nil))) (blkOk_by (own := [("_law_hand", 7)]) (N := N_l_same_device) (sc := defScope s_lsame_device) (by decide +kernel)) (fun _ _ _ _ _ => (pg_name (i := 7) sc_l_same_device.nd rfl (Or.inl rfl))) (fun _ _ _ _ _ => pts_nil) (fun _ _ _ _ _ => (pe_tup (pa_cons (pv 4) (pa_cons (pv 7) pa_nil)))))))))
    (pss_cons (ps_set (i := 5) sc_l_same_device.nd rfl (Or.inl rfl) (pe_lst (pa_cons (pe_mth (pv 0) T.clB (ok_B_stands T) (hr.mono (by decide)) pass0 (pa_cons (pv 2) pa_nil)) (pa_cons (pe_mth (pv 0) T.clB (ok_B_home T) (hr.mono (by decide)) pass0 (pa_cons (pv 2) pa_nil)) (pa_cons (pe_mth (pv 0) T.clB (ok_B_is_stuck T) (hr.mono (by decide)) pass0 (pa_cons (pv 2) pa_nil)) (pa_cons (pe_mth (pv 0) T.clB (ok_B_jobs_on T) (hr.mono (by decide)) pass0 (pa_cons (pv 2) pa_nil)) (pa_cons (pe_mth (pv 0) T.clB (ok_B_tags T) (hr.mono (by decide)) pass0 (pa_cons (pv 2) pa_nil)) pa_nil)))))))
    (pss_cons (ps_set (i := 6) sc_l_same_device.nd rfl (Or.inl rfl) (pe_lst (pa_cons (pe_dget hu (pe_dget hu (pv 1) pe_str (fun _ _ => rfl)) (pv 2) (fun _ _ => rfl)) (pa_cons (pe_dget hu (pe_dget hu (pv 1) pe_str (fun _ _ => rfl)) (pv 2) (fun _ _ => rfl)) (pa_cons (pe_cmpR op_in_seq (pv 2) (pe_dget hu (pv 1) pe_str (fun _ _ => rfl)) rfl) (pa_cons (pe_callB cr_sortedS (by rfl) T.b_sorted (by decide +kernel) (pa_cons (pe_dget hu (pe_dget hu (pv 1) pe_str (fun _ _ => rfl)) (pv 2) (fun _ _ => rfl)) pa_nil)) (pa_cons (pv 3) pa_nil)))))))
    (pss_one (ps_ret (pe_fnG (ok_l_alike T) (hr.mono (by decide)) (by exact hg) (pa_cons (pv 5) (pa_cons (pv 6) pa_nil))))))))), ?_⟩
    have hdL : d ∈ L.devs := by rw [← sm.dv]; exact hd
    have okL := sm.ok ok
    obtain ⟨n1, n2⟩ := ok.ms d hd
    obtain ⟨n3, n4⟩ := okL.ms d hdL
    have h3 := nd_len n3 n4
    have h4 := okL.jb.len
    have es : srt (L.ms d) = srt (B.ms d) := srt_set n3 n1 fun a => (sm.ms d a).symm
    refine ⟨by show 0 ≤ sizeLine; exact Nat.zero_le _, fun q0 hq0 => ?_⟩
    have s0 : Same H (upd H q0 (.lst [])) := Same.new hq0
    have hq : (upd H q0 (.lst [])) q0 = some (.lst []) := upd_same
    generalize (upd H q0 (.lst [])) = H0 at s0 hq ⊢
    have m0 := m.same s0
    refine ⟨_, rfl, _, _, rfl, dm_tg m0.m, _, rfl, _, _, rfl, dg m0.tg hdL, z.tl d, _, rfl, SqL.of (m0.tl d hdL), by omega, fun ys p hp hs hn => ?_⟩
    have ey := srt_eq hp hs
    subst ey
    rw [es]
    have s1 := s0.trans (Same.new (o := .lst ((srt (B.ms d)).map V.str)) hn)
    have bound : ∀ i, (((srt (B.ms d)).take i).flatMap fun j => (srt (B.cw j)).map fun h => [V.str j, V.str h]).length ≤ 48 := fun i => by
      rw [tag_len]
      exact bcrew_len ok ((nd_srt n1).sublist (List.take_sublist _ _)) fun j hj => n2 j (mem_srt.mp (List.mem_of_mem_take hj))
    refine ⟨p, rfl, ⟨_, SqL.of upd_same⟩, for_it walk_list (fun i σ H' => Same H H' ∧ H' p = some (.lst ((srt (B.ms d)).map V.str)) ∧
      ∃ q items v4, H' q = some (.lst items) ∧ Tups H' items (((srt (B.ms d)).take i).flatMap fun j => (srt (B.cw j)).map fun h => [V.str j, V.str h]) ∧ σ = [some (.ref x.bd), some (.ref z.m), some (.str d), some (.ref q), v4, none, none, none])
      ⟨s1, upd_same, q0, [], none, (Same.new hn) _ _ hq, .nil, rfl⟩ (fun i σ H1 _ h => SqL.of h.2.1) ?_ ?_⟩
    · rintro i y σ H1 H2 hi ⟨s2, hp2, q, items, v4, hq2, ht2, rfl⟩ ⟨rfl, hy⟩
      obtain ⟨j, hj, rfl⟩ := strs_at hy
      have hjj : j ∈ B.jobs := n2 j (mem_srt.mp (mem_at hj))
      have hjL : j ∈ L.jobs := by rw [← sm.jb]; exact hjj
      have m2 := m.same s2
      have hcw := (okL.cw j hjL).1
      have hcl := hcw.len
      refine ⟨_, rfl, _, rfl, _, _, rfl, dm_cw m2.m, _, rfl, _, _, rfl, dg m2.cw hjL, z.cl j, _, rfl, SqL.of (m2.cl j hjL), by omega, fun ys r hr1 hs1 hn1 => ?_⟩
      have ey := srt_eq hr1 hs1
      subst ey
      rw [← sm.cw] at hcl ⊢
      have s3 := Same.new (o := .lst ((srt (B.cw j)).map V.str)) hn1
      have hr3 : (upd H2 r (.lst ((srt (B.cw j)).map V.str))) r = some (.lst ((srt (B.cw j)).map V.str)) := upd_same
      have hl3 := len_srt (B.cw j)
      refine ⟨r, rfl, ⟨_, SqL.of upd_same⟩, fun D hD => ?_⟩
      refine lc_gen walk_list (srt (B.cw j)) (fun _ => true) (fun h => [V.str j, V.str h]) (Fv V.str) (Tv id) (List.length_map _).symm (by rw [List.length_map]; omega) hD (fun H' s => s.seq (SqL.of hr3)) yS Tv.mono ?_ ?_
      · rintro i' h v H4 hi4 s4 rfl nx sk hk _
        refine ⟨rfl, ?_⟩
        refine tyes ?_
        exact ⟨_, rfl, _, rfl, by show 2 ≤ sizeLine; decide, fun t ht => hk rfl _ _ (Same.new ht) ⟨t, rfl, upd_same⟩⟩
      intro H4 it4 s4 hD4 ht4
      rw [filter_all] at ht4
      have ht4 := Tv.tups ht4
      rw [List.map_id] at ht4
      have l1 := ht2.len
      have l2 := ht4.len
      rw [List.length_map] at l2
      have hb := bound i
      have s24 := s3.trans s4
      refine ⟨q, D, _, _, rfl, rfl, s24 _ _ hq2, hD4, sz_of (by omega), fun q' hq' => ?_⟩
      have s5 := Same.new (o := .lst (items ++ it4)) hq'
      refine ⟨s2.trans (s24.trans s5), s5 _ _ (s24 _ _ hp2), q', items ++ it4, _, upd_same, ?_, rfl⟩
      rw [take_more hj, List.flatMap_append, List.flatMap_cons, List.flatMap_nil, List.append_nil]
      exact (Tups.app (ht2.keep (KpT.same s24)) ht4).keep (KpT.same s5)
    · rintro σ H1 ⟨s2, hp2, q, items, v4, hq2, ht2, rfl⟩
      rw [List.length_map, List.take_length] at ht2
      have b2 := b.same s2
      refine ⟨_, rfl, _, _, _, rfl, b2.ob, bf_no (by decide +kernel), _, rfl, ow, x, B, d, rfl, b2, ok, hd, ?_⟩
      refine ⟨_, rfl, _, _, _, rfl, b2.ob, bf_no (by decide +kernel), _, rfl, ow, x, B, d, rfl, b2, ok, hd, ?_⟩
      refine ⟨_, rfl, _, _, _, rfl, b2.ob, bf_no (by decide +kernel), _, rfl, ow, x, B, d, rfl, b2, ok, hd, ?_⟩
      refine ⟨_, rfl, _, _, _, rfl, b2.ob, bf_no (by decide +kernel), _, rfl, ow, x, B, d, rfl, b2, ok, hd, fun H3 p3 s3 hp3 => ?_⟩
      have b3 := b2.same s3
      refine ⟨_, rfl, _, _, _, rfl, b3.ob, bf_no (by decide +kernel), _, rfl, ow, x, B, d, rfl, b3, ok, hd, fun H4 p4 its s4 hp4 ht4 => ?_⟩
      refine ⟨by show 5 ≤ sizeLine; decide, fun r hr5 => ?_⟩
      have s5 : Same H4 (upd H4 r (.lst [.str (B.pl d), .str (B.hm d), .bl (decide (d ∈ B.fs)), .ref p3, .ref p4])) := Same.new hr5
      have hr6 : (upd H4 r (.lst [.str (B.pl d), .str (B.hm d), .bl (decide (d ∈ B.fs)), .ref p3, .ref p4])) r = some (.lst [.str (B.pl d), .str (B.hm d), .bl (decide (d ∈ B.fs)), .ref p3, .ref p4]) := upd_same
      generalize (upd H4 r (.lst [.str (B.pl d), .str (B.hm d), .bl (decide (d ∈ B.fs)), .ref p3, .ref p4])) = H5 at s5 hr6 ⊢
      have s25 := s3.trans (s4.trans s5)
      have m5 := m.same (s2.trans s25)
      refine ⟨_, rfl, _, _, rfl, dm_pl m5.m, _, rfl, _, _, rfl, dg m5.pl hdL, _, rfl, _, _, rfl, dm_hm m5.m, _, rfl, _, _, rfl, dg m5.hm hdL, _, rfl, _, rfl, _, _, rfl, dm_sk m5.m, z.sk, _, rfl, .inl (SqL.of m5.sk), rfl, flat_strs' _, ?_⟩
      rw [inV_str]
      refine ⟨_, rfl, _, _, rfl, dm_tg m5.m, _, rfl, _, _, rfl, dg m5.tg hdL, z.tl d, _, rfl, SqL.of (m5.tl d hdL), by omega, fun ys u hu1 hs1 hn1 => ?_⟩
      have ey := srt_eq hu1 hs1
      subst ey
      rw [es, ← sm.pl, ← sm.hm, show decide (d ∈ L.fs) = decide (d ∈ B.fs) from decide_eq_decide.mpr (sm.fs d).symm]
      have s6 := Same.new (o := .lst ((srt (B.ms d)).map V.str)) hn1
      refine ⟨_, rfl, by show 5 ≤ sizeLine; decide, fun r2 hr2 => ?_⟩
      have s7 := Same.new (o := .lst [V.str (B.pl d), .str (B.hm d), .bl (decide (d ∈ B.fs)), .ref u, .ref q]) hr2
      refine ⟨_, rfl, _, rfl, ?_⟩
      have s57 := s6.trans s7
      refine ⟨r, r2, .list [.str (B.pl d), .str (B.hm d), .bool (decide (d ∈ B.fs)), dS (srt (B.ms d)), .list ((tagR B d).map rowD)], 3, 60000, rfl, ?_, ?_, ?_, by decide, by decide, ?_⟩
      · exact .lst (SqL.of (s57 _ _ hr6)) (.cons (.str _) (.cons (.str _) (.cons (.bl _) (.cons (dpL (SqL.of ((s4.trans (s5.trans s57)) _ _ hp3))) (.cons (.lst (SqL.of ((s5.trans s57) _ _ hp4)) (dps_rows (ht4.keep (KpT.same (s5.trans s57))) tagR_flat)) .nil)))))
      · exact .lst (SqL.of upd_same) (.cons (.str _) (.cons (.str _) (.cons (.bl _) (.cons (dpL (SqL.of (s7 _ _ upd_same))) (.cons (.lst (SqL.of ((s25.trans s57) _ _ hq2)) (dps_rows (ht2.keep (KpT.same (s25.trans s57))) tagR_flat)) .nil)))))
      · refine sm_lst (n := 2) (b := 10000) (fun x hx => ?_) (by show 5 * 10002 + 3 ≤ 60000; decide)
        simp only [List.mem_cons, List.not_mem_nil, or_false] at hx
        rcases hx with rfl | rfl | rfl | rfl | rfl
        · exact (sm_s (ok.pl d hd).w).mono (by decide) (by decide)
        · exact (sm_s (ok.hm d hd).w).mono (by decide) (by decide)
        · exact .bool _ (by decide)
        · refine (sm_l (fun x hx => (ok.jb.all x (n2 x (mem_srt.mp hx))).w) ?_).mono (by decide) (by decide)
          have h5 := nd_len n1 n2
          have h6 := ok.jb.len
          rw [len_srt]
          omega
        · exact tag_sm ok hd
      · exact k _ (s2.trans (s25.trans s57))
end
end Sm
namespace Sm
open PySem PySem.Spec PyProof.Rows L2
section
variable {ow : Addr → Ro} {z : MA} {L : BS} {pp : Str → PS} {H H' : Hp} {K : PySem.W.Frag} {bd : Addr} {hi : Addr} {hk : List Str} {ji : Str → Addr}
theorem MAt.lockPl (m : MAt ow z L pp H) {od : Obj} : MRd z L pp (upd H z.pl (.frz od (.dK (dk L.devs fun d => .str (L.pl d))))) where
  m := .inl (up_ro m.m m.rm m.rpl (by intro z; cases z))
  pl := .inr ⟨od, upd_same⟩
  hm := .inl (up_ro m.hm m.rhm m.rpl (by intro z; cases z))
  sk := up_k m.sk m.pl (by intro z; cases z)
  tg := .inl (up_ro m.tg m.rtg m.rpl (by intro z; cases z))
  tl := fun d hd => up_k (m.tl d hd) m.pl (by intro z; cases z)
  cw := .inl (up_ro m.cw m.rcw m.rpl (by intro z; cases z))
  cl := fun d hd => up_k (m.cl d hd) m.pl (by intro z; cases z)
  jb := .inl (up_ro m.jb m.rjb m.rpl (by intro z; cases z))
  pa := fun j hj => .inl (up_ro (m.pa j hj) (m.rpa j hj) m.rpl (by intro z; cases z))
  ab := fun d hd => up_k (m.ab d hd) m.pl (by intro z; cases z)
  cu := fun d hd => up_k (m.cu d hd) m.pl (by intro z; cases z)
  em := fun d hd => up_k (m.em d hd) m.pl (by intro z; cases z)
theorem MAt.lockJb (m : MAt ow z L pp H) {od : Obj} : MRd z L pp (upd H z.jb (.frz od (.dK (dk L.jobs fun j => .ref (z.pa j))))) where
  m := .inl (up_ro m.m m.rm m.rjb (by intro z; cases z))
  pl := .inl (up_ro m.pl m.rpl m.rjb (by intro z; cases z))
  hm := .inl (up_ro m.hm m.rhm m.rjb (by intro z; cases z))
  sk := up_k m.sk m.jb (by intro z; cases z)
  tg := .inl (up_ro m.tg m.rtg m.rjb (by intro z; cases z))
  tl := fun d hd => up_k (m.tl d hd) m.jb (by intro z; cases z)
  cw := .inl (up_ro m.cw m.rcw m.rjb (by intro z; cases z))
  cl := fun d hd => up_k (m.cl d hd) m.jb (by intro z; cases z)
  jb := .inr ⟨od, upd_same⟩
  pa := fun j hj => .inl (up_ro (m.pa j hj) (m.rpa j hj) m.rjb (by intro z; cases z))
  ab := fun d hd => up_k (m.ab d hd) m.jb (by intro z; cases z)
  cu := fun d hd => up_k (m.cu d hd) m.jb (by intro z; cases z)
  em := fun d hd => up_k (m.em d hd) m.jb (by intro z; cases z)
theorem JSs.keep {p : Ro → Bool} (s : JSs K ow bd pp hi hk ji H) (k : Kp ow p H H') (hp : p .hr = false) : JSs K ow bd pp hi hk ji H' :=
  ⟨k _ _ s.he (.inl (by rw [s.rhe]; exact hp)), s.rhe, fun j hj => let ⟨y, h⟩ := s.jt j hj; ⟨y, h.keep k⟩⟩
theorem isM_B : ∀ r : Ro, r.isB = true → r.isM = false := fun r h => by cases r <;> first | rfl | cases h
/-- walks over the keys of a dict -/
theorem yK {ks : List Str} {g : Str → V} {H0 : Hp} : ∀ i x H H', i < (dk ks g).length → Same H0 H → (H' = H ∧ ∃ k v, (dk ks g)[i]? = some (k, v) ∧ x = kV k) → ∃ a, ks[i]? = some a ∧ Same H H' ∧ Fv V.str H' x a := by
  rintro i x H H' hi s ⟨rfl, k, v, e, rfl⟩
  obtain ⟨a, ha, rfl, rfl⟩ := dk_at e
  exact ⟨a, ha, Same.refl _, rfl⟩
theorem all_true {α : Type} : ∀ {l : List α}, (l.map fun _ => true).all id = true
  | [] => rfl
  | _ :: r => by rw [List.map_cons, List.all_cons, all_true]; rfl
end
section
variable {P : Program} {w : World} {K : PySem.W.Frag} {mg : Str → Option Value} {base : Heap}
/-! ### _law_same -/
def spSame (K : PySem.W.Frag) : Sp := fun vs H Q _ => ∃ (ow : Addr → Ro) (x : BA) (B : BS) (z : MA) (L : BS) (pp : Str → PS) (hi : Addr) (hk : List Str) (ji : Str → Addr), vs = [.ref x.bd, .ref hi, .ref z.m] ∧
  BAt K ow x B H ∧ BOk B ∧ (∀ j ∈ B.jobs, JOk B j (pp j)) ∧ MAt ow z L pp H ∧ Sim B L ∧ JSs K ow x.bd pp hi hk ji H ∧ (∀ j ∈ B.jobs, j ∈ hk) ∧ ∀ H', Same H H' → Q (.bl true) H'
abbrev N_l_same : List Str := ["_law_board", "_law_here", "_law_m", "_law_name_here"]
theorem sc_l_same : FnScope N_l_same ["_law_board", "_law_here", "_law_m"] (defScope s_lsame) := ⟨rfl, rfl, rfl, by decide +kernel, rfl, by decide +kernel, by decide +kernel⟩
theorem ok_l_same (T : Txt K mg) : GFnG P w K mg base 7 "_law_same" ["_law_board", "_law_here", "_law_m"] (spSame K) := by
  refine T.f_l_same.okG sc_l_same (fun vs H Q E h => ?_) (fun f cdv A outer s H vs Q E hr hg h => ?_)
  · obtain ⟨ow, x, B, z, L, pp, hi, hk, ji, rfl, _⟩ := h
    rfl
  · obtain ⟨ow, x, B, z, L, pp, hi, hk, ji, rfl, b, ok, oks, m, sm, js, hkj, k⟩ := h
    have hu := hu_of hr
    refine ⟨_, (pss_cons (ps_if (pt_not (pt_val (pe_fnG (ok_l_alike T) (hr.mono (by decide)) (by exact hg) (pa_cons (pe_lst (pa_cons (pe_mth0 (pv 0) T.clB (ok_B_devices T) (hr.mono (by decide)) pass0) (pa_cons (pe_mth0 (pv 0) T.clB (ok_B_jobs T) (hr.mono (by decide)) pass0) pa_nil))) (by exact (pa_cons (pe_lst (pa_cons (pe_callB (call_sortedD rfl) (by rfl) T.b_sorted (by decide +kernel) (pa_cons (pe_dget hu (pv 2) pe_str (fun _ _ => rfl)) pa_nil)) (pa_cons (pe_callB (call_sortedD rfl) (by rfl) T.b_sorted (by decide +kernel) (pa_cons (pe_dget hu (pv 2) pe_str (fun _ _ => rfl)) pa_nil)) pa_nil))) pa_nil))))))
      (pss_one (ps_ret pe_bl))
      pss_nil)
    (pss_cons (ps_if (pt_not (pt_val (pe_callB (cr_all rfl) (by rfl) T.b_all (by decide +kernel) (by exact (pa_cons (pe_lock (pe_lc (own := [("_law_name_here", 3)]) (by rfl) sc_l_same.nd (pi_keys (pe_dget hu (pv 2) pe_str (fun _ _ => rfl))) (blkOk_by (own := [("_law_name_here", 3)]) (N := N_l_same) (sc := defScope s_lsame) (by decide +kernel)) (fun _ _ _ _ _ => (pg_name (i := 3) sc_l_same.nd rfl (Or.inl rfl))) (fun _ _ _ _ _ => pts_nil) (fun _ _ _ _ _ => (pe_fnG (ok_l_same_device T) (hr.mono (by decide)) (by exact hg) (pa_cons (pv 0) (pa_cons (pv 2) (pa_cons (pv 3) pa_nil))))))) pa_nil)))))
      (pss_one (ps_ret pe_bl))
      pss_nil)
    (pss_one (ps_ret (pe_callB (cr_all rfl) (by rfl) T.b_all (by decide +kernel) (by exact (pa_cons (pe_lock (pe_lc (own := [("_law_name_here", 3)]) (by rfl) sc_l_same.nd (pi_keys (pe_dget hu (pv 2) pe_str (fun _ _ => rfl))) (blkOk_by (own := [("_law_name_here", 3)]) (N := N_l_same) (sc := defScope s_lsame) (by decide +kernel)) (fun _ _ _ _ _ => (pg_name (i := 3) sc_l_same.nd rfl (Or.inl rfl))) (fun _ _ _ _ _ => pts_nil) (fun _ _ _ _ _ => (pe_fnG (ok_l_same_job T) (hr.mono (by decide)) (by exact hg) (pa_cons (pv 1) (pa_cons (pv 2) (pa_cons (pv 3) pa_nil))))))) pa_nil))))))), ?_⟩
    have okL := sm.ok ok
    have hdl := ok.dv.len
    have hjl := ok.jb.len
    refine ⟨_, rfl, _, _, _, rfl, b.ob, bf_no (by decide +kernel), ow, x, B, rfl, b, ok, fun H1 p1 s1 hp1 => ?_⟩
    have b1 := b.same s1
    refine ⟨_, rfl, _, _, _, rfl, b1.ob, bf_no (by decide +kernel), ow, x, B, rfl, b1, ok, fun H2 p2 s2 hp2 => ?_⟩
    refine ⟨by show 2 ≤ sizeLine; decide, fun q hq => ?_⟩
    have s3 := Same.new (o := .lst [V.ref p1, .ref p2]) hq
    have hq3 : (upd H2 q (.lst [V.ref p1, .ref p2])) q = some (.lst [V.ref p1, .ref p2]) := upd_same
    generalize (upd H2 q (.lst [V.ref p1, .ref p2])) = H3 at s3 hq3 ⊢
    have s13 := s1.trans (s2.trans s3)
    have m3 := m.same s13
    refine ⟨_, rfl, _, _, rfl, dm_pl m3.rd.m, z.pl, _, L.devs, rfl, .inl m3.pl, dk_keys _ _, by rw [← sm.dv]; omega, fun ys p3 hp hs hn => ?_⟩
    have ey := srt_eq hp hs
    subst ey
    rw [← sm.dv]
    have s4 := Same.new (o := .lst ((srt B.devs).map V.str)) hn
    have m4 := m3.same s4
    refine ⟨_, rfl, _, _, rfl, dm_jb m4.rd.m, z.jb, _, L.jobs, rfl, .inl m4.jb, dk_keys _ _, by rw [← sm.jb]; omega, fun ys p4 hp' hs' hn' => ?_⟩
    have ey := srt_eq hp' hs'
    subst ey
    rw [← sm.jb]
    have s5 := Same.new (o := .lst ((srt B.jobs).map V.str)) hn'
    refine ⟨by show 2 ≤ sizeLine; decide, fun r hr' => ?_⟩
    have s6 := Same.new (o := .lst [V.ref p3, .ref p4]) hr'
    have s46 := s4.trans (s5.trans s6)
    refine ⟨q, r, .list [dS (srt B.devs), dS (srt B.jobs)], 3, 20000, rfl, ?_, ?_, ?_, by decide, by decide, true, rfl, iteF ?_⟩
    · exact .lst (SqL.of (s46 _ _ hq3)) (.cons (dpL (SqL.of ((s2.trans (s3.trans s46)) _ _ hp1))) (.cons (dpL (SqL.of ((s3.trans s46) _ _ hp2))) .nil))
    · exact .lst (SqL.of upd_same) (.cons (dpL (SqL.of ((s5.trans s6) _ _ upd_same))) (.cons (dpL (SqL.of (s6 _ _ upd_same))) .nil))
    · refine sm_lst (n := 2) (b := 6000) (fun x hx => ?_) (by show 2 * 6002 + 3 ≤ 20000; decide)
      simp only [List.mem_cons, List.not_mem_nil, or_false] at hx
      rcases hx with rfl | rfl
      · exact sm_l (fun x hx => (ok.dv.all x (mem_srt.mp hx)).w) (by rw [len_srt]; omega)
      · exact sm_l (fun x hx => (ok.jb.all x (mem_srt.mp hx)).w) (by rw [len_srt]; omega)
    have s16 := s13.trans s46
    generalize (upd (upd (upd H3 p3 (.lst ((srt B.devs).map V.str))) p4 (.lst ((srt B.jobs).map V.str))) r (.lst [V.ref p3, .ref p4])) = H6 at s16 ⊢
    have m6 := m.same s16
    have b6 := b.same s16
    -- the devices
    refine ⟨z.pl, _, m6.pl, mut_dk, fun od => ?_⟩
    have kp : Kp ow Ro.isM H6 (upd H6 z.pl (.frz od (.dK (dk L.devs fun d => .str (L.pl d))))) := Kp.refl.upd (by rw [m.rpl]; rfl) m6.pl
    have mL := m6.lockPl (od := od)
    have bL := b6.keep kp isM_B
    refine ⟨_, rfl, _, _, rfl, dm_pl mL.m, z.pl, od, rfl, .inl ⟨_, upd_same, fun D hD => ?_⟩⟩
    refine lc_gen walk_keys L.devs (fun _ => true) (fun _ => true) (Fv V.str) (Fv V.bl) (dk_len _ _).symm (by rw [dk_len, ← sm.dv]; omega) hD (fun H' s => s _ _ upd_same) yK Fv.mono ?_ ?_
    · rintro i d v H4 hi4 sl rfl nx sk hk' _
      refine ⟨rfl, ?_⟩
      refine tyes ?_
      exact ⟨_, rfl, _, rfl, _, rfl, ow, x, B, z, L, pp, d, rfl, bL.same sl, ok, mL.same sl, sm, by rw [sm.dv]; exact mem_at hi4, fun H5 s5 => hk' rfl _ _ s5 rfl⟩
    intro H7 it7 s7 hD7 hp7
    have e7 := Fv.eq hp7
    subst e7
    rw [filter_all] at hD7
    have su := unlock m6.pl s7
    have nD : D ≠ z.pl := by
      rintro rfl
      rw [upd_same] at hD; cases hD
    refine ⟨s7 _ _ upd_same, D, _, rfl, SqL.of (by rw [upd_ne nD]; exact hD7), ?_⟩
    rw [all_true]
    refine ⟨true, rfl, iteF ?_⟩
    have s18 := s16.trans su
    generalize (upd H7 z.pl (.dK (dk L.devs fun d => .str (L.pl d)))) = H8 at s18 ⊢
    have m8 := m.same s18
    have b8 := b.same s18
    have js8 := js.same s18
    -- the jobs
    refine ⟨z.jb, _, m8.jb, mut_dk, fun od => ?_⟩
    have kp : Kp ow Ro.isM H8 (upd H8 z.jb (.frz od (.dK (dk L.jobs fun j => .ref (z.pa j))))) := Kp.refl.upd (by rw [m.rjb]; rfl) m8.jb
    have mL := m8.lockJb (od := od)
    have bL := b8.keep kp isM_B
    have jL := js8.keep kp rfl
    refine ⟨_, rfl, _, _, rfl, dm_jb mL.m, z.jb, od, rfl, .inl ⟨_, upd_same, fun D hD => ?_⟩⟩
    refine lc_gen walk_keys L.jobs (fun _ => true) (fun _ => true) (Fv V.str) (Fv V.bl) (dk_len _ _).symm (by rw [dk_len, ← sm.jb]; omega) hD (fun H' s => s _ _ upd_same) yK Fv.mono ?_ ?_
    · rintro i j v H4 hi4 sl rfl nx sk hk' _
      refine ⟨rfl, ?_⟩
      refine tyes ?_
      have hj : j ∈ B.jobs := by rw [sm.jb]; exact mem_at hi4
      exact ⟨_, rfl, _, rfl, _, rfl, ow, x, B, z, L, pp, hi, hk, ji, j, rfl, bL.same sl, oks j hj, mL.same sl, sm, jL.same sl, hkj j hj, fun H5 s5 => hk' rfl _ _ s5 rfl⟩
    intro H9 it9 s9 hD9 hp9
    have e9 := Fv.eq hp9
    subst e9
    rw [filter_all] at hD9
    have su9 := unlock m8.jb s9
    have nD : D ≠ z.jb := by
      rintro rfl
      rw [upd_same] at hD; cases hD
    refine ⟨s9 _ _ upd_same, D, _, rfl, SqL.of (by rw [upd_ne nD]; exact hD9), ?_⟩
    rw [all_true]
    exact k _ (s18.trans su9)
end
end Sm
namespace Sm
open PySem PySem.Spec PyProof.Rows L2
/-! ### what stands while the bag is drawn from -/
section
variable {a : Addr} {H H' : Hp} {ow : Addr → Ro} {z : MA} {L : BS} {pp : Str → PS} {K : PySem.W.Frag} {x : BA} {B : BS} {W : Wd}
theorem Dr.dk (d : Dr a H H') {p : Addr} {kvs : List (Key × V)} (h : H p = some (.dK kvs)) : H' p = some (.dK kvs) := d.at h nb_dk
theorem Dr.st (d : Dr a H H') {p : Addr} {l : List Str} (h : H p = some (.lst (l.map V.str))) : H' p = some (.lst (l.map V.str)) := d.at h nb_strs
theorem Dr.ins (d : Dr a H H') {p C dx : Addr} {fs : List (Str × V)} (h : H p = some (.ins C dx fs)) : H' p = some (.ins C dx fs) := d.at h fun s t k c z => by cases z
theorem Dr.rd (d : Dr a H H') {p : Addr} {kvs : List (Key × V)} (h : Rd H p (.dK kvs)) : Rd H' p (.dK kvs) := h.imp d.dk fun ⟨o, h⟩ => ⟨o, d.at h fun s t k c z => by cases z⟩
theorem MAt.dr (m : MAt ow z L pp H) (d : Dr a H H') : MAt ow z L pp H' :=
  { m with
    m := d.dk m.m
    pl := d.dk m.pl
    hm := d.dk m.hm
    sk := d.st m.sk
    tg := d.dk m.tg
    tl := fun x hx => d.st (m.tl x hx)
    cw := d.dk m.cw
    cl := fun x hx => d.st (m.cl x hx)
    jb := d.dk m.jb
    pa := fun x hx => d.dk (m.pa x hx)
    ab := fun x hx => d.st (m.ab x hx)
    cu := fun x hx => d.st (m.cu x hx)
    em := fun x hx => d.st (m.em x hx) }
theorem WAt.dr (w : WAt W H) (d : Dr a H H') : WAt W H' := ⟨d.dk w.w, d.st w.d, d.st w.j, d.st w.h⟩
theorem WAt.same (w : WAt W H) (s : Same H H') : WAt W H' := ⟨s _ _ w.w, s _ _ w.d, s _ _ w.j, s _ _ w.h⟩
theorem BAt.dr (b : BAt K ow x B H) (d : Dr a H H') : BAt K ow x B H' :=
  { b with
    ob := d.ins b.ob
    st := d.dk b.st
    ho := d.dk b.ho
    fa := d.dk b.fa
    mr := d.dk b.mr
    md := fun y hy => d.dk (b.md y hy)
    ro := d.dk b.ro
    cr := fun y hy => d.st (b.cr y hy) }
theorem JAt.dr {bd ji : Addr} {y : JA} {nm : Str} {P : PS} (j : JAt K bd y ji nm P H) (d : Dr a H H') : JAt K bd y ji nm P H' := ⟨d.ins j.ob, d.st j.la, d.st j.lc, d.st j.le⟩
theorem JSs.dr {bd hi : Addr} {hk : List Str} {ji : Str → Addr} (s : JSs K ow bd pp hi hk ji H) (d : Dr a H H') : JSs K ow bd pp hi hk ji H' := ⟨d.dk s.he, s.rhe, fun j hj => let ⟨y, h⟩ := s.jt j hj; ⟨y, h.dr d⟩⟩
theorem DAt.dr {t : Addr} {d : Deed} (h : DAt H t d) (k : Dr a H H') : DAt H' t d := by
  obtain ⟨p, q, h1, h2⟩ := h
  exact ⟨p, q, k.at h1 nb_tup, Deed.lists_keep h2 fun a l e => k.st e⟩
theorem dw_d {d j h : Addr} {m : Bool} {p : Addr} (e : H p = some (.dK (wK d j h m))) : DGet H p (.str "devices") (some (.ref d)) := .inl ⟨_, Sum.inr "devices", .inl e, rfl, by rfl⟩
theorem dw_j {d j h : Addr} {m : Bool} {p : Addr} (e : H p = some (.dK (wK d j h m))) : DGet H p (.str "jobs") (some (.ref j)) := .inl ⟨_, Sum.inr "jobs", .inl e, rfl, by rfl⟩
theorem dw_h {d j h : Addr} {m : Bool} {p : Addr} (e : H p = some (.dK (wK d j h m))) : DGet H p (.str "hands") (some (.ref h)) := .inl ⟨_, Sum.inr "hands", .inl e, rfl, by rfl⟩
theorem dw_m {d j h : Addr} {m : Bool} {p : Addr} (e : H p = some (.dK (wK d j h m))) : DGet H p (.str "mixed") (some (.bl m)) := .inl ⟨_, Sum.inr "mixed", .inl e, rfl, by rfl⟩
end
/-- a deed has been drawn -/
def QDeed (a : Addr) (L : BS) (H : Hp) (Q : VK) : Prop := ∀ H' t d, Dr a H H' → DAt H' t d → d.fits L → Q (.ref t) H'
section
variable {P : Program} {w : World} {K : PySem.W.Frag} {mg : Str → Option Value} {base : Heap}
def spLBegin : Sp := fun vs H Q _ => ∃ (a : Addr) (ow : Addr → Ro) (z : MA) (L : BS) (pp : Str → PS) (W : Wd) (j : Str), vs = [.ref a, .ref z.m, .ref W.w, .str j] ∧ Bag H a ∧ MAt ow z L pp H ∧ BOk L ∧ WAt W H ∧ WOkk W ∧ j ∈ L.jobs ∧ QDeed a L H Q
abbrev N_l_begin : List Str := ["_law_bag_here", "_law_m", "_law_world_here", "_law_job", "_law_there", "_law_switches", "_law_drains", "_law_name_here"]
theorem sc_l_begin : FnScope N_l_begin ["_law_bag_here", "_law_m", "_law_world_here", "_law_job"] (defScope s_lbegin) := ⟨rfl, rfl, rfl, by decide +kernel, rfl, by decide +kernel, by decide +kernel⟩
theorem ok_l_begin (T : Txt K mg) : GFn P w K mg base CX0 3 "_law_begin" ["_law_bag_here", "_law_m", "_law_world_here", "_law_job"] spLBegin := by
  refine T.f_l_begin.ok0 sc_l_begin (fun vs H Q E h => ?_) (fun f cdv A outer s H vs Q E hr h => ?_)
  · obtain ⟨a, ow, z, L, pp, W, j, rfl, _⟩ := h
    rfl
  · obtain ⟨a, ow, z, L, pp, W, j, rfl, hb, m, ok, wa, wo, hj, kk⟩ := h
    have hu := hu_of hr
    refine ⟨_, (pss_cons (ps_setLc (i := 4) (own := [("_law_name_here", 7)]) (by rfl) sc_l_begin.nd rfl rfl (sw_true rfl rfl rfl (by decide +kernel)) (pi_list (pe_dget hu (pv 2) pe_str (fun _ _ => rfl))) (blkOk_by (own := [("_law_name_here", 7)]) (N := N_l_begin) (sc := defScope s_lbegin) (by decide +kernel)) (fun _ _ _ _ _ => (pg_name (i := 7) sc_l_begin.nd rfl (Or.inl rfl))) (fun _ _ _ _ _ => (pts_one (PW.pt (pw_or (pt_cmp (pc_din hu (pv 7) (pe_dget hu (pv 1) pe_str (fun _ _ => rfl)))) (pw_or1 (pt_cmpR op_eq (pe_fn (ok_l_take T) (hr.mono (by decide)) pass0 (pa_cons (pv 0) (pa_cons pe_int pa_nil))) pe_int (nomark _))))))) (fun _ _ _ _ _ => (pv 7)))
    (pss_cons (ps_set (i := 5) sc_l_begin.nd rfl (Or.inl rfl) (pe_fn (ok_l_some T) (hr.mono (by decide)) pass0 (pa_cons (pv 0) (pa_cons (pe_step2 (pv 4) po_none) pa_nil))))
    (pss_cons (ps_set (i := 6) sc_l_begin.nd rfl (Or.inl rfl) (pe_fn (ok_l_some T) (hr.mono (by decide)) pass0 (pa_cons (pv 0) (pa_cons (pe_step2 (pv 4) (po_some pe_int)) pa_nil))))
    (pss_cons (ps_if (PW.pt (pw_and (pt_val (pe_dget hu (pv 2) pe_str (fun _ _ => rfl))) (pw_and1 (pt_cmpR op_eq (pe_fn (ok_l_take T) (hr.mono (by decide)) pass0 (pa_cons (pv 0) (pa_cons pe_int pa_nil))) pe_int (nomark _)))))
      (pss_one (ps_ret (pe_tup (pa_cons pe_str (pa_cons (pv 3) (pa_cons (pv 6) (pa_cons (pv 5) pa_nil)))))))
      pss_nil)
    (pss_one (ps_ret (pe_tup (pa_cons pe_str (pa_cons (pv 3) (pa_cons (pv 5) (pa_cons (pv 6) pa_nil))))))))))), ?_⟩
    obtain ⟨⟨wd1, wd2⟩, _, _⟩ := id wo
    have hwl := wd1.len
    refine ⟨_, rfl, _, _, rfl, dw_d wa.w, W.d, rfl, ⟨_, SqL.of wa.d⟩, fun D hD => ?_⟩
    refine lc_genB walk_list (a := a) W.dv true (fun x y => y = x) (Fv V.str) (Fv V.str) hb (List.length_map _).symm (by rw [List.length_map]; omega) hD (fun H' d => SqL.of (d.st wa.d)) ?_ Fv.mono ?_ ?_
    · rintro i x H1 H2 hi d1 ⟨rfl, hy⟩
      obtain ⟨y, hy', rfl⟩ := strs_at hy
      exact ⟨y, hy', Same.refl _, rfl⟩
    · rintro i y x H1 hi d1 rfl nx sk hk hsk
      have m1 := m.dr d1
      refine ⟨rfl, ?_⟩
      refine ⟨_, rfl, _, rfl, _, _, rfl, dm_pl m1.rd.m, z.pl, _, rfl, dgi (.inl m1.pl), _, rfl, ?_⟩
      rw [isS]
      refine iteD (fun e => ?_) (fun e => ?_)
      · exact iteT ⟨_, rfl, hk _ _ y rfl (Dr.refl d1.b) rfl⟩
      · refine ⟨_, rfl, a, 6, rfl, d1.b, by decide, by decide, fun v H2 v0 v6 d2 => ⟨rfl, _, rfl, ?_⟩⟩
        refine iteD (fun e => ?_) (fun e => ?_)
        · exact ⟨_, rfl, hk _ _ y rfl d2 rfl⟩
        · exact hsk rfl _ d2
    intro H1 items l' bs d1 hD1 hsub _ hok hp
    have e := Fv.eq hp
    subst e
    cases paired_eq hok
    have hl' := hsub.length_le
    have nd' := wd1.nd.sublist hsub
    have pm : ∀ lo, pick (l'.map V.str) (ix2 (l'.map V.str).length lo) = (pick l' (ix2 l'.length lo)).map V.str := fun lo => by
      unfold pick
      rw [List.map_filterMap, List.length_map]
      congr 1
      funext i
      rw [List.getElem?_map]
    have pn : ∀ {lo}, lo = none ∨ lo = some 1 → (pick l' (ix2 l'.length lo)).Nodup := fun h => pick_nd nd' (ix2_nd _ h)
    have pl : ∀ lo, (pick l' (ix2 l'.length lo)).length ≤ 24 := fun lo => Nat.le_trans (List.length_filterMap_le _ _) (Nat.le_trans (ix2_len _ _) (by omega))
    have ps : ∀ lo, ∀ x ∈ pick l' (ix2 l'.length lo), IsName x := fun lo x hx => by
      obtain ⟨i, _, hi⟩ := mem_pick.mp hx
      exact wd1.all x (hsub.subset (List.mem_of_getElem? hi))
    have dis : ∀ x ∈ pick l' (ix2 l'.length (some 1)), x ∉ pick l' (ix2 l'.length none) := fun x h1 h2 => by
      obtain ⟨i, hi, ei⟩ := mem_pick.mp h1
      obtain ⟨k, hk, ek⟩ := mem_pick.mp h2
      have e1 := ix2_1 _ i hi
      have e2 := ix2_0 _ k hk
      have e3 := nd_ix nd' ei ek
      omega
    refine ⟨_, rfl, _, rfl, D, _, rfl, SqL.of hD1, fun p1 hp1 => ?_⟩
    rw [pm]
    have t1 := Same.new (o := .lst ((pick l' (ix2 l'.length none)).map V.str)) hp1
    refine ⟨a, p1, _, rfl, d1.b.same t1, upd_same, pn (.inl rfl), pl _, fun q1 l1 H2 d2 hq1 n1 sub1 => ?_⟩
    have d12 := d1.trans (Dr.of d1.b t1 d2)
    have hD2 := d2.st (t1 _ _ hD1)
    refine ⟨_, rfl, _, rfl, _, rfl, D, _, rfl, SqL.of hD2, fun p2 hp2 => ?_⟩
    rw [pm]
    have t2 := Same.new (o := .lst ((pick l' (ix2 l'.length (some 1))).map V.str)) hp2
    refine ⟨a, p2, _, rfl, d2.b.same t2, upd_same, pn (.inr rfl), pl _, fun q2 l2 H3 d3 hq2 n2 sub2 => ?_⟩
    have d13 := d12.trans (Dr.of d2.b t2 d3)
    have hq13 := d3.st (t2 _ _ hq1)
    have nm1 : Names l1 24 := ⟨fun x hx => ps _ x (sub1 x hx), n1, Nat.le_trans (nd_len n1 sub1) (pl _)⟩
    have nm2 : Names l2 24 := ⟨fun x hx => ps _ x (sub2 x hx), n2, Nat.le_trans (nd_len n2 sub2) (pl _)⟩
    have f1 : ∀ x ∈ l2, x ∉ l1 := fun x h2 h1 => dis x (sub2 x h2) (sub1 x h1)
    have f2 : ∀ x ∈ l1, x ∉ l2 := fun x h1 h2 => dis x (sub2 x h2) (sub1 x h1)
    have w3 := wa.dr d13
    refine ⟨_, rfl, _, _, rfl, dw_m w3.w, _, rfl, ?_⟩
    have one : ∀ {H4 : Hp}, Dr a H H4 → H4 q1 = some (.lst (l1.map V.str)) → H4 q2 = some (.lst (l2.map V.str)) → ∀ t, H4 t = none → Q (.ref t) (upd H4 t (.tup [.str "begin", .str j, .ref q1, .ref q2])) := fun d g1 g2 t ht =>
      kk _ t (.begin j l1 l2) (d.same (Same.new ht)) ⟨q1, q2, upd_same, (Same.new ht) _ _ g1, (Same.new ht) _ _ g2⟩ ⟨hj, nm1, nm2, f1⟩
    have two : ∀ {H4 : Hp}, Dr a H H4 → H4 q1 = some (.lst (l1.map V.str)) → H4 q2 = some (.lst (l2.map V.str)) → ∀ t, H4 t = none → Q (.ref t) (upd H4 t (.tup [.str "begin", .str j, .ref q2, .ref q1])) := fun d g1 g2 t ht =>
      kk _ t (.begin j l2 l1) (d.same (Same.new ht)) ⟨q2, q1, upd_same, (Same.new ht) _ _ g2, (Same.new ht) _ _ g1⟩ ⟨hj, nm2, nm1, f2⟩
    cases W.m with
    | false => exact iteF (iteF ⟨_, rfl, _, rfl, _, rfl, by show 4 ≤ sizeLine; decide, fun t ht => one d13 hq13 hq2 t ht⟩)
    | true =>
      refine iteT ?_
      refine take_rd (i := 0) rfl d3.b (n := 2) (by decide) (by decide) (fun R h => h) fun v H4 v0 v1 d4 => ?_
      refine ⟨rfl, _, rfl, ?_⟩
      refine iteD (fun e => ?_) (fun e => ?_)
      · exact ⟨_, rfl, _, rfl, _, rfl, by show 4 ≤ sizeLine; decide, fun t ht => two (d13.trans d4) (d4.st hq13) (d4.st hq2) t ht⟩
      · exact ⟨_, rfl, _, rfl, _, rfl, by show 4 ≤ sizeLine; decide, fun t ht => one (d13.trans d4) (d4.st hq13) (d4.st hq2) t ht⟩
end
end Sm
namespace Sm
open PySem PySem.Spec PyProof.Rows L2
theorem nb_refs {a : Addr} {r : List V} : ∀ s t k c, (HO.lst (V.ref a :: r)) ≠ .lst (bagL s t k c) := fun s t k c z => by cases z
/-- all that is drawn from, of m -/
structure LSt (a : Addr) (ow : Addr → Ro) (z : MA) (L : BS) (pp : Str → PS) (W : Wd) (H : Hp) : Prop where
  b : Bag H a
  m : MAt ow z L pp H
  ok : BOk L
  oks : ∀ j ∈ L.jobs, JOk L j (pp j)
  w : WAt W H
  wo : WOkk W
theorem LSt.dr {a : Addr} {ow : Addr → Ro} {z : MA} {L : BS} {pp : Str → PS} {W : Wd} {H H' : Hp} (s : LSt a ow z L pp W H) (d : Dr a H H') : LSt a ow z L pp W H' := ⟨d.b, s.m.dr d, s.ok, s.oks, s.w.dr d, s.wo⟩
theorem LSt.same {a : Addr} {ow : Addr → Ro} {z : MA} {L : BS} {pp : Str → PS} {W : Wd} {H H' : Hp} (s : LSt a ow z L pp W H) (d : Same H H') : LSt a ow z L pp W H' := ⟨s.b.same d, s.m.same d, s.ok, s.oks, s.w.same d, s.wo⟩
theorem QDeed.same {a : Addr} {L : BS} {H H1 : Hp} {Q : VK} (h : QDeed a L H Q) (b : Bag H a) (s : Same H H1) : QDeed a L H1 Q := fun H' t d k hd hf => h H' t d (Dr.of b s k) hd hf
theorem QDeed.dr {a : Addr} {L : BS} {H H1 : Hp} {Q : VK} (h : QDeed a L H Q) (s : Dr a H H1) : QDeed a L H1 Q := fun H' t d k hd hf => h H' t d (s.trans k) hd hf
theorem QDeed.tup {a : Addr} {L : BS} {H : Hp} {Q : VK} (h : QDeed a L H Q) (b : Bag H a) {t : Addr} {d : Deed} {p q : Addr} {xs : List V} (ht : H t = none) (e : xs = d.row p q) (hl : d.lists H p q) (hf : d.fits L) : Q (.ref t) (upd H t (.tup xs)) := by
  subst e
  exact h _ t d ((Dr.refl b).same (Same.new ht)) ⟨p, q, upd_same, Deed.lists_keep hl fun a l e => (Same.new ht) _ _ e⟩ hf
section
variable {P : Program} {w : World} {K : PySem.W.Frag} {mg : Str → Option Value} {base : Heap}
def spLJob : Sp := fun vs H Q _ => ∃ (a : Addr) (ow : Addr → Ro) (z : MA) (L : BS) (pp : Str → PS) (W : Wd) (j : Str), vs = [.ref a, .ref z.m, .ref W.w, .str j] ∧ LSt a ow z L pp W H ∧ j ∈ L.jobs ∧ QDeed a L H Q
abbrev N_l_natural : List Str := ["_law_bag_here", "_law_m", "_law_world_here", "_law_job", "_law_phase", "_law_hand", "_law_one_here", "_law_some_here"]
theorem sc_l_natural : FnScope N_l_natural ["_law_bag_here", "_law_m", "_law_world_here", "_law_job"] (defScope s_lnatural) := ⟨rfl, rfl, rfl, by decide +kernel, rfl, by decide +kernel, by decide +kernel⟩
theorem ok_l_natural (T : Txt K mg) : GFn P w K mg base CX0 4 "_law_natural" ["_law_bag_here", "_law_m", "_law_world_here", "_law_job"] spLJob := by
  refine T.f_l_natural.ok0 sc_l_natural (fun vs H Q E h => ?_) (fun f cdv A outer s H vs Q E hr h => ?_)
  · obtain ⟨a, ow, z, L, pp, W, j, rfl, _⟩ := h
    rfl
  · obtain ⟨a, ow, z, L, pp, W, j, rfl, S, hj, kk⟩ := h
    have hu := hu_of hr
    refine ⟨_, (pss_cons (ps_set (i := 4) sc_l_natural.nd rfl (Or.inl rfl) (pe_dget hu (pe_dget hu (pe_dget hu (pv 1) pe_str (fun _ _ => rfl)) (pv 3) (fun _ _ => rfl)) pe_str (fun _ _ => rfl)))
    (pss_cons (ps_if (pt_cmpR op_eq (pv 4) pe_str (nomark _))
      (pss_one (ps_ret (pe_ix ix_list (pe_lst (pa_cons (pe_fn (ok_l_begin T) (hr.mono (by decide)) pass0 (pa_cons (pv 0) (pa_cons (pv 1) (pa_cons (pv 2) (pa_cons (pv 3) pa_nil))))) (by exact (pa_cons (pe_tup (pa_cons pe_str (pa_cons (pv 3) pa_nil))) pa_nil)))) (pe_callTy call_int1 (by rfl) T.b_int (by decide +kernel) (by exact (pa_cons (pe_cmpR op_eq (pe_fn (ok_l_take T) (hr.mono (by decide)) pass0 (pa_cons (pv 0) (pa_cons pe_int pa_nil))) pe_int (nomark _)) pa_nil))) (fun _ _ => rfl))))
      pss_nil)
    (pss_cons (ps_if (pt_cmpR (op_neD hr.units) (pe_fn (ok_l_steps T) (hr.mono (by decide)) pass0 (pa_cons (pv 1) (pa_cons (pv 3) pa_nil))) (pe_lst pa_nil) (nomark _))
      (pss_one (ps_ret (pe_ix ix_list (pe_lst (pa_cons (pe_tup (pa_cons pe_str (pa_cons (pv 3) pa_nil))) (pa_cons (pe_tup (pa_cons pe_str (pa_cons (pv 3) pa_nil))) pa_nil))) (pe_callTy call_int1 (by rfl) T.b_int (by decide +kernel) (by exact (pa_cons (pe_cmpR op_eq (pe_fn (ok_l_take T) (hr.mono (by decide)) pass0 (pa_cons (pv 0) (pa_cons pe_int pa_nil))) pe_int (nomark _)) pa_nil))) (fun _ _ => rfl))))
      pss_nil)
    (pss_cons (ps_if (pt_cmpR op_eq (pv 4) pe_str (nomark _))
      (pss_one (ps_ret (pe_tup (pa_cons pe_str (pa_cons (pv 3) pa_nil)))))
      pss_nil)
    (pss_cons (ps_if (pt_cmpR op_eq (pv 4) pe_str (nomark _))
      (pss_one (ps_ret (pe_ix ix_list (pe_lst (pa_cons (pe_tup (pa_cons pe_str (pa_cons (pv 3) pa_nil))) (pa_cons (pe_tup (pa_cons pe_str (pa_cons (pv 3) pa_nil))) pa_nil))) (pe_callTy call_int1 (by rfl) T.b_int (by decide +kernel) (by exact (pa_cons (pe_cmpR op_eq (pe_fn (ok_l_take T) (hr.mono (by decide)) pass0 (pa_cons (pv 0) (pa_cons pe_int pa_nil))) pe_int (nomark _)) pa_nil))) (fun _ _ => rfl))))
      pss_nil)
    (pss_cons (ps_par (i := 5) (j := 6) (by rfl) sc_l_natural.nd rfl rfl (by decide) rfl rfl (pa_cons (pe_fn (ok_l_one T) (hr.mono (by decide)) pass0 (pa_cons (pv 0) (pa_cons (pe_dget hu (pv 2) pe_str (fun _ _ => rfl)) pa_nil))) (by exact (pa_cons (pe_fn (ok_l_one T) (hr.mono (by decide)) pass0 (pa_cons (pv 0) (pa_cons (pe_dget hu (pe_dget hu (pv 1) pe_str (fun _ _ => rfl)) (pv 3) (fun _ _ => rfl)) pa_nil))) pa_nil))) (by rfl))
    (pss_cons (ps_set (i := 7) sc_l_natural.nd rfl (Or.inl rfl) (pe_lst (pa_cons (pe_tup (pa_cons pe_str (pa_cons (pv 3) pa_nil))) (pa_cons (pe_tup (pa_cons pe_str (pa_cons (pv 3) pa_nil))) (pa_cons (pe_tup (pa_cons pe_str (pa_cons (pv 3) pa_nil))) (pa_cons (pe_tup (pa_cons pe_str (pa_cons (pv 3) (pa_cons (pv 5) pa_nil)))) (pa_cons (pe_tup (pa_cons pe_str (pa_cons (pv 3) (pa_cons (pv 6) pa_nil)))) pa_nil)))))))
    (pss_one (ps_ret (pe_fn (ok_l_one T) (hr.mono (by decide)) pass0 (pa_cons (pv 0) (pa_cons (pe_op op_cat (pv 7) (pe_lst (pa_cons (pe_tup (pa_cons pe_str (pa_cons (pv 3) (pa_cons (pv 6) (pa_cons (pv 5) pa_nil))))) pa_nil))) pa_nil)))))))))))), ?_⟩
    have m := S.m
    -- one of two
    have two : ∀ {H1 H2 : Hp} {q t1 t2 : Addr} {d1 d2 : Deed} {v : Int}, Dr a H H1 → DAt H1 t1 d1 → d1.fits L → DAt H1 t2 d2 → d2.fits L → H1 q = some (.lst [.ref t1, .ref t2]) → Dr a H1 H2 →
        rIxL K (.ref q) (.int (if decide (V.int v = V.int 0) then 1 else 0)) H2 Q := fun {H1 H2 q t1 t2 d1 d2 v} k e1 f1 e2 f2 hq k2 => by
      by_cases e : V.int v = V.int 0
      · rw [decide_eq_true e]
        exact ⟨q, _, 1, .ref t2, rfl, rfl, SqL.of (k2.at hq nb_refs), at1, kk _ t2 d2 (k.trans k2) (e2.dr k2) f2⟩
      · rw [decide_eq_false e]
        exact ⟨q, _, 0, .ref t1, rfl, rfl, SqL.of (k2.at hq nb_refs), at0, kk _ t1 d1 (k.trans k2) (e1.dr k2) f1⟩
    have dtup : ∀ {H1 : Hp} {t : Addr} {xs : List V} {d : Deed}, xs = d.row t t → d.lists (upd H1 t (.tup xs)) t t → DAt (upd H1 t (.tup xs)) t d := fun {H1 t xs d} e hl => ⟨t, t, by rw [upd_same, e], hl⟩
    refine ⟨_, rfl, _, _, rfl, dm_jb m.rd.m, _, rfl, _, _, rfl, dg m.rd.jb hj, _, _, rfl, dp_ph (m.rd.pa j hj), ?_⟩
    generalize hph : (pp j).ph = ph
    refine ⟨_, rfl, rfl, _, rfl, iteD (fun e => ?_) (fun e => ?_)⟩
    · refine ⟨_, rfl, _, rfl, _, rfl, _, rfl, a, ow, z, L, pp, W, j, rfl, S.b, m, S.ok, S.w, S.wo, hj, fun H1 t1 d1 k1 e1 f1 => ?_⟩
      refine ⟨_, rfl, by show 2 ≤ sizeLine; decide, fun t2 ht2 => ⟨by show 2 ≤ sizeLine; decide, fun q hq => ?_⟩⟩
      have s2 := Same.new (o := .tup [V.str "end", .str j]) ht2
      have s3 := Same.new (o := .lst [V.ref t1, .ref t2]) hq
      have k3 := k1.same (s2.trans s3)
      refine take_rd (i := 0) rfl k3.b (n := 10) (by decide) (by decide) (fun R h => h) fun v H4 v0 v1 k4 => ?_
      exact ⟨rfl, .inr ⟨_, rfl, two k3 (e1.same (s2.trans s3)) f1 ((dtup (d := .fin j) rfl trivial).same s3) hj upd_same k4⟩⟩
    · refine ⟨_, rfl, _, rfl, z, L, pp, j, rfl, m.rd, S.ok, (S.oks j hj).po, hj, fun H1 p items s1 hp ht => ?_⟩
      refine ⟨by show 0 ≤ sizeLine; exact Nat.zero_le _, fun q0 hq0 => ?_⟩
      have s2 := Same.new (o := .lst []) hq0
      refine ⟨_, .list [], dp_steps (s2 _ _ hp) (ht.keep (KpT.same s2)), .lst (xs := []) (SqL.of upd_same) .nil, (st_sm S.ok (S.oks j hj).po).shaped (by decide), rfl, _, rfl, ?_⟩
      have s12 := s1.trans s2
      have k12 : Dr a H (upd H1 q0 (.lst [])) := (Dr.refl S.b).same s12
      generalize (upd H1 q0 (.lst [])) = H2 at s12 k12 ⊢
      rw [eqv_nil', decide_eq_decide.mpr (map_nil.trans map_nil)]
      refine iteNd (fun e2 => ?_) (fun e2 => ?_)
      · refine ⟨_, rfl, by show 2 ≤ sizeLine; decide, fun t1 ht1 => ⟨_, rfl, by show 2 ≤ sizeLine; decide, fun t2 ht2 => ⟨by show 2 ≤ sizeLine; decide, fun q hq => ?_⟩⟩⟩
        have g1 := Same.new (o := .tup [V.str "step", .str j]) ht1
        have g2 := Same.new (o := .tup [V.str "put_by", .str j]) ht2
        have g3 := Same.new (o := .lst [V.ref t1, .ref t2]) hq
        have k3 := k12.same (g1.trans (g2.trans g3))
        refine take_rd (i := 0) rfl k3.b (n := 16) (by decide) (by decide) (fun R h => h) fun v H4 v0 v1 k4 => ?_
        exact ⟨rfl, .inr ⟨_, rfl, two k3 ((dtup (d := .step j) rfl trivial).same (g2.trans g3)) hj ((dtup (d := .putBy j) rfl trivial).same g3) hj upd_same k4⟩⟩
      · refine ⟨_, rfl, rfl, _, rfl, iteD (fun e3 => ?_) (fun e3 => ?_)⟩
        · exact ⟨_, rfl, by show 2 ≤ sizeLine; decide, fun t1 ht1 => kk _ t1 (.give j) (k12.same (Same.new ht1)) (dtup rfl trivial) hj⟩
        refine ⟨_, rfl, rfl, _, rfl, iteD (fun e4 => ?_) (fun e4 => ?_)⟩
        · refine ⟨_, rfl, by show 2 ≤ sizeLine; decide, fun t1 ht1 => ⟨_, rfl, by show 2 ≤ sizeLine; decide, fun t2 ht2 => ⟨by show 2 ≤ sizeLine; decide, fun q hq => ?_⟩⟩⟩
          have g1 := Same.new (o := .tup [V.str "go_on", .str j]) ht1
          have g2 := Same.new (o := .tup [V.str "end", .str j]) ht2
          have g3 := Same.new (o := .lst [V.ref t1, .ref t2]) hq
          have k3 := k12.same (g1.trans (g2.trans g3))
          refine take_rd (i := 0) rfl k3.b (n := 4) (by decide) (by decide) (fun R h => h) fun v H4 v0 v1 k4 => ?_
          exact ⟨rfl, .inr ⟨_, rfl, two k3 ((dtup (d := .goOn j) rfl trivial).same (g2.trans g3)) hj ((dtup (d := .fin j) rfl trivial).same g3) hj upd_same k4⟩⟩
        · have S2 := S.dr k12
          have nm1 : ∀ {l : List Str} (i : Int), (l.map V.str)[0]? ≠ some (.int i) := fun {l} i z => by
            cases l with
            | nil => cases z
            | cons a r => cases z
          refine ⟨_, rfl, _, rfl, _, _, rfl, dw_h S2.w.w, a, W.h, _, rfl, S2.b, S2.w.h, nm1, fun z => S2.wo.h.2 (map_nil.mp z), by rw [List.length_map]; have := S2.wo.h.1.len; omega, fun x3 H3 hx3 k3 => ?_⟩
          obtain ⟨hd, hhd, rfl⟩ := List.mem_map.mp hx3
          have S3 := S2.dr k3
          have k13 := k12.trans k3
          have hcw := S.ok.cw j hj
          refine ⟨_, rfl, _, rfl, _, _, rfl, dm_cw S3.m.rd.m, _, rfl, _, _, rfl, dg S3.m.rd.cw hj, a, z.cl j, _, rfl, S3.b, S3.m.cl j hj, nm1, fun z => hcw.2 (map_nil.mp z), by rw [List.length_map]; have := hcw.1.len; omega, fun x4 H4 hx4 k4 => ?_⟩
          obtain ⟨on, hon, rfl⟩ := List.mem_map.mp hx4
          have k14 := k13.trans k4
          have nhd := S.wo.h.1.all hd hhd
          have non := hcw.1.all on hon
          refine ⟨_, _, rfl, ?_⟩
          refine ⟨_, rfl, by show 2 ≤ sizeLine; decide, fun t1 ht1 => ⟨_, rfl, by show 2 ≤ sizeLine; decide, fun t2 ht2 => ⟨_, rfl, by show 2 ≤ sizeLine; decide, fun t3 ht3 => ⟨_, rfl, _, rfl, by show 3 ≤ sizeLine; decide, fun t4 ht4 => ⟨_, rfl, _, rfl, by show 3 ≤ sizeLine; decide, fun t5 ht5 => ⟨by show 5 ≤ sizeLine; decide, fun q hq => ?_⟩⟩⟩⟩⟩⟩
          have g1 := Same.new (o := .tup [V.str "try_out", .str j]) ht1
          have g2 := Same.new (o := .tup [V.str "end", .str j]) ht2
          have g3 := Same.new (o := .tup [V.str "put_by", .str j]) ht3
          have g4 := Same.new (o := .tup [V.str "sign_on", .str j, .str hd]) ht4
          have g5 := Same.new (o := .tup [V.str "sign_off", .str j, .str on]) ht5
          have g6 := Same.new (o := .lst [V.ref t1, .ref t2, .ref t3, .ref t4, .ref t5]) hq
          have g16 := g1.trans (g2.trans (g3.trans (g4.trans (g5.trans g6))))
          have a1 := (dtup (H1 := H4) (t := t1) (d := .tryOut j) rfl trivial).same (g2.trans (g3.trans (g4.trans (g5.trans g6))))
          have a2 := (dtup (t := t2) (d := .fin j) rfl trivial).same (g3.trans (g4.trans (g5.trans g6)))
          have a3 := (dtup (t := t3) (d := .putBy j) rfl trivial).same (g4.trans (g5.trans g6))
          have a4 := (dtup (t := t4) (d := .on j hd) rfl trivial).same (g5.trans g6)
          have a5 := (dtup (t := t5) (d := .off j on) rfl trivial).same g6
          have hq6 : (upd (upd (upd (upd (upd (upd H4 t1 (.tup [V.str "try_out", .str j])) t2 (.tup [V.str "end", .str j])) t3 (.tup [V.str "put_by", .str j])) t4 (.tup [V.str "sign_on", .str j, .str hd])) t5 (.tup [V.str "sign_off", .str j, .str on])) q (.lst [V.ref t1, .ref t2, .ref t3, .ref t4, .ref t5])) q = some (.lst [V.ref t1, .ref t2, .ref t3, .ref t4, .ref t5]) := upd_same
          have k16 := k14.same g16
          generalize (upd (upd (upd (upd (upd (upd H4 t1 (.tup [V.str "try_out", .str j])) t2 (.tup [V.str "end", .str j])) t3 (.tup [V.str "put_by", .str j])) t4 (.tup [V.str "sign_on", .str j, .str hd])) t5 (.tup [V.str "sign_off", .str j, .str on])) q (.lst [V.ref t1, .ref t2, .ref t3, .ref t4, .ref t5])) = H6 at k16 a1 a2 a3 a4 a5 hq6 ⊢
          refine ⟨_, rfl, _, rfl, _, rfl, _, rfl, _, rfl, by show 4 ≤ sizeLine; decide, fun t6 ht6 => ⟨by show 1 ≤ sizeLine; decide, fun r hr' => ?_⟩⟩
          have g7 := Same.new (o := .tup [V.str "hand_over", .str j, .str on, .str hd]) ht6
          have g8 := Same.new (o := .lst [V.ref t6]) hr'
          have g78 := g7.trans g8
          refine ⟨q, r, _, _, rfl, rfl, g78 _ _ hq6, upd_same, by show 6 ≤ sizeLine; decide, fun r2 hr2 => ?_⟩
          have g9 := Same.new (o := .lst ([V.ref t1, .ref t2, .ref t3, .ref t4, .ref t5] ++ [V.ref t6])) hr2
          have g79 := g78.trans g9
          have k19 := k16.same g79
          have a6 := (dtup (t := t6) (d := .over j on hd) rfl trivial).same (g8.trans g9)
          refine ⟨a, r2, _, rfl, k19.b, upd_same, (fun i z => V.noConfusion (Option.some.inj z)), (fun z => nomatch z), by show 6 ≤ 1000; decide, fun x H7 hx k7 => ?_⟩
          have fin : ∀ {t : Addr} {d : Deed}, DAt H7 t d → d.fits L → Q (.ref t) H7 := fun {t d} e f => kk _ t d (k19.trans k7) e f
          have hx : x ∈ [V.ref t1, .ref t2, .ref t3, .ref t4, .ref t5, .ref t6] := hx
          simp only [List.mem_cons, List.not_mem_nil, or_false] at hx
          rcases hx with rfl | rfl | rfl | rfl | rfl | rfl
          · exact fin ((a1.same g79).dr k7) hj
          · exact fin ((a2.same g79).dr k7) hj
          · exact fin ((a3.same g79).dr k7) hj
          · exact fin ((a4.same g79).dr k7) ⟨hj, nhd⟩
          · exact fin ((a5.same g79).dr k7) ⟨hj, non⟩
          · exact fin (a6.dr k7) ⟨hj, non, nhd⟩
end
end Sm
namespace Sm
open PySem PySem.Spec PyProof.Rows L2
def words10 : List Str := ["begin", "step", "give", "try_out", "go_on", "put_by", "end", "sign_on", "sign_off", "hand_over"]
theorem nm1 {l : List Str} (i : Int) : (l.map V.str)[0]? ≠ some (.int i) := fun z => by
  cases l with
  | nil => cases z
  | cons a r => cases z
section
variable {P : Program} {w : World} {K : PySem.W.Frag} {mg : Str → Option Value} {base : Heap}
/-- a hand of the world is drawn -/
theorem oneHd {σ : L2.St} {H : Hp} {Q : VK} {E : XK} {a : Addr} {ow : Addr → Ro} {z : MA} {L : BS} {pp : Str → PS} {W : Wd} (h0 : σ[0]? = some (some (.ref a))) (h2 : σ[2]? = some (some (.ref W.w))) (S : LSt a ow z L pp W H)
    (k : ∀ h H', h ∈ W.hd → Dr a H H' → Q (.str h) H') : tCall spOne [] E (tCons (tVar 0) (tCons (tDGet (tVar 2) (tC (.str "hands"))) tNil)) σ H Q :=
  ⟨_, h0, _, h2, _, _, rfl, dw_h S.w.w, a, W.h, _, rfl, S.b, S.w.h, nm1, fun z => S.wo.h.2 (map_nil.mp z), by rw [List.length_map]; have := S.wo.h.1.len; omega, fun x3 H3 hx3 k3 => by
    obtain ⟨hd, hhd, rfl⟩ := List.mem_map.mp hx3
    exact k hd H3 hhd k3⟩
abbrev N_l_any : List Str := ["_law_bag_here", "_law_m", "_law_world_here", "_law_job", "_law_words", "_law_word"]
theorem sc_l_any : FnScope N_l_any ["_law_bag_here", "_law_m", "_law_world_here", "_law_job"] (defScope s_lany) := ⟨rfl, rfl, rfl, by decide +kernel, rfl, by decide +kernel, by decide +kernel⟩
theorem ok_l_any (T : Txt K mg) : GFn P w K mg base CX0 4 "_law_any" ["_law_bag_here", "_law_m", "_law_world_here", "_law_job"] spLJob := by
  refine T.f_l_any.ok0 sc_l_any (fun vs H Q E h => ?_) (fun f cdv A outer s H vs Q E hr h => ?_)
  · obtain ⟨a, ow, z, L, pp, W, j, rfl, _⟩ := h
    rfl
  · obtain ⟨a, ow, z, L, pp, W, j, rfl, S, hj, kk⟩ := h
    have hu := hu_of hr
    refine ⟨_, (pss_cons (ps_set (i := 4) sc_l_any.nd rfl (Or.inl rfl) (pe_lst (pa_cons pe_str (pa_cons pe_str (pa_cons pe_str (pa_cons pe_str (pa_cons pe_str (pa_cons pe_str (pa_cons pe_str (pa_cons pe_str (pa_cons pe_str (pa_cons pe_str pa_nil))))))))))))
    (pss_cons (ps_set (i := 5) sc_l_any.nd rfl (Or.inl rfl) (pe_fn (ok_l_one T) (hr.mono (by decide)) pass0 (pa_cons (pv 0) (pa_cons (pv 4) pa_nil))))
    (pss_cons (ps_if (pt_cmpR op_eq (pv 5) pe_str (nomark _))
      (pss_one (ps_ret (pe_fn (ok_l_begin T) (hr.mono (by decide)) pass0 (pa_cons (pv 0) (pa_cons (pv 1) (pa_cons (pv 2) (pa_cons (pv 3) pa_nil)))))))
      pss_nil)
    (pss_cons (ps_if (pt_cmpR op_in_seq (pv 5) (pe_tup (pa_cons pe_str (pa_cons pe_str pa_nil))) rfl)
      (pss_one (ps_ret (pe_tup (pa_cons (pv 5) (pa_cons (pv 3) (by exact (pa_cons (pe_fn (ok_l_one T) (hr.mono (by decide)) pass0 (pa_cons (pv 0) (pa_cons (pe_dget hu (pv 2) pe_str (fun _ _ => rfl)) pa_nil))) pa_nil)))))))
      pss_nil)
    (pss_cons (ps_if (pt_cmpR op_eq (pv 5) pe_str (nomark _))
      (pss_one (ps_ret (pe_tup (pa_cons (pv 5) (pa_cons (pv 3) (by exact (pa_cons (pe_fn (ok_l_one T) (hr.mono (by decide)) pass0 (pa_cons (pv 0) (pa_cons (pe_dget hu (pv 2) pe_str (fun _ _ => rfl)) pa_nil))) (by exact (pa_cons (pe_fn (ok_l_one T) (hr.mono (by decide)) pass0 (pa_cons (pv 0) (pa_cons (pe_dget hu (pv 2) pe_str (fun _ _ => rfl)) pa_nil))) pa_nil)))))))))
      pss_nil)
    (pss_one (ps_ret (pe_tup (pa_cons (pv 5) (pa_cons (pv 3) pa_nil)))))))))), ?_⟩
    refine ⟨by show 10 ≤ sizeLine; decide, fun q0 hq0 => ?_⟩
    have s0 := Same.new (o := .lst (words10.map V.str)) hq0
    have S0 := S.same s0
    have kk0 := kk.same S.b s0
    have hq : (upd H q0 (.lst (words10.map V.str))) q0 = some (.lst (words10.map V.str)) := upd_same
    refine ⟨_, rfl, _, rfl, a, q0, words10.map V.str, rfl, S0.b, hq, nm1, by decide, by decide, fun x H1 hx k1 => ?_⟩
    obtain ⟨wd, hwd, rfl⟩ := List.mem_map.mp hx
    have S1 := S0.dr k1
    have kk1 := kk0.dr k1
    have plain : ∀ {σ : L2.St} {t : Addr} {H2 : Hp} (d : Deed), [V.str wd, .str j] = d.row t t → d.lists H2 t t → d.fits L → Dr a H1 H2 → H2 t = none → Q (.ref t) (upd H2 t (.tup [.str wd, .str j])) := fun {σ t H2} d e hl hf k ht => (kk1.dr k).tup k.b ht e hl hf
    simp only [words10, List.mem_cons, List.not_mem_nil, or_false] at hwd
    rcases hwd with rfl | rfl | rfl | rfl | rfl | rfl | rfl | rfl | rfl | rfl
    · refine wEqT rfl (iteT ?_)
      exact ⟨_, rfl, _, rfl, _, rfl, _, rfl, a, ow, z, L, pp, W, j, rfl, S1.b, S1.m, S1.ok, S1.w, S1.wo, hj, kk1⟩
    · refine wEqF rfl (by decide +kernel) (iteF ?_)
      refine wIn ["sign_on", "sign_off"] false rfl (fun R h => h) (by decide) (by decide +kernel) fun H2 s2 => iteF ?_
      refine wEqF rfl (by decide +kernel) (iteF ?_)
      exact ⟨_, rfl, _, rfl, by show 2 ≤ sizeLine; decide, fun t ht => (kk1.same S1.b s2).tup (S1.b.same s2) (d := .step j) (p := t) (q := t) ht rfl trivial hj⟩
    · refine wEqF rfl (by decide +kernel) (iteF ?_)
      refine wIn ["sign_on", "sign_off"] false rfl (fun R h => h) (by decide) (by decide +kernel) fun H2 s2 => iteF ?_
      refine wEqF rfl (by decide +kernel) (iteF ?_)
      exact ⟨_, rfl, _, rfl, by show 2 ≤ sizeLine; decide, fun t ht => (kk1.same S1.b s2).tup (S1.b.same s2) (d := .give j) (p := t) (q := t) ht rfl trivial hj⟩
    · refine wEqF rfl (by decide +kernel) (iteF ?_)
      refine wIn ["sign_on", "sign_off"] false rfl (fun R h => h) (by decide) (by decide +kernel) fun H2 s2 => iteF ?_
      refine wEqF rfl (by decide +kernel) (iteF ?_)
      exact ⟨_, rfl, _, rfl, by show 2 ≤ sizeLine; decide, fun t ht => (kk1.same S1.b s2).tup (S1.b.same s2) (d := .tryOut j) (p := t) (q := t) ht rfl trivial hj⟩
    · refine wEqF rfl (by decide +kernel) (iteF ?_)
      refine wIn ["sign_on", "sign_off"] false rfl (fun R h => h) (by decide) (by decide +kernel) fun H2 s2 => iteF ?_
      refine wEqF rfl (by decide +kernel) (iteF ?_)
      exact ⟨_, rfl, _, rfl, by show 2 ≤ sizeLine; decide, fun t ht => (kk1.same S1.b s2).tup (S1.b.same s2) (d := .goOn j) (p := t) (q := t) ht rfl trivial hj⟩
    · refine wEqF rfl (by decide +kernel) (iteF ?_)
      refine wIn ["sign_on", "sign_off"] false rfl (fun R h => h) (by decide) (by decide +kernel) fun H2 s2 => iteF ?_
      refine wEqF rfl (by decide +kernel) (iteF ?_)
      exact ⟨_, rfl, _, rfl, by show 2 ≤ sizeLine; decide, fun t ht => (kk1.same S1.b s2).tup (S1.b.same s2) (d := .putBy j) (p := t) (q := t) ht rfl trivial hj⟩
    · refine wEqF rfl (by decide +kernel) (iteF ?_)
      refine wIn ["sign_on", "sign_off"] false rfl (fun R h => h) (by decide) (by decide +kernel) fun H2 s2 => iteF ?_
      refine wEqF rfl (by decide +kernel) (iteF ?_)
      exact ⟨_, rfl, _, rfl, by show 2 ≤ sizeLine; decide, fun t ht => (kk1.same S1.b s2).tup (S1.b.same s2) (d := .fin j) (p := t) (q := t) ht rfl trivial hj⟩
    · refine wEqF rfl (by decide +kernel) (iteF ?_)
      refine wIn ["sign_on", "sign_off"] true rfl (fun R h => h) (by decide) (by decide +kernel) fun H2 s2 => iteT ?_
      refine ⟨_, rfl, _, rfl, oneHd rfl rfl (S1.same s2) fun h H3 hh k3 => ?_⟩
      exact ⟨by show 3 ≤ sizeLine; decide, fun t ht => ((kk1.same S1.b s2).dr k3).tup k3.b (d := .on j h) (p := t) (q := t) ht rfl trivial ⟨hj, S.wo.h.1.all h hh⟩⟩
    · refine wEqF rfl (by decide +kernel) (iteF ?_)
      refine wIn ["sign_on", "sign_off"] true rfl (fun R h => h) (by decide) (by decide +kernel) fun H2 s2 => iteT ?_
      refine ⟨_, rfl, _, rfl, oneHd rfl rfl (S1.same s2) fun h H3 hh k3 => ?_⟩
      exact ⟨by show 3 ≤ sizeLine; decide, fun t ht => ((kk1.same S1.b s2).dr k3).tup k3.b (d := .off j h) (p := t) (q := t) ht rfl trivial ⟨hj, S.wo.h.1.all h hh⟩⟩
    · refine wEqF rfl (by decide +kernel) (iteF ?_)
      refine wIn ["sign_on", "sign_off"] false rfl (fun R h => h) (by decide) (by decide +kernel) fun H2 s2 => iteF ?_
      refine wEqT rfl (iteT ?_)
      refine ⟨_, rfl, _, rfl, oneHd rfl rfl (S1.same s2) fun h H3 hh k3 => ?_⟩
      refine oneHd rfl rfl ((S1.same s2).dr k3) fun h' H4 hh' k4 => ?_
      exact ⟨by show 4 ≤ sizeLine; decide, fun t ht => (((kk1.same S1.b s2).dr k3).dr k4).tup k4.b (d := .over j h h') (p := t) (q := t) ht rfl trivial ⟨hj, S.wo.h.1.all h hh, S.wo.h.1.all h' hh'⟩⟩
end
end Sm
namespace Sm
open PySem PySem.Spec PyProof.Rows L2
section
variable {P : Program} {w : World} {K : PySem.W.Frag} {mg : Str → Option Value} {base : Heap}
/-- a name of the world's jobs, devices is drawn -/
theorem oneJb {σ : L2.St} {H : Hp} {Q : VK} {E : XK} {a : Addr} {ow : Addr → Ro} {z : MA} {L : BS} {pp : Str → PS} {W : Wd} (h0 : σ[0]? = some (some (.ref a))) (h2 : σ[2]? = some (some (.ref W.w))) (S : LSt a ow z L pp W H)
    (k : ∀ h H', h ∈ W.jb → Dr a H H' → Q (.str h) H') : tCall spOne [] E (tCons (tVar 0) (tCons (tDGet (tVar 2) (tC (.str "jobs"))) tNil)) σ H Q :=
  ⟨_, h0, _, h2, _, _, rfl, dw_j S.w.w, a, W.j, _, rfl, S.b, S.w.j, nm1, fun z => S.wo.j.2 (map_nil.mp z), by rw [List.length_map]; have := S.wo.j.1.len; omega, fun x3 H3 hx3 k3 => by
    obtain ⟨hd, hhd, rfl⟩ := List.mem_map.mp hx3
    exact k hd H3 hhd k3⟩
theorem oneDv {σ : L2.St} {H : Hp} {Q : VK} {E : XK} {a : Addr} {ow : Addr → Ro} {z : MA} {L : BS} {pp : Str → PS} {W : Wd} (h0 : σ[0]? = some (some (.ref a))) (h2 : σ[2]? = some (some (.ref W.w))) (S : LSt a ow z L pp W H)
    (k : ∀ h H', h ∈ W.dv → Dr a H H' → Q (.str h) H') : tCall spOne [] E (tCons (tVar 0) (tCons (tDGet (tVar 2) (tC (.str "devices"))) tNil)) σ H Q :=
  ⟨_, h0, _, h2, _, _, rfl, dw_d S.w.w, a, W.d, _, rfl, S.b, S.w.d, nm1, fun z => S.wo.d.2 (map_nil.mp z), by rw [List.length_map]; have := S.wo.d.1.len; omega, fun x3 H3 hx3 k3 => by
    obtain ⟨hd, hhd, rfl⟩ := List.mem_map.mp hx3
    exact k hd H3 hhd k3⟩
/-- one of the jobs there are -/
theorem oneL {σ : L2.St} {H : Hp} {Q : VK} {E : XK} {a p : Addr} {l : List Str} (h0 : σ[0]? = some (some (.ref a))) (h4 : σ[4]? = some (some (.ref p))) (b : Bag H a) (hp : H p = some (.lst (l.map V.str))) (hl : l ≠ []) (h8 : l.length ≤ 1000)
    (k : ∀ h H', h ∈ l → Dr a H H' → Q (.str h) H') : tCall spOne [] E (tCons (tVar 0) (tCons (tVar 4) tNil)) σ H Q :=
  ⟨_, h0, _, h4, a, p, _, rfl, b, hp, nm1, fun z => hl (map_nil.mp z), by rw [List.length_map]; exact h8, fun x3 H3 hx3 k3 => by
    obtain ⟨hd, hhd, rfl⟩ := List.mem_map.mp hx3
    exact k hd H3 hhd k3⟩
def spDeed : Sp := fun vs H Q _ => ∃ (a : Addr) (ow : Addr → Ro) (z : MA) (L : BS) (pp : Str → PS) (W : Wd), vs = [.ref a, .ref z.m, .ref W.w] ∧ LSt a ow z L pp W H ∧ QDeed a L H Q
abbrev N_l_deed : List Str := ["_law_bag_here", "_law_m", "_law_world_here", "_law_way", "_law_jobs", "_law_rooms", "_law_name_here"]
theorem sc_l_deed : FnScope N_l_deed ["_law_bag_here", "_law_m", "_law_world_here"] (defScope s_ldeed) := ⟨rfl, rfl, rfl, by decide +kernel, rfl, by decide +kernel, by decide +kernel⟩
theorem ok_l_deed (T : Txt K mg) : GFn P w K mg base CX0 5 "_law_deed" ["_law_bag_here", "_law_m", "_law_world_here"] spDeed := by
  refine T.f_l_deed.ok0 sc_l_deed (fun vs H Q E h => ?_) (fun f cdv A outer s H vs Q E hr h => ?_)
  · obtain ⟨a, ow, z, L, pp, W, rfl, _⟩ := h
    rfl
  · obtain ⟨a, ow, z, L, pp, W, rfl, S, kk⟩ := h
    have hu := hu_of hr
    refine ⟨_, (pss_cons (ps_set (i := 3) sc_l_deed.nd rfl (Or.inl rfl) (pe_fn (ok_l_take T) (hr.mono (by decide)) pass0 (pa_cons (pv 0) (pa_cons pe_int pa_nil))))
      (pss_cons (ps_set (i := 4) sc_l_deed.nd rfl (Or.inl rfl) (pe_callB (call_sortedD rfl) (by rfl) T.b_sorted (by decide +kernel) (pa_cons (pe_dget hu (pv 1) pe_str (fun _ _ => rfl)) pa_nil)))
      (pss_cons (ps_if (PW.pt (pw_or (pt_cmpR (op_eqD hr.units) (pv 4) (pe_lst pa_nil) (nomark _)) (pw_or1 (pt_cmpR op_eq (pv 3) pe_int (nomark _)))))
        (pss_cons (ps_set (i := 5) sc_l_deed.nd rfl (Or.inl rfl) (pe_orT (pe_fn (ok_l_some T) (hr.mono (by decide)) pass0 (pa_cons (pv 0) (pa_cons (pe_dget hu (pv 2) pe_str (fun _ _ => rfl)) pa_nil))) (pe_one (pe_lst (pa_cons pe_str pa_nil)))))
      (pss_one (ps_ret (pe_tup (pa_cons pe_str (by exact (pa_cons (pe_fn (ok_l_one T) (hr.mono (by decide)) pass0 (pa_cons (pv 0) (pa_cons (pe_dget hu (pv 2) pe_str (fun _ _ => rfl)) pa_nil))) (by exact (pa_cons (pe_fn (ok_l_one T) (hr.mono (by decide)) pass0 (pa_cons (pv 0) (pa_cons (pe_dget hu (pv 2) pe_str (fun _ _ => rfl)) pa_nil))) (pa_cons (pv 5) pa_nil))))))))))
        pss_nil)
      (pss_cons (ps_if (pt_cmpR op_lt (pv 3) pe_int (nomark _))
        (pss_one (ps_ret (pe_fn (ok_l_natural T) (hr.mono (by decide)) pass0 (pa_cons (pv 0) (pa_cons (pv 1) (pa_cons (pv 2) (by exact (pa_cons (pe_fn (ok_l_one T) (hr.mono (by decide)) pass0 (pa_cons (pv 0) (pa_cons (pv 4) pa_nil))) pa_nil))))))))
        pss_nil)
      (pss_cons (ps_if (pt_cmpR op_lt (pv 3) pe_int (nomark _))
        (pss_one (ps_ret (pe_fn (ok_l_any T) (hr.mono (by decide)) pass0 (pa_cons (pv 0) (pa_cons (pv 1) (pa_cons (pv 2) (by exact (pa_cons (pe_fn (ok_l_one T) (hr.mono (by decide)) pass0 (pa_cons (pv 0) (pa_cons (pv 4) pa_nil))) pa_nil))))))))
        pss_nil)
      (pss_cons (ps_set (i := 6) sc_l_deed.nd rfl (Or.inl rfl) (pe_fn (ok_l_one T) (hr.mono (by decide)) pass0 (pa_cons (pv 0) (pa_cons (pe_dget hu (pv 2) pe_str (fun _ _ => rfl)) pa_nil))))
      (pss_cons (ps_if (pt_cmpR op_eq (pv 3) pe_int (nomark _))
        (pss_one (ps_ret (pe_tup (pa_cons pe_str (pa_cons (pv 6) (pa_cons (pe_ix ix_list (pe_lst (pa_cons pe_str (pa_cons pe_str pa_nil))) (pe_fn (ok_l_take T) (hr.mono (by decide)) pass0 (pa_cons (pv 0) (pa_cons pe_int pa_nil))) (fun _ _ => rfl)) pa_nil))))))
        pss_nil)
      (pss_one (ps_ret (pe_tup (pa_cons (pe_ix ix_list (pe_lst (pa_cons pe_str (pa_cons pe_str (pa_cons pe_str pa_nil)))) (pe_fn (ok_l_take T) (hr.mono (by decide)) pass0 (pa_cons (pv 0) (pa_cons pe_int pa_nil))) (fun _ _ => rfl)) (pa_cons (pv 6) pa_nil)))))))))))), ?_⟩
    have z0 : (0 : Nat) ≤ sizeLine := Nat.zero_le _
    have hjl := S.ok.jb.len
    refine take_rd (i := 0) rfl S.b (n := 12) (by decide) (by decide) (fun R h => h) fun v H1 v0 v1 k1 => ?_
    have S1 := S.dr k1
    have kk1 := kk.dr k1
    refine ⟨_, rfl, _, _, rfl, dm_jb S1.m.rd.m, z.jb, _, L.jobs, rfl, .inl S1.m.jb, dk_keys _ _, by omega, fun ys p hp hs hn => ?_⟩
    have ey := srt_eq hp hs
    subst ey
    have s2 := Same.new (o := .lst ((srt L.jobs).map V.str)) hn
    have S2 := S1.same s2
    have kk2 := kk1.same S1.b s2
    have hp2 : (upd H1 p (.lst ((srt L.jobs).map V.str))) p = some (.lst ((srt L.jobs).map V.str)) := upd_same
    generalize (upd H1 p (.lst ((srt L.jobs).map V.str))) = H2 at S2 kk2 hp2 ⊢
    refine ⟨_, rfl, z0, fun q0 hq0 => ?_⟩
    have s3 := Same.new (o := .lst []) hq0
    have S3 := S2.same s3
    have kk3 := kk2.same S2.b s3
    have hp3 := s3 _ _ hp2
    have smj : SmD 2 6000 (dS (srt L.jobs)) := sm_l (fun x hx => (S.ok.jb.all x (mem_srt.mp hx)).w) (by rw [len_srt]; omega)
    refine ⟨dS (srt L.jobs), .list [], dpL (SqL.of hp3), .lst (xs := []) (SqL.of upd_same) .nil, smj.shaped (by decide), rfl, _, rfl, ?_⟩
    generalize (upd H2 q0 (.lst [])) = H3 at S3 kk3 hp3 ⊢
    rw [eqv_nil, decide_eq_decide.mpr (srt_nil_iff)]
    have hb : ∀ {x : Int}, True := fun {_} => trivial
    refine iteD (fun e => iteT ?_) (fun e => ⟨_, rfl, rfl, _, rfl, iteD (fun e2 => ?_) (fun e2 => ?_)⟩)
    rotate_left 2
    · have hne : srt L.jobs ≠ [] := fun z => e (srt_nil_iff.mp z)
      have hl8 : (srt L.jobs).length ≤ 1000 := by rw [len_srt]; omega
      refine ⟨_, rfl, _, _, rfl, rfl, _, rfl, iteD (fun e3 => ?_) (fun e3 => ?_)⟩
      · refine ⟨_, rfl, _, rfl, _, rfl, oneL rfl rfl S3.b hp3 hne hl8 fun j H4 hj k4 => ?_⟩
        exact ⟨a, ow, z, L, pp, W, j, rfl, S3.dr k4, mem_srt.mp hj, kk3.dr k4⟩
      refine ⟨_, rfl, _, _, rfl, rfl, _, rfl, iteD (fun e4 => ?_) (fun e4 => ?_)⟩
      · refine ⟨_, rfl, _, rfl, _, rfl, oneL rfl rfl S3.b hp3 hne hl8 fun j H4 hj k4 => ?_⟩
        exact ⟨a, ow, z, L, pp, W, j, rfl, S3.dr k4, mem_srt.mp hj, kk3.dr k4⟩
      refine oneDv rfl rfl S3 fun d H4 hd k4 => ?_
      have S4 := S3.dr k4
      have kk4 := kk3.dr k4
      have hdn := S.wo.d.1.all d hd
      refine ⟨_, rfl, rfl, _, rfl, iteD (fun e5 => ?_) (fun e5 => ?_)⟩
      · refine ⟨_, rfl, by show 2 ≤ sizeLine; decide, fun l hl => ?_⟩
        have s5 := Same.new (o := .lst [V.str "open", .str "shut"]) hl
        refine take_rd (i := 0) rfl (S4.b.same s5) (n := 2) (by decide) (by decide) (fun R h => h) fun u H6 u0 u1 k6 => ?_
        have hl6 : H6 l = some (.lst [V.str "open", .str "shut"]) := k6.st (l := ["open", "shut"]) upd_same
        have kk6 := (kk4.same S4.b s5).dr k6
        obtain ⟨x, hx, hpx⟩ : ∃ x : Str, atI [V.str "open", .str "shut"] u = some (.str x) ∧ IsPos x := by
          have w1 : u = 0 ∨ u = 1 := by omega
          rcases w1 with rfl | rfl
          · exact ⟨"open", atN _ 0, .inl rfl⟩
          · exact ⟨"shut", atN _ 1, .inr rfl⟩
        refine ⟨l, _, u, .str x, rfl, rfl, SqL.of hl6, hx, ?_⟩
        exact ⟨by show 3 ≤ sizeLine; decide, fun t ht => kk6.tup k6.b (d := .turn d x) (p := t) (q := t) ht rfl trivial ⟨hdn, hpx⟩⟩
      · refine ⟨by show 3 ≤ sizeLine; decide, fun l hl => ?_⟩
        have s5 := Same.new (o := .lst [V.str "stick", .str "mend", .str "mend"]) hl
        refine take_rd (i := 0) rfl (S4.b.same s5) (n := 3) (by decide) (by decide) (fun R h => h) fun u H6 u0 u1 k6 => ?_
        have hl6 : H6 l = some (.lst [V.str "stick", .str "mend", .str "mend"]) := k6.st (l := ["stick", "mend", "mend"]) upd_same
        have kk6 := (kk4.same S4.b s5).dr k6
        have w1 : u = 0 ∨ u = 1 ∨ u = 2 := by omega
        rcases w1 with rfl | rfl | rfl
        · exact ⟨l, _, 0, .str "stick", rfl, rfl, SqL.of hl6, atN _ 0, _, rfl, by show 2 ≤ sizeLine; decide, fun t ht => kk6.tup k6.b (d := .stick d) (p := t) (q := t) ht rfl trivial hdn⟩
        · exact ⟨l, _, 1, .str "mend", rfl, rfl, SqL.of hl6, atN _ 1, _, rfl, by show 2 ≤ sizeLine; decide, fun t ht => kk6.tup k6.b (d := .mend d) (p := t) (q := t) ht rfl trivial hdn⟩
        · exact ⟨l, _, 2, .str "mend", rfl, rfl, SqL.of hl6, atN _ 2, _, rfl, by show 2 ≤ sizeLine; decide, fun t ht => kk6.tup k6.b (d := .mend d) (p := t) (q := t) ht rfl trivial hdn⟩
    all_goals
      refine ⟨_, rfl, _, rfl, _, _, rfl, dw_d S3.w.w, a, W.d, W.dv, rfl, S3.b, S3.w.d, S.wo.d.1.nd, S.wo.d.1.len, fun q l' H4 k4 hq nd' sub => ?_⟩
      have S4 := S3.dr k4
      have kk4 := kk3.dr k4
      have fin : ∀ (r : Addr) (l : List Str) {H5 : Hp}, LSt a ow z L pp W H5 → QDeed a L H5 Q → H5 r = some (.lst (l.map V.str)) → Names l 24 → l ≠ [] → ∀ {σ : L2.St} {E1 E2 : XK}, σ[0]? = some (some (.ref a)) → σ[2]? = some (some (.ref W.w)) → σ[5]? = some (some (.ref r)) →
          tTup (tCons (tC (.str "ask")) (tCons (tCall spOne [] E1 (tCons (tVar 0) (tCons (tDGet (tVar 2) (tC (.str "jobs"))) tNil))) (tCons (tCall spOne [] E2 (tCons (tVar 0) (tCons (tDGet (tVar 2) (tC (.str "hands"))) tNil))) (tCons (tVar 5) tNil)))) σ H5 Q := fun r l {H5} S5 kk5 hr5 hnl hne {σ E1 E2} h0 h2 h5 => by
        refine oneJb h0 h2 S5 fun j H6 hj k6 => ?_
        refine oneHd h0 h2 (S5.dr k6) fun h H7 hh k7 => ?_
        have k67 := k6.trans k7
        exact ⟨_, h5, by show 4 ≤ sizeLine; decide, fun t ht => (kk5.dr k67).tup k7.b (d := .ask j h l) (p := r) (q := r) ht rfl (k67.st hr5) ⟨S.wo.j.1.all j hj, S.wo.h.1.all h hh, hnl, hne⟩⟩
      cases l' with
      | nil =>
        refine ⟨false, .inl ⟨_, SqL.of hq, rfl⟩, iteF ⟨by show 1 ≤ sizeLine; decide, fun r hr5 => ?_⟩⟩
        have s5 := Same.new (o := .lst [V.str "a"]) hr5
        exact fin r ["a"] (S4.same s5) (kk4.same S4.b s5) upd_same ⟨fun x hx => by rw [List.mem_singleton.mp hx]; exact ⟨by decide, by decide, by decide +kernel⟩, by simp, by simp⟩ (by simp) rfl rfl rfl
      | cons x r =>
        refine ⟨true, .inl ⟨_, SqL.of hq, rfl⟩, iteT ?_⟩
        exact fin q (x :: r) S4 kk4 hq ⟨fun y hy => S.wo.d.1.all y (sub y hy), nd', Nat.le_trans (nd_len nd' sub) S.wo.d.1.len⟩ (by simp) rfl rfl rfl
end
end Sm
namespace Sm
open PySem PySem.Spec PyProof.Rows L2
section
variable {X : Cx}
/-- d == {} -/
theorem op_eq_dict0 (hu : X.A.units < cLine) : OpR X (compareOp .Eq) (fun x y H Q => ∃ (a b : Addr) (ks : List (Key × V)), x = .ref a ∧ y = .ref b ∧ H a = some (.dK ks) ∧ H b = some (.dK []) ∧ Q (.bl ks.isEmpty) H) := by
  intro pins s σ H x y v u Q I rx ry h
  obtain ⟨a, b, ks, rfl, rfl, ea, eb, q⟩ := h
  obtain rfl : v = Value.ref a := rx
  obtain rfl : u = Value.ref b := ry
  obtain ⟨_, ya, va, ra, da⟩ := (show ObjOk X.prog X.w H s.heap a (.dK ks) from I.hok a _ ea)
  obtain ⟨_, yb, vb, rb, db⟩ := (show ObjOk X.prog X.w H s.heap b (.dK []) from I.hok b _ eb)
  cases rb
  have hl := ra.length
  refine PySem.W.keq_eq (knd := mixKind X.prog X.w) (r := true) ya yb da db hu (fun e => ?_) (fin_bl I q ?_)
  · have e : va = [] := List.eq_nil_of_length_eq_zero e
    subst e
    exact .nil
  · cases ks with
    | nil => cases ra; rfl
    | cons p r => cases va with
      | nil => cases ra
      | cons p' r' => rfl
end
/-! ### _law_fresh -/
def isBM (r : Ro) : Bool := r.isB || r.isM
section
variable {P : Program} {w : World} {K : PySem.W.Frag} {mg : Str → Option Value} {base : Heap}
def spFresh : Sp := fun vs H Q _ => ∃ (ow : Addr → Ro), vs = [] ∧ ∀ H' z ow', Same H H' → (∀ a, H a ≠ none → ow' a = ow a) → (∀ pp, MAt ow' z B0 pp H') → Q (.ref z.m) H'
abbrev N_l_fresh : List Str := []
theorem sc_l_fresh : FnScope N_l_fresh [] (defScope s_lfresh) := ⟨rfl, rfl, rfl, by decide +kernel, rfl, by decide +kernel, by decide +kernel⟩
theorem ok_l_fresh (T : Txt K mg) : GFn P w K mg base CX0 1 "_law_fresh" [] spFresh := by
  refine T.f_l_fresh.ok0 sc_l_fresh (fun vs H Q E h => ?_) (fun f cdv A outer s H vs Q E hr h => ?_)
  · obtain ⟨ow, rfl, _⟩ := h
    rfl
  · obtain ⟨ow, rfl, k⟩ := h
    refine ⟨_, (pss_one (ps_ret (pe_disp (pps_cons pe_str pe_dnewK (pps_cons pe_str pe_dnewK (pps_cons pe_str (pe_lst pa_nil) (pps_cons pe_str pe_dnewK (pps_cons pe_str pe_dnewK (pps_cons pe_str pe_dnewK pps_nil)))))) (by rfl) (by rfl) (fun z => by cases z) (by decide)))), ?_⟩
    intro g hg
    refine fun a1 h1 a2 h2 => ⟨Nat.zero_le _, fun l hl => fun a4 h4 a5 h5 a6 h6 => ?_⟩
    have s0 := Same.new (o := .dK []) hg
    have s1 := Same.new (o := .dK []) h1
    have s2 := Same.new (o := .dK []) h2
    have s3 := Same.new (o := .lst []) hl
    have s4 := Same.new (o := .dK []) h4
    have s5 := Same.new (o := .dK []) h5
    have s6 := Same.new (o := .dK []) h6
    have e0 : (upd H g (.dK [])) g = some (.dK []) := upd_same
    have e1 : (upd (upd H g (.dK [])) a1 (.dK [])) a1 = some (.dK []) := upd_same
    have e2 : (upd (upd (upd H g (.dK [])) a1 (.dK [])) a2 (.dK [])) a2 = some (.dK []) := upd_same
    have e3 : (upd (upd (upd (upd H g (.dK [])) a1 (.dK [])) a2 (.dK [])) l (.lst [])) l = some (.lst []) := upd_same
    have e4 : (upd (upd (upd (upd (upd H g (.dK [])) a1 (.dK [])) a2 (.dK [])) l (.lst [])) a4 (.dK [])) a4 = some (.dK []) := upd_same
    have e5 : (upd (upd (upd (upd (upd (upd H g (.dK [])) a1 (.dK [])) a2 (.dK [])) l (.lst [])) a4 (.dK [])) a5 (.dK [])) a5 = some (.dK []) := upd_same
    have e6 : (upd (upd (upd (upd (upd (upd (upd H g (.dK [])) a1 (.dK [])) a2 (.dK [])) l (.lst [])) a4 (.dK [])) a5 (.dK [])) a6 (.dK [])) a6 = some (.dK []) := upd_same
    have n1 : g ≠ a1 := ne_of_none e0 h1
    have f0 := s1 _ _ e0
    have n2 : g ≠ a2 := ne_of_none f0 h2
    have m2 : a1 ≠ a2 := ne_of_none e1 h2
    have f0 := s2 _ _ f0
    have f1 := s2 _ _ e1
    have f0 := s3 _ _ f0
    have f1 := s3 _ _ f1
    have f2 := s3 _ _ e2
    have n4 : g ≠ a4 := ne_of_none f0 h4
    have m4 : a1 ≠ a4 := ne_of_none f1 h4
    have o4 : a2 ≠ a4 := ne_of_none f2 h4
    have f0 := s4 _ _ f0
    have f1 := s4 _ _ f1
    have f2 := s4 _ _ f2
    have n5 : g ≠ a5 := ne_of_none f0 h5
    have m5 : a1 ≠ a5 := ne_of_none f1 h5
    have o5 : a2 ≠ a5 := ne_of_none f2 h5
    have p5 : a4 ≠ a5 := ne_of_none e4 h5
    have f0 := s5 _ _ f0
    have f1 := s5 _ _ f1
    have f2 := s5 _ _ f2
    have f4 := s5 _ _ e4
    have n6 : g ≠ a6 := ne_of_none f0 h6
    have m6 : a1 ≠ a6 := ne_of_none f1 h6
    have o6 : a2 ≠ a6 := ne_of_none f2 h6
    have p6 : a4 ≠ a6 := ne_of_none f4 h6
    have q6 : a5 ≠ a6 := ne_of_none e5 h6
    have f0 := s6 _ _ f0
    have f1 := s6 _ _ f1
    have f2 := s6 _ _ f2
    have f3 := s6 _ _ (s5 _ _ (s4 _ _ e3))
    have f4 := s6 _ _ f4
    have f5 := s6 _ _ e5
    have st := s0.trans (s1.trans (s2.trans (s3.trans (s4.trans (s5.trans s6)))))
    have st0 : Same H (upd (upd (upd (upd (upd (upd (upd H g (.dK [])) a1 (.dK [])) a2 (.dK [])) l (.lst [])) a4 (.dK [])) a5 (.dK [])) a6 (.dK [])) := st
    generalize (upd (upd (upd (upd (upd (upd (upd H g (.dK [])) a1 (.dK [])) a2 (.dK [])) l (.lst [])) a4 (.dK [])) a5 (.dK [])) a6 (.dK [])) = H6 at f0 f1 f2 f3 f4 f5 e6 st0 ⊢
    have fre : ∀ {a : Addr}, (∀ o, H a = some o → False) → H a = none := fun {a} h => by
      cases e : H a with
      | none => rfl
      | some o => exact (h o e).elim
    have fg : H g = none := hg
    have fa1 : H a1 = none := fre fun o e => by have := s0 _ _ e; rw [h1] at this; cases this
    have fa2 : H a2 = none := fre fun o e => by have := s1 _ _ (s0 _ _ e); rw [h2] at this; cases this
    have fa4 : H a4 = none := fre fun o e => by have := s3 _ _ (s2 _ _ (s1 _ _ (s0 _ _ e))); rw [h4] at this; cases this
    have fa5 : H a5 = none := fre fun o e => by have := s4 _ _ (s3 _ _ (s2 _ _ (s1 _ _ (s0 _ _ e)))); rw [h5] at this; cases this
    have fa6 : H a6 = none := fre fun o e => by have := s5 _ _ (s4 _ _ (s3 _ _ (s2 _ _ (s1 _ _ (s0 _ _ e))))); rw [h6] at this; cases this
    refine ⟨f0, mk6 a1 a2 l a4 a5 a6, rfl, by show 6 ≤ 15; decide, ?_⟩
    have em : mergeK [] (mk6 a1 a2 l a4 a5 a6) = mk6 a1 a2 l a4 a5 a6 := by rfl
    rw [em]
    have nl : l ≠ g := ne_of f3 f0 (by intro z; cases z)
    have up : ∀ {b : Addr} {o : HO}, H6 b = some o → b ≠ g → (upd H6 g (.dK (mk6 a1 a2 l a4 a5 a6))) b = some o := fun e n => by rw [upd_ne n]; exact e
    refine k _ ⟨g, a1, a2, l, a4, a5, a6, fun _ => g, fun _ => g, fun _ => g, fun _ => g, fun _ => g, fun _ => g⟩
      (fun b => if b = g then .m else if b = a1 then .pl else if b = a2 then .hm else if b = a4 then .tg else if b = a5 then .cw else if b = a6 then .jb else ow b) (fun b o e => ?_) (fun b hb => ?_) fun pp => ?_
    · rw [upd_ne (ne_of_none e fg)]
      exact st0 _ _ e
    · have nb : ∀ {c : Addr}, H c = none → b ≠ c := fun hc z => hb (z ▸ hc)
      show (if b = g then Ro.m else if b = a1 then .pl else if b = a2 then .hm else if b = a4 then .tg else if b = a5 then .cw else if b = a6 then .jb else ow b) = ow b
      rw [if_neg (nb fg), if_neg (nb fa1), if_neg (nb fa2), if_neg (nb fa4), if_neg (nb fa5), if_neg (nb fa6)]
    · exact {
        m := upd_same
        pl := up f1 n1.symm
        hm := up f2 n2.symm
        sk := up f3 nl
        tg := up f4 n4.symm
        tl := fun d hd => by cases hd
        cw := up f5 n5.symm
        cl := fun d hd => by cases hd
        jb := up e6 n6.symm
        pa := fun d hd => by cases hd
        ab := fun d hd => by cases hd
        cu := fun d hd => by cases hd
        em := fun d hd => by cases hd
        rm := if_pos rfl
        rpl := by show (if a1 = g then _ else _) = _; rw [if_neg n1.symm, if_pos rfl]
        rhm := by show (if a2 = g then _ else _) = _; rw [if_neg n2.symm, if_neg m2.symm, if_pos rfl]
        rtg := by show (if a4 = g then _ else _) = _; rw [if_neg n4.symm, if_neg m4.symm, if_neg o4.symm, if_pos rfl]
        rcw := by show (if a5 = g then _ else _) = _; rw [if_neg n5.symm, if_neg m5.symm, if_neg o5.symm, if_neg p5.symm, if_pos rfl]
        rjb := by show (if a6 = g then _ else _) = _; rw [if_neg n6.symm, if_neg m6.symm, if_neg o6.symm, if_neg p6.symm, if_neg q6.symm, if_pos rfl]
        rpa := fun d hd => by cases hd }
end
end Sm
namespace Sm
open PySem PySem.Spec PyProof.Rows L2
/-- all that stood stands, but the bag and the dicts of these roles -/
def Fr (ow : Addr → Ro) (p : Ro → Bool) (a : Addr) (H H' : Hp) : Prop := ∀ b o, H b = some o → b ≠ a → (p (ow b) = false ∨ ∀ kvs, o ≠ .dK kvs) → H' b = some o
section
variable {ow ow1 : Addr → Ro} {p q : Ro → Bool} {a : Addr} {H H1 H2 : Hp}
theorem Fr.refl : Fr ow p a H H := fun _ _ e _ _ => e
theorem Fr.trans (h : Fr ow p a H H1) (k : Fr ow1 p a H1 H2) (e : ∀ b, H b ≠ none → ow1 b = ow b) : Fr ow p a H H2 := fun b o h1 n z => k b o (h b o h1 n z) n (by rw [e b (nn h1)]; exact z)
theorem Fr.dr (h : Fr ow p a H H1) (k : Dr a H1 H2) : Fr ow p a H H2 := fun b o h1 n z => k.s b o (h b o h1 n z) n
theorem Fr.same (h : Fr ow p a H H1) (k : Same H1 H2) : Fr ow p a H H2 := fun b o h1 n z => k b o (h b o h1 n z)
theorem Fr.kp (h : Fr ow p a H H1) (k : Kp ow1 q H1 H2) (e : ∀ b, H b ≠ none → ow1 b = ow b) (hpq : ∀ r, p r = false → q r = false) : Fr ow p a H H2 := fun b o h1 n z => k b o (h b o h1 n z) (by rw [e b (nn h1)]; exact z.imp (hpq _) id)
theorem Fr.at (h : Fr ow p a H H1) {b : Addr} {o : HO} (e : H b = some o) (n : b ≠ a) (z : p (ow b) = false ∨ ∀ kvs, o ≠ .dK kvs) : H1 b = some o := h b o e n z
theorem Bag.kp (h : Bag H a) (k : Kp ow p H H1) : Bag H1 a := by
  obtain ⟨c, s, t, n, xs, h1, h2, h3⟩ := h
  exact ⟨c, s, t, n, xs, k _ _ h1 (.inr (by intro _ z; cases z)), k _ _ h2 (.inr (by intro _ z; cases z)), h3⟩
theorem WAt.kp {W : Wd} (w : WAt W H) (k : Kp ow p H H1) (h : p (ow W.w) = false) : WAt W H1 := ⟨k _ _ w.w (.inl h), k _ _ w.d (.inr (by intro _ z; cases z)), k _ _ w.j (.inr (by intro _ z; cases z)), k _ _ w.h (.inr (by intro _ z; cases z))⟩
theorem isB_M : ∀ r : Ro, r.isM = true → r.isB = false := fun r h => by cases r <;> first | rfl | cases h
theorem isBM_B : ∀ r : Ro, isBM r = false → r.isB = false := fun r h => (Bool.or_eq_false_iff.mp h).1
theorem isBM_M : ∀ r : Ro, isBM r = false → r.isM = false := fun r h => (Bool.or_eq_false_iff.mp h).2
/-- a device is laid down in m -/
theorem MAt.upAdd {z : MA} {L : BS} {pp : Str → PS} {H : Hp} {d x : Str} {q : Addr} (m : MAt ow z L pp H) (hd : d ∉ L.devs) (hj : L.jobs = []) (hq : H q = some (.lst [])) :
    MAt ow { z with tl := ups z.tl d q } (L.add d x) pp
      (upd (upd (upd H z.pl (.dK (dk (L.devs ++ [d]) (ups (fun d => .str (L.pl d)) d (.str x))))) z.hm (.dK (dk (L.devs ++ [d]) (ups (fun d => .str (L.hm d)) d (.str x))))) z.tg (.dK (dk (L.devs ++ [d]) (ups (fun d => .ref (z.tl d)) d (.ref q))))) := by
  have thr : ∀ {y : Addr} {o : HO} {r : Ro}, H y = some o → ow y = r → r ≠ .pl → r ≠ .hm → r ≠ .tg → (upd (upd (upd H z.pl (.dK (dk (L.devs ++ [d]) (ups (fun d => .str (L.pl d)) d (.str x))))) z.hm (.dK (dk (L.devs ++ [d]) (ups (fun d => .str (L.hm d)) d (.str x))))) z.tg (.dK (dk (L.devs ++ [d]) (ups (fun d => .ref (z.tl d)) d (.ref q))))) y = some o :=
    fun h1 h2 h3 h4 h5 => up_ro (up_ro (up_ro h1 h2 m.rpl h3) h2 m.rhm h4) h2 m.rtg h5
  have thl : ∀ {y : Addr} {l : List V}, H y = some (.lst l) → (upd (upd (upd H z.pl (.dK (dk (L.devs ++ [d]) (ups (fun d => .str (L.pl d)) d (.str x))))) z.hm (.dK (dk (L.devs ++ [d]) (ups (fun d => .str (L.hm d)) d (.str x))))) z.tg (.dK (dk (L.devs ++ [d]) (ups (fun d => .ref (z.tl d)) d (.ref q))))) y = some (.lst l) :=
    fun h1 => up_k (up_k (up_k h1 m.pl (by intro z; cases z)) (up_ro m.hm m.rhm m.rpl (by intro z; cases z)) (by intro z; cases z)) (up_ro (up_ro m.tg m.rtg m.rpl (by intro z; cases z)) m.rtg m.rhm (by intro z; cases z)) (by intro z; cases z)
  have old : ∀ {k : Str}, k ∈ L.devs ++ [d] → k ≠ d → k ∈ L.devs := fun hk ne => (List.mem_append.mp hk).resolve_right fun z => ne (List.mem_singleton.mp z)
  have noj : ∀ {j : Str}, j ∈ (L.add d x).jobs → False := fun {j} h => by
    have h : j ∈ L.jobs := h
    rw [hj] at h
    cases h
  exact {
    m := thr m.m m.rm (by intro z; cases z) (by intro z; cases z) (by intro z; cases z)
    pl := by
      rw [upd_ne (ro_ne m.rpl m.rtg (by intro z; cases z)), upd_ne (ro_ne m.rpl m.rhm (by intro z; cases z)), upd_same]
      congr 2
      exact dk_congr fun k _ => ups_map V.str L.pl d x k
    hm := by
      rw [upd_ne (ro_ne m.rhm m.rtg (by intro z; cases z)), upd_same]
      congr 2
      exact dk_congr fun k _ => ups_map V.str L.hm d x k
    sk := thl m.sk
    tg := by
      rw [upd_same]
      congr 2
      exact dk_congr fun k _ => ups_map V.ref z.tl d q k
    tl := fun k hk => by
      show (upd _ _ _) (ups z.tl d q k) = some (.lst ((ups L.ms d [] k).map V.str))
      by_cases e : k = d
      · subst e
        rw [ups_same, ups_same]
        exact thl hq
      · rw [ups_ne e, ups_ne e]
        exact thl (m.tl k (old hk e))
    cw := thr m.cw m.rcw (by intro z; cases z) (by intro z; cases z) (by intro z; cases z)
    cl := fun j hj' => (noj hj').elim
    jb := thr m.jb m.rjb (by intro z; cases z) (by intro z; cases z) (by intro z; cases z)
    pa := fun j hj' => (noj hj').elim
    ab := fun j hj' => (noj hj').elim
    cu := fun j hj' => (noj hj').elim
    em := fun j hj' => (noj hj').elim
    rm := m.rm
    rpl := m.rpl
    rhm := m.rhm
    rtg := m.rtg
    rcw := m.rcw
    rjb := m.rjb
    rpa := fun j hj' => (noj hj').elim }
theorem Sim.add {B L : BS} (s : Sim B L) (d x : Str) : Sim (B.add d x) (L.add d x) where
  dv := by show B.devs ++ [d] = L.devs ++ [d]; rw [s.dv]
  pl := by show ups B.pl d x = ups L.pl d x; rw [s.pl]
  hm := by show ups B.hm d x = ups L.hm d x; rw [s.hm]
  jb := s.jb
  cw := s.cw
  fs := s.fs
  ms := fun a j => by
    show j ∈ ups B.ms d [] a ↔ j ∈ ups L.ms d [] a
    by_cases e : a = d
    · subst e
      rw [ups_same, ups_same]
    · rw [ups_ne e, ups_ne e, s.ms]
  fn := s.fn
  mn := fun a => by
    show (ups L.ms d [] a).Nodup
    by_cases e : a = d
    · subst e
      rw [ups_same]
      exact List.nodup_nil
    · rw [ups_ne e]
      exact s.mn a
theorem Sim0 : Sim B0 B0 := ⟨rfl, rfl, rfl, rfl, rfl, fun _ => Iff.rfl, fun _ _ => Iff.rfl, List.nodup_nil, fun _ => List.nodup_nil⟩
end
end Sm
namespace Sm
open PySem PySem.Spec PyProof.Rows L2
/-- the roles stand, of what stands -/
def Ag (ow ow1 : Addr → Ro) (a : Addr) (H : Hp) : Prop := ∀ b o, H b = some o → b ≠ a → (isBM (ow b) = false ∨ ∀ kvs, o ≠ .dK kvs) → ow1 b = ow b
theorem Fr.kpA {ow ow1 : Addr → Ro} {q : Ro → Bool} {a : Addr} {H H1 H2 : Hp} (h : Fr ow isBM a H H1) (k : Kp ow1 q H1 H2) (e : Ag ow ow1 a H) (hpq : ∀ r, isBM r = false → q r = false) : Fr ow isBM a H H2 :=
  fun b o h1 n z => k b o (h b o h1 n z) (by rw [e b o h1 n z]; exact z.imp (hpq _) id)
theorem Ag.next {ow ow1 ow2 : Addr → Ro} {a : Addr} {H H1 : Hp} (e : Ag ow ow1 a H) (h : Fr ow isBM a H H1) (k : ∀ b, H1 b ≠ none → ow2 b = ow1 b) : Ag ow ow2 a H := fun b o h1 n z => (k b (nn (h b o h1 n z))).trans (e b o h1 n z)
theorem neBag {a w : Addr} {H : Hp} {kvs : List (Key × V)} (h : Bag H a) (hw : H w = some (.dK kvs)) : w ≠ a := by
  obtain ⟨c, s, t, n, xs, h1, _⟩ := h
  exact ne_of hw h1 (by intro z; cases z)
theorem iteB {b : Bool} {A B : Prop} (h1 : b = true → A) (h2 : b = false → B) : if b = true then A else B := by
  cases b
  · exact (if_neg Bool.false_ne_true).mpr (h2 rfl)
  · exact (if_pos rfl).mpr (h1 rfl)
/-- board and m, laid with the devices of l -/
structure Laid (K : PySem.W.Frag) (a : Addr) (ow : Addr → Ro) (bd m : Addr) (pp : Str → PS) (W : Wd) (H : Hp) (l : List Str) (ow1 : Addr → Ro) (x : BA) (z : MA) (B L : BS) (H' : Hp) : Prop where
  bd : x.bd = bd
  m : z.m = m
  fr : Fr ow isBM a H H'
  ag : Ag ow ow1 a H
  bag : Bag H' a
  b : BAt K ow1 x B H'
  ma : MAt ow1 z L pp H'
  w : WAt W H'
  ok : BOk B
  sm : Sim B L
  nj : B.jobs = []
  dv : ∀ d ∈ B.devs, d ∈ l
section
variable {K : PySem.W.Frag} {a : Addr} {ow : Addr → Ro} {bd m : Addr} {pp : Str → PS} {W : Wd} {H : Hp} {l l' : List Str} {ow1 : Addr → Ro} {x : BA} {z : MA} {B L : BS} {H1 H2 : Hp}
theorem Laid.dr (s : Laid K a ow bd m pp W H l ow1 x z B L H1) (d : Dr a H1 H2) : Laid K a ow bd m pp W H l ow1 x z B L H2 := { s with fr := s.fr.dr d, bag := d.b, b := s.b.dr d, ma := s.ma.dr d, w := s.w.dr d }
theorem Laid.same (s : Laid K a ow bd m pp W H l ow1 x z B L H1) (d : Same H1 H2) : Laid K a ow bd m pp W H l ow1 x z B L H2 := { s with fr := s.fr.same d, bag := s.bag.same d, b := s.b.same d, ma := s.ma.same d, w := s.w.same d }
theorem Laid.mono (s : Laid K a ow bd m pp W H l ow1 x z B L H1) (h : ∀ d ∈ l, d ∈ l') : Laid K a ow bd m pp W H l' ow1 x z B L H1 := { s with dv := fun d hd => h d (s.dv d hd) }
end
section
variable {P : Program} {w : World} {K : PySem.W.Frag} {mg : Str → Option Value} {base : Heap}
def spLaid (K : PySem.W.Frag) : Sp := fun vs H Q _ => ∃ (a : Addr) (ow : Addr → Ro) (x : BA) (z : MA) (pp : Str → PS) (W : Wd), vs = [.ref a, .ref x.bd, .ref z.m, .ref W.w] ∧ Bag H a ∧ BAt K ow x B0 H ∧ MAt ow z B0 pp H ∧ WAt W H ∧ WOkk W ∧ ow W.w = .no ∧
  ∀ H' ow' x' z' B L, Laid K a ow x.bd z.m pp W H W.dv ow' x' z' B L H' → Q .non H'
abbrev N_l_laid : List Str := ["_law_bag_here", "_law_board", "_law_m", "_law_world_here", "_law_name_here"]
theorem sc_l_laid : FnScope N_l_laid ["_law_bag_here", "_law_board", "_law_m", "_law_world_here"] (defScope s_llaid) := ⟨rfl, rfl, rfl, by decide +kernel, rfl, by decide +kernel, by decide +kernel⟩
theorem ok_l_laid (T : Txt K mg) : GFn P w K mg base CX0 3 "_law_laid" ["_law_bag_here", "_law_board", "_law_m", "_law_world_here"] (spLaid K) := by
  refine T.f_l_laid.ok0 sc_l_laid (fun vs H Q E h => ?_) (fun f cdv A outer s H vs Q E hr h => ?_)
  · obtain ⟨a, ow, x, z, pp, W, rfl, _⟩ := h
    rfl
  · obtain ⟨a, ow, x, z, pp, W, rfl, hb, b, m, wa, wo, row, kk⟩ := h
    have hu := hu_of hr
    refine ⟨_, (pss_one (ps_for PassesOwn.never rfl (pi_list (pe_dget hu (pv 3) pe_str (fun _ _ => rfl))) (pg_name (i := 4) sc_l_laid.nd rfl (Or.inl rfl))
      (pss_one (ps_if (PW.pt (pw_or (pt_cmpR op_gt (pe_fn (ok_l_take T) (hr.mono (by decide)) pass0 (pa_cons (pv 0) (pa_cons pe_int pa_nil))) pe_int (nomark _)) (pw_or1 (pt_cmpR (op_eq_dict0 (Nat.lt_of_le_of_lt (Nat.le_add_right _ _) hr.units)) (pe_dget hu (pv 2) pe_str (fun _ _ => rfl)) pe_dnewK (nomark _)))))
      (pss_cons (ps_dput hu (pe_dget hu (pv 2) pe_str (fun _ _ => rfl)) (pv 4) (pe_ix ix_list (pe_lst (pa_cons pe_str (pa_cons pe_str pa_nil))) (pe_fn (ok_l_take T) (hr.mono (by decide)) pass0 (pa_cons (pv 0) (pa_cons pe_int pa_nil))) (fun _ _ => rfl)) rfl)
    (pss_cons (ps_dput hu (pe_dget hu (pv 2) pe_str (fun _ _ => rfl)) (pv 4) (pe_dget hu (pe_dget hu (pv 2) pe_str (fun _ _ => rfl)) (pv 4) (fun _ _ => rfl)) rfl)
    (pss_cons (ps_dput hu (pe_dget hu (pv 2) pe_str (fun _ _ => rfl)) (pv 4) (pe_lst pa_nil) rfl)
    (pss_one (ps_expr (pe_mth (pv 1) T.clB (ok_B_add T) (hr.mono (by decide)) pass0 (by exact (pa_cons (pv 4) (pa_cons (pe_dget hu (pe_dget hu (pv 2) pe_str (fun _ _ => rfl)) (pv 4) (fun _ _ => rfl)) pa_nil)))))))))
      pss_nil)))), ?_⟩
    have wl := wo.d.1.len
    have sW : ∀ {H' : Hp}, Fr ow isBM a H H' → True := fun _ => trivial
    refine ⟨_, rfl, _, _, rfl, dw_d wa.w, W.d, rfl, ⟨_, SqL.of wa.d⟩, for_it walk_list (fun i σ H' => ∃ (v4 : Option V) (ow1 : Addr → Ro) (x1 : BA) (z1 : MA) (B L : BS), σ = [some (.ref a), some (.ref x1.bd), some (.ref z1.m), some (.ref W.w), v4] ∧ Laid K a ow x.bd z.m pp W H (W.dv.take i) ow1 x1 z1 B L H')
      ⟨none, ow, x, z, B0, B0, rfl, ⟨rfl, rfl, Fr.refl, fun _ _ _ _ _ => rfl, hb, b, m, wa, B0_ok, Sim0, rfl, fun d hd => by cases hd⟩⟩ (fun i σ H1 _ h => by obtain ⟨_, ow1, x1, z1, B, L, _, I⟩ := h; exact SqL.of I.w.d) ?_ ?_⟩
    · rintro i v σ H1 H1' hi ⟨v4, ow1, x1, z1, B, L, rfl, I⟩ ⟨rfl, hy⟩
      obtain ⟨d, hd, rfl⟩ := strs_at hy
      have hdw : d ∈ W.dv := mem_at hd
      have hdn := wo.d.1.all d hdw
      have tm := take_more hd
      have hdB : d ∉ B.devs := fun h => by
        have h1 := I.dv d h
        obtain ⟨k, hk, ek⟩ := List.mem_iff_getElem.mp h1
        have h2 : W.dv[k]? = some d := by
          have hk' : k < i := by rw [List.length_take] at hk; omega
          have : (W.dv.take i)[k]? = some d := by rw [List.getElem?_eq_getElem hk, ek]
          rw [List.getElem?_take, if_pos hk'] at this
          exact this
        have e := nd_ix wo.d.1.nd h2 hd
        have hk' : k < i := by rw [List.length_take] at hk; omega
        omega
      have hdl : B.devs.length < 24 := by
        have h1 := nd_len I.ok.dv.nd I.dv
        rw [List.length_take] at h1
        have h2 := (List.getElem?_eq_some_iff.mp hd).1
        omega
      have hdL : d ∉ L.devs := by rw [← I.sm.dv]; exact hdB
      have hdlL : L.devs.length < 24 := by rw [← I.sm.dv]; exact hdl
      have njL : L.jobs = [] := by rw [← I.sm.jb]; exact I.nj
      refine take_rd (i := 0) rfl I.bag (n := 8) (by decide) (by decide) (fun R h => h) fun u H2 u0 u1 k2 => ?_
      have I2 := I.dr k2
      refine ⟨_, _, rfl, rfl, _, rfl, iteD (fun e => iteT ?_) (fun e => ?_)⟩
      · refine ⟨by show 2 ≤ sizeLine; decide, fun l hl => ?_⟩
        have s5 := Same.new (o := .lst [V.str "open", .str "shut"]) hl
        have I5 := I2.same s5
        refine take_rd (i := 0) rfl I5.bag (n := 2) (by decide) (by decide) (fun R h => h) fun u6 H6 u60 u61 k6 => ?_
        have hl6 : H6 l = some (.lst [V.str "open", .str "shut"]) := k6.st (l := ["open", "shut"]) upd_same
        have I6 := I5.dr k6
        obtain ⟨p, hp, hpx⟩ : ∃ p : Str, atI [V.str "open", .str "shut"] u6 = some (.str p) ∧ IsPos p := by
          have w1 : u6 = 0 ∨ u6 = 1 := by omega
          rcases w1 with rfl | rfl
          · exact ⟨"open", atN _ 0, .inl rfl⟩
          · exact ⟨"shut", atN _ 1, .inr rfl⟩
        have m6 := I6.ma
        refine ⟨l, _, u6, .str p, rfl, rfl, SqL.of hl6, hp, ?_⟩
        refine ⟨_, rfl, _, _, rfl, dm_pl m6.rd.m, _, rfl, _, _, rfl, dp_new m6.pl (by omega) hdL, ?_⟩
        have nph := ro_ne m6.rpl m6.rhm (by intro z; cases z)
        have npt := ro_ne m6.rpl m6.rtg (by intro z; cases z)
        have nht := ro_ne m6.rhm m6.rtg (by intro z; cases z)
        have nmp := ro_ne m6.rm m6.rpl (by intro z; cases z)
        have nmh := ro_ne m6.rm m6.rhm (by intro z; cases z)
        have nmt := ro_ne m6.rm m6.rtg (by intro z; cases z)
        have mm7 : (upd H6 z1.pl (.dK (dk (L.devs ++ [d]) (ups (fun d => .str (L.pl d)) d (.str p))))) z1.m = _ := (upd_ne nmp).trans m6.m
        refine ⟨_, rfl, _, _, rfl, dm_pl (.inl mm7), _, rfl, _, _, rfl, dgs upd_same (by simp), ?_⟩
        rw [ups_same]
        refine ⟨_, rfl, _, _, rfl, dm_hm (.inl mm7), _, rfl, _, _, rfl, dp_new ((upd_ne nph.symm).trans m6.hm) (by omega) hdL, ?_⟩
        have kp8 := ((Kp.refl (ow := ow1) (p := Ro.isM) (H := H6)).upd (u := .dK (dk (L.devs ++ [d]) (ups (fun d => .str (L.pl d)) d (.str p)))) (by rw [m6.rpl]; rfl) m6.pl).upd (u := .dK (dk (L.devs ++ [d]) (ups (fun d => .str (L.hm d)) d (.str p)))) (by rw [m6.rhm]; rfl) ((upd_ne nph.symm).trans m6.hm)
        have mm8 : (upd (upd H6 z1.pl (.dK (dk (L.devs ++ [d]) (ups (fun d => .str (L.pl d)) d (.str p))))) z1.hm (.dK (dk (L.devs ++ [d]) (ups (fun d => .str (L.hm d)) d (.str p))))) z1.m = _ := (upd_ne nmh).trans mm7
        have mt8 : (upd (upd H6 z1.pl (.dK (dk (L.devs ++ [d]) (ups (fun d => .str (L.pl d)) d (.str p))))) z1.hm (.dK (dk (L.devs ++ [d]) (ups (fun d => .str (L.hm d)) d (.str p))))) z1.tg = _ := (upd_ne nht.symm).trans ((upd_ne npt.symm).trans m6.tg)
        have mp8 : (upd (upd H6 z1.pl (.dK (dk (L.devs ++ [d]) (ups (fun d => .str (L.pl d)) d (.str p))))) z1.hm (.dK (dk (L.devs ++ [d]) (ups (fun d => .str (L.hm d)) d (.str p))))) z1.pl = _ := (upd_ne nph).trans upd_same
        have mh8 : (upd (upd H6 z1.pl (.dK (dk (L.devs ++ [d]) (ups (fun d => .str (L.pl d)) d (.str p))))) z1.hm (.dK (dk (L.devs ++ [d]) (ups (fun d => .str (L.hm d)) d (.str p))))) z1.hm = _ := upd_same
        refine ⟨Nat.zero_le _, fun q hq => ?_⟩
        have nqp : z1.pl ≠ q := ne_of_none mp8 hq
        have nqh : z1.hm ≠ q := ne_of_none mh8 hq
        have nqt : z1.tg ≠ q := ne_of_none mt8 hq
        have hq6 : H6 q = none := by
          rw [upd_ne nqh.symm, upd_ne nqp.symm] at hq
          exact hq
        have s9 := Same.new (o := .lst []) hq
        refine ⟨_, rfl, _, _, rfl, dm_tg (.inl (s9 _ _ mm8)), _, rfl, _, _, rfl, dp_new (s9 _ _ mt8) (by omega) hdL, ?_⟩
        have kp10 := (kp8.new (u := .lst []) hq).upd (u := .dK (dk (L.devs ++ [d]) (ups (fun d => .ref (z1.tl d)) d (.ref q)))) (by rw [m6.rtg]; rfl) (s9 _ _ mt8)
        have m10 := (m6.same (Same.new (o := .lst []) hq6)).upAdd (d := d) (x := p) (q := q) hdL njL upd_same
        have eH : (upd (upd (upd (upd H6 q (.lst [])) z1.pl (.dK (dk (L.devs ++ [d]) (ups (fun d => .str (L.pl d)) d (.str p))))) z1.hm (.dK (dk (L.devs ++ [d]) (ups (fun d => .str (L.hm d)) d (.str p))))) z1.tg (.dK (dk (L.devs ++ [d]) (ups (fun d => .ref (z1.tl d)) d (.ref q))))) =
            (upd (upd (upd (upd H6 z1.pl (.dK (dk (L.devs ++ [d]) (ups (fun d => .str (L.pl d)) d (.str p))))) z1.hm (.dK (dk (L.devs ++ [d]) (ups (fun d => .str (L.hm d)) d (.str p))))) q (.lst [])) z1.tg (.dK (dk (L.devs ++ [d]) (ups (fun d => .ref (z1.tl d)) d (.ref q))))) := by
          funext y
          by_cases e1 : y = z1.tg
          · subst e1; rw [upd_same, upd_same]
          rw [upd_ne e1, upd_ne e1]
          by_cases e2 : y = q
          · subst e2
            rw [upd_same, upd_ne nqh.symm, upd_ne nqp.symm, upd_same]
          rw [upd_ne (H := (upd (upd H6 z1.pl _) z1.hm _)) e2]
          by_cases e3 : y = z1.hm
          · subst e3; rw [upd_same, upd_same]
          rw [upd_ne e3, upd_ne e3]
          by_cases e4 : y = z1.pl
          · subst e4; rw [upd_same, upd_same]
          rw [upd_ne e4, upd_ne e4, upd_ne e2]
        rw [eH] at m10
        have b10 := I6.b.keep kp10 isM_B
        generalize (upd (upd (upd (upd H6 z1.pl (.dK (dk (L.devs ++ [d]) (ups (fun d => .str (L.pl d)) d (.str p))))) z1.hm (.dK (dk (L.devs ++ [d]) (ups (fun d => .str (L.hm d)) d (.str p))))) q (.lst [])) z1.tg (.dK (dk (L.devs ++ [d]) (ups (fun d => .ref (z1.tl d)) d (.ref q))))) = H10 at kp10 m10 b10 ⊢
        have dvm : d ∈ (L.add d p).devs := by show d ∈ L.devs ++ [d]; simp
        refine ⟨_, rfl, _, _, _, rfl, b10.ob, bf_no (by decide +kernel), _, rfl, _, rfl, _, _, rfl, dm_pl m10.rd.m, _, rfl, _, _, rfl, dgs m10.pl dvm, ?_⟩
        have epl : (L.add d p).pl d = p := ups_same
        rw [epl]
        refine ⟨ow1, x1, B, d, p, rfl, b10, by omega, hdn, hpx, hdB, fun H11 x11 ow11 hx11 kp11 ag11 _ b11 => ?_⟩
        have fr10 := I6.fr.kpA kp10 I6.ag isBM_M
        have aw : ow1 W.w = .no := (I6.ag _ _ wa.w (neBag hb wa.w) (.inl (by rw [row]; rfl))).trans row
        refine ⟨_, ow11, x11, { z1 with tl := ups z1.tl d q }, B.add d p, L.add d p, by rw [hx11]; rfl, ⟨hx11.trans I6.bd, I6.m, fr10.kpA kp11 I6.ag isBM_B, I6.ag.next fr10 ag11, (I6.bag.kp kp10).kp kp11, b11, (m10.roles ag11).keep (kp11.roles ag11) isB_M, (I6.w.kp kp10 (by rw [aw]; rfl)).kp kp11 (by rw [aw]; rfl), I6.ok.add hdn hpx hdB hdl, I6.sm.add d p, I6.nj, fun y hy' => by
          have hy' : y ∈ B.devs ++ [d] := hy'
          rw [tm]
          exact (List.mem_append.mp hy').elim (fun h => List.mem_append.mpr (.inl (I6.dv y h))) fun h => List.mem_append.mpr (.inr h)⟩⟩
      · refine ⟨_, rfl, _, _, rfl, dm_pl I2.ma.rd.m, fun n hn => ?_⟩
        have I3 := I2.same (Same.new (o := .dK []) hn)
        refine ⟨z1.pl, n, _, rfl, rfl, I3.ma.pl, upd_same, _, rfl, ?_⟩
        generalize (upd H2 n (.dK [])) = H3 at I3 ⊢
        refine iteB (fun e2 => ?_) (fun e2 => ?_)
        · refine ⟨by show 2 ≤ sizeLine; decide, fun l hl => ?_⟩
          have s5 := Same.new (o := .lst [V.str "open", .str "shut"]) hl
          have I5 := I3.same s5
          refine take_rd (i := 0) rfl I5.bag (n := 2) (by decide) (by decide) (fun R h => h) fun u6 H6 u60 u61 k6 => ?_
          have hl6 : H6 l = some (.lst [V.str "open", .str "shut"]) := k6.st (l := ["open", "shut"]) upd_same
          have I6 := I5.dr k6
          obtain ⟨p, hp, hpx⟩ : ∃ p : Str, atI [V.str "open", .str "shut"] u6 = some (.str p) ∧ IsPos p := by
            have w1 : u6 = 0 ∨ u6 = 1 := by omega
            rcases w1 with rfl | rfl
            · exact ⟨"open", atN _ 0, .inl rfl⟩
            · exact ⟨"shut", atN _ 1, .inr rfl⟩
          have m6 := I6.ma
          refine ⟨l, _, u6, .str p, rfl, rfl, SqL.of hl6, hp, ?_⟩
          refine ⟨_, rfl, _, _, rfl, dm_pl m6.rd.m, _, rfl, _, _, rfl, dp_new m6.pl (by omega) hdL, ?_⟩
          have nph := ro_ne m6.rpl m6.rhm (by intro z; cases z)
          have npt := ro_ne m6.rpl m6.rtg (by intro z; cases z)
          have nht := ro_ne m6.rhm m6.rtg (by intro z; cases z)
          have nmp := ro_ne m6.rm m6.rpl (by intro z; cases z)
          have nmh := ro_ne m6.rm m6.rhm (by intro z; cases z)
          have nmt := ro_ne m6.rm m6.rtg (by intro z; cases z)
          have mm7 : (upd H6 z1.pl (.dK (dk (L.devs ++ [d]) (ups (fun d => .str (L.pl d)) d (.str p))))) z1.m = _ := (upd_ne nmp).trans m6.m
          refine ⟨_, rfl, _, _, rfl, dm_pl (.inl mm7), _, rfl, _, _, rfl, dgs upd_same (by simp), ?_⟩
          rw [ups_same]
          refine ⟨_, rfl, _, _, rfl, dm_hm (.inl mm7), _, rfl, _, _, rfl, dp_new ((upd_ne nph.symm).trans m6.hm) (by omega) hdL, ?_⟩
          have kp8 := ((Kp.refl (ow := ow1) (p := Ro.isM) (H := H6)).upd (u := .dK (dk (L.devs ++ [d]) (ups (fun d => .str (L.pl d)) d (.str p)))) (by rw [m6.rpl]; rfl) m6.pl).upd (u := .dK (dk (L.devs ++ [d]) (ups (fun d => .str (L.hm d)) d (.str p)))) (by rw [m6.rhm]; rfl) ((upd_ne nph.symm).trans m6.hm)
          have mm8 : (upd (upd H6 z1.pl (.dK (dk (L.devs ++ [d]) (ups (fun d => .str (L.pl d)) d (.str p))))) z1.hm (.dK (dk (L.devs ++ [d]) (ups (fun d => .str (L.hm d)) d (.str p))))) z1.m = _ := (upd_ne nmh).trans mm7
          have mt8 : (upd (upd H6 z1.pl (.dK (dk (L.devs ++ [d]) (ups (fun d => .str (L.pl d)) d (.str p))))) z1.hm (.dK (dk (L.devs ++ [d]) (ups (fun d => .str (L.hm d)) d (.str p))))) z1.tg = _ := (upd_ne nht.symm).trans ((upd_ne npt.symm).trans m6.tg)
          have mp8 : (upd (upd H6 z1.pl (.dK (dk (L.devs ++ [d]) (ups (fun d => .str (L.pl d)) d (.str p))))) z1.hm (.dK (dk (L.devs ++ [d]) (ups (fun d => .str (L.hm d)) d (.str p))))) z1.pl = _ := (upd_ne nph).trans upd_same
          have mh8 : (upd (upd H6 z1.pl (.dK (dk (L.devs ++ [d]) (ups (fun d => .str (L.pl d)) d (.str p))))) z1.hm (.dK (dk (L.devs ++ [d]) (ups (fun d => .str (L.hm d)) d (.str p))))) z1.hm = _ := upd_same
          refine ⟨Nat.zero_le _, fun q hq => ?_⟩
          have nqp : z1.pl ≠ q := ne_of_none mp8 hq
          have nqh : z1.hm ≠ q := ne_of_none mh8 hq
          have nqt : z1.tg ≠ q := ne_of_none mt8 hq
          have hq6 : H6 q = none := by
            rw [upd_ne nqh.symm, upd_ne nqp.symm] at hq
            exact hq
          have s9 := Same.new (o := .lst []) hq
          refine ⟨_, rfl, _, _, rfl, dm_tg (.inl (s9 _ _ mm8)), _, rfl, _, _, rfl, dp_new (s9 _ _ mt8) (by omega) hdL, ?_⟩
          have kp10 := (kp8.new (u := .lst []) hq).upd (u := .dK (dk (L.devs ++ [d]) (ups (fun d => .ref (z1.tl d)) d (.ref q)))) (by rw [m6.rtg]; rfl) (s9 _ _ mt8)
          have m10 := (m6.same (Same.new (o := .lst []) hq6)).upAdd (d := d) (x := p) (q := q) hdL njL upd_same
          have eH : (upd (upd (upd (upd H6 q (.lst [])) z1.pl (.dK (dk (L.devs ++ [d]) (ups (fun d => .str (L.pl d)) d (.str p))))) z1.hm (.dK (dk (L.devs ++ [d]) (ups (fun d => .str (L.hm d)) d (.str p))))) z1.tg (.dK (dk (L.devs ++ [d]) (ups (fun d => .ref (z1.tl d)) d (.ref q))))) =
              (upd (upd (upd (upd H6 z1.pl (.dK (dk (L.devs ++ [d]) (ups (fun d => .str (L.pl d)) d (.str p))))) z1.hm (.dK (dk (L.devs ++ [d]) (ups (fun d => .str (L.hm d)) d (.str p))))) q (.lst [])) z1.tg (.dK (dk (L.devs ++ [d]) (ups (fun d => .ref (z1.tl d)) d (.ref q))))) := by
            funext y
            by_cases e1 : y = z1.tg
            · subst e1; rw [upd_same, upd_same]
            rw [upd_ne e1, upd_ne e1]
            by_cases e2 : y = q
            · subst e2
              rw [upd_same, upd_ne nqh.symm, upd_ne nqp.symm, upd_same]
            rw [upd_ne (H := (upd (upd H6 z1.pl _) z1.hm _)) e2]
            by_cases e3 : y = z1.hm
            · subst e3; rw [upd_same, upd_same]
            rw [upd_ne e3, upd_ne e3]
            by_cases e4 : y = z1.pl
            · subst e4; rw [upd_same, upd_same]
            rw [upd_ne e4, upd_ne e4, upd_ne e2]
          rw [eH] at m10
          have b10 := I6.b.keep kp10 isM_B
          generalize (upd (upd (upd (upd H6 z1.pl (.dK (dk (L.devs ++ [d]) (ups (fun d => .str (L.pl d)) d (.str p))))) z1.hm (.dK (dk (L.devs ++ [d]) (ups (fun d => .str (L.hm d)) d (.str p))))) q (.lst [])) z1.tg (.dK (dk (L.devs ++ [d]) (ups (fun d => .ref (z1.tl d)) d (.ref q))))) = H10 at kp10 m10 b10 ⊢
          have dvm : d ∈ (L.add d p).devs := by show d ∈ L.devs ++ [d]; simp
          refine ⟨_, rfl, _, _, _, rfl, b10.ob, bf_no (by decide +kernel), _, rfl, _, rfl, _, _, rfl, dm_pl m10.rd.m, _, rfl, _, _, rfl, dgs m10.pl dvm, ?_⟩
          have epl : (L.add d p).pl d = p := ups_same
          rw [epl]
          refine ⟨ow1, x1, B, d, p, rfl, b10, by omega, hdn, hpx, hdB, fun H11 x11 ow11 hx11 kp11 ag11 _ b11 => ?_⟩
          have fr10 := I6.fr.kpA kp10 I6.ag isBM_M
          have aw : ow1 W.w = .no := (I6.ag _ _ wa.w (neBag hb wa.w) (.inl (by rw [row]; rfl))).trans row
          refine ⟨_, ow11, x11, { z1 with tl := ups z1.tl d q }, B.add d p, L.add d p, by rw [hx11]; rfl, ⟨hx11.trans I6.bd, I6.m, fr10.kpA kp11 I6.ag isBM_B, I6.ag.next fr10 ag11, (I6.bag.kp kp10).kp kp11, b11, (m10.roles ag11).keep (kp11.roles ag11) isB_M, (I6.w.kp kp10 (by rw [aw]; rfl)).kp kp11 (by rw [aw]; rfl), I6.ok.add hdn hpx hdB hdl, I6.sm.add d p, I6.nj, fun y hy' => by
            have hy' : y ∈ B.devs ++ [d] := hy'
            rw [tm]
            exact (List.mem_append.mp hy').elim (fun h => List.mem_append.mpr (.inl (I6.dv y h))) fun h => List.mem_append.mpr (.inr h)⟩⟩
        · exact ⟨_, ow1, x1, z1, B, L, rfl, I3.mono fun y hy' => by rw [tm]; exact List.mem_append.mpr (.inl hy')⟩
    · rintro σ H1 ⟨v4, ow1, x1, z1, B, L, rfl, I⟩
      rw [List.length_map, List.take_length] at I
      exact kk _ ow1 x1 z1 B L I
end
end Sm
namespace Sm
open PySem PySem.Spec PyProof.Rows L2
/-! ### refusals and answers as data -/
def rfD : Rf → PyData
  | .there n => .tuple [.str "There", .str n]
  | .lacks n => .tuple [.str "Lacks", .str n]
  | .tooMany k => .tuple [.str "TooMany", .int k]
  | .held hs => .tuple [.str "Held", dS hs]
  | .stuck n => .tuple [.str "Stuck", .str n]
  | .notNow j => .tuple [.str "NotNow", .str j]
def RfOk : Rf → Prop
  | .there n => IsName n
  | .lacks n => IsName n
  | .tooMany k => k.natAbs ≤ 1000
  | .held hs => (∀ h ∈ hs, IsName h) ∧ hs.length ≤ 48
  | .stuck n => IsName n
  | .notNow j => IsName j
theorem dp_due {K : PySem.W.Frag} {H : Hp} {v : V} {r : Rf} (h : DueV H v (some r)) : Dp K H v (rfD r) := by
  obtain ⟨t, x, rfl, ht, hx⟩ := h
  cases r with
  | there n => cases hx; exact .tup (SqT.of ht) (.cons (.str _) (.cons (.str _) .nil))
  | lacks n => cases hx; exact .tup (SqT.of ht) (.cons (.str _) (.cons (.str _) .nil))
  | tooMany k => cases hx; exact .tup (SqT.of ht) (.cons (.str _) (.cons (.int _) .nil))
  | held hs => obtain ⟨l, rfl, hl⟩ := hx; exact .tup (SqT.of ht) (.cons (.str _) (.cons (dpL (SqL.of hl)) .nil))
  | stuck n => cases hx; exact .tup (SqT.of ht) (.cons (.str _) (.cons (.str _) .nil))
  | notNow n => cases hx; exact .tup (SqT.of ht) (.cons (.str _) (.cons (.str _) .nil))
theorem sm_pair {x y : PyData} {n b c : Nat} (hx : SmD n b x) (hy : SmD n b y) (h : 2 * (b + 2) + 3 ≤ c) : SmD (n + 1) c (.tuple [x, y]) := .tuple (fun d hd => by
  simp only [List.mem_cons, List.not_mem_nil, or_false] at hd
  rcases hd with rfl | rfl
  · exact hx
  · exact hy) h
theorem sm_w {x : Str} (h : WOk x) {b : Nat} (hb : 90 ≤ b) {n : Nat} : SmD n b (.str x) := .str x h hb
theorem rf_sm {r : Rf} (h : RfOk r) : SmD 2 20000 (rfD r) := by
  have one : ∀ {w x : Str}, WOk w → IsName x → SmD 2 20000 (.tuple [.str w, .str x]) := fun hw hx => sm_pair (n := 1) (b := 5000) (sm_w hw (by decide)) (sm_w hx.w (by decide)) (by decide)
  cases r with
  | there n => exact one (by decide +kernel) h
  | lacks n => exact one (by decide +kernel) h
  | tooMany k => exact sm_pair (n := 1) (b := 5000) (sm_w (by decide +kernel) (by decide)) (.int k h (by decide)) (by decide)
  | held hs => exact sm_pair (n := 1) (b := 5000) (sm_w (by decide +kernel) (by decide)) (sm_strs (fun x hx => (h.1 x hx).w) (by have := h.2; omega)) (by decide)
  | stuck n => exact one (by decide +kernel) h
  | notNow n => exact one (by decide +kernel) h
def resD : Option Stp → PyData
  | none => .none
  | some s => rowD (stV s)
theorem dp_res {K : PySem.W.Frag} {H : Hp} {v : V} {o : Option Stp} (h : ResV H v o) : Dp K H v (resD o) := by
  cases o with
  | none => cases h; exact .non
  | some s => obtain ⟨t, rfl, ht⟩ := h; exact .tup (SqT.of ht) (dps_flat (stV_flat s))
theorem ResV.kp {H H' : Hp} {ow : Addr → Ro} {p : Ro → Bool} {v : V} {o : Option Stp} (h : ResV H v o) (k : Kp ow p H H') : ResV H' v o := by
  cases o with
  | none => exact h
  | some s => obtain ⟨t, e, ht⟩ := h; exact ⟨t, e, k _ _ ht (.inr (by intro _ z; cases z))⟩
theorem ResV.same {H H' : Hp} {v : V} {o : Option Stp} (h : ResV H v o) (k : Same H H') : ResV H' v o := h.kp (ow := fun _ => .no) (p := fun _ => false) (Kp.same k)
section
variable {B L : BS} {pp : Str → PS}
theorem held_ok (ok : BOk B) {js : List Str} (hn : js.Nodup) (hs : ∀ j ∈ js, j ∈ B.jobs) : RfOk (.held (hset B.cw js)) :=
  ⟨ok.hands hs, Nat.le_trans hset_len (bcrew_len ok hn hs)⟩
theorem heldR_ok (ok : BOk B) {j : Str} (hj : j ∈ B.jobs) {r : Rf} (h : heldR B j = some r) : RfOk r := by
  unfold heldR at h
  split at h
  · cases h
    have hc := (ok.cw j hj).1
    refine ⟨fun x hx => hc.all x (List.mem_of_mem_tail (mem_srt.mp hx)), ?_⟩
    rw [len_srt, List.length_tail]
    have := hc.len
    omega
  · cases h
theorem due_ok (ok : BOk B) (oks : ∀ j ∈ B.jobs, JOk B j (pp j)) {d : Deed} (hf : d.fits B) {r : Rf} (h : due B pp d = some r) : RfOk r := by
  cases d with
  | turn d p =>
    have h : turnR B d p = some r := h
    unfold turnR at h
    split at h
    · cases h; exact hf.1
    · rename_i hm
      have hm := Classical.byContradiction hm
      split at h
      · cases h
        exact held_ok ok (ok.ms d hm).1 (ok.ms d hm).2
      · split at h
        · cases h; exact hf.1
        · cases h
  | stick d =>
    have h : (if d ∈ B.devs then none else some (Rf.lacks d)) = some r := h
    split at h
    · cases h
    · cases h; exact hf
  | mend d =>
    have h : (if d ∈ B.devs then none else some (Rf.lacks d)) = some r := h
    split at h
    · cases h
    · cases h; exact hf
  | ask j hh rr =>
    have h : askR B j = some r := h
    unfold askR at h
    split at h
    · cases h; exact hf.1
    · split at h
      · cases h; exact (by decide : (8 : Int).natAbs ≤ 1000)
      · cases h
  | begin j sw dr =>
    have h : beginR B j (pp j) sw dr = some r := h
    unfold beginR lackR at h
    split at h
    · split at h
      · rename_i x hx
        cases h
        have := List.mem_of_find?_eq_some hx
        exact (List.mem_append.mp this).elim (hf.2.1.all x) (hf.2.2.1.all x)
      · cases h
    · cases h; exact ok.jb.all j hf.1
  | step j =>
    have h : stepR B j (pp j) = some r := h
    unfold stepR at h
    split at h
    · cases h; exact ok.jb.all j hf
    · rename_i d t e
      have hm := mem_steps ok (oks j hf).po (s := (d, none)) (j := j) (by rw [e]; exact List.mem_cons_self)
      unfold freeR at h
      split at h
      · cases h; exact ok.dv.all d hm.2.1
      · cases h
    · rename_i d t rest e
      have hm := mem_steps ok (oks j hf).po (s := (d, some t)) (j := j) (by rw [e]; exact List.mem_cons_self)
      unfold holdR at h
      split at h
      · cases h
      · split at h
        · cases h
          exact held_ok ok (oth_nd (ok.ms d hm.2.1).1) fun k hk => (ok.ms d hm.2.1).2 k (oth_mem.mp hk).1
        · split at h
          · cases h; exact ok.dv.all d hm.2.1
          · cases h
  | give j =>
    have h : giveR B j (pp j) = some r := h
    unfold giveR at h
    split at h
    · cases h
    · cases h; exact ok.jb.all j hf
  | tryOut j =>
    have h : tryR B j (pp j) = some r := h
    unfold tryR at h
    split at h
    · exact heldR_ok ok hf h
    · cases h; exact ok.jb.all j hf
  | goOn j =>
    have h : goonR j (pp j) = some r := h
    unfold goonR at h
    split at h
    · cases h
    · cases h; exact ok.jb.all j hf
  | putBy j =>
    have h : putR B j (pp j) = some r := h
    unfold putR at h
    split at h
    · exact heldR_ok ok hf h
    · cases h; exact ok.jb.all j hf
  | fin j =>
    have h : endR B j (pp j) = some r := h
    unfold endR at h
    split at h
    · exact heldR_ok ok hf h
    · cases h; exact ok.jb.all j hf
  | on j x =>
    have h : onR B j (pp j) x = some r := h
    unfold onR at h
    split at h
    · split at h
      · cases h; exact hf.2
      · split at h
        · cases h; exact (by decide : (6 : Int).natAbs ≤ 1000)
        · cases h
    · cases h; exact ok.jb.all j hf.1
  | off j x =>
    have h : offR B j (pp j) x = some r := h
    unfold offR at h
    split at h
    · split at h
      · cases h; exact hf.2
      · split at h
        · cases h; exact ok.jb.all j hf.1
        · cases h
    · cases h; exact ok.jb.all j hf.1
  | over j x y =>
    have h : overR B j x y = some r := h
    unfold overR at h
    split at h
    · cases h; exact hf.2.1
    · split at h
      · cases h; exact hf.2.2
      · cases h
theorem res_sm (ok : BOk B) (oks : ∀ j ∈ B.jobs, JOk B j (pp j)) {d : Deed} (hf : d.fits B) : SmD 2 20000 (resD (res B pp d)) := by
  cases d with
  | step j =>
    show SmD 2 20000 (resD (B.steps j (pp j)).head?)
    cases e : B.steps j (pp j) with
    | nil => exact .non (by decide)
    | cons s r =>
      obtain ⟨d, o⟩ := s
      have hm := mem_steps ok (oks j hf).po (s := (d, o)) (j := j) (by rw [e]; exact List.mem_cons_self)
      have hd := (ok.dv.all d hm.2.1).w
      cases o with
      | none => exact sm_pair (n := 1) (b := 5000) (sm_w hd (by decide)) (.non (by decide)) (by decide)
      | some t =>
        have ht : IsPos t := by
          rcases hm.2.2 with ⟨t', z, hp⟩ | z
          · cases Option.some.inj z; exact hp
          · cases z.1
        exact sm_pair (n := 1) (b := 5000) (sm_w hd (by decide)) (sm_w ht.w (by decide)) (by decide)
  | _ => exact .non (by decide)
theorem Sim.fits' (s : Sim B L) {d : Deed} (h : d.fits L) : d.fits B := by
  cases d <;> first | exact h | exact ⟨by rw [s.jb]; exact h.1, h.2⟩ | (show _ ∈ B.jobs; rw [s.jb]; exact h)
/-- behind a deed: the names the program keeps, filtered, are the jobs -/
theorem Left.filt {B' : BS} {pp' : Str → PS} {d : Deed} (h : Left B B' pp' d) (nd : (hkeys B.jobs d).Nodup) : (hkeys B.jobs d).filter (fun j => decide (j ∈ B'.jobs)) = B'.jobs ∧ ∀ j ∈ hkeys B.jobs d, j ∉ B'.jobs → EndP (pp' j) := by
  rcases h with h | ⟨j, hj, h1, h2, h3⟩
  · rw [h]
    exact ⟨List.filter_eq_self.mpr fun a ha => decide_eq_true ha, fun j hj hn => absurd hj hn⟩
  · rw [h1, h2]
    refine ⟨?_, fun k hk hn => ?_⟩
    · refine List.filter_congr fun a ha => ?_
      rw [decide_eq_decide, List.mem_filter]
      exact ⟨fun z => of_decide_eq_true z.2, fun z => ⟨ha, decide_eq_true z⟩⟩
    · have : k = j := Classical.byContradiction fun z => hn (List.mem_filter.mpr ⟨hk, decide_eq_true z⟩)
      rw [this]
      exact h3
theorem Left.out {B' : BS} {pp' : Str → PS} {d : Deed} (h : Left B B' pp' d) (nd : B.jobs.Nodup) : ((hkeys B.jobs d).filter (fun j => decide (j ∉ B'.jobs))).length ≤ 1 := by
  rcases h with h | ⟨j, hj, h1, h2, h3⟩
  · rw [h, List.filter_eq_nil_iff.mpr fun a ha => by simpa using ha]
    exact Nat.zero_le _
  · rw [h1, h2]
    have e : ∀ a ∈ B.jobs.filter (fun k => decide (k ∉ B.jobs.filter fun a => decide (a ≠ j))), a ∈ [j] := fun a ha => by
      obtain ⟨h4, h5⟩ := List.mem_filter.mp ha
      have h5 := of_decide_eq_true h5
      exact List.mem_singleton.mpr (Classical.byContradiction fun z => h5 (List.mem_filter.mpr ⟨h4, decide_eq_true z⟩))
    exact nd_len (nd.sublist List.filter_sublist) e
end
end Sm
namespace Sm
open PySem PySem.Spec PyProof.Rows L2
section
variable {K : PySem.W.Frag} {ow : Addr → Ro} {p : Ro → Bool} {js : List Addr} {H H' H1 : Hp} {a b : Addr} {o : HO} {kvs : List (Key × V)} {l : List V}
/-- the addresses are instances -/
def Inst (H : Hp) (js : List Addr) : Prop := ∀ a ∈ js, ∃ C d f, H a = some (.ins C d f)
theorem KpA.nd (k : KpA ow p js H H') (hj : Inst H js) (e : H a = some o) (no : ∀ C d f, o ≠ .ins C d f) (z : p (ow a) = false ∨ ∀ kvs, o ≠ .dK kvs) : H' a = some o :=
  k a o e (fun hm => by
    obtain ⟨C, d, f, e'⟩ := hj a hm
    rw [e] at e'
    exact no _ _ _ (Option.some.inj e')) z
theorem KpA.dk (k : KpA ow p js H H') (hj : Inst H js) (e : H a = some (.dK kvs)) (z : p (ow a) = false) : H' a = some (.dK kvs) := k.nd hj e (by intro _ _ _ z; cases z) (.inl z)
theorem KpA.ls (k : KpA ow p js H H') (hj : Inst H js) (e : H a = some (.lst l)) : H' a = some (.lst l) := k.nd hj e (by intro _ _ _ z; cases z) (.inr (by intro _ z; cases z))
theorem KpA.tp (k : KpA ow p js H H') (hj : Inst H js) (e : H a = some (.tup l)) : H' a = some (.tup l) := k.nd hj e (by intro _ _ _ z; cases z) (.inr (by intro _ z; cases z))
theorem isBH_M : ∀ r : Ro, r.isM = true → Ro.isBH r = false := fun r h => by cases r <;> first | rfl | cases h
theorem MAt.move {z : MA} {L : BS} {pp : Str → PS} (m : MAt ow z L pp H) (kd : ∀ a kvs, H a = some (.dK kvs) → (ow a).isM = true → H' a = some (.dK kvs)) (kl : ∀ a l, H a = some (.lst l) → H' a = some (.lst l)) : MAt ow z L pp H' :=
  { m with
    m := kd _ _ m.m (by rw [m.rm]; rfl)
    pl := kd _ _ m.pl (by rw [m.rpl]; rfl)
    hm := kd _ _ m.hm (by rw [m.rhm]; rfl)
    sk := kl _ _ m.sk
    tg := kd _ _ m.tg (by rw [m.rtg]; rfl)
    tl := fun d hd => kl _ _ (m.tl d hd)
    cw := kd _ _ m.cw (by rw [m.rcw]; rfl)
    cl := fun d hd => kl _ _ (m.cl d hd)
    jb := kd _ _ m.jb (by rw [m.rjb]; rfl)
    pa := fun j hj => kd _ _ (m.pa j hj) (by rw [m.rpa j hj]; rfl)
    ab := fun d hd => kl _ _ (m.ab d hd)
    cu := fun d hd => kl _ _ (m.cu d hd)
    em := fun d hd => kl _ _ (m.em d hd) }
theorem MAt.keepA {z : MA} {L : BS} {pp : Str → PS} (m : MAt ow z L pp H) (k : KpA ow Ro.isBH js H H') (hj : Inst H js) : MAt ow z L pp H' :=
  m.move (fun _ _ e r => k.dk hj e (isBH_M _ r)) fun _ _ e => k.ls hj e
theorem WAt.keepA {W : Wd} (w : WAt W H) (k : KpA ow Ro.isBH js H H') (hj : Inst H js) (r : ow W.w = .no) : WAt W H' := ⟨k.dk hj w.w (by rw [r]; rfl), k.ls hj w.d, k.ls hj w.j, k.ls hj w.h⟩
theorem Bag.keepA (h : Bag H a) (k : KpA ow p js H H') (hj : Inst H js) : Bag H' a := by
  obtain ⟨c, s, t, n, xs, h1, h2, h3⟩ := h
  exact ⟨c, s, t, n, xs, k.ls hj h1, k.ls hj h2, h3⟩
theorem DAt.keepA {t : Addr} {d : Deed} (h : DAt H t d) (k : KpA ow p js H H') (hj : Inst H js) : DAt H' t d := by
  obtain ⟨p, q, h1, h2⟩ := h
  exact ⟨p, q, k.tp hj h1, Deed.lists_keep h2 fun a l e => k.ls hj e⟩
/-! ### jobs that are gone -/
def GoneV (K : PySem.W.Frag) (bd : Addr) (H : Hp) (v : V) : Prop := ∃ t nm i y P, v = .ref t ∧ H t = some (.tup [.str nm, .ref i]) ∧ JAt K bd y i nm P H ∧ EndP P ∧ IsName nm
def Gone (K : PySem.W.Frag) (bd g : Addr) (n : Nat) (H : Hp) : Prop := ∃ its, H g = some (.lst its) ∧ its.length ≤ n ∧ ∀ v ∈ its, GoneV K bd H v
variable {bd g : Addr} {n : Nat} {v : V}
theorem GoneV.same (h : GoneV K bd H v) (s : Same H H') : GoneV K bd H' v := let ⟨t, nm, i, y, P, e, h1, h2, h3⟩ := h; ⟨t, nm, i, y, P, e, s _ _ h1, h2.same s, h3⟩
theorem GoneV.dr (h : GoneV K bd H v) (s : Dr a H H') : GoneV K bd H' v := let ⟨t, nm, i, y, P, e, h1, h2, h3⟩ := h; ⟨t, nm, i, y, P, e, s.at h1 nb_tup, h2.dr s, h3⟩
theorem GoneV.kp (h : GoneV K bd H v) (s : Kp ow p H H') : GoneV K bd H' v := let ⟨t, nm, i, y, P, e, h1, h2, h3⟩ := h; ⟨t, nm, i, y, P, e, s _ _ h1 (.inr (by intro _ z; cases z)), h2.keep s, h3⟩
theorem Gone.same (h : Gone K bd g n H) (s : Same H H') : Gone K bd g n H' := let ⟨its, h1, h2, h3⟩ := h; ⟨its, s _ _ h1, h2, fun v hv => (h3 v hv).same s⟩
theorem Gone.kp (h : Gone K bd g n H) (s : Kp ow p H H') : Gone K bd g n H' := let ⟨its, h1, h2, h3⟩ := h; ⟨its, s _ _ h1 (.inr (by intro _ z; cases z)), h2, fun v hv => (h3 v hv).kp s⟩
theorem Gone.dr (h : Gone K bd g n H) (s : Dr a H H') : Gone K bd g n H' := by
  obtain ⟨its, h1, h2, h3⟩ := h
  refine ⟨its, s.at h1 fun s' t k c z => ?_, h2, fun v hv => (h3 v hv).dr s⟩
  have e := HO.lst.inj z
  obtain ⟨t, nm, i, y, P, ev, _⟩ := h3 (.int s') (by rw [e]; exact List.mem_cons_self)
  cases ev
theorem Gone.keepA {pp : Str → PS} {hi : Addr} {hk : List Str} {ji : Str → Addr} (h : Gone K bd g n H) (k : KpA ow p (hk.map ji) H H') (s : JSs K ow bd pp hi hk ji H) (hne : ∀ j ∈ hk, (pp j).ph ≠ "ended") (hj : Inst H (hk.map ji)) : Gone K bd g n H' := by
  obtain ⟨its, h1, h2, h3⟩ := h
  refine ⟨its, k.ls hj h1, h2, fun v hv => ?_⟩
  obtain ⟨t, nm, i, y, P, e, h4, h5, h6, h7⟩ := h3 v hv
  refine ⟨t, nm, i, y, P, e, k.tp hj h4, h5.keepA k (fun hm => ?_) hj, h6, h7⟩
  obtain ⟨j, hj', rfl⟩ := List.mem_map.mp hm
  obtain ⟨y', h8⟩ := s.jt j hj'
  exact hne j hj' ((h8.nm_inj h5).2.trans h6.ph)
theorem JSs.inst {pp : Str → PS} {hi : Addr} {hk : List Str} {ji : Str → Addr} (s : JSs K ow bd pp hi hk ji H) : Inst H (hk.map ji) := fun a ha => by
  obtain ⟨j, hj, rfl⟩ := List.mem_map.mp ha
  obtain ⟨y, h⟩ := s.jt j hj
  exact ⟨_, _, _, h.ob⟩
end
/-! ### what stands between the turns -/
structure LD where
  ow : Addr → Ro
  x : BA
  z : MA
  B : BS
  L : BS
  pp : Str → PS
  hi : Addr
  g : Addr
  ji : Str → Addr
structure LI (K : PySem.W.Frag) (a bd m : Addr) (W : Wd) (n : Nat) (hk : List Str) (D : LD) (H : Hp) : Prop where
  bd : D.x.bd = bd
  m : D.z.m = m
  st : LSt a D.ow D.z D.L D.pp W H
  row : D.ow W.w = .no
  b : BAt K D.ow D.x D.B H
  ok : BOk D.B
  oks : ∀ j ∈ D.B.jobs, JOk D.B j (D.pp j)
  sm : Sim D.B D.L
  js : JSs K D.ow D.x.bd D.pp D.hi hk D.ji H
  go : Gone K D.x.bd D.g n H
/-- the names that the program keeps, those of jobs that have just ended within -/
structure LK (hk : List Str) (D : LD) : Prop where
  f : hk.filter (fun j => decide (j ∈ D.B.jobs)) = D.B.jobs
  e : ∀ j ∈ hk, j ∉ D.B.jobs → EndP (D.pp j)
  o : (hk.filter (fun j => decide (j ∉ D.B.jobs))).length ≤ 1
  n : ∀ j ∈ hk, IsName j
  l : hk.length ≤ 9
  d : hk.Nodup
section
variable {K : PySem.W.Frag} {a bd m : Addr} {W : Wd} {n : Nat} {hk : List Str} {D : LD} {H H1 H2 H3 : Hp}
theorem LI.same (s : LI K a bd m W n hk D H) (k : Same H H1) : LI K a bd m W n hk D H1 := { s with st := s.st.same k, b := s.b.same k, js := s.js.same k, go := s.go.same k }
theorem LI.dr (s : LI K a bd m W n hk D H) (k : Dr a H H1) : LI K a bd m W n hk D H1 := { s with st := s.st.dr k, b := s.b.dr k, js := s.js.dr k, go := s.go.dr k }
theorem LK.refl (ok : BOk D.B) : LK D.B.jobs D where
  f := List.filter_eq_self.mpr fun a ha => decide_eq_true ha
  e := fun j hj hn => absurd hj hn
  o := by
    rw [List.filter_eq_nil_iff.mpr fun a ha => by simpa using ha]
    exact Nat.zero_le _
  n := ok.jb.all
  l := Nat.le_trans ok.jb.len (by decide)
  d := ok.jb.nd
theorem LI.ne (s : LI K a bd m W n hk D H) : ∀ j ∈ D.B.jobs, (D.pp j).ph ≠ "ended" := fun j hj => (s.oks j hj).ne
/-- the program has done a deed -/
theorem LI.said (s : LI K a bd m W n D.B.jobs D H) (k : KpA D.ow Ro.isBH (D.B.jobs.map D.ji) H H1) : LSt a D.ow D.z D.L D.pp W H1 ∧ Gone K D.x.bd D.g n H1 :=
  have hj := s.js.inst
  ⟨⟨s.st.b.keepA k hj, s.st.m.keepA k hj, s.st.ok, s.st.oks, s.st.w.keepA k hj s.row, s.st.wo⟩, s.go.keepA k s.js s.ne hj⟩
theorem JSs.roles {ow ow' : Addr → Ro} {pp : Str → PS} {hi : Addr} {ji : Str → Addr} (s : JSs K ow bd pp hi hk ji H) (h : ∀ a, H a ≠ none → ow' a = ow a) : JSs K ow' bd pp hi hk ji H := ⟨s.he, (h _ (nn s.he)).trans s.rhe, s.jt⟩
/-- both have done it -/
theorem LI.told (s : LI K a bd m W n D.B.jobs D H) {d : Deed} (hf : d.fits D.L) (hd : due D.B D.pp d = none) {x' : BA} {ji' : Str → Addr} (hx : x'.bd = D.x.bd) (k : KpA D.ow Ro.isBH (D.B.jobs.map D.ji) H H1)
    (b' : BAt K D.ow x' (bact D.B D.pp d).1 H1) (js' : JSs K D.ow D.x.bd (bact D.B D.pp d).2 D.hi (hkeys D.B.jobs d) ji' H1) (s12 : Same H1 H2) {z' : MA} {ow' : Addr → Ro} (hz : z'.m = D.z.m) (ro : ∀ a, H2 a ≠ none → ow' a = D.ow a) (k2 : Kp D.ow Ro.isM H2 H3)
    (m' : MAt ow' z' (lact D.L D.pp d).1 (lact D.L D.pp d).2 H3) :
    LI K a bd m W n (hkeys D.B.jobs d) ⟨ow', x', z', (bact D.B D.pp d).1, (lact D.L D.pp d).1, (bact D.B D.pp d).2, D.hi, D.g, ji'⟩ H3 ∧ LK (hkeys D.B.jobs d) ⟨ow', x', z', (bact D.B D.pp d).1, (lact D.L D.pp d).1, (bact D.B D.pp d).2, D.hi, D.g, ji'⟩ := by
  have hfB := s.sm.fits' hf
  obtain ⟨st1, go1⟩ := s.said k
  obtain ⟨ok', oks', lf⟩ := act_ok s.ok s.oks hfB hd
  obtain ⟨sm', ep⟩ := s.sm.act s.ok s.oks (pp := D.pp) hfB
  have k3 := k2.roles ro
  have hnd : (hkeys D.B.jobs d).Nodup := by
    cases d with
    | ask j h r =>
      have e : askR D.B j = none := hd
      unfold askR at e
      have hn : j ∉ D.B.jobs := fun z => by rw [if_pos z] at e; cases e
      exact nd_snoc s.ok.jb.nd hn
    | _ => exact s.ok.jb.nd
  obtain ⟨f1, f2⟩ := lf.filt hnd
  have okL := sm'.ok ok'
  have rw' : ow' W.w = .no := (ro _ (nn (st1.w.same s12).w)).trans s.row
  refine ⟨⟨hx.trans s.bd, hz.trans s.m, ⟨(st1.b.same s12).kp k3, by rw [ep]; exact m', okL, fun j hj => sm'.jok (oks' j (by rw [sm'.jb]; exact hj)), (st1.w.same s12).kp k3 (by rw [rw']; rfl), s.st.wo⟩, rw', ((b'.same s12).roles ro).keep k3 isM_B, ok', oks', sm', ?_, ?_⟩, ⟨f1, f2, lf.out s.ok.jb.nd, ?_, ?_, hnd⟩⟩
  · have e := ((js'.same s12).roles ro).keep k3 rfl
    rw [← hx] at e
    exact e
  · have e := (go1.same s12).kp k3
    rw [← hx] at e
    exact e
  · cases d with
    | ask j h r => exact fun k hk => (List.mem_append.mp hk).elim (s.ok.jb.all k) fun z => by rw [List.mem_singleton.mp z]; exact hf.1
    | _ => exact s.ok.jb.all
  · have := s.ok.jb.len
    cases d with
    | ask j h r => show (D.B.jobs ++ [j]).length ≤ 9; rw [List.length_append]; show _ + 1 ≤ 9; omega
    | _ => show D.B.jobs.length ≤ 9; omega
end
/-! ### tuples of names and jobs -/
theorem Paired.refs {β : Type} {f : β → List V} {H : Hp} : ∀ {vs : List V} {bs : List β}, Paired (Tv f H) vs bs → ∃ ps : List Addr, vs = ps.map V.ref ∧ Paired (fun p b => H p = some (.tup (f b))) ps bs
  | _, _, .nil => ⟨[], rfl, .nil⟩
  | _, _, .cons ⟨t, e, h⟩ r => by
    obtain ⟨ps, e2, h2⟩ := Paired.refs r
    subst e e2
    exact ⟨t :: ps, rfl, .cons h h2⟩
theorem Paired.mem {α β : Type} {R : α → β → Prop} {v : α} : ∀ {vs : List α} {bs : List β}, Paired R vs bs → v ∈ vs → ∃ b ∈ bs, R v b
  | _, _, .nil, h => by cases h
  | _, _, .cons h r, hm => by
    rcases List.mem_cons.mp hm with rfl | hm
    · exact ⟨_, List.mem_cons_self, h⟩
    · obtain ⟨b, hb, h⟩ := Paired.mem r hm
      exact ⟨b, List.mem_cons_of_mem _ hb, h⟩
theorem dk_merge {g : Str → V} : ∀ {l done : List Str}, (done ++ l).Nodup → mergeK (dk done g) (dk l g) = dk (done ++ l) g
  | [], done, _ => by rw [List.append_nil]; rfl
  | k :: r, done, h => by
    have hk : k ∉ done := fun z => (List.nodup_append.mp h).2.2 k z k List.mem_cons_self rfl
    have e : mergeK (dk done g) (dk (k :: r) g) = mergeK (putK (dk done g) (Sum.inr k : Key) (g k)) (dk r g) := rfl
    have e2 : ups g k (g k) = g := by
      funext j
      by_cases z : j = k
      · rw [z, ups_same]
      · rw [ups_ne z]
    rw [e, dk_put_new hk, e2, dk_merge (by rw [List.append_assoc]; exact h), List.append_assoc]
    rfl
theorem dk_merge0 {g : Str → V} {l : List Str} (h : l.Nodup) : mergeK [] (dk l g) = dk l g := dk_merge (done := []) h
theorem Paired.dk {H : Hp} {g : Str → V} : ∀ {ps : List Addr} {l : List Str}, Paired (fun p j => H p = some (.tup [V.str j, g j])) ps l → Paired (fun (p : Addr) (kv : Key × V) => H p = some (.tup [kV kv.1, kv.2])) ps (dk l g)
  | _, _, .nil => .nil
  | _, _, .cons h r => .cons h (Paired.dk r)
theorem Paired.imp' {α β : Type} {R S : α → β → Prop} (h : ∀ a b, R a b → S a b) : ∀ {as : List α} {bs : List β}, Paired R as bs → Paired S as bs
  | _, _, .nil => .nil
  | _, _, .cons a r => .cons (h _ _ a) (Paired.imp' h r)
/-- the names are kept in a new dict -/
theorem LI.rehome {K : PySem.W.Frag} {a bd m nw : Addr} {W : Wd} {n : Nat} {hk : List Str} {D : LD} {H : Hp} (s : LI K a bd m W n hk D H) (hn : H nw = none) (hsub : ∀ j ∈ D.B.jobs, j ∈ hk) :
    LI K a bd m W n D.B.jobs { D with ow := fun b => if b = nw then .hr else D.ow b, hi := nw } (upd H nw (.dK (dk D.B.jobs fun j => .ref (D.ji j)))) := by
  have k : Same H (upd H nw (.dK (dk D.B.jobs fun j => .ref (D.ji j)))) := Same.new hn
  have ag : ∀ b, H b ≠ none → (fun b => if b = nw then Ro.hr else D.ow b) b = D.ow b := fun b hb => if_neg fun (z : b = nw) => hb (by rw [z]; exact hn)
  exact {
    bd := s.bd
    m := s.m
    st := ⟨s.st.b.same k, (s.st.m.roles ag).same k, s.st.ok, s.st.oks, s.st.w.same k, s.st.wo⟩
    row := (ag _ (nn s.st.w.w)).trans s.row
    b := (s.b.roles ag).same k
    ok := s.ok
    oks := s.oks
    sm := s.sm
    js := ⟨upd_same, if_pos rfl, fun j hj => let ⟨y, h⟩ := s.js.jt j (hsub j hj); ⟨y, h.same k⟩⟩
    go := s.go.same k }
end Sm
namespace Sm
open PySem PySem.Spec PyProof.Rows L2
/-- what say tells -/
def SayP (K : PySem.W.Frag) (ow : Addr → Ro) (x : BA) (B : BS) (pp : Str → PS) (hi : Addr) (hk : List Str) (ji : Str → Addr) (d : Deed) (H H' : Hp) (u : Addr) : Prop :=
  (∃ r v, due B pp d = some r ∧ Same H H' ∧ H' u = some (.tup [.str "refused", v]) ∧ DueV H' v (some r)) ∨
  (due B pp d = none ∧ ∃ H1 x' ji' v, x'.bd = x.bd ∧ KpA ow Ro.isBH (hk.map ji) H H1 ∧ BAt K ow x' (bact B pp d).1 H1 ∧ JSs K ow x.bd (bact B pp d).2 hi (hkeys hk d) ji' H1 ∧ ResV H1 v (res B pp d) ∧ Same H1 H' ∧ H' u = some (.tup [.str "told", v]))
theorem say_rd {K : PySem.W.Frag} {a bd m : Addr} {W : Wd} {n : Nat} {D : LD} {σ : L2.St} {H : Hp} {Q : VK} {E : XK} {t : Addr} {d : Deed} {i3 i4 i9 : Nat} (h3 : σ[i3]? = some (some (.ref D.x.bd))) (h4 : σ[i4]? = some (some (.ref D.hi))) (h9 : σ[i9]? = some (some (.ref t)))
    (I : LI K a bd m W n D.B.jobs D H) (hf : d.fits D.B) (hd : DAt H t d)
    (k : ∀ H' u, SayP K D.ow D.x D.B D.pp D.hi D.B.jobs D.ji d H H' u → Q (.ref u) H') : tCall (spSay K) [] E (tCons (tVar i3) (tCons (tVar i4) (tCons (tVar i9) tNil))) σ H Q :=
  ⟨_, h3, _, h4, _, h9, D.ow, D.x, D.B, D.pp, D.hi, D.B.jobs, D.ji, t, d, rfl, I.b, I.ok, I.oks, I.js, rfl, hf, hd, fun r hr H' t v s ht hv => k _ _ (.inl ⟨r, v, hr, s, ht, hv⟩),
    fun hn H1 x' ji' v hx kA _ _ b' js' hv H' t s ht => k _ _ (.inr ⟨hn, H1, x', ji', v, hx, kA, b', js', hv, s, ht⟩)⟩
theorem at_turn {l : List Str} (h : l ≠ []) (i : Nat) : ∃ j ∈ l, atI (l.map V.str) ((0 + (i : Int)).fmod ((l.map V.str).length : Int)) = some (.str j) := by
  have hp : 0 < l.length := List.length_pos_iff.mpr h
  have e : (0 + (i : Int)).fmod ((l.map V.str).length : Int) = ((i % l.length : Nat) : Int) := by
    rw [List.length_map, Int.zero_add, Int.fmod_eq_emod_of_nonneg _ (Int.natCast_nonneg _)]
    rfl
  have hm : i % l.length < l.length := Nat.mod_lt _ hp
  refine ⟨l[i % l.length], List.getElem_mem _, ?_⟩
  rw [e, atN, List.getElem?_map, List.getElem?_eq_getElem hm]
  rfl
theorem at_first {l : List Str} (h : l ≠ []) : ∃ j ∈ l, atI (l.map V.str) (0 : Int) = some (.str j) := by
  cases l with
  | nil => exact absurd rfl h
  | cons x r => exact ⟨x, List.mem_cons_self, atN ((x :: r).map V.str) 0⟩
theorem aName : Names ["a"] 24 := ⟨fun x hx => by rw [List.mem_singleton.mp hx]; exact ⟨by decide +kernel, by decide +kernel, by decide +kernel⟩, by simp, by decide⟩
section
variable {ow : Addr → Ro} {z : MA} {L : BS} {pp : Str → PS} {H : Hp} {K : PySem.W.Frag} {bd hi : Addr} {hk : List Str} {ji : Str → Addr} {od : Obj}
theorem JSs.lock (s : JSs K ow bd pp hi hk ji H) (od : Obj) : Kp ow (fun r => decide (r = .hr)) H (upd H hi (.frz od (.dK (dk hk fun j => .ref (ji j))))) := Kp.refl.upd (by show decide (ow hi = .hr) = true; rw [s.rhe]; rfl) s.he
theorem hr_M : ∀ r : Ro, r.isM = true → decide (r = .hr) = false := fun r h => by cases r <;> first | rfl | cases h
end
section
variable {P : Program} {w : World} {K : PySem.W.Frag} {mg : Str → Option Value} {base : Heap}
def spLaw (K : PySem.W.Frag) : Sp := fun vs H Q _ => ∃ (p : Addr) (ns : List Int), vs = [.ref p] ∧ SqL K H p (ns.map V.int) ∧ ∀ H', Q (.bl true) H'
abbrev N_law : List Str := ["_law_script", "_law_bag_here", "_law_m", "_law_board", "_law_here", "_law_gone", "_law_world_here", "_law_many", "_law_turn", "_law_deed_here", "_law_due_here", "_law_told", "_law_name_here", "_law_job"]
theorem sc_law : FnScope N_law ["_law_script"] (defScope s_law) := ⟨rfl, rfl, rfl, by decide +kernel, rfl, by decide +kernel, by decide +kernel⟩
theorem ok_law {f : Addr} {fd : FuncData} (T : Txt K mg) (F : FunD K "law" "law" (defArgs s_law) (defBody s_law) (defScope s_law) [] [] f fd) : FnG P w K mg base 12 f fd ["_law_script"] (spLaw K) := by
  refine okD F sc_law (fun vs H Q E h => ?_) (fun cdv A outer s H vs Q E hr hg h => ?_)
  · obtain ⟨p, ns, rfl, _⟩ := h
    rfl
  · obtain ⟨p, ns, rfl, hp, kk⟩ := h
    have hu := hu_of hr
    refine ⟨_, (pss_cons (ps_set (i := 1) sc_law.nd rfl (Or.inl rfl) (pe_fn (ok_l_bag T) (hr.mono (by decide)) pass0 (pa_cons (pv 0) pa_nil)))
    (pss_cons (ps_asg (pe_tup (pa_cons (pe_fn0 (ok_l_fresh T) (hr.mono (by decide)) pass0) (pa_cons (pe_mk0 (ok_B_init T) (hr.mono (by decide)) pass0) (pa_cons pe_dnewK (pa_cons (pe_lst pa_nil) (by exact (pa_cons (pe_fn (ok_l_world T) (hr.mono (by decide)) pass0 (pa_cons (pv 1) pa_nil)) pa_nil))))))) (pg_tup (by rfl) (pgs_cons (pg_name (i := 2) sc_law.nd rfl (Or.inr rfl)) (pgs_cons (pg_name (i := 3) sc_law.nd rfl (Or.inl rfl)) (pgs_cons (pg_name (i := 4) sc_law.nd rfl (Or.inr rfl)) (pgs_cons (pg_name (i := 5) sc_law.nd rfl (Or.inl rfl)) (pgs_cons (pg_name (i := 6) sc_law.nd rfl (Or.inl rfl)) pgs_nil)))))))
    (pss_cons (ps_expr (pe_fn (ok_l_laid T) (hr.mono (by decide)) pass0 (pa_cons (pv 1) (pa_cons (pv 3) (pa_cons (pv 2) (pa_cons (pv 6) pa_nil))))))
    (pss_cons (ps_set (i := 7) sc_law.nd rfl (Or.inl rfl) (pe_ix ix_list (pe_lst (pa_cons pe_int (pa_cons pe_int (pa_cons pe_int pa_nil)))) (pe_fn (ok_l_take T) (hr.mono (by decide)) pass0 (pa_cons (pv 1) (pa_cons pe_int pa_nil))) (fun _ _ => rfl)))
    (pss_cons (ps_for PassesOwn.never rfl (pi_range1 (by rfl) T.b_range (pa_cons pe_int pa_nil)) (pg_name (i := 8) sc_law.nd rfl (Or.inl rfl))
      (pss_cons (ps_set (i := 9) sc_law.nd rfl (Or.inl rfl) (pe_fn (ok_l_deed T) (hr.mono (by decide)) pass0 (pa_cons (pv 1) (pa_cons (pv 2) (pa_cons (pv 6) pa_nil)))))
    (C8.pss_cut (ps_if (pt_cmpR op_lt (pv 8) (pv 7) (nomark _))
      (pss_one (ps_set (i := 9) sc_law.nd rfl (Or.inl rfl) (pe_tup (pa_cons pe_str (pa_cons (pe_ix ix_list (pe_dget hu (pv 6) pe_str (fun _ _ => rfl)) (pe_op op_modN (pv 8) (pe_callB call_len_seq (by rfl) T.b_len (by decide +kernel) (pa_cons (pe_dget hu (pv 6) pe_str (fun _ _ => rfl)) pa_nil))) (fun _ _ => rfl)) (pa_cons (pe_ix ix_list (pe_dget hu (pv 6) pe_str (fun _ _ => rfl)) pe_int (fun _ _ => rfl)) (pa_cons (pe_lst (pa_cons pe_str pa_nil)) pa_nil)))))))
      pss_nil)
    (pss_cons (ps_set (i := 10) sc_law.nd rfl (Or.inl rfl) (pe_fn (ok_l_due T) (hr.mono (by decide)) pass0 (pa_cons (pv 2) (pa_cons (pv 9) pa_nil))))
    (pss_cons (ps_set (i := 11) sc_law.nd rfl (Or.inl rfl) (pe_fn (ok_l_say T) hr pass0 (pa_cons (pv 3) (pa_cons (pv 4) (pa_cons (pv 9) pa_nil)))))
    (C8.pss_cut (ps_if (pt_not (pt_val (pe_fnG (ok_l_alike T) (hr.mono (by decide)) (by exact hg) (pa_cons (pv 11) (by exact (pa_cons (pe_ifExp (pt_cmpR op_notN (pv 10) pe_non (nomark _)) (pe_tup (pa_cons pe_str (pa_cons (pv 10) pa_nil))) (pe_tup (pa_cons pe_str (by exact (pa_cons (pe_fn (ok_l_do T) (hr.mono (by decide)) pass0 (pa_cons (pv 2) (pa_cons (pv 9) pa_nil))) pa_nil))))) pa_nil))))))
      (pss_one (ps_ret pe_bl))
      pss_nil)
    (pss_cons (ps_set (i := 5) sc_law.nd rfl (Or.inl rfl) (pe_op op_cat (pv 5) (pe_lock (pe_lc (own := [("_law_name_here", 12)]) (by rfl) sc_law.nd (pi_keys (pv 4)) (blkOk_by (own := [("_law_name_here", 12)]) (N := N_law) (sc := defScope s_law) (by decide +kernel)) (fun _ _ _ _ _ => (pg_name (i := 12) sc_law.nd rfl (Or.inl rfl))) (fun _ _ _ _ _ => (pts_one (pt_cmp (pc_dnotin hu (pv 12) (pe_dget hu (pv 2) pe_str (fun _ _ => rfl)))))) (fun _ _ _ _ _ => (pe_tup (pa_cons (pv 12) (pa_cons (pe_dget hu (pv 4) (pv 12) (fun _ _ => rfl)) pa_nil))))))))
    (pss_cons (ps_set (i := 4) sc_law.nd rfl (Or.inr rfl) (pe_callTy (call_dictP rfl) (by rfl) T.b_dict (by decide +kernel) (by exact (pa_cons (pe_lock (pe_lc (own := [("_law_name_here", 12)]) (by rfl) sc_law.nd (pi_keys (pv 4)) (blkOk_by (own := [("_law_name_here", 12)]) (N := N_law) (sc := defScope s_law) (by decide +kernel)) (fun _ _ _ _ _ => (pg_name (i := 12) sc_law.nd rfl (Or.inl rfl))) (fun _ _ _ _ _ => (pts_one (pt_cmp (pc_din hu (pv 12) (pe_dget hu (pv 2) pe_str (fun _ _ => rfl)))))) (fun _ _ _ _ _ => (pe_tup (pa_cons (pv 12) (pa_cons (pe_dget hu (pv 4) (pv 12) (fun _ _ => rfl)) pa_nil)))))) pa_nil))))
    (pss_one (ps_if (PW.pt (pw_and (pt_cmpR op_eq (pe_fn (ok_l_take T) (hr.mono (by decide)) pass0 (pa_cons (pv 1) (pa_cons pe_int pa_nil))) pe_int (nomark _)) (pw_and1 (pt_not (pt_val (pe_fnG (ok_l_same T) (hr.mono (by decide)) (by exact hg) (pa_cons (pv 3) (pa_cons (pv 4) (pa_cons (pv 2) pa_nil)))))))))
      (pss_one (ps_ret pe_bl))
      pss_nil))))))))))
    (pss_one (ps_ret (pe_and (pe_fnG (ok_l_same T) (hr.mono (by decide)) (by exact hg) (pa_cons (pv 3) (pa_cons (pv 4) (pa_cons (pv 2) pa_nil)))) (pe_one (pe_callB (cr_all rfl) (by rfl) T.b_all (by decide +kernel) (by exact (pa_cons (pe_lc (own := [("_law_name_here", 12), ("_law_job", 13)]) (g := gTup K 2 (gCons (gName 12) (gCons (gName 13) gNil))) (by rfl) sc_law.nd (pi_list (pv 5)) (blkOk_by (own := [("_law_name_here", 12), ("_law_job", 13)]) (N := N_law) (sc := defScope s_law) (by decide +kernel)) (fun _ _ _ _ _ => (pg_tup (by rfl) (pgs_cons (pg_name (i := 12) sc_law.nd rfl (Or.inl rfl)) (pgs_cons (pg_name (i := 13) sc_law.nd rfl (Or.inl rfl)) pgs_nil)))) (fun _ _ _ _ _ => pts_nil) (fun _ _ _ _ _ => (pe_fnG (ok_l_ended T) (hr.mono (by decide)) (by exact hg) (pa_cons (pv 13) (pa_cons (pv 12) pa_nil))))) pa_nil)))))))))))), ?_⟩
    refine ⟨_, rfl, p, ns, rfl, hp, fun a H1 s1 ha0 hb1 => ?_⟩
    refine ⟨fun _ => .no, rfl, fun H2 z ow2 s2 ag2 hm => ?_⟩
    refine fun x0 dx hx0 hdx hne => ⟨ow2, x0, dx, rfl, upd_same, fun H3 x ow3 hx sx ag3 b => ⟨rfl, ?_⟩⟩
    subst hx
    have s3 : Same H2 H3 := fun b o e => by
      have n1 : b ≠ x.bd := ne_of_none e hx0
      exact sx _ _ (by rw [upd_ne n1, upd_ne (ne_of_none e hdx)]; exact e) n1
    have ag32 : ∀ b, H2 b ≠ none → ow3 b = ow2 b := fun b hb => ag3 b (by
      cases e : H2 b with
      | none => exact absurd e hb
      | some o => rw [upd_ne (ne_of_none e hx0), upd_ne (ne_of_none e hdx), e]; intro z; cases z)
    refine fun hi hhi => ⟨Nat.zero_le _, fun g hgn => ?_⟩
    have s4 := Same.new (o := .dK []) hhi
    have s5 := Same.new (o := .lst []) hgn
    have hhi5 : (upd (upd H3 hi (.dK [])) g (.lst [])) hi = some (.dK []) := s5 _ _ upd_same
    have hg5 : (upd (upd H3 hi (.dK [])) g (.lst [])) g = some (.lst []) := upd_same
    have s35 := s4.trans s5
    generalize (upd (upd H3 hi (.dK [])) g (.lst [])) = H5 at hhi5 hg5 s35 ⊢
    have bag5 := hb1.same (s2.trans (s3.trans s35))
    refine ⟨_, rfl, a, rfl, bag5, fun W H6 d6 w6 wa wo => ⟨by show 5 ≤ sizeLine; decide, fun t ht => ?_⟩⟩
    have s7 := Same.new (o := .tup [.ref z.m, .ref x.bd, .ref hi, .ref g, .ref W.w]) ht
    have hhi7 := s7 _ _ (d6.dk hhi5)
    have hg7 := s7 _ _ (d6.at hg5 (by intro s t k c z; cases z))
    have bag7 := d6.b.same s7
    have wa7 := wa.same s7
    have nwh : W.w ≠ hi := fun e => by rw [e, hhi5] at w6; cases w6
    obtain ⟨ow5, how5⟩ : ∃ ow5 : Addr → Ro, ow5 = fun b => if b = hi then .hr else if b = W.w then .no else ow3 b := ⟨_, rfl⟩
    have ohi : ow5 hi = .hr := by rw [how5]; exact if_pos rfl
    have oww : ow5 W.w = .no := by rw [how5]; exact (if_neg nwh).trans (if_pos rfl)
    have ag5 : ∀ b, H3 b ≠ none → ow5 b = ow3 b := fun b hb => by
      rw [how5]
      refine (if_neg fun (e : b = hi) => hb (by rw [e]; exact hhi)).trans (if_neg fun (e : b = W.w) => ?_)
      cases e2 : H3 b with
      | none => exact hb e2
      | some o =>
        have := s35 _ _ e2
        rw [e, w6] at this
        cases this
    have b7 := (((b.roles ag5).same s35).dr d6).same s7
    have m7 := (((((hm fun _ => ⟨[], "by", false, [], []⟩).roles fun b hb => (ag5 b (by
      cases e : H2 b with
      | none => exact absurd e hb
      | some o => exact nn (s3 _ _ e))).trans (ag32 b hb)).same s3).same s35).dr d6).same s7
    refine ⟨t, _, rfl, SqT.of upd_same, rfl, _, _, rfl, _, _, rfl, _, _, rfl, _, _, rfl, _, _, rfl, rfl, ?_⟩
    generalize (upd H6 t (.tup [.ref z.m, .ref x.bd, .ref hi, .ref g, .ref W.w])) = H7 at s7 hhi7 hg7 bag7 wa7 b7 m7 ⊢
    refine ⟨_, rfl, _, rfl, _, rfl, _, rfl, a, ow5, x, z, _, W, rfl, bag7, b7, m7, wa7, wo, oww, fun H8 ow8 x8 z8 B L I => ?_⟩
    have nhi := neBag bag7 hhi7
    have ng : g ≠ a := by
      obtain ⟨c, s', t', k', xs, h1, _⟩ := bag7
      exact ne_of hg7 h1 (by intro z; cases z)
    have hhi8 := I.fr _ _ hhi7 nhi (.inl (by rw [ohi]; rfl))
    have hg8 := I.fr _ _ hg7 ng (.inr (by intro _ z; cases z))
    have ohi8 := (I.ag _ _ hhi7 nhi (.inl (by rw [ohi]; rfl))).trans ohi
    have oww8 := (I.ag _ _ wa7.w (neBag bag7 wa7.w) (.inl (by rw [oww]; rfl))).trans oww
    refine ⟨by show 3 ≤ sizeLine; decide, fun l hl => ?_⟩
    have s9 := Same.new (o := .lst [V.int 0, .int 2, .int 9]) hl
    have I9 := I.same s9
    refine take_rd (i := 1) rfl I9.bag (n := 3) (by decide) (by decide) (fun R h => h) fun u H10 u0 u1 k10 => ?_
    have hl10 : H10 l = some (.lst [V.int 0, .int 2, .int 9]) := k10.at upd_same (by intro s t k c z; cases z)
    obtain ⟨mn, hmn⟩ : ∃ mn : Int, atI [V.int 0, .int 2, .int 9] u = some (.int mn) := by
      have w1 : u = 0 ∨ u = 1 ∨ u = 2 := by omega
      rcases w1 with rfl | rfl | rfl
      · exact ⟨0, atN _ 0⟩
      · exact ⟨2, atN _ 1⟩
      · exact ⟨9, atN _ 2⟩
    refine ⟨l, _, u, _, rfl, rfl, SqL.of hl10, hmn, ?_⟩
    have I10 := I9.dr k10
    have okL := I.sm.ok I.ok
    have njL : L.jobs = [] := by rw [← I.sm.jb]; exact I.nj
    have P0 : LI K a x8.bd z8.m W 0 B.jobs ⟨ow8, x8, z8, B, L, fun _ => ⟨[], "by", false, [], []⟩, hi, g, fun _ => hi⟩ H10 := {
      bd := rfl
      m := rfl
      st := ⟨I10.bag, I10.ma, okL, fun j hj => (by rw [njL] at hj; cases hj), I10.w, wo⟩
      row := oww8
      b := I10.b
      ok := I.ok
      oks := fun j hj => by
        have hj : j ∈ B.jobs := hj
        rw [I.nj] at hj
        cases hj
      sm := I.sm
      js := ⟨by rw [I.nj]; exact k10.dk (s9 _ _ hhi8), ohi8, fun j hj => (by rw [I.nj] at hj; cases hj)⟩
      go := ⟨[], k10.at (s9 _ _ hg8) (by intro s t k c z; cases z), Nat.le_refl _, fun v hv => by cases hv⟩ }
    refine ⟨50, rfl, by decide, by decide, for_range (n := 50) (fun i σ H' => ∃ v8 v9 v10 v11 D, σ = [some (.ref p), some (.ref a), some (.ref D.z.m), some (.ref D.x.bd), some (.ref D.hi), some (.ref D.g), some (.ref W.w), some (.int mn), v8, v9, v10, v11, none, none] ∧ LI K a D.x.bd D.z.m W i D.B.jobs D H')
      ⟨none, none, none, none, ⟨ow8, x8, z8, B, L, fun _ => ⟨[], "by", false, [], []⟩, hi, g, fun _ => hi⟩, by
        show _ = [some (V.ref p), some (.ref a), some (.ref z8.m), some (.ref x8.bd), some (.ref hi), some (.ref g), some (.ref W.w), some (.int mn), none, none, none, none, none, none]
        rw [I.bd, I.m]
        rfl, P0⟩ ?_ ?_⟩
    · clear P0 I10 hl10 hmn I9 k10 I
      rintro i σ H11 hi50 ⟨v8, v9, v10, v11, ⟨ow, x, z, B, L, pp, hi, g, ji⟩, rfl, I⟩
      refine ⟨_, rfl, _, rfl, _, rfl, a, ow, z, L, pp, W, rfl, I.st, fun H12 t d k12 hd hf => ?_⟩
      have I12 := I.dr k12
      refine ⟨fun σ' H' => ∃ t d, σ' = [some (.ref p), some (.ref a), some (.ref z.m), some (.ref x.bd), some (.ref hi), some (.ref g), some (.ref W.w), some (.int mn), some (.int (0 + (i : Int))), some (.ref t), v10, v11, none, none] ∧ DAt H' t d ∧ d.fits L ∧ LI K a x.bd z.m W i B.jobs ⟨ow, x, z, B, L, pp, hi, g, ji⟩ H', ?_, ?_⟩
      · refine ⟨_, rfl, _, rfl, _, _, rfl, rfl, _, rfl, iteD (fun e => ?_) (fun e => ⟨t, d, rfl, hd, hf, I12⟩)⟩
        obtain ⟨j, hj, ej⟩ := at_turn I12.st.wo.j.2 i
        obtain ⟨h0, hh0, eh⟩ := at_first I12.st.wo.h.2
        have hlen : ((W.jb.map V.str).length : Int) ≠ 0 := by
          rw [List.length_map]
          have := List.length_pos_iff.mpr I12.st.wo.j.2
          omega
        refine ⟨_, rfl, _, _, rfl, dw_j I12.st.w.w, _, rfl, _, rfl, _, _, rfl, dw_j I12.st.w.w, W.j, _, rfl, .inl (SqL.of I12.st.w.j), _, _, rfl, rfl, hlen, W.j, _, _, _, rfl, rfl, SqL.of I12.st.w.j, ej, ?_⟩
        refine ⟨_, rfl, _, _, rfl, dw_h I12.st.w.w, W.h, _, _, _, rfl, rfl, SqL.of I12.st.w.h, eh, by show 1 ≤ sizeLine; decide, fun l2 hl2 => ⟨by show 4 ≤ sizeLine; decide, fun t2 ht2 => ?_⟩⟩
        exact ⟨t2, .ask j h0 ["a"], rfl, ⟨l2, l2, upd_same, (Same.new ht2) _ _ upd_same⟩, ⟨I12.st.wo.j.1.all j hj, I12.st.wo.h.1.all h0 hh0, aName, by simp⟩, (I12.same (Same.new hl2)).same (Same.new ht2)⟩
      clear hd hf I12 k12 I
      rintro σ' H13 ⟨t, d, rfl, hd, hf, I⟩
      have hfB : d.fits B := I.sm.fits' hf
      refine ⟨_, rfl, _, rfl, ow, z, L, pp, t, d, rfl, I.st.m, I.st.ok, I.st.oks, hf, hd, fun H14 v s14 hv => ?_⟩
      have I14 := I.same s14
      have hd14 := hd.same s14
      refine say_rd (D := ⟨ow, x, z, B, L, pp, hi, g, ji⟩) (i3 := 3) (i4 := 4) (i9 := 9) rfl rfl rfl I14 hfB hd14 fun H15 u post => ?_
      refine ⟨fun σ' H' => ∃ v8 v9 v10 v11 hk D, σ' = [some (.ref p), some (.ref a), some (.ref D.z.m), some (.ref D.x.bd), some (.ref D.hi), some (.ref D.g), some (.ref W.w), some (.int mn), v8, v9, v10, v11, none, none] ∧ LI K a D.x.bd D.z.m W i hk D H' ∧ LK hk D, ?_, ?_⟩
      · have ed : due B pp d = due L pp d := I.sm.due I.ok I.oks hfB
        rcases post with ⟨r, v', hr', s15, hu5, hv'⟩ | ⟨hn, H1', x', ji', v', hx, kA, b', js', hw, s15, hu5⟩
        · rw [← ed, show due B pp d = some r from hr'] at hv
          refine ⟨_, rfl, _, rfl, rfl, _, rfl, iteNd (fun e => ?_) (fun e => ?_)⟩
          · refine ⟨_, rfl, by show 2 ≤ sizeLine; decide, fun q hq => ?_⟩
            have s16 := Same.new (o := .tup [V.str "refused", v]) hq
            refine ⟨u, q, .tuple [.str "refused", rfD r], 3, 50000, rfl, ?_, ?_, ?_, by decide, by decide, true, rfl, iteF ?_⟩
            · exact .tup (SqT.of (s16 _ _ hu5)) (.cons (.str _) (.cons (dp_due (hv'.same s16)) .nil))
            · exact .tup (SqT.of upd_same) (.cons (.str _) (.cons (dp_due (hv.same (s15.trans s16))) .nil))
            · exact sm_pair (sm_w (by decide +kernel) (by decide)) (rf_sm (due_ok I.ok I.oks hfB hr')) (by decide)
            · exact ⟨_, _, _, _, B.jobs, ⟨ow, x, z, B, L, pp, hi, g, ji⟩, rfl, I14.same (s15.trans s16), LK.refl I.ok⟩
          · obtain ⟨t', x', ev, _⟩ := hv
            rw [ev] at e
            cases e
        · have hn' : due L pp d = none := by rw [← ed]; exact hn
          rw [hn'] at hv
          have hv0 : v = .non := hv
          refine ⟨_, rfl, _, rfl, rfl, _, rfl, iteNd (fun e => absurd hv0 e) (fun e => ?_)⟩
          obtain ⟨st1, _⟩ := I14.said kA
          have st5 := st1.same s15
          have hd5 := (hd14.keepA kA I14.js.inst).same s15
          refine ⟨_, rfl, _, rfl, ow, z, L, pp, t, d, rfl, st5.m, st5.ok, st5.oks, hf, hd5, hn', fun H16 z' ow' v'' hz ro kp m' hv16 => ⟨by show 2 ≤ sizeLine; decide, fun q hq => ?_⟩⟩
          obtain ⟨I16, K16⟩ := I14.told hf hn hx kA b' js' s15 hz ro kp m'
          have s17 := Same.new (o := .tup [V.str "told", v'']) hq
          have hw17 := ((hw.same s15).kp kp).same s17
          refine ⟨u, q, .tuple [.str "told", resD (res B pp d)], 3, 50000, rfl, ?_, ?_, ?_, by decide, by decide, true, rfl, iteF ?_⟩
          · exact .tup (SqT.of (s17 _ _ (kp _ _ hu5 (.inr (by intro _ z; cases z))))) (.cons (.str _) (.cons (dp_res hw17) .nil))
          · exact .tup (SqT.of upd_same) (.cons (.str _) (.cons (dp_res (by rw [I.sm.res]; exact hv16.same s17)) .nil))
          · exact sm_pair (sm_w (by decide +kernel) (by decide)) (res_sm I.ok I.oks hfB) (by decide)
          · refine ⟨some (.int (0 + (i : Int))), some (.ref t), some v, some (.ref u), _, _, ?_, { I16.same s17 with bd := rfl, m := rfl }, K16⟩
            show _ = [some (V.ref p), some (.ref a), some (.ref z'.m), some (.ref x'.bd), some (.ref hi), some (.ref g), some (.ref W.w), some (.int mn), some (.int (0 + (i : Int))), some (.ref t), some v, some (.ref u), none, none]
            rw [hz, show x'.bd = x.bd from hx]
            rfl
      clear post hv I14 I hd14 hd hf hfB
      rintro σ' H17 ⟨v8, v9, v10, v11, hk, ⟨ow, x, z, B, L, pp, hi, g, ji⟩, rfl, I, KK⟩
      have he := I.js.he
      have hkl := KK.l
      obtain ⟨gits, hg1, hg2, hg3⟩ := I.go
      refine ⟨_, rfl, hi, _, he, mut_dk, fun od => ?_⟩
      have mL := I.st.m.keep (I.js.lock od) hr_M
      refine ⟨_, rfl, hi, od, rfl, .inl ⟨_, upd_same, fun D1 hD1 => ?_⟩⟩
      refine lc_gen walk_keys hk (fun j => decide (j ∉ B.jobs)) id (Fv V.str) (Tv fun j => [V.str j, .ref (ji j)]) (dk_len _ _).symm (by rw [dk_len]; omega) hD1 (fun H' s => s _ _ upd_same) yK Tv.mono ?_ ?_
      · rintro i' j v H18 hi18 sl rfl nx sk hkp hsk
        refine ⟨rfl, ?_⟩
        have m18 := mL.same sl
        refine ⟨_, rfl, _, rfl, _, _, rfl, dm_jb m18.rd.m, z.jb, _, rfl, dgi (.inl m18.jb), _, rfl, ?_⟩
        rw [isS]
        refine iteNd (fun e => ?_) (fun e => hsk (decide_eq_false fun h => h (by rw [I.sm.jb]; exact e)) _ (Same.refl _))
        exact ⟨_, rfl, _, rfl, _, rfl, _, _, rfl, dg (.inr ⟨od, sl _ _ upd_same⟩) (mem_at hi18), by show 2 ≤ sizeLine; decide, fun q hq => hkp (decide_eq_true (by rw [I.sm.jb]; exact e)) _ _ (Same.new hq) ⟨q, rfl, upd_same⟩⟩
      intro H18 it1 s18 hD18 hp18
      rw [List.map_id] at hp18
      have su := unlock he s18
      have nD : D1 ≠ hi := by
        rintro rfl
        rw [upd_same] at hD1; cases hD1
      have hh18 := s18 _ _ upd_same
      have hD19 : (upd H18 hi (.dK (dk hk fun j => .ref (ji j)))) D1 = some (.lst it1) := by rw [upd_ne nD]; exact hD18
      have kt : KpT H18 (upd H18 hi (.dK (dk hk fun j => .ref (ji j)))) := (KpT.same (Same.refl _)).upd hh18 (by intro _ z; cases z)
      have ht19 := Paired.imp' (fun a b h => Tv.mono _ _ a b kt h) hp18
      refine ⟨hh18, ?_⟩
      generalize (upd H18 hi (.dK (dk hk fun j => .ref (ji j)))) = H19 at su hD19 ht19 ⊢
      have hlen1 := Paired.length ht19
      have hlo := KK.o
      have hlo : (hk.filter fun j => decide (j ∉ B.jobs)).length ≤ 1 := hlo
      refine ⟨g, D1, _, _, rfl, rfl, su _ _ hg1, hD19, sz_of (by omega), fun g' hg' => ?_⟩
      have s20 := Same.new (o := .lst (gits ++ it1)) hg'
      have I20 := (I.same su).same s20
      have I20 : LI K a x.bd z.m W (i + 1) hk ⟨ow, x, z, B, L, pp, hi, g', ji⟩ (upd H19 g' (.lst (gits ++ it1))) := { I20 with
        go := ⟨gits ++ it1, upd_same, by rw [List.length_append]; omega, fun v hv => by
          rcases List.mem_append.mp hv with hv | hv
          · exact ((hg3 v hv).same su).same s20
          · obtain ⟨j, hj, t', e, ht'⟩ := Paired.mem ht19 hv
            obtain ⟨hj1, hj2⟩ := List.mem_filter.mp hj
            obtain ⟨y, jt⟩ := I20.js.jt j hj1
            exact ⟨t', j, ji j, y, pp j, e, s20 _ _ ht', jt, KK.e j hj1 (of_decide_eq_true hj2), KK.n j hj1⟩⟩ }
      generalize (upd H19 g' (.lst (gits ++ it1))) = H20 at I20 ⊢
      have he := I20.js.he
      refine ⟨hi, _, he, mut_dk, fun od => ?_⟩
      have mL := I20.st.m.keep (I20.js.lock od) hr_M
      refine ⟨_, rfl, hi, od, rfl, .inl ⟨_, upd_same, fun D2 hD2 => ?_⟩⟩
      refine lc_gen walk_keys hk (fun j => decide (j ∈ B.jobs)) id (Fv V.str) (Tv fun j => [V.str j, .ref (ji j)]) (dk_len _ _).symm (by rw [dk_len]; omega) hD2 (fun H' s => s _ _ upd_same) yK Tv.mono ?_ ?_
      · rintro i' j v H18 hi18 sl rfl nx sk hkp hsk
        refine ⟨rfl, ?_⟩
        have m18 := mL.same sl
        refine ⟨_, rfl, _, rfl, _, _, rfl, dm_jb m18.rd.m, z.jb, _, rfl, dgi (.inl m18.jb), _, rfl, ?_⟩
        rw [isS]
        refine iteD (fun e => ?_) (fun e => hsk (decide_eq_false fun h => e (by rw [← I.sm.jb]; exact h)) _ (Same.refl _))
        exact ⟨_, rfl, _, rfl, _, rfl, _, _, rfl, dg (.inr ⟨od, sl _ _ upd_same⟩) (mem_at hi18), by show 2 ≤ sizeLine; decide, fun q hq => hkp (decide_eq_true (by rw [I.sm.jb]; exact e)) _ _ (Same.new hq) ⟨q, rfl, upd_same⟩⟩
      intro H21 it2 s21 hD21 hp21
      rw [List.map_id, show hk.filter (fun j => decide (j ∈ B.jobs)) = B.jobs from KK.f] at hp21
      have su2 := unlock he s21
      have nD2 : D2 ≠ hi := by
        rintro rfl
        rw [upd_same] at hD2; cases hD2
      have hh21 := s21 _ _ upd_same
      have hD22 : (upd H21 hi (.dK (dk hk fun j => .ref (ji j)))) D2 = some (.lst it2) := by rw [upd_ne nD2]; exact hD21
      have kt2 : KpT H21 (upd H21 hi (.dK (dk hk fun j => .ref (ji j)))) := (KpT.same (Same.refl _)).upd hh21 (by intro _ z; cases z)
      have ht22 := Paired.imp' (fun a b h => Tv.mono _ _ a b kt2 h) hp21
      refine ⟨hh21, ?_⟩
      generalize (upd H21 hi (.dK (dk hk fun j => .ref (ji j)))) = H22 at su2 hD22 ht22 ⊢
      obtain ⟨ps, eps, hps⟩ := Paired.refs ht22
      subst eps
      refine ⟨D2, ps, dk B.jobs fun j => .ref (ji j), rfl, SqL.of hD22, Paired.imp' (fun _ _ h => SqT.of h) (Paired.dk hps), fun nw hnw => ?_⟩
      rw [dk_merge0 I.ok.jb.nd]
      have I23 := (I20.same su2).rehome hnw fun j hj => by
        have hj : j ∈ B.jobs := hj
        rw [← show hk.filter (fun j => decide (j ∈ B.jobs)) = B.jobs from KK.f] at hj
        exact (List.mem_filter.mp hj).1
      generalize (upd H22 nw (.dK (dk B.jobs fun j => .ref (ji j)))) = H23 at I23 ⊢
      refine ⟨_, rfl, a, 6, rfl, I23.st.b, by decide, by decide, fun v H24 v0 v6 d24 => ⟨rfl, _, rfl, ?_⟩⟩
      have I24 := I23.dr d24
      refine iteD (fun e => ?_) (fun e => iteF ⟨_, _, _, _, ⟨fun b => if b = nw then .hr else ow b, x, z, B, L, pp, nw, g', ji⟩, rfl, I24⟩)
      exact ⟨_, rfl, _, rfl, _, rfl, _, x, B, z, L, pp, nw, B.jobs, ji, rfl, I24.b, I24.ok, I24.oks, I24.st.m, I24.sm, I24.js, fun _ h => h, fun H25 s25 => ⟨true, rfl, iteF ⟨_, _, _, _, ⟨fun b => if b = nw then .hr else ow b, x, z, B, L, pp, nw, g', ji⟩, rfl, I24.same s25⟩⟩⟩
    · rintro σ H11 ⟨v8, v9, v10, v11, ⟨ow, x, z, B, L, pp, hi, g, ji⟩, rfl, I⟩
      refine ⟨_, rfl, _, rfl, _, rfl, ow, x, B, z, L, pp, hi, B.jobs, ji, rfl, I.b, I.ok, I.oks, I.st.m, I.sm, I.js, fun _ h => h, fun H12 s12 => ⟨true, rfl, iteT ?_⟩⟩
      obtain ⟨its, hg1, hg2, hg3⟩ := I.go.same s12
      refine ⟨_, rfl, g, rfl, ⟨_, SqL.of hg1⟩, fun D1 hD1 => ?_⟩
      refine lc_gen walk_list its (fun _ => true) (fun _ => true) (Fv id) (Fv V.bl) rfl (by omega) hD1 (fun H' s => s.seq (SqL.of hg1)) ?_ Fv.mono ?_ ?_
      · rintro i v H' H'' hi' s' ⟨rfl, hy⟩
        exact ⟨v, hy, Same.refl _, rfl⟩
      · rintro i v v' H13 hi13 sl rfl nx sk hkp _
        obtain ⟨t, nm, jj, y, PP, ev, h1, h2, h3, h4⟩ := (hg3 _ (mem_at hi13)).same sl
        subst ev
        refine ⟨t, _, rfl, SqT.of h1, rfl, _, _, rfl, _, _, rfl, rfl, rfl, ?_⟩
        refine tyes ?_
        exact ⟨_, rfl, _, rfl, x.bd, y, jj, nm, PP, rfl, h2, h3, h4, fun H5 s5 => hkp rfl _ _ s5 rfl⟩
      intro H14 it3 s14 hD14 hp14
      have e14 := Fv.eq hp14
      subst e14
      rw [filter_all] at hD14
      refine ⟨D1, _, rfl, SqL.of hD14, ?_⟩
      rw [all_true]
      exact kk _
end
end Sm
namespace Sm
open PySem PySem.Spec PyProof.Rows L2
/-! ### a law whose def is called where no text is being shown -/
/-- the script alone is tracked, if it is no object of the text's own -/
def scrH (K : PySem.W.Frag) (a : Addr) (ob : Obj) (xs : List V) : Hp := fun b => if (K.lookup a).isNone = true ∧ b = a then some (.frz ob (.lst xs)) else none
theorem scr_at {K : PySem.W.Frag} {a b : Addr} {ob : Obj} {xs : List V} {u : HO} (h : scrH K a ob xs b = some u) : K.lookup a = none ∧ b = a ∧ u = .frz ob (.lst xs) := by
  unfold scrH at h
  split at h
  · rename_i e
    exact ⟨Option.isNone_iff_eq_none.mp e.1, e.2, (Option.some.inj h).symm⟩
  · cases h
theorem scr_not {K : PySem.W.Frag} {a b : Addr} {ob : Obj} {xs : List V} (h : K.lookup a = none → b = a → False) : scrH K a ob xs b = none := by
  cases e : scrH K a ob xs b with
  | none => rfl
  | some u => exact (h (scr_at e).1 (scr_at e).2.1).elim
section
variable {P : Program} {w : World} {K : PySem.W.Frag} {mg mb : Str → Option Value} {k : Nat} {fn a : Addr} {fd : FuncData} {x : Str} {sp : Sp} {s : Shared} {vs : List Value} {ns : List Int}
theorem lawG (KX : K.In s.heap) (n1 : s.heap.Ns mainGlobals mg) (n2 : s.heap.Ns builtinsNs mb) (n3 : ∀ y : Str, y ≠ "__name__" → mb y = bootBuiltins y) (n4 : s.heap.NoLimit) (n5 : s.gens = #[])
    (ha : s.heap.get? a = some { cls := .type "list", data := .seq vs.toArray }) (hi : IntsAre vs ns) (hl : ns.length ≤ sizeLine) (hr : Room k callerA)
    (F : ∀ base : Heap, FnG P w K mg base k fn fd [x] sp) (hbd : ∀ (t : Shared) (u : Value), BindsTo t fd ⟨[u], []⟩ [(x, u)])
    (hsp : ∀ H : Hp, SqL K H a (ns.map V.int) → sp [.ref a] H (fun v _ => v = .bl true) fun _ _ _ => False) :
    codeAny (model P w) callerA (.call (.ref fn) ⟨[.ref a], []⟩) (fun r t => r = .ok (.ret (.bool true)) ∧ OldK s.heap t.heap ∧ t.os = s.os ∧ AllBare t.gens) s := by
  have rv := vals_ints hi
  have lv := hi.length
  generalize hH : scrH K a { cls := .type "list", data := .seq vs.toArray } (ns.map V.int) = H
  have at_ : ∀ {b : Addr} {u : HO}, H b = some u → K.lookup a = none ∧ b = a ∧ u = .frz { cls := .type "list", data := .seq vs.toArray } (.lst (ns.map V.int)) := fun e => scr_at (by rw [hH]; exact e)
  have not_ : ∀ {b : Addr}, (K.lookup a = none → b = a → False) → H b = none := fun e => by rw [← hH]; exact scr_not e
  -- what the frame's heap shows
  have sees : ∀ {b : Addr} {m : Str → Option Value}, s.heap.Ns b m → (hidT s.heap H).Ns b m := by
    rintro b m ⟨o, es, ep, e, d, r⟩
    refine ⟨o, es, ep, hidT_get e (not_ fun _ z => ?_), d, r⟩
    rw [z, ha] at e
    rw [← Option.some.inj e] at d
    cases d
  have inB : K.In (hidT s.heap H) := fun b o e => hidT_get (KX b o e) (not_ fun z1 z2 => by rw [z2, z1] at e; cases e)
  have ok0 : HOk P w H s.heap := fun b u z => by
    obtain ⟨_, rfl, rfl⟩ := at_ z
    exact ⟨ha, by rw [List.length_map]; exact hl, vs, _, rv, ha⟩
  have sq : SqL K H a (ns.map V.int) := by
    cases q : K.lookup a with
    | none =>
      refine .inl (.inr ⟨{ cls := .type "list", data := .seq vs.toArray }, ?_⟩)
      rw [← hH]
      exact if_pos ⟨by rw [q]; rfl, rfl⟩
    | some o =>
      have e := KX a o q
      rw [ha] at e
      cases e
      exact .inr ⟨_, vs.toArray, _, q, rfl, rfl, rfl, by rw [List.size_toArray, lv]; exact hl, by simpa using rv⟩
  have n4' : (hidT s.heap H).NoLimit := let ⟨m, g1, g2⟩ := n4; ⟨m, sees g1, g2⟩
  have E : Env0 P w K mg (hidT s.heap H) callerA [] s H := {
    frames := rfl
    mod := ⟨inB, sees n1, ⟨mb, sees n2, n3⟩, n4'⟩
    bs := fun b o z => of_hidT z
    bsz := by rw [hidT_size]; exact Nat.le_refl _
    funs := trivial
    frf := by intro b z; cases z
    hok := ok0
    bare := .of_eq n5 }
  have go := (F (hidT s.heap H)).run callerA [] s H ⟨[.ref a], []⟩ [.ref a] [.ref a] (fun v _ => v = .bl true) (fun _ _ _ => False) hr rfl E (hbd s (.ref a)) (.cons rfl .nil) (hsp H sq)
  refine codeAny_mono go fun r t z => ?_
  match r, z with
  | .ok (.ret u), ⟨v, H', os', bare', un, ok', rr, q⟩ =>
    have q : v = .bl true := q
    subst q
    obtain rfl : u = .bool true := rr
    refine ⟨rfl, OldK.of_keep fun b o e => ?_, os', bare'⟩
    cases q : H b with
    | none => exact un.keep b o e q (by intro z; cases z) (by intro z; cases z)
    | some u =>
      obtain ⟨_, rfl, rfl⟩ := at_ q
      obtain ⟨e2, _⟩ := ok' b _ (un.frzs b _ _ q)
      rw [ha] at e
      rw [← Option.some.inj e]
      exact e2
  | .error _, z => exact z.elim
end
/-- a law's end over facts: F gives the written part, the function object, the promise -/
theorem walkG {l : PySem.W.OpenLaw} {n k : Nat} {q : Program} {loose : List Str} {XP : (Str → Option Value) → Heap → Prop} {YP : World → Heap → Prop} {d : DefRec} {x : Str}
    (h1 : l.most = some n) (h2 : n ≤ sizeLine) (h3 : d.params.defaults = []) (hr : Room k callerA)
    (F : ∀ (w : World) (mg : Str → Option Value) (fn : Addr) (h : Heap), YP w h → h.Ns mainGlobals mg → mg d.name = some (.ref fn) →
      ∃ (K : PySem.W.Frag) (fd : FuncData) (sp : Sp), K.In h ∧ (∀ (s : Shared) (u : Value), BindsTo s fd ⟨[u], []⟩ [(x, u)]) ∧
        (∀ (H : Hp) (a : Addr) (ns : List Int), SqL K H a (ns.map V.int) → sp [.ref a] H (fun v _ => v = .bl true) fun _ _ _ => False) ∧ ∀ base : Heap, FnG l.prog w K mg base k fn fd [x] sp) :
    PySem.W.WalkO q loose XP YP l.row.toRowW d [] (fun f vs => PySem.call f vs) := by
  refine Att.attach_call h1 h3 fun w s₀ s₁ mg mb fn o pm cd doc a vs ns G Y ho hd hcd hmg ha hi hlen hg => ?_
  obtain ⟨K, fd, sp, KX, hb, hsp, hF⟩ := F w mg fn _ Y G.T.g hmg
  exact lawG KX G.T.g G.T.b G.T.builtins G.T.nolimit hg ha hi (Nat.le_trans hlen h2) hr hF hb fun H => hsp H a ns
end Sm
namespace Sm
open PySem PySem.Spec PyProof.Rows L2

section
variable {K : PySem.W.Frag} {h : Heap} {mg : Str → Option Value}
theorem txt_of (X : K.In h) (G : h.Ns mainGlobals mg) (c : He.SaysD fa fn K) (e : exA K = true) : Txt K mg where
  b_isinstance := He.free_ok X G (c.fact 0 (f := .free "isinstance") rfl)
  b_str := He.free_ok X G (c.fact 1 (f := .free "str") rfl)
  b_list := He.free_ok X G (c.fact 2 (f := .free "list") rfl)
  b_len := He.free_ok X G (c.fact 3 (f := .free "len") rfl)
  b_sorted := He.free_ok X G (c.fact 4 (f := .free "sorted") rfl)
  b_set := He.free_ok X G (c.fact 5 (f := .free "set") rfl)
  b_dict := He.free_ok X G (c.fact 6 (f := .free "dict") rfl)
  b_abs := He.free_ok X G (c.fact 7 (f := .free "abs") rfl)
  b_min := He.free_ok X G (c.fact 8 (f := .free "min") rfl)
  b_range := He.free_ok X G (c.fact 9 (f := .free "range") rfl)
  b_enumerate := He.free_ok X G (c.fact 10 (f := .free "enumerate") rfl)
  b_int := He.free_ok X G (c.fact 11 (f := .free "int") rfl)
  b_repr := He.free_ok X G (c.fact 12 (f := .free "repr") rfl)
  b_all := He.free_ok X G (c.fact 13 (f := .free "all") rfl)
  b_ValueError := He.free_ok X G (c.fact 14 (f := .free "ValueError") rfl)
  g_LETTERS := He.str_ok X G (c.fact 15 (f := .str "LETTERS" abc) rfl)
  g_LONGEST := He.int_ok X G (c.fact 16 (f := .int "LONGEST" 8) rfl)
  g_MOST_NAMES := He.int_ok X G (c.fact 17 (f := .int "MOST_NAMES" 60) rfl)
  g_MOST_STRETCH := He.int_ok X G (c.fact 18 (f := .int "MOST_STRETCH" 24) rfl)
  g_MOST_DEVICES := He.int_ok X G (c.fact 19 (f := .int "MOST_DEVICES" 52) rfl)
  g_MOST_JOBS := He.int_ok X G (c.fact 20 (f := .int "MOST_JOBS" 8) rfl)
  g_MOST_HANDS_board := He.int_ok X G (c.fact 21 (f := .int "MOST_HANDS_board" 6) rfl)
  g_MOST_HANDS_job := He.int_ok X G (c.fact 22 (f := .int "MOST_HANDS_job" 6) rfl)
  g_Board := He.glo_ok X G (c.fact 23 (f := .glo "Board") rfl)
  clB := He.cls_ok (c.fact 24 (f := .cls "Board") rfl)
  iB := insB_ok (He.cls_ok (c.fact 24 (f := .cls "Board") rfl)) (ex_at e 0 rfl)
  nB_stand_of := He.noat_ok (c.fact 25 (f := .noat "Board" "stand_of") rfl)
  nB_home_of := He.noat_ok (c.fact 26 (f := .noat "Board" "home_of") rfl)
  nB_fast := He.noat_ok (c.fact 27 (f := .noat "Board" "fast") rfl)
  nB_marks_of := He.noat_ok (c.fact 28 (f := .noat "Board" "marks_of") rfl)
  nB_crew_rows := He.noat_ok (c.fact 29 (f := .noat "Board" "crew_rows") rfl)
  clJ := He.cls_ok (c.fact 30 (f := .cls "Job") rfl)
  nJ_at_board := He.noat_ok (c.fact 31 (f := .noat "Job" "at_board") rfl)
  nJ_named := He.noat_ok (c.fact 32 (f := .noat "Job" "named") rfl)
  nJ_about := He.noat_ok (c.fact 33 (f := .noat "Job" "about") rfl)
  nJ_now := He.noat_ok (c.fact 34 (f := .noat "Job" "now") rfl)
  nJ_ending := He.noat_ok (c.fact 35 (f := .noat "Job" "ending") rfl)
  nJ_cutting := He.noat_ok (c.fact 36 (f := .noat "Job" "cutting") rfl)
  nJ_emptying := He.noat_ok (c.fact 37 (f := .noat "Job" "emptying") rfl)
  x_Wrong := excB_ok (d := dXWrong_init) (He.glo_ok X G (c.fact 38 (f := .glo "Wrong") rfl)) (He.meth_ok (c.fact 39 (f := .meth "Wrong" "__init__") rfl)) (He.exm_ok (c.fact 40 (f := .exm "Wrong" "MainsError" true) rfl)) (ex_at e 1 rfl) (c.def_ 0 (d := dXWrong_init) rfl) fun F => FunD.bindsN F (fun _ _ _ _ _ _ us hl => match us, hl with | [_, _], _ => rfl)
  x_There := excB_ok (d := dXThere_init) (He.glo_ok X G (c.fact 41 (f := .glo "There") rfl)) (He.meth_ok (c.fact 42 (f := .meth "There" "__init__") rfl)) (He.exm_ok (c.fact 43 (f := .exm "There" "MainsError" true) rfl)) (ex_at e 2 rfl) (c.def_ 1 (d := dXThere_init) rfl) fun F => FunD.bindsN F (fun _ _ _ _ _ _ us hl => match us, hl with | [_, _], _ => rfl)
  x_Lacks := excB_ok (d := dXLacks_init) (He.glo_ok X G (c.fact 44 (f := .glo "Lacks") rfl)) (He.meth_ok (c.fact 45 (f := .meth "Lacks" "__init__") rfl)) (He.exm_ok (c.fact 46 (f := .exm "Lacks" "MainsError" true) rfl)) (ex_at e 3 rfl) (c.def_ 2 (d := dXLacks_init) rfl) fun F => FunD.bindsN F (fun _ _ _ _ _ _ us hl => match us, hl with | [_, _], _ => rfl)
  x_TooMany := excB_ok (d := dXTooMany_init) (He.glo_ok X G (c.fact 47 (f := .glo "TooMany") rfl)) (He.meth_ok (c.fact 48 (f := .meth "TooMany" "__init__") rfl)) (He.exm_ok (c.fact 49 (f := .exm "TooMany" "MainsError" true) rfl)) (ex_at e 4 rfl) (c.def_ 3 (d := dXTooMany_init) rfl) fun F => FunD.bindsN F (fun _ _ _ _ _ _ us hl => match us, hl with | [_, _], _ => rfl)
  x_InUse := excB_ok (d := dXInUse_init) (He.glo_ok X G (c.fact 50 (f := .glo "InUse") rfl)) (He.meth_ok (c.fact 51 (f := .meth "InUse" "__init__") rfl)) (He.exm_ok (c.fact 52 (f := .exm "InUse" "MainsError" true) rfl)) (ex_at e 5 rfl) (c.def_ 4 (d := dXInUse_init) rfl) fun F => FunD.bindsN F (fun _ _ _ _ _ _ us hl => match us, hl with | [_, _], _ => rfl)
  x_Held := excB_ok (d := dXHeld_init) (He.glo_ok X G (c.fact 53 (f := .glo "Held") rfl)) (He.meth_ok (c.fact 54 (f := .meth "Held" "__init__") rfl)) (He.exm_ok (c.fact 55 (f := .exm "Held" "MainsError" true) rfl)) (ex_at e 6 rfl) (c.def_ 5 (d := dXHeld_init) rfl) fun F => FunD.bindsN F (fun _ _ _ _ _ _ us hl => match us, hl with | [_, _], _ => rfl)
  x_Stuck := excB_ok (d := dXStuck_init) (He.glo_ok X G (c.fact 56 (f := .glo "Stuck") rfl)) (He.meth_ok (c.fact 57 (f := .meth "Stuck" "__init__") rfl)) (He.exm_ok (c.fact 58 (f := .exm "Stuck" "MainsError" true) rfl)) (ex_at e 7 rfl) (c.def_ 6 (d := dXStuck_init) rfl) fun F => FunD.bindsN F (fun _ _ _ _ _ _ us hl => match us, hl with | [_, _], _ => rfl)
  x_NotNow := excB_ok (d := dXNotNow_init) (He.glo_ok X G (c.fact 59 (f := .glo "NotNow") rfl)) (He.meth_ok (c.fact 60 (f := .meth "NotNow" "__init__") rfl)) (He.exm_ok (c.fact 61 (f := .exm "NotNow" "MainsError" true) rfl)) (ex_at e 8 rfl) (c.def_ 7 (d := dXNotNow_init) rfl) fun F => FunD.bindsN F (fun _ _ _ _ _ _ us hl => match us, hl with | [_, _], _ => rfl)
  f_is_name := let ⟨fd, F⟩ := c.def_ 8 (d := d_is_name) rfl; ⟨_, fd, F, He.glo_ok X G (c.fact 62 (f := .glo "is_name") rfl), FunD.bindsN F (fun _ _ _ _ _ _ us hl => match us, hl with | [_], _ => rfl)⟩
  f_is_position := let ⟨fd, F⟩ := c.def_ 9 (d := d_is_position) rfl; ⟨_, fd, F, He.glo_ok X G (c.fact 63 (f := .glo "is_position") rfl), FunD.bindsN F (fun _ _ _ _ _ _ us hl => match us, hl with | [_], _ => rfl)⟩
  f_are_names := let ⟨fd, F⟩ := c.def_ 10 (d := d_are_names) rfl; ⟨_, fd, F, He.glo_ok X G (c.fact 64 (f := .glo "are_names") rfl), FunD.bindsN F (fun _ _ _ _ _ _ us hl => match us, hl with | [_], _ => rfl)⟩
  f_is_stretch := let ⟨fd, F⟩ := c.def_ 11 (d := d_is_stretch) rfl; ⟨_, fd, F, He.glo_ok X G (c.fact 65 (f := .glo "is_stretch") rfl), FunD.bindsN F (fun _ _ _ _ _ _ us hl => match us, hl with | [_], _ => rfl)⟩
  f_wrong_unless := let ⟨fd, F⟩ := c.def_ 12 (d := d_wrong_unless) rfl; ⟨_, fd, F, He.glo_ok X G (c.fact 66 (f := .glo "wrong_unless") rfl), FunD.bindsN F (fun _ _ _ _ _ _ us hl => match us, hl with | [_, _], _ => rfl)⟩
  f_lacks_unless := let ⟨fd, F⟩ := c.def_ 13 (d := d_lacks_unless) rfl; ⟨_, fd, F, He.glo_ok X G (c.fact 67 (f := .glo "lacks_unless") rfl), FunD.bindsN F (fun _ _ _ _ _ _ us hl => match us, hl with | [_, _], _ => rfl)⟩
  f_is_crew := let ⟨fd, F⟩ := c.def_ 14 (d := d_is_crew) rfl; ⟨_, fd, F, He.glo_ok X G (c.fact 68 (f := .glo "is_crew") rfl), FunD.bindsN F (fun _ _ _ _ _ _ us hl => match us, hl with | [_], _ => rfl)⟩
  k_B := let ⟨fd, F⟩ := c.def_ 15 (d := dB_init) rfl; ⟨_, fd, F, He.mkr_ok (c.fact 69 (f := .mkr "Board") rfl), He.glo_ok X G (c.fact 23 (f := .glo "Board") rfl), FunD.bindsN F (fun _ _ _ _ _ _ us hl => match us, hl with | [_], _ => rfl)⟩
  m_B_hands_beside := let ⟨fd, F⟩ := c.def_ 16 (d := dB_hands_beside) rfl; ⟨_, fd, F, He.meth_ok (c.fact 70 (f := .meth "Board" "hands_beside") rfl), FunD.bindsN F (fun _ _ _ _ _ _ us hl => match us, hl with | [_, _, _], _ => rfl)⟩
  m_B_refuse_held := let ⟨fd, F⟩ := c.def_ 17 (d := dB_refuse_held) rfl; ⟨_, fd, F, He.meth_ok (c.fact 71 (f := .meth "Board" "refuse_held") rfl), FunD.bindsN F (fun _ _ _ _ _ _ us hl => match us, hl with | [_, _, _], _ => rfl)⟩
  m_B_refuse_stuck := let ⟨fd, F⟩ := c.def_ 18 (d := dB_refuse_stuck) rfl; ⟨_, fd, F, He.meth_ok (c.fact 72 (f := .meth "Board" "refuse_stuck") rfl), FunD.bindsN F (fun _ _ _ _ _ _ us hl => match us, hl with | [_, _], _ => rfl)⟩
  m_B_add := let ⟨fd, F⟩ := c.def_ 19 (d := dB_add) rfl; ⟨_, fd, F, He.meth_ok (c.fact 73 (f := .meth "Board" "add") rfl), FunD.bindsN F (fun _ _ _ _ _ _ us hl => match us, hl with | [_, _, _], _ => rfl)⟩
  m_B_crew := let ⟨fd, F⟩ := c.def_ 20 (d := dB_crew) rfl; ⟨_, fd, F, He.meth_ok (c.fact 74 (f := .meth "Board" "crew") rfl), FunD.bindsN F (fun _ _ _ _ _ _ us hl => match us, hl with | [_, _, _], _ => rfl)⟩
  m_B_leave := let ⟨fd, F⟩ := c.def_ 21 (d := dB_leave) rfl; ⟨_, fd, F, He.meth_ok (c.fact 75 (f := .meth "Board" "leave") rfl), FunD.bindsN F (fun _ _ _ _ _ _ us hl => match us, hl with | [_, _], _ => rfl)⟩
  m_B_turn := let ⟨fd, F⟩ := c.def_ 22 (d := dB_turn) rfl; ⟨_, fd, F, He.meth_ok (c.fact 76 (f := .meth "Board" "turn") rfl), FunD.bindsN F (fun _ _ _ _ _ _ us hl => match us, hl with | [_, _, _], _ => rfl)⟩
  m_B_stick := let ⟨fd, F⟩ := c.def_ 23 (d := dB_stick) rfl; ⟨_, fd, F, He.meth_ok (c.fact 77 (f := .meth "Board" "stick") rfl), FunD.bindsN F (fun _ _ _ _ _ _ us hl => match us, hl with | [_, _], _ => rfl)⟩
  m_B_mend := let ⟨fd, F⟩ := c.def_ 24 (d := dB_mend) rfl; ⟨_, fd, F, He.meth_ok (c.fact 78 (f := .meth "Board" "mend") rfl), FunD.bindsN F (fun _ _ _ _ _ _ us hl => match us, hl with | [_, _], _ => rfl)⟩
  m_B_hold := let ⟨fd, F⟩ := c.def_ 25 (d := dB_hold) rfl; ⟨_, fd, F, He.meth_ok (c.fact 79 (f := .meth "Board" "hold") rfl), FunD.bindsN F (fun _ _ _ _ _ _ us hl => match us, hl with | [_, _, _, _], _ => rfl)⟩
  m_B_free := let ⟨fd, F⟩ := c.def_ 26 (d := dB_free) rfl; ⟨_, fd, F, He.meth_ok (c.fact 80 (f := .meth "Board" "free") rfl), FunD.bindsN F (fun _ _ _ _ _ _ us hl => match us, hl with | [_, _, _], _ => rfl)⟩
  m_B_devices := let ⟨fd, F⟩ := c.def_ 27 (d := dB_devices) rfl; ⟨_, fd, F, He.meth_ok (c.fact 81 (f := .meth "Board" "devices") rfl), FunD.bindsN F (fun _ _ _ _ _ _ us hl => match us, hl with | [_], _ => rfl)⟩
  m_B_jobs := let ⟨fd, F⟩ := c.def_ 28 (d := dB_jobs) rfl; ⟨_, fd, F, He.meth_ok (c.fact 82 (f := .meth "Board" "jobs") rfl), FunD.bindsN F (fun _ _ _ _ _ _ us hl => match us, hl with | [_], _ => rfl)⟩
  m_B_stands := let ⟨fd, F⟩ := c.def_ 29 (d := dB_stands) rfl; ⟨_, fd, F, He.meth_ok (c.fact 83 (f := .meth "Board" "stands") rfl), FunD.bindsN F (fun _ _ _ _ _ _ us hl => match us, hl with | [_, _], _ => rfl)⟩
  m_B_home := let ⟨fd, F⟩ := c.def_ 30 (d := dB_home) rfl; ⟨_, fd, F, He.meth_ok (c.fact 84 (f := .meth "Board" "home") rfl), FunD.bindsN F (fun _ _ _ _ _ _ us hl => match us, hl with | [_, _], _ => rfl)⟩
  m_B_is_stuck := let ⟨fd, F⟩ := c.def_ 31 (d := dB_is_stuck) rfl; ⟨_, fd, F, He.meth_ok (c.fact 85 (f := .meth "Board" "is_stuck") rfl), FunD.bindsN F (fun _ _ _ _ _ _ us hl => match us, hl with | [_, _], _ => rfl)⟩
  m_B_jobs_on := let ⟨fd, F⟩ := c.def_ 32 (d := dB_jobs_on) rfl; ⟨_, fd, F, He.meth_ok (c.fact 86 (f := .meth "Board" "jobs_on") rfl), FunD.bindsN F (fun _ _ _ _ _ _ us hl => match us, hl with | [_, _], _ => rfl)⟩
  m_B_tags := let ⟨fd, F⟩ := c.def_ 33 (d := dB_tags) rfl; ⟨_, fd, F, He.meth_ok (c.fact 87 (f := .meth "Board" "tags") rfl), FunD.bindsN F (fun _ _ _ _ _ _ us hl => match us, hl with | [_, _], _ => rfl)⟩
  m_B_crew_of := let ⟨fd, F⟩ := c.def_ 34 (d := dB_crew_of) rfl; ⟨_, fd, F, He.meth_ok (c.fact 88 (f := .meth "Board" "crew_of") rfl), FunD.bindsN F (fun _ _ _ _ _ _ us hl => match us, hl with | [_, _], _ => rfl)⟩
  m_B_held_by := let ⟨fd, F⟩ := c.def_ 35 (d := dB_held_by) rfl; ⟨_, fd, F, He.meth_ok (c.fact 89 (f := .meth "Board" "held_by") rfl), FunD.bindsN F (fun _ _ _ _ _ _ us hl => match us, hl with | [_, _], _ => rfl)⟩
  f_need := let ⟨fd, F⟩ := c.def_ 36 (d := d_need) rfl; ⟨_, fd, F, He.glo_ok X G (c.fact 90 (f := .glo "need") rfl), FunD.bindsN F (fun _ _ _ _ _ _ us hl => match us, hl with | [_, _], _ => rfl)⟩
  f_are_apart := let ⟨fd, F⟩ := c.def_ 37 (d := d_are_apart) rfl; ⟨_, fd, F, He.glo_ok X G (c.fact 91 (f := .glo "are_apart") rfl), FunD.bindsN F (fun _ _ _ _ _ _ us hl => match us, hl with | [_, _], _ => rfl)⟩
  k_J := let ⟨fd, F⟩ := c.def_ 38 (d := dJ_init) rfl; ⟨_, fd, F, He.mkr_ok (c.fact 93 (f := .mkr "Job") rfl), He.glo_ok X G (c.fact 92 (f := .glo "Job") rfl), FunD.bindsN F (fun _ _ _ _ _ _ us hl => match us, hl with | [_, _, _, _, _], _ => rfl)⟩
  m_J_need_phase := let ⟨fd, F⟩ := c.def_ 39 (d := dJ_need_phase) rfl; ⟨_, fd, F, He.meth_ok (c.fact 94 (f := .meth "Job" "need_phase") rfl), FunD.bindsN F (fun _ _ _ _ _ _ us hl => match us, hl with | [_, _], _ => rfl)⟩
  m_J_need_alone := let ⟨fd, F⟩ := c.def_ 40 (d := dJ_need_alone) rfl; ⟨_, fd, F, He.meth_ok (c.fact 95 (f := .meth "Job" "need_alone") rfl), FunD.bindsN F (fun _ _ _ _ _ _ us hl => match us, hl with | [_], _ => rfl)⟩
  m_J_hangs_at := let ⟨fd, F⟩ := c.def_ 41 (d := dJ_hangs_at) rfl; ⟨_, fd, F, He.meth_ok (c.fact 96 (f := .meth "Job" "hangs_at") rfl), FunD.bindsN F (fun _ _ _ _ _ _ us hl => match us, hl with | [_, _, _], _ => rfl)⟩
  m_J_steps_still := let ⟨fd, F⟩ := c.def_ 42 (d := dJ_steps_still) rfl; ⟨_, fd, F, He.meth_ok (c.fact 97 (f := .meth "Job" "steps_still") rfl), FunD.bindsN F (fun _ _ _ _ _ _ us hl => match us, hl with | [_], _ => rfl)⟩
  m_J_steps_trial := let ⟨fd, F⟩ := c.def_ 43 (d := dJ_steps_trial) rfl; ⟨_, fd, F, He.meth_ok (c.fact 98 (f := .meth "Job" "steps_trial") rfl), FunD.bindsN F (fun _ _ _ _ _ _ us hl => match us, hl with | [_], _ => rfl)⟩
  m_J_steps_away := let ⟨fd, F⟩ := c.def_ 44 (d := dJ_steps_away) rfl; ⟨_, fd, F, He.meth_ok (c.fact 99 (f := .meth "Job" "steps_away") rfl), FunD.bindsN F (fun _ _ _ _ _ _ us hl => match us, hl with | [_], _ => rfl)⟩
  m_J_steps := let ⟨fd, F⟩ := c.def_ 45 (d := dJ_steps) rfl; ⟨_, fd, F, He.meth_ok (c.fact 100 (f := .meth "Job" "steps") rfl), FunD.bindsN F (fun _ _ _ _ _ _ us hl => match us, hl with | [_], _ => rfl)⟩
  m_J_step := let ⟨fd, F⟩ := c.def_ 46 (d := dJ_step) rfl; ⟨_, fd, F, He.meth_ok (c.fact 101 (f := .meth "Job" "step") rfl), FunD.bindsN F (fun _ _ _ _ _ _ us hl => match us, hl with | [_], _ => rfl)⟩
  m_J_settle := let ⟨fd, F⟩ := c.def_ 47 (d := dJ_settle) rfl; ⟨_, fd, F, He.meth_ok (c.fact 102 (f := .meth "Job" "settle") rfl), FunD.bindsN F (fun _ _ _ _ _ _ us hl => match us, hl with | [_], _ => rfl)⟩
  m_J_begin := let ⟨fd, F⟩ := c.def_ 48 (d := dJ_begin) rfl; ⟨_, fd, F, He.meth_ok (c.fact 103 (f := .meth "Job" "begin") rfl), FunD.bindsN F (fun _ _ _ _ _ _ us hl => match us, hl with | [_, _, _], _ => rfl)⟩
  m_J_give := let ⟨fd, F⟩ := c.def_ 49 (d := dJ_give) rfl; ⟨_, fd, F, He.meth_ok (c.fact 104 (f := .meth "Job" "give") rfl), FunD.bindsN F (fun _ _ _ _ _ _ us hl => match us, hl with | [_], _ => rfl)⟩
  m_J_try_out := let ⟨fd, F⟩ := c.def_ 50 (d := dJ_try_out) rfl; ⟨_, fd, F, He.meth_ok (c.fact 105 (f := .meth "Job" "try_out") rfl), FunD.bindsN F (fun _ _ _ _ _ _ us hl => match us, hl with | [_], _ => rfl)⟩
  m_J_go_on := let ⟨fd, F⟩ := c.def_ 51 (d := dJ_go_on) rfl; ⟨_, fd, F, He.meth_ok (c.fact 106 (f := .meth "Job" "go_on") rfl), FunD.bindsN F (fun _ _ _ _ _ _ us hl => match us, hl with | [_], _ => rfl)⟩
  m_J_put_by := let ⟨fd, F⟩ := c.def_ 52 (d := dJ_put_by) rfl; ⟨_, fd, F, He.meth_ok (c.fact 107 (f := .meth "Job" "put_by") rfl), FunD.bindsN F (fun _ _ _ _ _ _ us hl => match us, hl with | [_], _ => rfl)⟩
  m_J_end := let ⟨fd, F⟩ := c.def_ 53 (d := dJ_end) rfl; ⟨_, fd, F, He.meth_ok (c.fact 108 (f := .meth "Job" "end") rfl), FunD.bindsN F (fun _ _ _ _ _ _ us hl => match us, hl with | [_], _ => rfl)⟩
  m_J_sign_on := let ⟨fd, F⟩ := c.def_ 54 (d := dJ_sign_on) rfl; ⟨_, fd, F, He.meth_ok (c.fact 109 (f := .meth "Job" "sign_on") rfl), FunD.bindsN F (fun _ _ _ _ _ _ us hl => match us, hl with | [_, _], _ => rfl)⟩
  m_J_sign_off := let ⟨fd, F⟩ := c.def_ 55 (d := dJ_sign_off) rfl; ⟨_, fd, F, He.meth_ok (c.fact 110 (f := .meth "Job" "sign_off") rfl), FunD.bindsN F (fun _ _ _ _ _ _ us hl => match us, hl with | [_, _], _ => rfl)⟩
  m_J_hand_over := let ⟨fd, F⟩ := c.def_ 56 (d := dJ_hand_over) rfl; ⟨_, fd, F, He.meth_ok (c.fact 111 (f := .meth "Job" "hand_over") rfl), FunD.bindsN F (fun _ _ _ _ _ _ us hl => match us, hl with | [_, _, _], _ => rfl)⟩
  m_J_called := let ⟨fd, F⟩ := c.def_ 57 (d := dJ_called) rfl; ⟨_, fd, F, He.meth_ok (c.fact 112 (f := .meth "Job" "called") rfl), FunD.bindsN F (fun _ _ _ _ _ _ us hl => match us, hl with | [_], _ => rfl)⟩
  m_J_phase := let ⟨fd, F⟩ := c.def_ 58 (d := dJ_phase) rfl; ⟨_, fd, F, He.meth_ok (c.fact 113 (f := .meth "Job" "phase") rfl), FunD.bindsN F (fun _ _ _ _ _ _ us hl => match us, hl with | [_], _ => rfl)⟩
  m_J_stretch := let ⟨fd, F⟩ := c.def_ 59 (d := dJ_stretch) rfl; ⟨_, fd, F, He.meth_ok (c.fact 114 (f := .meth "Job" "stretch") rfl), FunD.bindsN F (fun _ _ _ _ _ _ us hl => match us, hl with | [_], _ => rfl)⟩
  m_J_switches := let ⟨fd, F⟩ := c.def_ 60 (d := dJ_switches) rfl; ⟨_, fd, F, He.meth_ok (c.fact 115 (f := .meth "Job" "switches") rfl), FunD.bindsN F (fun _ _ _ _ _ _ us hl => match us, hl with | [_], _ => rfl)⟩
  m_J_drains := let ⟨fd, F⟩ := c.def_ 61 (d := dJ_drains) rfl; ⟨_, fd, F, He.meth_ok (c.fact 116 (f := .meth "Job" "drains") rfl), FunD.bindsN F (fun _ _ _ _ _ _ us hl => match us, hl with | [_], _ => rfl)⟩
  m_J_crew_now := let ⟨fd, F⟩ := c.def_ 62 (d := dJ_crew_now) rfl; ⟨_, fd, F, He.meth_ok (c.fact 117 (f := .meth "Job" "crew_now") rfl), FunD.bindsN F (fun _ _ _ _ _ _ us hl => match us, hl with | [_], _ => rfl)⟩
  f_l_bag := let ⟨fd, F⟩ := c.def_ 63 (d := d_lbag) rfl; ⟨_, fd, F, He.glo_ok X G (c.fact 118 (f := .glo "_law_bag") rfl), FunD.bindsN F (fun _ _ _ _ _ _ us hl => match us, hl with | [_], _ => rfl)⟩
  f_l_take := let ⟨fd, F⟩ := c.def_ 64 (d := d_ltake) rfl; ⟨_, fd, F, He.glo_ok X G (c.fact 119 (f := .glo "_law_take") rfl), FunD.bindsN F (fun _ _ _ _ _ _ us hl => match us, hl with | [_, _], _ => rfl)⟩
  f_l_alike := let ⟨fd, F⟩ := c.def_ 65 (d := d_lalike) rfl; ⟨_, fd, F, He.glo_ok X G (c.fact 120 (f := .glo "_law_alike") rfl), FunD.bindsN F (fun _ _ _ _ _ _ us hl => match us, hl with | [_, _], _ => rfl)⟩
  f_l_name := let ⟨fd, F⟩ := c.def_ 66 (d := d_lname) rfl; ⟨_, fd, F, He.glo_ok X G (c.fact 121 (f := .glo "_law_name") rfl), FunD.bindsN F (fun _ _ _ _ _ _ us hl => match us, hl with | [_], _ => rfl)⟩
  f_l_names := let ⟨fd, F⟩ := c.def_ 67 (d := d_lnames) rfl; ⟨_, fd, F, He.glo_ok X G (c.fact 122 (f := .glo "_law_names") rfl), FunD.bindsN F (fun _ _ _ _ _ _ us hl => match us, hl with | [_, _], _ => rfl)⟩
  f_l_fresh := let ⟨fd, F⟩ := c.def_ 68 (d := d_lfresh) rfl; ⟨_, fd, F, He.glo_ok X G (c.fact 123 (f := .glo "_law_fresh") rfl), FunD.bindsN F (fun _ _ _ _ _ _ us hl => match us, hl with | [], _ => rfl)⟩
  f_l_hands := let ⟨fd, F⟩ := c.def_ 69 (d := d_lhands) rfl; ⟨_, fd, F, He.glo_ok X G (c.fact 124 (f := .glo "_law_hands") rfl), FunD.bindsN F (fun _ _ _ _ _ _ us hl => match us, hl with | [_, _], _ => rfl)⟩
  f_l_steps := let ⟨fd, F⟩ := c.def_ 70 (d := d_lsteps) rfl; ⟨_, fd, F, He.glo_ok X G (c.fact 125 (f := .glo "_law_steps") rfl), FunD.bindsN F (fun _ _ _ _ _ _ us hl => match us, hl with | [_, _], _ => rfl)⟩
  f_l_due_step := let ⟨fd, F⟩ := c.def_ 71 (d := d_ldue_step) rfl; ⟨_, fd, F, He.glo_ok X G (c.fact 126 (f := .glo "_law_due_step") rfl), FunD.bindsN F (fun _ _ _ _ _ _ us hl => match us, hl with | [_, _], _ => rfl)⟩
  f_l_due_crew := let ⟨fd, F⟩ := c.def_ 72 (d := d_ldue_crew) rfl; ⟨_, fd, F, He.glo_ok X G (c.fact 127 (f := .glo "_law_due_crew") rfl), FunD.bindsN F (fun _ _ _ _ _ _ us hl => match us, hl with | [_, _], _ => rfl)⟩
  f_l_due_board := let ⟨fd, F⟩ := c.def_ 73 (d := d_ldue_board) rfl; ⟨_, fd, F, He.glo_ok X G (c.fact 128 (f := .glo "_law_due_board") rfl), FunD.bindsN F (fun _ _ _ _ _ _ us hl => match us, hl with | [_, _], _ => rfl)⟩
  f_l_due := let ⟨fd, F⟩ := c.def_ 74 (d := d_ldue) rfl; ⟨_, fd, F, He.glo_ok X G (c.fact 129 (f := .glo "_law_due") rfl), FunD.bindsN F (fun _ _ _ _ _ _ us hl => match us, hl with | [_, _], _ => rfl)⟩
  f_l_over := let ⟨fd, F⟩ := c.def_ 75 (d := d_lover) rfl; ⟨_, fd, F, He.glo_ok X G (c.fact 130 (f := .glo "_law_over") rfl), FunD.bindsN F (fun _ _ _ _ _ _ us hl => match us, hl with | [_, _], _ => rfl)⟩
  f_l_do_step := let ⟨fd, F⟩ := c.def_ 76 (d := d_ldo_step) rfl; ⟨_, fd, F, He.glo_ok X G (c.fact 131 (f := .glo "_law_do_step") rfl), FunD.bindsN F (fun _ _ _ _ _ _ us hl => match us, hl with | [_, _], _ => rfl)⟩
  f_l_do_job := let ⟨fd, F⟩ := c.def_ 77 (d := d_ldo_job) rfl; ⟨_, fd, F, He.glo_ok X G (c.fact 132 (f := .glo "_law_do_job") rfl), FunD.bindsN F (fun _ _ _ _ _ _ us hl => match us, hl with | [_, _], _ => rfl)⟩
  f_l_do := let ⟨fd, F⟩ := c.def_ 78 (d := d_ldo) rfl; ⟨_, fd, F, He.glo_ok X G (c.fact 133 (f := .glo "_law_do") rfl), FunD.bindsN F (fun _ _ _ _ _ _ us hl => match us, hl with | [_, _], _ => rfl)⟩
  f_l_call := let ⟨fd, F⟩ := c.def_ 79 (d := d_lcall) rfl; ⟨_, fd, F, He.glo_ok X G (c.fact 134 (f := .glo "_law_call") rfl), FunD.bindsN F (fun _ _ _ _ _ _ us hl => match us, hl with | [_, _, _], _ => rfl)⟩
  f_l_call_job := let ⟨fd, F⟩ := c.def_ 80 (d := d_lcall_job) rfl; ⟨_, fd, F, He.glo_ok X G (c.fact 135 (f := .glo "_law_call_job") rfl), FunD.bindsN F (fun _ _ _ _ _ _ us hl => match us, hl with | [_, _], _ => rfl)⟩
  f_l_class := let ⟨fd, F⟩ := c.def_ 81 (d := d_lclass) rfl; ⟨_, fd, F, He.glo_ok X G (c.fact 136 (f := .glo "_law_class") rfl), FunD.bindsN F (fun _ _ _ _ _ _ us hl => match us, hl with | [_], _ => rfl)⟩
  f_l_say := let ⟨fd, F⟩ := c.def_ 82 (d := d_lsay) rfl; ⟨_, fd, F, He.glo_ok X G (c.fact 137 (f := .glo "_law_say") rfl), FunD.bindsN F (fun _ _ _ _ _ _ us hl => match us, hl with | [_, _, _], _ => rfl)⟩
  f_l_same_device := let ⟨fd, F⟩ := c.def_ 83 (d := d_lsame_device) rfl; ⟨_, fd, F, He.glo_ok X G (c.fact 138 (f := .glo "_law_same_device") rfl), FunD.bindsN F (fun _ _ _ _ _ _ us hl => match us, hl with | [_, _, _], _ => rfl)⟩
  f_l_same_job := let ⟨fd, F⟩ := c.def_ 84 (d := d_lsame_job) rfl; ⟨_, fd, F, He.glo_ok X G (c.fact 139 (f := .glo "_law_same_job") rfl), FunD.bindsN F (fun _ _ _ _ _ _ us hl => match us, hl with | [_, _, _], _ => rfl)⟩
  f_l_same := let ⟨fd, F⟩ := c.def_ 85 (d := d_lsame) rfl; ⟨_, fd, F, He.glo_ok X G (c.fact 140 (f := .glo "_law_same") rfl), FunD.bindsN F (fun _ _ _ _ _ _ us hl => match us, hl with | [_, _, _], _ => rfl)⟩
  f_l_one := let ⟨fd, F⟩ := c.def_ 86 (d := d_lone) rfl; ⟨_, fd, F, He.glo_ok X G (c.fact 141 (f := .glo "_law_one") rfl), FunD.bindsN F (fun _ _ _ _ _ _ us hl => match us, hl with | [_, _], _ => rfl)⟩
  f_l_world := let ⟨fd, F⟩ := c.def_ 87 (d := d_lworld) rfl; ⟨_, fd, F, He.glo_ok X G (c.fact 142 (f := .glo "_law_world") rfl), FunD.bindsN F (fun _ _ _ _ _ _ us hl => match us, hl with | [_], _ => rfl)⟩
  f_l_laid := let ⟨fd, F⟩ := c.def_ 88 (d := d_llaid) rfl; ⟨_, fd, F, He.glo_ok X G (c.fact 143 (f := .glo "_law_laid") rfl), FunD.bindsN F (fun _ _ _ _ _ _ us hl => match us, hl with | [_, _, _, _], _ => rfl)⟩
  f_l_some := let ⟨fd, F⟩ := c.def_ 89 (d := d_lsome) rfl; ⟨_, fd, F, He.glo_ok X G (c.fact 144 (f := .glo "_law_some") rfl), FunD.bindsN F (fun _ _ _ _ _ _ us hl => match us, hl with | [_, _], _ => rfl)⟩
  f_l_begin := let ⟨fd, F⟩ := c.def_ 90 (d := d_lbegin) rfl; ⟨_, fd, F, He.glo_ok X G (c.fact 145 (f := .glo "_law_begin") rfl), FunD.bindsN F (fun _ _ _ _ _ _ us hl => match us, hl with | [_, _, _, _], _ => rfl)⟩
  f_l_natural := let ⟨fd, F⟩ := c.def_ 91 (d := d_lnatural) rfl; ⟨_, fd, F, He.glo_ok X G (c.fact 146 (f := .glo "_law_natural") rfl), FunD.bindsN F (fun _ _ _ _ _ _ us hl => match us, hl with | [_, _, _, _], _ => rfl)⟩
  f_l_any := let ⟨fd, F⟩ := c.def_ 92 (d := d_lany) rfl; ⟨_, fd, F, He.glo_ok X G (c.fact 147 (f := .glo "_law_any") rfl), FunD.bindsN F (fun _ _ _ _ _ _ us hl => match us, hl with | [_, _, _, _], _ => rfl)⟩
  f_l_deed := let ⟨fd, F⟩ := c.def_ 93 (d := d_ldeed) rfl; ⟨_, fd, F, He.glo_ok X G (c.fact 148 (f := .glo "_law_deed") rfl), FunD.bindsN F (fun _ _ _ _ _ _ us hl => match us, hl with | [_, _, _], _ => rfl)⟩
  f_l_ended := let ⟨fd, F⟩ := c.def_ 94 (d := d_lended) rfl; ⟨_, fd, F, He.glo_ok X G (c.fact 149 (f := .glo "_law_ended") rfl), FunD.bindsN F (fun _ _ _ _ _ _ us hl => match us, hl with | [_, _], _ => rfl)⟩
  me := ⟨He.glo_ok X G (c.fact 150 (f := .glo "MainsError") rfl), meB_ok (ex_at e 9 rfl)⟩
/-- the law's end, of the facts -/
theorem end_of {P : Program} {w : World} {fn_ : Addr} (X : K.In h) (G : h.Ns mainGlobals mg) (c : He.SaysD fa fn K) (e : exA K = true) (hm : mg "law" = some (.ref fn_)) :
    ∃ (K : PySem.W.Frag) (fd : FuncData) (sp : Sp), K.In h ∧ (∀ (s : Shared) (u : Value), BindsTo s fd ⟨[u], []⟩ [("_law_script", u)]) ∧
      (∀ (H : Hp) (a : Addr) (ns : List Int), SqL K H a (ns.map V.int) → sp [.ref a] H (fun v _ => v = .bl true) fun _ _ _ => False) ∧ ∀ base : Heap, FnG P w K mg base 12 fn_ fd ["_law_script"] sp := by
  obtain ⟨fd, F⟩ := c.def_ 95 (d := d_law) rfl
  have g := hm.symm.trans (He.glo_ok X G (c.fact 151 (f := .glo "law") rfl))
  cases g
  have T := txt_of X G c e
  have b := FunD.bindsA (ps := ["_law_script"]) F fun _ _ _ _ _ _ us hl => match us, hl with | [_], _ => rfl
  exact ⟨K, fd, spLaw K, X, fun s u => b s [u] rfl, fun H a ns hS => ⟨a, ns, rfl, hS, fun _ => rfl⟩, fun base => ok_law T F⟩
end
end Sm
open PySem PySem.W PySem.Calls PyProof.Rows
theorem PySem.Challenge.cw_stillmain_k68_whole_jobs_on_a_board_holds : PySem.Challenge.rw_stillmain_k68_whole_jobs_on_a_board.Holds := by
  w_on; o_law
  refine HandSHeadRun.head_any (r := Sm.R) (q := view Sm.R.prog [66]) (H := Sm.hkM) (ob := Sm.obM) (M := 6000) (loose := Sm.loose) (d := HandSHeadRun.topDef Sm.R.prog 66) (kwd := []) Sm.obM_eq
    (by kernel_rfl) (fun s => by kernel_rfl) Sm.runM (by kernel_rfl) (by kernel_rfl) (by kernel_rfl) (by rfl) (by first | assumption | decide +kernel) (by decide +kernel) ⟨rfl, rfl, rfl, rfl, rfl, by decide +kernel⟩ ?hw ?hc
  case hw => w_witness2
  case hc =>
    refine Sm.walkG (l := PySem.Challenge.rw_stillmain_k68_whole_jobs_on_a_board) (n := 63) (k := 12) (x := "_law_script") rfl (by decide) (by kernel_rfl) ⟨rfl, by decide, by decide⟩ ?F
    intro w mg fn h Y G hm0
    obtain ⟨K, KX, c, e⟩ := Y
    have hm : mg ("law" : PySem.Str) = some (.ref fn) := by
      have z : (HandSHeadRun.topDef Sm.R.prog 66).name = ("law" : PySem.Str) := by kernel_rfl
      rw [← z]
      exact hm0
    exact Sm.end_of KX G c e hm
