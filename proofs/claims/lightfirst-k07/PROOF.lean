import PyProof.Rows.All
import Wide.All
import OpenK.AllK
import Wide.FinOn
import HandS.ForExc
import HandS.ForMost
import HandS.Head2
import HandS.HeadHook2
import HandS.HeadEnd
import PySem.Challenge.RW_lightfirst_k07_whole_readings
import HandS.Defaults
import HandS.IsInst
import HandS.Conv
import HandS.TupAny
import HandS.DictComp
import HandS.More
import HandS.Style
import HandS.Evl
import HandS.SortRule
import KE.GoesZip
import KE.GoesMore
import KE.GoesEnum
import KE.KDictZip
import HandS.Iter
import PyProof.EnumMake
import HandS.SortOrd
import KE.KRevSl
import KE.KDictPairs
set_option Elab.async false
set_option linter.all false
set_option maxRecDepth 100000
/-! The text by places. -/
namespace Lf
open PySem PySem.Spec PyProof.Rows L2
def top (i : Nat) : Stmt := PySem.Challenge.pw_lightfirst_k07_whole_readings.main.body.getD i (.Pass ⟨0, 0, 0, 0⟩)
abbrev s_is_integer : Stmt := top 2
abbrev s_is_within : Stmt := top 3
abbrev s_is_pair : Stmt := top 4
abbrev s_is_lot : Stmt := top 5
abbrev s_is_prime : Stmt := top 15
abbrev s_is_sum : Stmt := top 16
abbrev s_inverse : Stmt := top 17
abbrev s_less_times : Stmt := top 18
abbrev s_first_place : Stmt := top 19
abbrev s_Steps_init : Stmt := inClass (top 20) 0
abbrev s_Steps_fallen : Stmt := inClass (top 20) 1
abbrev s_Steps_take : Stmt := inClass (top 20) 3
abbrev s_Steps_cleared : Stmt := inClass (top 20) 4
abbrev s_Steps_made_by : Stmt := inClass (top 20) 5
abbrev s_added : Stmt := top 21
abbrev s_Web_init : Stmt := inClass (top 26) 0
abbrev s_is_piece : Stmt := top 27
abbrev s_is_lot_of : Stmt := top 28
abbrev s_check_lot : Stmt := top 29
abbrev s_steps_in : Stmt := top 30
abbrev s_version_sum : Stmt := top 31
abbrev s_check_version : Stmt := top 32
abbrev s_reading : Stmt := top 33
abbrev s_is_reading : Stmt := top 34
abbrev s__law_hand : Stmt := top 36
abbrev s__law_draw : Stmt := top 37
abbrev s__law_any : Stmt := top 38
abbrev s__law_is_int : Stmt := top 39
abbrev s__law_deep : Stmt := top 40
abbrev s__law_odd : Stmt := top 41
abbrev s__law_prime : Stmt := top 42
abbrev s__law_sum : Stmt := top 43
abbrev s__law_mixed : Stmt := top 44
abbrev s__law_sums : Stmt := top 45
abbrev s__law_times : Stmt := top 46
abbrev s__law_inverse : Stmt := top 47
abbrev s__law_fallen : Stmt := top 48
abbrev s__law_taken : Stmt := top 49
abbrev s__law_made : Stmt := top 50
abbrev s__law_added : Stmt := top 51
abbrev s__law_is_lot : Stmt := top 52
abbrev s__law_unit : Stmt := top 53
abbrev s__law_pieces : Stmt := top 54
abbrev s__law_web_parts : Stmt := top 55
abbrev s__law_lot : Stmt := top 56
abbrev s__law_sums_of : Stmt := top 57
abbrev s__law_read : Stmt := top 58
abbrev s__law_reading : Stmt := top 59
abbrev s__law_is_reading : Stmt := top 60
abbrev s__law_another : Stmt := top 61
abbrev s__law_bent : Stmt := top 62
abbrev s_law : Stmt := top 63
end Lf
namespace Lf
open PySem PySem.Spec PyProof.Rows L2
def names0 : List PySem.Str := ["_wall", "is_integer", "is_within", "is_pair", "is_lot", "KeepError", "BadWeb", "NoLot", "NoVersion", "LEAST_PRIME", "MOST_PRIME", "MOST_WIDTH", "is_prime", "is_sum", "inverse", "less_times", "first_place", "Steps", "added", "MOST_MANY", "MOST_PIECES", "MOST_SIZE", "Web", "is_piece", "is_lot_of", "check_lot", "steps_in", "version_sum", "check_version", "reading"]
def names1 : List PySem.Str := ["is_reading", "_law_hand", "_law_draw", "_law_any", "_law_is_int", "_law_deep", "_law_odd", "_law_prime", "_law_sum", "_law_mixed", "_law_sums", "_law_times", "_law_inverse", "_law_fallen", "_law_taken", "_law_made", "_law_added", "_law_is_lot", "_law_unit", "_law_pieces", "_law_web_parts", "_law_lot", "_law_sums_of", "_law_read", "_law_reading", "_law_is_reading", "_law_another", "_law_bent"]
def names : List PySem.Str := names0 ++ names1
def d_is_integer : He.DefD := ⟨("is_integer", none), "is_integer", "is_integer", defArgs s_is_integer, defBody s_is_integer, defScope s_is_integer, [], []⟩
def d_is_within : He.DefD := ⟨("is_within", none), "is_within", "is_within", defArgs s_is_within, defBody s_is_within, defScope s_is_within, [], []⟩
def d_is_pair : He.DefD := ⟨("is_pair", none), "is_pair", "is_pair", defArgs s_is_pair, defBody s_is_pair, defScope s_is_pair, [], []⟩
def d_is_lot : He.DefD := ⟨("is_lot", none), "is_lot", "is_lot", defArgs s_is_lot, defBody s_is_lot, defScope s_is_lot, [], []⟩
def d_is_prime : He.DefD := ⟨("is_prime", none), "is_prime", "is_prime", defArgs s_is_prime, defBody s_is_prime, defScope s_is_prime, [], []⟩
def d_is_sum : He.DefD := ⟨("is_sum", none), "is_sum", "is_sum", defArgs s_is_sum, defBody s_is_sum, defScope s_is_sum, [], []⟩
def d_inverse : He.DefD := ⟨("inverse", none), "inverse", "inverse", defArgs s_inverse, defBody s_inverse, defScope s_inverse, [], []⟩
def d_less_times : He.DefD := ⟨("less_times", none), "less_times", "less_times", defArgs s_less_times, defBody s_less_times, defScope s_less_times, [], []⟩
def d_first_place : He.DefD := ⟨("first_place", none), "first_place", "first_place", defArgs s_first_place, defBody s_first_place, defScope s_first_place, [], []⟩
def d_Steps_init : He.DefD := ⟨("Steps", some "__init__"), "__init__", "Steps.__init__", defArgs s_Steps_init, defBody s_Steps_init, defScope s_Steps_init, [], []⟩
def d_Steps_fallen : He.DefD := ⟨("Steps", some "fallen"), "fallen", "Steps.fallen", defArgs s_Steps_fallen, defBody s_Steps_fallen, defScope s_Steps_fallen, [], []⟩
def d_Steps_take : He.DefD := ⟨("Steps", some "take"), "take", "Steps.take", defArgs s_Steps_take, defBody s_Steps_take, defScope s_Steps_take, [], []⟩
def d_Steps_cleared : He.DefD := ⟨("Steps", some "cleared"), "cleared", "Steps.cleared", defArgs s_Steps_cleared, defBody s_Steps_cleared, defScope s_Steps_cleared, [], []⟩
def d_Steps_made_by : He.DefD := ⟨("Steps", some "made_by"), "made_by", "Steps.made_by", defArgs s_Steps_made_by, defBody s_Steps_made_by, defScope s_Steps_made_by, [], []⟩
def d_added : He.DefD := ⟨("added", none), "added", "added", defArgs s_added, defBody s_added, defScope s_added, [], []⟩
def d_Web_init : He.DefD := ⟨("Web", some "__init__"), "__init__", "Web.__init__", defArgs s_Web_init, defBody s_Web_init, defScope s_Web_init, [], []⟩
def d_is_piece : He.DefD := ⟨("is_piece", none), "is_piece", "is_piece", defArgs s_is_piece, defBody s_is_piece, defScope s_is_piece, [], []⟩
def d_is_lot_of : He.DefD := ⟨("is_lot_of", none), "is_lot_of", "is_lot_of", defArgs s_is_lot_of, defBody s_is_lot_of, defScope s_is_lot_of, [], []⟩
def d_check_lot : He.DefD := ⟨("check_lot", none), "check_lot", "check_lot", defArgs s_check_lot, defBody s_check_lot, defScope s_check_lot, [], []⟩
def d_steps_in : He.DefD := ⟨("steps_in", none), "steps_in", "steps_in", defArgs s_steps_in, defBody s_steps_in, defScope s_steps_in, [], []⟩
def d_version_sum : He.DefD := ⟨("version_sum", none), "version_sum", "version_sum", defArgs s_version_sum, defBody s_version_sum, defScope s_version_sum, [], []⟩
def d_check_version : He.DefD := ⟨("check_version", none), "check_version", "check_version", defArgs s_check_version, defBody s_check_version, defScope s_check_version, [], []⟩
def d_reading : He.DefD := ⟨("reading", none), "reading", "reading", defArgs s_reading, defBody s_reading, defScope s_reading, [], []⟩
def d_is_reading : He.DefD := ⟨("is_reading", none), "is_reading", "is_reading", defArgs s_is_reading, defBody s_is_reading, defScope s_is_reading, [], []⟩
def d__law_hand : He.DefD := ⟨("_law_hand", none), "_law_hand", "_law_hand", defArgs s__law_hand, defBody s__law_hand, defScope s__law_hand, [], []⟩
def d__law_draw : He.DefD := ⟨("_law_draw", none), "_law_draw", "_law_draw", defArgs s__law_draw, defBody s__law_draw, defScope s__law_draw, [], []⟩
def d__law_any : He.DefD := ⟨("_law_any", none), "_law_any", "_law_any", defArgs s__law_any, defBody s__law_any, defScope s__law_any, [], []⟩
def d__law_is_int : He.DefD := ⟨("_law_is_int", none), "_law_is_int", "_law_is_int", defArgs s__law_is_int, defBody s__law_is_int, defScope s__law_is_int, [], []⟩
def d__law_deep : He.DefD := ⟨("_law_deep", none), "_law_deep", "_law_deep", defArgs s__law_deep, defBody s__law_deep, defScope s__law_deep, [], []⟩
def d__law_odd : He.DefD := ⟨("_law_odd", none), "_law_odd", "_law_odd", defArgs s__law_odd, defBody s__law_odd, defScope s__law_odd, [], []⟩
def d__law_prime : He.DefD := ⟨("_law_prime", none), "_law_prime", "_law_prime", defArgs s__law_prime, defBody s__law_prime, defScope s__law_prime, [], []⟩
def d__law_sum : He.DefD := ⟨("_law_sum", none), "_law_sum", "_law_sum", defArgs s__law_sum, defBody s__law_sum, defScope s__law_sum, [], []⟩
def d__law_mixed : He.DefD := ⟨("_law_mixed", none), "_law_mixed", "_law_mixed", defArgs s__law_mixed, defBody s__law_mixed, defScope s__law_mixed, [], []⟩
def d__law_sums : He.DefD := ⟨("_law_sums", none), "_law_sums", "_law_sums", defArgs s__law_sums, defBody s__law_sums, defScope s__law_sums, [], []⟩
def d__law_times : He.DefD := ⟨("_law_times", none), "_law_times", "_law_times", defArgs s__law_times, defBody s__law_times, defScope s__law_times, [], []⟩
def d__law_inverse : He.DefD := ⟨("_law_inverse", none), "_law_inverse", "_law_inverse", defArgs s__law_inverse, defBody s__law_inverse, defScope s__law_inverse, [], []⟩
def d__law_fallen : He.DefD := ⟨("_law_fallen", none), "_law_fallen", "_law_fallen", defArgs s__law_fallen, defBody s__law_fallen, defScope s__law_fallen, [], []⟩
def d__law_taken : He.DefD := ⟨("_law_taken", none), "_law_taken", "_law_taken", defArgs s__law_taken, defBody s__law_taken, defScope s__law_taken, [], []⟩
def d__law_made : He.DefD := ⟨("_law_made", none), "_law_made", "_law_made", defArgs s__law_made, defBody s__law_made, defScope s__law_made, [], []⟩
def d__law_added : He.DefD := ⟨("_law_added", none), "_law_added", "_law_added", defArgs s__law_added, defBody s__law_added, defScope s__law_added, [], []⟩
def d__law_is_lot : He.DefD := ⟨("_law_is_lot", none), "_law_is_lot", "_law_is_lot", defArgs s__law_is_lot, defBody s__law_is_lot, defScope s__law_is_lot, [], []⟩
def d__law_unit : He.DefD := ⟨("_law_unit", none), "_law_unit", "_law_unit", defArgs s__law_unit, defBody s__law_unit, defScope s__law_unit, [], []⟩
def d__law_pieces : He.DefD := ⟨("_law_pieces", none), "_law_pieces", "_law_pieces", defArgs s__law_pieces, defBody s__law_pieces, defScope s__law_pieces, [], []⟩
def d__law_web_parts : He.DefD := ⟨("_law_web_parts", none), "_law_web_parts", "_law_web_parts", defArgs s__law_web_parts, defBody s__law_web_parts, defScope s__law_web_parts, [], []⟩
def d__law_lot : He.DefD := ⟨("_law_lot", none), "_law_lot", "_law_lot", defArgs s__law_lot, defBody s__law_lot, defScope s__law_lot, [], []⟩
def d__law_sums_of : He.DefD := ⟨("_law_sums_of", none), "_law_sums_of", "_law_sums_of", defArgs s__law_sums_of, defBody s__law_sums_of, defScope s__law_sums_of, [], []⟩
def d__law_read : He.DefD := ⟨("_law_read", none), "_law_read", "_law_read", defArgs s__law_read, defBody s__law_read, defScope s__law_read, [], []⟩
def d__law_reading : He.DefD := ⟨("_law_reading", none), "_law_reading", "_law_reading", defArgs s__law_reading, defBody s__law_reading, defScope s__law_reading, [], []⟩
def d__law_is_reading : He.DefD := ⟨("_law_is_reading", none), "_law_is_reading", "_law_is_reading", defArgs s__law_is_reading, defBody s__law_is_reading, defScope s__law_is_reading, [], []⟩
def d__law_another : He.DefD := ⟨("_law_another", none), "_law_another", "_law_another", defArgs s__law_another, defBody s__law_another, defScope s__law_another, [], []⟩
def d__law_bent : He.DefD := ⟨("_law_bent", none), "_law_bent", "_law_bent", defArgs s__law_bent, defBody s__law_bent, defScope s__law_bent, [], []⟩
def d_law : He.DefD := ⟨("law", none), "law", "law", defArgs s_law, defBody s_law, defScope s_law, [], []⟩
def fn : List He.DefD := [d_is_integer, d_is_within, d_is_pair, d_is_lot, d_is_prime, d_is_sum, d_inverse, d_less_times, d_first_place, d_Steps_init, d_Steps_fallen, d_Steps_take, d_Steps_cleared, d_Steps_made_by, d_added, d_Web_init, d_is_piece, d_is_lot_of, d_check_lot, d_steps_in, d_version_sum, d_check_version, d_reading, d_is_reading, d__law_hand, d__law_draw, d__law_any, d__law_is_int, d__law_deep, d__law_odd, d__law_prime, d__law_sum, d__law_mixed, d__law_sums, d__law_times, d__law_inverse, d__law_fallen, d__law_taken, d__law_made, d__law_added, d__law_is_lot, d__law_unit, d__law_pieces, d__law_web_parts, d__law_lot, d__law_sums_of, d__law_read, d__law_reading, d__law_is_reading, d__law_another, d__law_bent, d_law]
def fa : List He.Fa := [.glo "is_integer", .glo "is_within", .glo "is_pair", .glo "is_lot", .glo "is_prime", .glo "is_sum", .glo "inverse", .glo "less_times", .glo "first_place", .glo "added", .glo "is_piece", .glo "is_lot_of", .glo "check_lot", .glo "steps_in", .glo "version_sum", .glo "check_version", .glo "reading", .glo "is_reading", .glo "_law_hand", .glo "_law_draw", .glo "_law_any", .glo "_law_is_int", .glo "_law_deep", .glo "_law_odd", .glo "_law_prime", .glo "_law_sum", .glo "_law_mixed", .glo "_law_sums", .glo "_law_times", .glo "_law_inverse", .glo "_law_fallen", .glo "_law_taken", .glo "_law_made", .glo "_law_added", .glo "_law_is_lot", .glo "_law_unit", .glo "_law_pieces", .glo "_law_web_parts", .glo "_law_lot", .glo "_law_sums_of", .glo "_law_read", .glo "_law_reading", .glo "_law_is_reading", .glo "_law_another", .glo "_law_bent", .glo "law", .glo "Steps", .cls "Steps", .mkr "Steps", .noat "Steps" "kept_prime", .noat "Steps" "kept_rows", .meth "Steps" "fallen", .meth "Steps" "take", .meth "Steps" "cleared", .meth "Steps" "made_by", .glo "Web", .cls "Web", .mkr "Web", .noat "Web" "prime", .noat "Web" "many", .noat "Web" "pieces", .int "LEAST_PRIME" 2, .int "MOST_PRIME" 251, .int "MOST_WIDTH" 10, .int "MOST_MANY" 10, .int "MOST_PIECES" 40, .int "MOST_SIZE" 1000000, .free "isinstance", .free "int", .free "bool", .free "tuple", .free "len", .free "all", .free "any", .free "range", .free "zip", .free "enumerate", .free "list", .free "dict", .free "sorted", .free "abs"]
abbrev R : PySem.W.OpenRow := PySem.W.OpenLaw.row PySem.Challenge.rw_lightfirst_k07_whole_readings
abbrev hk : PySem.W.Hook := He.hookD 5 fa fn
def ob (s : PySem.W.SharedT) : He.AlD := He.obsDG 5 fa fn (HandSHeadRun.getT s)
theorem ob_eq (s : PySem.W.SharedT) : ob s = hk.obs s.abs := He.obsDG_eq (HandSHeadRun.getT_eq s)
set_option maxHeartbeats 0 in
theorem run (w : World) : HandSHeadRun.RunEq R (PySem.W.view R.prog [63]) hk ob 4000 names w := by
  intro os
  kernel_rfl
end Lf
/-! What the walks share: the head's facts as they are used, a def with its promise, small lemmas on heaps. -/
namespace Lf
open PySem PySem.Spec PyProof.Rows L2
/-- what the top has left -/
structure Env (K : PySem.W.Frag) (mg : Str → Option Value) : Prop where
  top : ∃ h : Heap, K.In h ∧ h.Ns mainGlobals mg
  says : He.SaysD fa fn K
section
variable {K : PySem.W.Frag} {mg : Str → Option Value}
theorem Env.glo (E : Env K mg) (i : Nat) {x : Str} (h : fa[i]? = some (.glo x) := by rfl) : mg x = some (.ref (He.ga K x)) := by
  obtain ⟨h', X, G⟩ := E.top
  exact He.glo_ok X G (E.says.fact i h)
theorem Env.free (E : Env K mg) (i : Nat) {x : Str} (h : fa[i]? = some (.free x) := by rfl) : mg x = none := by
  obtain ⟨h', X, G⟩ := E.top
  exact He.free_ok X G (E.says.fact i h)
theorem Env.clsSteps (E : Env K mg) : Cls K (He.ga K "Steps") := He.cls_ok (E.says.fact 47 rfl)
theorem Env.clsWeb (E : Env K mg) : Cls K (He.ga K "Web") := He.cls_ok (E.says.fact 56 rfl)
theorem Env.noat (E : Env K mg) (i : Nat) {x f : Str} (h : fa[i]? = some (.noat x f) := by rfl) : NoAttr K (He.ga K x) f := He.noat_ok (E.says.fact i h)
theorem Env.int (E : Env K mg) (i : Nat) {x : Str} {k : Int} (h : fa[i]? = some (.int x k) := by rfl) : ∃ t, mg x = some (.int k t) := by
  obtain ⟨h', X, G⟩ := E.top
  exact He.int_ok X G (E.says.fact i h)
end
/-- a def of the top, with its promise -/
def Cl (P : Program) (w : World) (K : PySem.W.Frag) (mg : Str → Option Value) (base : Heap) (k : Nat) (x : Str) (ps : List Str) (sp : Sp) : Prop :=
  ∃ (f : Addr) (fd : FuncData), mg x = some (.ref f) ∧ PySem.W.keepIn K (.ref f) = true ∧ Binds K fd ps [] ∧ FnOk P w K mg base CX0 k f fd ps sp
/-- a method of the class at C, with its promise -/
def Md (P : Program) (w : World) (K : PySem.W.Frag) (mg : Str → Option Value) (base : Heap) (k : Nat) (C : Addr) (m : Str) (ps : List Str) (sp : Sp) : Prop :=
  ∃ (f : Addr) (fd : FuncData), Meth K C m f ∧ Binds K fd ps [] ∧ FnOk P w K mg base CX0 k f fd ps sp
/-- a class that is made by its __init__ -/
def Mkr (P : Program) (w : World) (K : PySem.W.Frag) (mg : Str → Option Value) (base : Heap) (k : Nat) (x : Str) (C : Addr) (ps : List Str) (sp : Sp) : Prop :=
  ∃ (f : Addr) (fd : FuncData), mg x = some (.ref C) ∧ Mk K C f ∧ Binds K fd ps [] ∧ FnOk P w K mg base CX0 k f fd ps sp
section
variable {X : Cx} {k : Nat} {x m : Str} {C : Addr} {ps : List Str} {sp : Sp} {e o : Expr} {es : List Expr} {t : TA} {ta : TE} {p pos apos : Pos}
theorem pe_c (F : Cl X.prog X.w X.K X.mg X.base k x ps sp) (hr : Room k X.A) (hg : Gl X x)
    (ha : PA X (e :: es) t) (hdb : (x == ("__debug__" : Str)) = false := by decide) (he : starEach (e :: es) X.env = (false, eval e X.env) :: starEach es X.env := by rfl) (hpl : (backTo pos (starEach es X.env)).any (·.1) = false := by rfl) :
    PE X (.Call (.Name x p) (e :: es) [] pos) (tCall sp [] E0 t) := by
  obtain ⟨f, fd, hm, hk, hb, hf⟩ := F
  exact pe_call hf hr hg hm hk hb .nil pass0 ha hdb he hpl
theorem pe_mk (F : Mkr X.prog X.w X.K X.mg X.base k x C ps sp) (hr : Room (k + 1) X.A) (hg : Gl X x)
    (ha : PA X (e :: es) t) (hdb : (x == ("__debug__" : Str)) = false := by decide) (he : starEach (e :: es) X.env = (false, eval e X.env) :: starEach es X.env := by rfl) (hpl : (backTo pos (starEach es X.env)).any (·.1) = false := by rfl) :
    PE X (.Call (.Name x p) (e :: es) [] pos) (tMake C sp [] E0 t) := by
  obtain ⟨f, fd, hm, hk, hb, hf⟩ := F
  exact pe_make hk hf hr hg hm hb .nil pass0 ha hdb he hpl
theorem pe_md {pl : Sem Bool} (he : PE X o ta) (c : Cls X.K C) (F : Md X.prog X.w X.K X.mg X.base k C m ps sp) (hr : Room k X.A) (ha : PA X (e :: es) t)
    (hst : starEach (e :: es) X.env = (false, eval e X.env) :: starEach es X.env := by rfl) (hpl : (backTo pos (starEach es X.env)).any (·.1) = false := by rfl)
    (ht : eval (.Call (.Attribute o m apos) (e :: es) [] pos) X.env = (do
      let ov ← eval o X.env
      standAt apos.atName
      let (f, first) ← holding [ov] (getMethod ov m pl)
      callWith pos f first (backTo pos (starEach (e :: es) X.env)) (backToKw pos (keywordEach [] X.env))) := by rfl) :
    PE X (.Call (.Attribute o m apos) (e :: es) [] pos) (tMeth C m sp [] E0 ta t) := by
  obtain ⟨f, fd, hm, hb, hf⟩ := F
  exact pe_meth he c hm hf hr hb .nil pass0 ha hst hpl ht
theorem pe_gi {i : Int} (h : ∃ t, X.mg x = some (.int i t)) (hg : Gl X x) (hd : (x == ("__debug__" : Str)) = false := by decide) : PE X (.Name x pos) (tC (.int i)) := by
  obtain ⟨t, h⟩ := h
  exact pe_glob hg h ⟨t, rfl⟩ hd
end
section
variable {P : Program} {w : World} {K : PySem.W.Frag} {mg : Str → Option Value} {base : Heap}
theorem Cl.of {k : Nat} {ps N : List Str} {sp : Sp} (E : Env K mg) (i j : Nat) {d : He.DefD} (hi : fn[i]? = some d) (hj : fa[j]? = some (.glo d.at_.1)) (h0 : d.at_.2 = none) (h1 : d.dfl = []) (h2 : d.kwd = [])
    (S : FnScope N ps d.scope) (len : ∀ vs H Q E, sp vs H Q E → vs.length = ps.length)
    (hb : ∀ (kV doc pm : Value) (an : Option Addr) (cdv ct : Value) (us : List Value), us.length = ps.length → bindArgs (PySem.W.fnOf d.name d.qual d.params d.body d.scope .none kV doc pm an cdv ct) ⟨us, []⟩ = pure (ps.zip us))
    (hbody : ∀ (f : Addr) (cdv : Value) (A : Around) (outer : List PySem.Env) (s : Shared) (H : Hp) (vs : List V) (Q : VK) (E : XK), Room k (A.deeper (envOfC d.qual d.scope s.heap.objs.size f cdv)) → sp vs H Q E →
      ∃ t, PSs (cxOf CX0 P w K mg base N d.qual d.scope f cdv A outer s H E).nox d.body t ∧ t { nx := fun _ H' => Q .non H', rt := Q } (start N vs) H) : Cl P w K mg base (k + 1) d.at_.1 ps sp := by
  obtain ⟨fd, F⟩ := E.says.def_ i hi
  have e1 : d.dvs K = [] := by unfold He.DefD.dvs; rw [h1]; rfl
  have e2 : d.kws K = [] := by unfold He.DefD.kws; rw [h2]; rfl
  rw [e1, e2] at F
  have e3 : He.fAd K d.at_ = He.ga K d.at_.1 := by unfold He.fAd; rw [h0]
  rw [e3] at F
  exact ⟨_, fd, E.glo j hj, F.kp, F.bindsN hb, F.ok S len fun cdv A outer s H vs Q E r h => let ⟨t, h1, h2⟩ := hbody _ cdv A outer s H vs Q E r h; ⟨t, PSs.nox h1, h2⟩⟩
theorem Md.of {k : Nat} {ps N : List Str} {sp : Sp} {c m : Str} (E : Env K mg) (i j : Nat) {d : He.DefD} (hi : fn[i]? = some d) (hj : fa[j]? = some (.meth c m)) (h0 : d.at_ = (c, some m)) (h1 : d.dfl = []) (h2 : d.kwd = [])
    (S : FnScope N ps d.scope) (len : ∀ vs H Q E, sp vs H Q E → vs.length = ps.length)
    (hb : ∀ (kV doc pm : Value) (an : Option Addr) (cdv ct : Value) (us : List Value), us.length = ps.length → bindArgs (PySem.W.fnOf d.name d.qual d.params d.body d.scope .none kV doc pm an cdv ct) ⟨us, []⟩ = pure (ps.zip us))
    (hbody : ∀ (f : Addr) (cdv : Value) (A : Around) (outer : List PySem.Env) (s : Shared) (H : Hp) (vs : List V) (Q : VK) (E : XK), Room k (A.deeper (envOfC d.qual d.scope s.heap.objs.size f cdv)) → sp vs H Q E →
      ∃ t, PSs (cxOf CX0 P w K mg base N d.qual d.scope f cdv A outer s H E).nox d.body t ∧ t { nx := fun _ H' => Q .non H', rt := Q } (start N vs) H) : Md P w K mg base (k + 1) (He.ga K c) m ps sp := by
  obtain ⟨fd, F⟩ := E.says.def_ i hi
  have e1 : d.dvs K = [] := by unfold He.DefD.dvs; rw [h1]; rfl
  have e2 : d.kws K = [] := by unfold He.DefD.kws; rw [h2]; rfl
  rw [e1, e2] at F
  have e3 : He.fAd K d.at_ = He.ma K (He.ga K c) m := by unfold He.fAd; rw [h0]
  rw [e3] at F
  exact ⟨_, fd, He.meth_ok (E.says.fact j hj), F.bindsN hb, F.ok S len fun cdv A outer s H vs Q E r h => let ⟨t, h1, h2⟩ := hbody _ cdv A outer s H vs Q E r h; ⟨t, PSs.nox h1, h2⟩⟩
theorem Mkr.of {k : Nat} {ps N : List Str} {sp : Sp} {c : Str} (E : Env K mg) (i j l : Nat) {d : He.DefD} (hi : fn[i]? = some d) (hj : fa[j]? = some (.mkr c)) (hl : fa[l]? = some (.glo c)) (h0 : d.at_ = (c, some ("__init__" : Str))) (h1 : d.dfl = []) (h2 : d.kwd = [])
    (S : FnScope N ps d.scope) (len : ∀ vs H Q E, sp vs H Q E → vs.length = ps.length)
    (hb : ∀ (kV doc pm : Value) (an : Option Addr) (cdv ct : Value) (us : List Value), us.length = ps.length → bindArgs (PySem.W.fnOf d.name d.qual d.params d.body d.scope .none kV doc pm an cdv ct) ⟨us, []⟩ = pure (ps.zip us))
    (hbody : ∀ (f : Addr) (cdv : Value) (A : Around) (outer : List PySem.Env) (s : Shared) (H : Hp) (vs : List V) (Q : VK) (E : XK), Room k (A.deeper (envOfC d.qual d.scope s.heap.objs.size f cdv)) → sp vs H Q E →
      ∃ t, PSs (cxOf CX0 P w K mg base N d.qual d.scope f cdv A outer s H E).nox d.body t ∧ t { nx := fun _ H' => Q .non H', rt := Q } (start N vs) H) : Mkr P w K mg base (k + 1) c (He.ga K c) ps sp := by
  obtain ⟨fd, F⟩ := E.says.def_ i hi
  have e1 : d.dvs K = [] := by unfold He.DefD.dvs; rw [h1]; rfl
  have e2 : d.kws K = [] := by unfold He.DefD.kws; rw [h2]; rfl
  rw [e1, e2] at F
  have e3 : He.fAd K d.at_ = He.ma K (He.ga K c) ("__init__" : Str) := by unfold He.fAd; rw [h0]
  rw [e3] at F
  exact ⟨_, fd, E.glo l hl, He.mkr_ok (E.says.fact j hj), F.bindsN hb, F.ok S len fun cdv A outer s H vs Q E r h => let ⟨t, h1, h2⟩ := hbody _ cdv A outer s H vs Q E r h; ⟨t, PSs.nox h1, h2⟩⟩
end
theorem same_new {H : Hp} {p : Addr} (h : H p = none) (o : HO) : Same H (upd H p o) := fun b u q => by rw [upd_ne (ne_of_none q h)]; exact q
theorem Same.sqt {K : PySem.W.Frag} {H H' : Hp} {a : Addr} {xs : List V} (e : Same H H') (h : SqT K H a xs) : SqT K H' a xs := Evl.ex_t e h
abbrev iv (ns : List Int) : List V := ns.map V.int
end Lf
/-! zip over a list or a tuple in any mix, its pairs unpacked or kept under one name; enumerate of a list or a tuple. -/
namespace Lf
open PySem PySem.Spec PyProof.Rows L2
/-! ### a list (true) or a tuple (false), as it is read -/
def Sq (K : PySem.W.Frag) (H : Hp) (b : Bool) (a : Addr) (xs : List V) : Prop := match b with
  | true => SqL K H a xs
  | false => SqT K H a xs
def SqI (b : Bool) (h : Heap) (it a : Addr) (i : Nat) : Prop := match b with
  | true => h.IsListIter it a i
  | false => h.IsTupleIter it a i
def SqH (b : Bool) (h : Heap) (a : Addr) (its : Array Value) : Prop := match b with
  | true => h.IsList a its
  | false => h.IsTuple a its
def itO (b : Bool) (a : Addr) : Obj := match b with
  | true => { cls := .type "list_iterator", data := .fields #[.ref a, .int 0 0] }
  | false => { cls := .type "tuple_iterator", data := .fields #[.ref a, .int 0 0] }
theorem Sq.l {K : PySem.W.Frag} {H : Hp} {a : Addr} {xs : List V} (h : SqL K H a xs) : Sq K H true a xs := h
theorem Sq.t {K : PySem.W.Frag} {H : Hp} {a : Addr} {xs : List V} (h : SqT K H a xs) : Sq K H false a xs := h
theorem Sq.lo {K : PySem.W.Frag} {H : Hp} {a : Addr} {xs : List V} (h : H a = some (.lst xs)) : Sq K H true a xs := SqL.of h
theorem Sq.tu {K : PySem.W.Frag} {H : Hp} {a : Addr} {xs : List V} (h : H a = some (.tup xs)) : Sq K H false a xs := SqT.of h
theorem SqI.at' {b : Bool} {h h' : Heap} {it a : Addr} {i : Nat} (x : SqI b h it a i) (k : ∀ o, h.get? it = some o → h'.get? it = some o) : SqI b h' it a i := by
  cases b
  · exact Heap.IsTupleIter.at x k
  · exact Heap.IsListIter.at x k
theorem SqI.rec_ {b : Bool} {h : Heap} {it a : Addr} {i : Nat} (x : SqI b h it a i) : ∃ o, h.get? it = some o ∧ ∀ v, o.data ≠ .cell v := by
  cases b
  · obtain ⟨o, e, _, d⟩ := x
    exact ⟨o, e, fun v q => by rw [d] at q; cases q⟩
  · obtain ⟨o, e, _, d⟩ := x
    exact ⟨o, e, fun v q => by rw [d] at q; cases q⟩
theorem SqI.new {b : Bool} {h : Heap} {it a : Addr} (e : h.get? it = some (itO b a)) : SqI b h it a 0 := by
  cases b
  · exact ⟨_, e, rfl, rfl⟩
  · exact ⟨_, e, rfl, rfl⟩
section
variable {X : Cx} {pins : List (Addr × Obj)} {σ : L2.St} {H : Hp} {s : Shared} {a : Addr} {xs ys : List V} {b : Bool}
theorem inv_sq (I : Inv X pins σ H s) (h : Sq X.K H b a xs) : ∃ its : List Value, Vals xs its ∧ SqH b s.heap a its.toArray ∧ a < s.heap.objs.size := by
  cases b
  · obtain ⟨its, r, p, _⟩ := I.tuple h
    obtain ⟨o, e, _⟩ := id p
    exact ⟨its, r, p, Heap.lt_size e⟩
  · obtain ⟨its, r, p, _⟩ := I.list h
    exact ⟨its, r, p.isList, p.lt⟩
theorem inv_sq_inj (I : Inv X pins σ H s) (h : Sq X.K H b a xs) (h' : Sq X.K H b a ys) : xs = ys := by
  cases b
  · exact I.tuple_inj h h'
  · exact I.list_inj h h'
end
theorem draws_sq {prog : Program} {w : World} {A : Around} (hh : A.handled = none) (b : Bool) (it a : Addr) (hne : a ≠ it) (its : Array Value) :
    Draws prog w A it [it, a] its.size (fun i v => its[i]? = some v) (fun i h => SqI b h it a i ∧ SqH b h a its) := by
  cases b
  · exact Draws.tuple hh it a hne its
  · exact Draws.list hh it a hne its
theorem begins_sq (b : Bool) (a : Addr) (its : Array Value) : Begins (.ref a) (itO b a) fun h => SqH b h a its := by
  cases b
  · exact begins_tuple a its
  · exact begins_list a its
/-! ### the zip object -/
abbrev Zs (h : Heap) (z TI TO : Addr) (f0 : Value) (f : Bool) : Prop :=
  h.get? z = some { cls := .type "zip", dict := none, data := .fields #[f0, .bool f, .bool false, .ref TI, .ref TO], slots := #[] }
/-- its first field: nothing, or the last pair that it gave out -/
def Fd (f0 : Value) : Prop := f0 = .none ∨ ∃ T : Addr, f0 = rawInt T
section
variable {prog : Program} {w : World} {A : Around} {E : Value → Shared → Prop} {s : Shared} {z TI TO i1 i2 : Addr} {fp1 fp2 : List Addr} {n1 n2 i : Nat} {P1 P2 : Nat → Value → Prop} {St1 St2 : Nat → Heap → Prop} {a1 a2 f0 : Value} {f : Bool}
/-- whether the pair that it owns is free: both answers -/
theorem zs_free {Q : Bool → Shared → Prop} (hz : Zs s.heap z TI TO f0 f) (hf : Fd f0) (h1 : Q true s) (h2 : ∀ h', Zs h' z TI TO f0 true → Heap.SameBut z s.heap h' → Q false { s with heap := h' }) :
    wpAny (model prog w) A (Builtin.SmallTypes.ownedTupleIsFree (.ref z)) Q E s := by
  unfold Builtin.SmallTypes.ownedTupleIsFree
  rcases hf with rfl | ⟨T, rfl⟩
  · exact wpAny_bind (wpAny_field hz rfl (x := .none) rfl (wpAny_pure h1))
  · refine wpAny_bind (wpAny_field hz rfl (x := rawInt T) rfl ?_)
    show wpAny _ _ (loadIfAlive ((T : Int).toNat) >>= _) _ _ _
    rw [Int.toNat_natCast]
    cases e : s.heap.get? T with
    | none =>
      have k : wpAny (model prog w) A (loadIfAlive T) (fun r s' => r = none ∧ s' = s) E s := fun _ _ _ => ⟨e, rfl⟩
      refine wpAny_bind (wpAny_mono k ?_ fun _ _ q => q)
      rintro r s' ⟨rfl, rfl⟩
      exact wpAny_pure h1
    | some o =>
      refine wpAny_bind (PySem.W.kdx_alive e ?_)
      simp only [Option.isNone_some, Bool.false_eq_true, if_false]
      refine wpAny_bind (wpAny_field hz rfl (x := .bool f) rfl ?_)
      cases f with
      | true => exact wpAny_pure (h2 s.heap hz (Heap.SameBut.refl _ _))
      | false => exact wpAny_bind (wpAny_setField_rec hz (by simp) fun g hg hs => wpAny_pure (h2 g hg hs))
/-- what is behind a turn: the iterators one further, the new pair last in the heap -/
structure ZEnd (h h' : Heap) (z TI TO : Addr) (x1 x2 : Value) (St1 St2 : Heap → Prop) (i1 i2 : Addr) : Prop where
  zs : ∃ f0 f, Fd f0 ∧ Zs h' z TI TO f0 f
  own : ∃ y1 y2, IsTupOf2 h' TO y1 y2
  s1 : St1 h'
  s2 : St2 h'
  pair : IsTupOf2 h' h.objs.size x1 x2
  keep : ∀ c o, c ≠ z → c ≠ TO → c ≠ i1 → c ≠ i2 → h.get? c = some o → h'.get? c = some o
theorem zs_next_item {Q : Value → Shared → Prop} (S : ZipSep2 z TI TO i1 i2 fp1 fp2) (D1 : Draws prog w A i1 fp1 n1 P1 St1) (D2 : Draws prog w A i2 fp2 n2 P2 St2) (hz : Zs s.heap z TI TO f0 f) (hf : Fd f0) (hTI : IsTupOf2 s.heap TI (.ref i1) (.ref i2))
    (hTO : IsTupOf2 s.heap TO a1 a2) (st1 : St1 i s.heap) (st2 : St2 i s.heap) (l1 : i < n1) (l2 : i < n2)
    (hQ : ∀ x1 x2 h' tk, P1 i x1 → P2 i x2 → ZEnd s.heap h' z TI TO x1 x2 (St1 (i + 1)) (St2 (i + 1)) i1 i2 → Q (.ref s.heap.objs.size) { s with heap := h', toks := tk }) :
    wpAny (model prog w) A (Builtin.«zip.__next__» ⟨[.ref z], []⟩) (fun fin s' => ∃ v, fin = .done (.ret v) ∧ Q v s') E s := by
  obtain ⟨q0, g, d, t0, os⟩ := s
  show wpAny _ _ (field (.ref z) 2 >>= _) _ _ _
  refine wpAny_bind (wpAny_field hz rfl (x := .bool false) rfl ?_)
  show wpAny _ _ (field (.ref z) 3 >>= _) _ _ _
  refine wpAny_bind (wpAny_field hz rfl (x := .ref TI) rfl (wpAny_bind (wpAny_seqItems hTI rfl ?_)))
  show wpAny _ _ (Builtin.SmallTypes.ownedTupleIsFree (.ref z) >>= _) _ _ _
  refine wpAny_bind (zs_free hz hf ?_ fun q1 z1 k1 => ?_)
  · -- the pair is free: it is filled anew
    simp only [if_true]
    refine wpAny_bind (wpAny_rule (wpAny_bind (wpAny_field hz rfl (x := .ref TO) rfl (wpAny_bind (wpAny_setField_rec hz (by simp) fun q1 z1 k1 => ?_)))))
    replace z1 : Zs q1 z TI TO .ellipsis f := z1
    replace k1 : Heap.SameBut z q0 q1 := k1
    refine wpAny_bind ?_
    simp only [List.zipIdx_cons, List.zipIdx_nil, List.forIn_cons, List.forIn_nil]
    refine wpAny_bind (wpAny_bind (wpAny_onRaise ?_))
    show wpAny _ _ (Builtin.SmallTypes.nextOf (.ref i1) >>= _) _ _ ⟨q1, g, d, t0, os⟩
    refine wpAny_bind (D1.item i _ _ _ l1 (D1.over st1 k1 S.zf1) fun x1 q2 t1 e1 m1 k2 => wpAny_pure ?_)
    replace k2 : Heap.SameBut i1 q1 q2 := k2
    have u1 : IsTupOf2 q2 TO a1 a2 := k2.extBut _ _ S.Ti1 (k1.extBut _ _ S.TOz hTO)
    refine wpAny_bind (wpAny_seqItems (s := ⟨q2, g, d, t1, os⟩) u1 rfl (wpAny_bind (updateSeq_IsTupOf2 (s := ⟨q2, g, d, t1, os⟩) u1 fun q3 v1 k3 => ?_)))
    replace v1 : IsTupOf2 q3 TO x1 a2 := v1
    replace k3 : Heap.SameBut TO q2 q3 := k3
    refine wpAny_bind (wpAny_letGo (wpAny_pure (wpAny_bind (wpAny_bind (wpAny_onRaise ?_)))))
    show wpAny _ _ (Builtin.SmallTypes.nextOf (.ref i2) >>= _) _ _ ⟨q3, g, d, t1, os⟩
    refine wpAny_bind (D2.item i _ _ _ l2 (D2.over (D2.over (D2.over st2 k1 S.zf2) k2 S.sep1_2) k3 S.Tf2) fun x2 q4 t2 e2 m2 k4 => wpAny_pure ?_)
    replace k4 : Heap.SameBut i2 q3 q4 := k4
    have u2 : IsTupOf2 q4 TO x1 a2 := k4.extBut _ _ S.Ti2 v1
    refine wpAny_bind (wpAny_seqItems (s := ⟨q4, g, d, t2, os⟩) u2 rfl (wpAny_bind (updateSeq_IsTupOf2 (s := ⟨q4, g, d, t2, os⟩) u2 fun q5 v2 k5 => ?_)))
    replace v2 : IsTupOf2 q5 TO x1 x2 := v2
    replace k5 : Heap.SameBut TO q4 q5 := k5
    refine wpAny_bind (wpAny_letGo (wpAny_pure (wpAny_pure (wpAny_bind (wpAny_seqItems (s := ⟨q5, g, d, t2, os⟩) v2 rfl (wpAny_bind (wpAny_newTuple ?_)))))))
    have sz : q5.objs.size = q0.objs.size := by rw [k5.1, k4.1, k3.1, k2.1, k1.1]
    have z5 : Zs q5 z TI TO .ellipsis f := k5.extBut _ _ S.TOz.symm (k4.extBut _ _ S.zi2 (k3.extBut _ _ S.TOz.symm (k2.extBut _ _ S.zi1 z1)))
    have j1 : St1 (i + 1) q5 := D1.over (D1.over (D1.over m1 k3 S.Tf1) k4 S.sep2_1) k5 S.Tf1
    have j2 : St2 (i + 1) q5 := D2.over m2 k5 S.Tf2
    have zl : z < q5.objs.size := Heap.lt_size z5
    show wpAny _ _ (Builtin.SmallTypes.ownedTupleHandOut (.ref z) (.ref q5.objs.size) >>= _) _ _ ⟨q5.push { cls := .type "tuple", data := .seq #[x1, x2] }, g, d, t2, os⟩
    refine wpAny_bind ?_
    unfold Builtin.SmallTypes.ownedTupleHandOut
    have z6 : Zs (q5.push { cls := .type "tuple", data := .seq #[x1, x2] }) z TI TO .ellipsis f := Heap.get?_push_of_some _ z5
    refine wpAny_bind (wpAny_setField_rec z6 (by simp) fun q7 z7 k7 => ?_)
    replace z7 : Zs q7 z TI TO (rawInt q5.objs.size) f := z7
    replace k7 : Heap.SameBut z (q5.push { cls := .type "tuple", data := .seq #[x1, x2] }) q7 := k7
    refine wpAny_setField_rec z7 (by simp) fun q8 z8 k8 => ?_
    replace z8 : Zs q8 z TI TO (rawInt q5.objs.size) false := z8
    replace k8 : Heap.SameBut z q7 q8 := k8
    have up : ∀ c o, c ≠ z → q5.get? c = some o → q8.get? c = some o := fun c o c1 e => k8.extBut _ _ c1 (k7.extBut _ _ c1 (Heap.get?_push_of_some _ e))
    have T8 : IsTupOf2 q8 q5.objs.size x1 x2 := k8.extBut _ _ (Nat.ne_of_gt zl) (k7.extBut _ _ (Nat.ne_of_gt zl) (Heap.get?_push_size _ rfl))
    refine wpAny_pure ⟨_, rfl, ?_⟩
    show Q (.ref q5.objs.size) ⟨q8, g, d, t2, os⟩
    rw [sz] at T8 ⊢
    exact hQ x1 x2 q8 t2 e1 e2 ⟨⟨_, _, .inr ⟨_, rfl⟩, z8⟩, ⟨_, _, up _ _ S.TOz v2⟩, D1.frame _ _ _ j1 fun b hb o e => up b o (fun q => S.zf1 (q ▸ hb)) e, D2.frame _ _ _ j2 fun b hb o e => up b o (fun q => S.zf2 (q ▸ hb)) e, T8,
      fun c o cz cT c1 c2 e => up c o cz (k5.extBut _ _ cT (k4.extBut _ _ c2 (k3.extBut _ _ cT (k2.extBut _ _ c1 (k1.extBut _ _ cz e)))))⟩
  · -- the pair is held: a new one
    replace z1 : Zs q1 z TI TO f0 true := z1
    replace k1 : Heap.SameBut z q0 q1 := k1
    simp only [Bool.false_eq_true, if_false]
    refine wpAny_bind ?_
    rw [← Array.forIn_toList]
    simp only [List.forIn_cons, List.forIn_nil]
    refine wpAny_bind (wpAny_bind (wpAny_holding ?_))
    show wpAny _ _ (Builtin.SmallTypes.nextOf (.ref i1) >>= _) _ _ ⟨q1, g, d, t0, os⟩
    refine wpAny_bind (D1.item i _ _ _ l1 (D1.over st1 k1 S.zf1) fun x1 q2 t1 e1 m1 k2 => wpAny_pure (wpAny_pure ?_))
    replace k2 : Heap.SameBut i1 q1 q2 := k2
    refine wpAny_bind (wpAny_bind (wpAny_holding ?_))
    show wpAny _ _ (Builtin.SmallTypes.nextOf (.ref i2) >>= _) _ _ ⟨q2, g, d, t1, os⟩
    refine wpAny_bind (D2.item i _ _ _ l2 (D2.over (D2.over st2 k1 S.zf2) k2 S.sep1_2) fun x2 q4 t2 e2 m2 k4 => wpAny_pure (wpAny_pure (wpAny_pure ?_)))
    replace k4 : Heap.SameBut i2 q2 q4 := k4
    show wpAny _ _ (newTuple [x1, x2] >>= _) _ _ _
    refine wpAny_bind (wpAny_newTuple ?_)
    have sz : q4.objs.size = q0.objs.size := by rw [k4.1, k2.1, k1.1]
    have z5 : Zs q4 z TI TO f0 true := k4.extBut _ _ S.zi2 (k2.extBut _ _ S.zi1 z1)
    have up : ∀ c o, q4.get? c = some o → (q4.push { cls := .type "tuple", data := .seq #[x1, x2] }).get? c = some o := fun c o e => Heap.get?_push_of_some _ e
    refine wpAny_pure ⟨_, rfl, ?_⟩
    show Q (.ref q4.objs.size) ⟨q4.push { cls := .type "tuple", data := .seq #[x1, x2] }, g, d, t2, os⟩
    have T8 : IsTupOf2 (q4.push { cls := .type "tuple", data := .seq #[x1, x2] }) q4.objs.size x1 x2 := Heap.get?_push_size _ rfl
    have O1 : IsTupOf2 q4 TO a1 a2 := k4.extBut _ _ S.Ti2 (k2.extBut _ _ S.Ti1 (k1.extBut _ _ S.TOz hTO))
    have key : ∀ N, N = q0.objs.size → IsTupOf2 (q4.push { cls := .type "tuple", data := .seq #[x1, x2] }) N x1 x2 → Q (.ref N) ⟨q4.push { cls := .type "tuple", data := .seq #[x1, x2] }, g, d, t2, os⟩ := by
      rintro N rfl TN
      exact hQ x1 x2 _ t2 e1 e2 ⟨⟨f0, true, hf, up _ _ z5⟩, ⟨_, _, up _ _ O1⟩, D1.frame _ _ _ (D1.over m1 k4 S.sep2_1) fun b _ o e => up b o e, D2.frame _ _ _ m2 fun b _ o e => up b o e, TN,
        fun c o cz _ c1 c2 e => up c o (k4.extBut _ _ c2 (k2.extBut _ _ c1 (k1.extBut _ _ cz e)))⟩
    exact key _ sz T8
theorem zs_next_end {Q : Fin → Shared → Prop} (S : ZipSep2 z TI TO i1 i2 fp1 fp2) (D1 : Draws prog w A i1 fp1 n1 P1 St1) (D2 : Draws prog w A i2 fp2 n2 P2 St2) (hz : Zs s.heap z TI TO f0 f) (hf : Fd f0) (hTI : IsTupOf2 s.heap TI (.ref i1) (.ref i2))
    (hTO : IsTupOf2 s.heap TO a1 a2) (st1 : St1 i s.heap) (st2 : St2 i s.heap) (l1 : i ≤ n1) (l2 : i ≤ n2) (hend : i = n1 ∨ i = n2)
    (hE : ∀ h' tk e, (∀ c o, c ≠ z → c ≠ TO → c ≠ i1 → c ≠ i2 → s.heap.get? c = some o → h'.get? c = some o) → (∃ o, h'.get? e = some o ∧ o.cls = .type "StopIteration") → E (.ref e) { s with heap := h', toks := tk }) :
    wpAny (model prog w) A (Builtin.«zip.__next__» ⟨[.ref z], []⟩) Q E s := by
  obtain ⟨q0, g, d, t0, os⟩ := s
  show wpAny _ _ (field (.ref z) 2 >>= _) _ _ _
  refine wpAny_bind (wpAny_field hz rfl (x := .bool false) rfl ?_)
  show wpAny _ _ (field (.ref z) 3 >>= _) _ _ _
  refine wpAny_bind (wpAny_field hz rfl (x := .ref TI) rfl (wpAny_bind (wpAny_seqItems hTI rfl ?_)))
  show wpAny _ _ (Builtin.SmallTypes.ownedTupleIsFree (.ref z) >>= _) _ _ _
  refine wpAny_bind (zs_free hz hf ?_ fun q1 z1 k1 => ?_)
  · simp only [if_true]
    refine wpAny_bind (wpAny_rule (wpAny_bind (wpAny_field hz rfl (x := .ref TO) rfl (wpAny_bind (wpAny_setField_rec hz (by simp) fun q1 z1 k1 => ?_)))))
    replace z1 : Zs q1 z TI TO .ellipsis f := z1
    replace k1 : Heap.SameBut z q0 q1 := k1
    refine wpAny_bind ?_
    simp only [List.zipIdx_cons, List.zipIdx_nil, List.forIn_cons, List.forIn_nil]
    refine wpAny_bind (wpAny_bind (wpAny_onRaise ?_))
    show wpAny _ _ (Builtin.SmallTypes.nextOf (.ref i1) >>= _) _ _ ⟨q1, g, d, t0, os⟩
    by_cases c1 : i < n1
    · refine wpAny_bind (D1.item i _ _ _ c1 (D1.over st1 k1 S.zf1) fun x1 q2 t1 e1 m1 k2 => wpAny_pure ?_)
      replace k2 : Heap.SameBut i1 q1 q2 := k2
      have u1 : IsTupOf2 q2 TO a1 a2 := k2.extBut _ _ S.Ti1 (k1.extBut _ _ S.TOz hTO)
      refine wpAny_bind (wpAny_seqItems (s := ⟨q2, g, d, t1, os⟩) u1 rfl (wpAny_bind (updateSeq_IsTupOf2 (s := ⟨q2, g, d, t1, os⟩) u1 fun q3 v1 k3 => ?_)))
      replace k3 : Heap.SameBut TO q2 q3 := k3
      refine wpAny_bind (wpAny_letGo (wpAny_pure (wpAny_bind (wpAny_bind (wpAny_onRaise ?_)))))
      show wpAny _ _ (Builtin.SmallTypes.nextOf (.ref i2) >>= _) _ _ ⟨q3, g, d, t1, os⟩
      have c2 : i = n2 := by omega
      refine wpAny_bind (D2.done ⟨q3, g, d, t1, os⟩ _ _ (by rw [← c2]; exact D2.over (D2.over (D2.over st2 k1 S.zf2) k2 S.sep1_2) k3 S.Tf2) fun q4 e k4 he => ?_)
      replace k4 : Heap.ExtBut i2 q3 q4 := k4
      obtain ⟨oe, oe1, oe2⟩ := he
      replace oe1 : q4.get? e = some oe := oe1
      have z4 : Zs q4 z TI TO .ellipsis f := k4 _ _ S.zi2 (k3.extBut _ _ S.TOz.symm (k2.extBut _ _ S.zi1 z1))
      have ez : e ≠ z := fun x => by subst x; rw [z4] at oe1; cases oe1; simp at oe2
      refine wpAny_setField_rec (s := ⟨q4, g, d, t1, os⟩) z4 (by simp) fun q5 _ k5 => ?_
      replace k5 : Heap.SameBut z q4 q5 := k5
      exact hE q5 t1 e (fun c o cz cT c1 c2 x => k5.extBut _ _ cz (k4 _ _ c2 (k3.extBut _ _ cT (k2.extBut _ _ c1 (k1.extBut _ _ cz x))))) ⟨oe, k5.extBut _ _ ez oe1, oe2⟩
    · have c2 : i = n1 := by omega
      refine wpAny_bind (D1.done ⟨q1, g, d, t0, os⟩ _ _ (by rw [← c2]; exact D1.over st1 k1 S.zf1) fun q4 e k4 he => ?_)
      replace k4 : Heap.ExtBut i1 q1 q4 := k4
      obtain ⟨oe, oe1, oe2⟩ := he
      replace oe1 : q4.get? e = some oe := oe1
      have z4 : Zs q4 z TI TO .ellipsis f := k4 _ _ S.zi1 z1
      have ez : e ≠ z := fun x => by subst x; rw [z4] at oe1; cases oe1; simp at oe2
      refine wpAny_setField_rec (s := ⟨q4, g, d, t0, os⟩) z4 (by simp) fun q5 _ k5 => ?_
      replace k5 : Heap.SameBut z q4 q5 := k5
      exact hE q5 t0 e (fun c o cz cT c1 c2 x => k5.extBut _ _ cz (k4 _ _ c1 (k1.extBut _ _ cz x))) ⟨oe, k5.extBut _ _ ez oe1, oe2⟩
  · replace k1 : Heap.SameBut z q0 q1 := k1
    simp only [Bool.false_eq_true, if_false]
    refine wpAny_bind ?_
    rw [← Array.forIn_toList]
    simp only [List.forIn_cons, List.forIn_nil]
    refine wpAny_bind (wpAny_bind (wpAny_holding ?_))
    show wpAny _ _ (Builtin.SmallTypes.nextOf (.ref i1) >>= _) _ _ ⟨q1, g, d, t0, os⟩
    by_cases c1 : i < n1
    · refine wpAny_bind (D1.item i _ _ _ c1 (D1.over st1 k1 S.zf1) fun x1 q2 t1 e1 m1 k2 => wpAny_pure (wpAny_pure ?_))
      replace k2 : Heap.SameBut i1 q1 q2 := k2
      refine wpAny_bind (wpAny_bind (wpAny_holding ?_))
      show wpAny _ _ (Builtin.SmallTypes.nextOf (.ref i2) >>= _) _ _ ⟨q2, g, d, t1, os⟩
      have c2 : i = n2 := by omega
      refine wpAny_bind (D2.done ⟨q2, g, d, t1, os⟩ _ _ (by rw [← c2]; exact D2.over (D2.over st2 k1 S.zf2) k2 S.sep1_2) fun q4 e k4 he => ?_)
      replace k4 : Heap.ExtBut i2 q2 q4 := k4
      exact hE q4 t1 e (fun c o cz _ c1 c2 x => k4 _ _ c2 (k2.extBut _ _ c1 (k1.extBut _ _ cz x))) he
    · have c2 : i = n1 := by omega
      refine wpAny_bind (D1.done ⟨q1, g, d, t0, os⟩ _ _ (by rw [← c2]; exact D1.over st1 k1 S.zf1) fun q4 e k4 he => ?_)
      replace k4 : Heap.ExtBut i1 q1 q4 := k4
      exact hE q4 t0 e (fun c o cz _ c1 _ x => k4 _ _ c1 (k1.extBut _ _ cz x)) he
end
end Lf
/-! zip and enumerate as walks of the layer; loops and comprehensions over any walk. -/
namespace Lf
open PySem PySem.Spec PyProof.Rows L2
section
variable {prog : Program} {w : World} {A : Around} {E : Value → Shared → Prop} {s : Shared} {z TI TO i1 i2 : Addr} {fp1 fp2 : List Addr} {n1 n2 i : Nat} {P1 P2 : Nat → Value → Prop} {St1 St2 : Nat → Heap → Prop} {a1 a2 f0 : Value} {f : Bool}
theorem zs_pyNext_item {Q : Option Value → Shared → Prop} (S : ZipSep2 z TI TO i1 i2 fp1 fp2) (D1 : Draws prog w A.in1 i1 fp1 n1 P1 St1) (D2 : Draws prog w A.in1 i2 fp2 n2 P2 St2) (hz : Zs s.heap z TI TO f0 f) (hf : Fd f0) (hTI : IsTupOf2 s.heap TI (.ref i1) (.ref i2))
    (hTO : IsTupOf2 s.heap TO a1 a2) (st1 : St1 i s.heap) (st2 : St2 i s.heap) (l1 : i < n1) (l2 : i < n2)
    (hQ : ∀ x1 x2 h' tk, P1 i x1 → P2 i x2 → ZEnd s.heap h' z TI TO x1 x2 (St1 (i + 1)) (St2 (i + 1)) i1 i2 → Q (some (.ref s.heap.objs.size)) { s with heap := h', toks := tk }) : wpAny (model prog w) A (pyNext (.ref z)) Q E s := by
  have ty : s.TypeIs (.ref z) "zip" := ⟨_, hz, rfl⟩
  unfold pyNext
  exact wpAny_bind (wpAny_attempt (wpAny_callSpecial?_slot (name := Str.ofString "__next__") ty F.slot_zip_next
    (wpAny_call_entry F.slot_zip_next ty F.entry_zip_next (zs_next_item S D1 D2 hz hf hTI hTO st1 st2 l1 l2 fun x1 x2 h' tk e1 e2 N => wpAny_pure (hQ x1 x2 h' tk e1 e2 N)) (F.args_zip_next_1 _))))
theorem zs_pyNext_end {Q : Option Value → Shared → Prop} (S : ZipSep2 z TI TO i1 i2 fp1 fp2) (D1 : Draws prog w A.in1 i1 fp1 n1 P1 St1) (D2 : Draws prog w A.in1 i2 fp2 n2 P2 St2) (hz : Zs s.heap z TI TO f0 f) (hf : Fd f0) (hTI : IsTupOf2 s.heap TI (.ref i1) (.ref i2))
    (hTO : IsTupOf2 s.heap TO a1 a2) (st1 : St1 i s.heap) (st2 : St2 i s.heap) (l1 : i ≤ n1) (l2 : i ≤ n2) (hend : i = n1 ∨ i = n2)
    (hQ : ∀ h' tk, (∀ c o, c ≠ z → c ≠ TO → c ≠ i1 → c ≠ i2 → s.heap.get? c = some o → h'.get? c = some o) → Q none { s with heap := h', toks := tk }) : wpAny (model prog w) A (pyNext (.ref z)) Q E s := by
  have ty : s.TypeIs (.ref z) "zip" := ⟨_, hz, rfl⟩
  unfold pyNext
  refine wpAny_bind (wpAny_attempt (wpAny_callSpecial?_slot (name := Str.ofString "__next__") ty F.slot_zip_next
    (wpAny_call_entry F.slot_zip_next ty F.entry_zip_next (zs_next_end S D1 D2 hz hf hTI hTO st1 st2 l1 l2 hend fun h' tk e hk he => ?_) (F.args_zip_next_1 _))))
  obtain ⟨o, ho, hc⟩ := he
  exact wpAny_bind (wpAny_isInstance (T := "StopIteration") (b := true) ⟨o, ho, hc⟩ isSubtype_stop (wpAny_pure (hQ _ _ hk)))
/-- the step ahead of the store: the zip's pair may be let go -/
theorem zs_go {tg : Expr} {T : Addr} {Q : Unit → Shared → Prop} (hz : Zs s.heap z TI TO f0 f) (hf : Fd f0) (hQ : ∀ h' g0, Fd g0 → Zs h' z TI TO g0 f → Heap.SameBut z s.heap h' → Q () { s with heap := h' }) :
    wpAny (model prog w) A (letOwnedTupleGo tg (.ref z) (.ref T)) Q E s := by
  have keep : wpAny (model prog w) A (pure ()) Q E s := wpAny_pure (hQ s.heap f0 hf hz (Heap.SameBut.refl _ _))
  have two : wpAny (model prog w) A (do
      let o ← load z
      match o.cls, o.data with
      | .type n, .fields vs =>
        if ["enumerate", "zip", "dict_itemiterator", "dict_reverseitemiterator", "odict_iterator", "itertools.zip_longest", "itertools.pairwise"].contains n && vs[0]? == some (rawInt T) then
          rule "for.unpacks-the-owned-tuple"
          updateField z 0 .none
      | _, _ => pure ()) Q E s := by
    refine wpAny_bind (wpAny_load hz ?_)
    show wpAny _ A (if (["enumerate", "zip", "dict_itemiterator", "dict_reverseitemiterator", "odict_iterator", "itertools.zip_longest", "itertools.pairwise"].contains "zip" &&
      (#[f0, .bool f, .bool false, .ref TI, .ref TO] : Array Value)[0]? == some (rawInt T)) = true then _ else _) Q E s
    split
    · refine wpAny_bind (wpAny_rule ?_)
      show wpAny _ A (setField (.ref z) 0 .none) Q E s
      exact wpAny_setField_rec hz (by simp) fun h' z' k => hQ h' .none (.inl rfl) z' k
    · exact keep
  cases tg
  case Tuple => exact two
  case List => exact two
  all_goals exact keep
end
/-- the sequences at a and c as they stand at each turn, the items in new pairs -/
def Itm (K : PySem.W.Frag) (b1 b2 : Bool) (a c : Addr) : It :=
  ⟨fun i H => ∃ (xs ys : List V) (x y : V), Sq K H b1 a xs ∧ Sq K H b2 c ys ∧ xs[i]? = some x ∧ ys[i]? = some y,
    fun i H v H' => ∃ T x y, v = .ref T ∧ H T = none ∧ H' = upd H T (.tup [x, y]) ∧ (∀ xs, Sq K H b1 a xs → xs[i]? = some x) ∧ ∀ ys, Sq K H b2 c ys → ys[i]? = some y,
    fun i H => ∃ xs ys : List V, Sq K H b1 a xs ∧ Sq K H b2 c ys ∧ i ≤ xs.length ∧ i ≤ ys.length ∧ (i = xs.length ∨ i = ys.length)⟩
theorem turn_zipM {P : Program} {w : World} {K : PySem.W.Frag} {tg : Expr} {b1 b2 : Bool} {a c z TI TO i1 i2 : Addr} (S : ZipSep2 z TI TO i1 i2 [i1, a] [i2, c]) (na : a ≠ i1) (nc : c ≠ i2) :
    Turn P w K tg (Itm K b1 b2 a c) [z, TI, TO, i1, i2] z (fun i h => (∃ f0 f, Fd f0 ∧ Zs h z TI TO f0 f) ∧ IsTupOf2 h TI (.ref i1) (.ref i2) ∧ (∃ x y, IsTupOf2 h TO x y) ∧ SqI b1 h i1 a i ∧ SqI b2 h i2 c i) where
  mem := by simp
  obj := fun i h st p hp => by
    obtain ⟨⟨f0, f, _, hz⟩, hTI, ⟨x, y, hTO⟩, h1, h2⟩ := st
    have e' : p = z ∨ p = TI ∨ p = TO ∨ p = i1 ∨ p = i2 := by simpa using hp
    rcases e' with q | q | q | q | q <;> subst q
    · exact ⟨_, hz, fun v q => nomatch q⟩
    · exact ⟨_, hTI, fun v q => nomatch q⟩
    · exact ⟨_, hTO, fun v q => nomatch q⟩
    · exact h1.rec_
    · exact h2.rec_
  keep := fun i h h' st k => by
    obtain ⟨⟨f0, f, hf, hz⟩, hTI, ⟨x, y, hTO⟩, h1, h2⟩ := st
    exact ⟨⟨f0, f, hf, k z (by simp) _ hz⟩, k TI (by simp) _ hTI, ⟨x, y, k TO (by simp) _ hTO⟩, h1.at' fun o q => k i1 (by simp) o q, h2.at' fun o q => k i2 (by simp) o q⟩
  item := by
    intro X hP hw hK hc i pins s σ H E I hf st hg
    subst hP hw hK
    obtain ⟨⟨f0, f, hf0, hz⟩, hTI, ⟨x0, y0, hTO⟩, h1, h2⟩ := st
    obtain ⟨xs, ys, x, y, qx, qy, hx, hy⟩ := hg
    obtain ⟨us, r1, p1, _⟩ := inv_sq I qx
    obtain ⟨vs, r2, p2, _⟩ := inv_sq I qy
    obtain ⟨u, eu, ru⟩ := r1.get hx
    obtain ⟨v, ev, rv⟩ := r2.get hy
    have hh : X.A.in1.handled = none := I.ok.hd hc
    have lu : i < us.toArray.size := by
      rw [List.size_toArray]
      exact (List.getElem?_eq_some_iff.mp eu).1
    have lv : i < vs.toArray.size := by
      rw [List.size_toArray]
      exact (List.getElem?_eq_some_iff.mp ev).1
    have zl : z < s.heap.objs.size := Heap.lt_size hz
    refine zs_pyNext_item S (draws_sq hh b1 i1 a na us.toArray) (draws_sq hh b2 i2 c nc vs.toArray) hz hf0 hTI hTO ⟨h1, p1⟩ ⟨h2, p2⟩ lu lv fun u' v' h' tk e1 e2 N => ?_
    rw [List.getElem?_toArray, eu] at e1
    rw [List.getElem?_toArray, ev] at e2
    cases e1
    cases e2
    obtain ⟨g0, g, hg0, hz'⟩ := N.zs
    refine ⟨_, rfl, zs_go (s := { s with heap := h', toks := tk }) hz' hg0 fun h'' g1 hg1 hz'' sb => ?_⟩
    have sb' : Heap.SameBut z h' h'' := sb
    have T2 : h''.get? s.heap.objs.size = some { cls := .type "tuple", data := .seq #[u, v] } := (sb'.2 _ (Nat.ne_of_gt zl)).trans N.pair
    have new : ObjOk X.prog X.w (upd H s.heap.objs.size (.tup [x, y])) h'' s.heap.objs.size (.tup [x, y]) :=
      ⟨by show 2 ≤ sizeLine; decide, [u, v], .cons ru (.cons rv .nil), ⟨_, T2, rfl, _, rfl⟩⟩
    have I1 : Inv X pins σ (upd H s.heap.objs.size (.tup [x, y])) { s with heap := h'', toks := tk } :=
      I.turnedNew (ch := [z, TI, TO, i1, i2]) (fun p o hb q => (sb'.2 p (fun e => hb (by simp [e]))).trans (N.keep p o (fun e => hb (by simp [e])) (fun e => hb (by simp [e])) (fun e => hb (by simp [e])) (fun e => hb (by simp [e])) q)) hf (Nat.le_refl _) new
    obtain ⟨y1, y2, TO'⟩ := N.own
    refine ⟨.ref s.heap.objs.size, _, I1, rfl, ⟨_, x, y, rfl, I.hok.fresh (Nat.le_refl _), rfl, fun l hl => by rw [inv_sq_inj I hl qx]; exact hx, fun l hl => by rw [inv_sq_inj I hl qy]; exact hy⟩, ⟨⟨g1, g, hg1, hz''⟩, ?_, ⟨y1, y2, ?_⟩, ?_, ?_⟩, fun p hp => ?_⟩
    · exact (sb'.2 _ S.TIz).trans (N.keep _ _ S.TIz S.TITO S.TIi1 S.TIi2 hTI)
    · exact (sb'.2 _ S.TOz).trans TO'
    · exact N.s1.1.at' fun o q => (sb'.2 _ S.zi1.symm).trans q
    · exact N.s2.1.at' fun o q => (sb'.2 _ S.zi2.symm).trans q
    · have lt : p < s.heap.objs.size := by
        have e' : p = z ∨ p = TI ∨ p = TO ∨ p = i1 ∨ p = i2 := by simpa using hp
        rcases e' with q | q | q | q | q <;> subst q
        · exact zl
        · exact Heap.lt_size hTI
        · exact Heap.lt_size hTO
        · obtain ⟨_, e1, _⟩ := h1.rec_
          exact Heap.lt_size e1
        · obtain ⟨_, e2, _⟩ := h2.rec_
          exact Heap.lt_size e2
      rw [upd_ne (Nat.ne_of_lt lt)]
      exact (hf p hp).1
  done := by
    intro X hP hw hK hc i pins s σ H E I hf st hg
    subst hP hw hK
    obtain ⟨⟨f0, f, hf0, hz⟩, hTI, ⟨x0, y0, hTO⟩, h1, h2⟩ := st
    obtain ⟨xs, ys, qx, qy, l1, l2, hend⟩ := hg
    obtain ⟨us, r1, p1, _⟩ := inv_sq I qx
    obtain ⟨vs, r2, p2, _⟩ := inv_sq I qy
    have hh : X.A.in1.handled = none := I.ok.hd hc
    have e1 : us.toArray.size = xs.length := by rw [List.size_toArray]; exact r1.length.symm
    have e2 : vs.toArray.size = ys.length := by rw [List.size_toArray]; exact r2.length.symm
    exact zs_pyNext_end S (draws_sq hh b1 i1 a na us.toArray) (draws_sq hh b2 i2 c nc vs.toArray) hz hf0 hTI hTO ⟨h1, p1⟩ ⟨h2, p2⟩ (by rw [e1]; exact l1) (by rw [e2]; exact l2) (by rw [e1, e2]; exact hend) fun h' tk k =>
      ⟨rfl, I.turnedL (t' := tk) (ch := [z, TI, TO, i1, i2]) (fun p o hb q => k p o (fun e => hb (by simp [e])) (fun e => hb (by simp [e])) (fun e => hb (by simp [e])) (fun e => hb (by simp [e])) q) hf⟩
  self := fun A i s Q E st h => by
    obtain ⟨⟨f0, f, _, hz⟩, _⟩ := st
    have ty : s.TypeIs (.ref z) "zip" := ⟨_, hz, rfl⟩
    refine wpAny_pyIter_slot ty F.slot_zip_iter (wpAny_call_entry F.slot_zip_iter ty F.entry_zip_iter ?_ (F.args_zip_iter_1 _))
    show wpAny _ _ (ret (.ref z)) _ _ s
    exact wpAny_pure ⟨_, rfl, "zip", _, ty, F.slot_zip_next.lookup, h⟩
def iZipM (K : PySem.W.Frag) (ta : TA) : TI := fun σ H R => ta σ H fun vs H1 => ∃ a c xs ys b1 b2, vs = [.ref a, .ref c] ∧ Sq K H1 b1 a xs ∧ Sq K H1 b2 c ys ∧ R (Itm K b1 b2 a c) H1
theorem pi_zipM {X : Cx} {tg e e2 : Expr} {ta : TA} {p pos : Pos} (hg : Gl X "zip") (hm : X.mg "zip" = none) (ha : PA X [e, e2] ta)
    (hs : starEach [e, e2] X.env = (false, eval e X.env) :: starEach [e2] X.env := by rfl) (hpl : (backTo pos (starEach [e2] X.env)).any (·.1) = false := by rfl) :
    PI X tg (.Call (.Name "zip" p) [e, e2] [] pos) (iZipM X.K ta) := by
  refine ⟨fun pins s σ H R I h => ?_⟩
  refine Call_ (ld_blt I hg hm PyProof.Rows.boot_zip (PyProof.Rows.callWith_type1 (thn (ha.run pos pins s σ H _ I h) fun us s1 ⟨vs, H1, I1, r1, q1⟩ => ?_) hs hpl))
  obtain ⟨a, c, xs, ys, b1, b2, ex, qx, qy, q⟩ := q1
  subst ex
  obtain ⟨u1, u2, rfl, ra, rc⟩ := vals2 r1
  obtain rfl : u1 = Value.ref a := ra
  obtain rfl : u2 = Value.ref c := rc
  obtain ⟨its, _, p1, la⟩ := inv_sq I1 qx
  obtain ⟨its2, _, p2, lc⟩ := inv_sq I1 qy
  refine zip_begins2 (begins_sq b1 a its.toArray) (begins_sq b2 c its2.toArray) p1 p2 fun h' hz hTI hTO o1 o2 hsz hk => ?_
  have I2 : Inv X pins σ H1 { s1 with heap := h' } := I1.kept (t' := s1.toks) hk
  have S : ZipSep2 (s1.heap.objs.size + 4) (s1.heap.objs.size + 2) (s1.heap.objs.size + 3) s1.heap.objs.size (s1.heap.objs.size + 1) [s1.heap.objs.size, a] [s1.heap.objs.size + 1, c] :=
    zip_sep2 (N := s1.heap.objs.size) (fp1 := [a]) (fp2 := [c]) (fun b hb => by rw [List.mem_singleton.mp hb]; exact la) (fun b hb => by rw [List.mem_singleton.mp hb]; exact lc)
  have T := turn_zipM (P := X.prog) (w := X.w) (K := X.K) (tg := tg) (b1 := b1) (b2 := b2) S (Nat.ne_of_lt la) (Nat.ne_of_lt (Nat.lt_succ_of_lt lc))
  refine T.self X.A 0 { s1 with heap := h' } _ _ ⟨⟨.none, false, .inl rfl, hz⟩, hTI, ⟨_, _, hTO⟩, .new o1, .new o2⟩ ?_
  refine ⟨s1.heap.objs.size + 4, [s1.heap.objs.size + 4, s1.heap.objs.size + 2, s1.heap.objs.size + 3, s1.heap.objs.size, s1.heap.objs.size + 1], _, _, H1, rfl, I2, T, ⟨⟨.none, false, .inl rfl, hz⟩, hTI, ⟨_, _, hTO⟩, .new o1, .new o2⟩, fun b hb => ?_, q⟩
  have le : s1.heap.objs.size ≤ b := by
    simp only [List.mem_cons, List.not_mem_nil, or_false] at hb
    rcases hb with q | q | q | q | q <;> subst q
    · exact Nat.le_add_right _ _
    · exact Nat.le_add_right _ _
    · exact Nat.le_add_right _ _
    · exact Nat.le_refl _
    · exact Nat.le_add_right _ _
  exact I1.fpOk le (I1.hok.fresh le)
/-! ### enumerate -/
/-- the sequence at a as it stands at each turn, its items with their numbers in new pairs -/
def Itn (K : PySem.W.Frag) (b : Bool) (a : Addr) : It :=
  ⟨fun i H => ∃ (xs : List V) (x : V), Sq K H b a xs ∧ xs[i]? = some x, fun i H v H' => ∃ T x, v = .ref T ∧ H T = none ∧ H' = upd H T (.tup [.int (i : Nat), x]) ∧ ∀ xs, Sq K H b a xs → xs[i]? = some x,
    fun i H => ∃ xs : List V, Sq K H b a xs ∧ xs.length = i⟩
theorem turn_enumM {P : Program} {w : World} {K : PySem.W.Frag} {elts : List Expr} {kk : Nat} {tpos : Pos} {b : Bool} (a e it : Addr) (na : a ≠ it) (hne : e ≠ it) (nea : e ≠ a) :
    Turn P w K (.Tuple elts kk tpos) (Itn K b a) [e, it] e (fun i h => (∃ old, IsEnum h e it ((i : Nat) : Int) old) ∧ SqI b h it a i) where
  mem := by simp
  obj := fun i h st p hp => by
    obtain ⟨⟨old, he⟩, hi⟩ := st
    have e' : p = e ∨ p = it := by simpa using hp
    rcases e' with q | q <;> subst q
    · exact ⟨_, he, fun v q => nomatch q⟩
    · exact hi.rec_
  keep := fun i h h' st k => let ⟨⟨old, he⟩, hi⟩ := st; ⟨⟨old, k e (by simp) _ he⟩, hi.at' fun o q => k it (by simp) o q⟩
  item := by
    intro X hP hw hK hc i pins s σ H E I hf st hg
    subst hP hw hK
    obtain ⟨⟨old, he⟩, hit⟩ := st
    obtain ⟨xs, x, hq, hx⟩ := hg
    obtain ⟨us, r1, p1, _⟩ := inv_sq I hq
    obtain ⟨u, eu, ru⟩ := r1.get hx
    have hh : X.A.in1.handled = none := I.ok.hd hc
    have lu : i < us.toArray.size := by
      rw [List.size_toArray]
      exact (List.getElem?_eq_some_iff.mp eu).1
    have el : e < s.heap.objs.size := Heap.lt_size he
    have il : it < s.heap.objs.size := by
      obtain ⟨_, q, _⟩ := hit.rec_
      exact Heap.lt_size q
    refine wpAny_pyNext_enum_itemD (draws_sq hh b it a na us.toArray) he ⟨hit, p1⟩ lu hne (by simp [hne, nea]) fun u' h' tk e1 ho st' hT hsz hk => ?_
    rw [List.getElem?_toArray, eu] at e1
    cases e1
    refine ⟨_, rfl, wpAny_letOwnedTupleGo_enum (s := { s with heap := h', toks := tk + 1 }) ho fun h'' he' sb => ?_⟩
    have sb' : Heap.SameBut e h' h'' := sb
    have T2 : h''.get? s.heap.objs.size = some { cls := .type "tuple", data := .seq #[.int i tk, u] } := (sb'.2 _ (Nat.ne_of_gt el)).trans hT
    have new : ObjOk X.prog X.w (upd H s.heap.objs.size (.tup [.int (i : Nat), x])) h'' s.heap.objs.size (.tup [.int (i : Nat), x]) :=
      ⟨by show 2 ≤ sizeLine; decide, [.int i tk, u], .cons ⟨_, rfl⟩ (.cons ru .nil), ⟨_, T2, rfl, _, rfl⟩⟩
    have I1 : Inv X pins σ (upd H s.heap.objs.size (.tup [.int (i : Nat), x])) { s with heap := h'', toks := tk + 1 } :=
      I.turnedNew (ch := [e, it]) (fun p o hb q => (sb'.2 p (fun z => hb (by simp [z]))).trans (hk p o (fun z => hb (by simp [z])) (fun z => hb (by simp [z])) q)) hf (Nat.le_refl _) new
    refine ⟨.ref s.heap.objs.size, _, I1, rfl, ⟨_, x, rfl, I.hok.fresh (Nat.le_refl _), rfl, fun ys hy => by rw [inv_sq_inj I hy hq]; exact hx⟩, ⟨⟨u, ?_⟩, st'.1.at' fun o q => (sb'.2 it (Ne.symm hne)).trans q⟩, fun p hp => ?_⟩
    · have e1 : ((i + 1 : Nat) : Int) = (i : Int) + 1 := by omega
      rw [e1]
      exact he'
    · have lt : p < s.heap.objs.size := by
        have e' : p = e ∨ p = it := by simpa using hp
        rcases e' with q | q <;> subst q
        · exact el
        · exact il
      rw [upd_ne (Nat.ne_of_lt lt)]
      exact (hf p hp).1
  done := by
    intro X hP hw hK hc i pins s σ H E I hf st hg
    subst hP hw hK
    obtain ⟨⟨old, he⟩, hit⟩ := st
    obtain ⟨xs, hq, hl⟩ := hg
    obtain ⟨us, r1, p1, _⟩ := inv_sq I hq
    have hh : X.A.in1.handled = none := I.ok.hd hc
    obtain ⟨f0, f1, f2, f3, f4, f5⟩ := hf it (by simp)
    have e1 : us.toArray.size = i := by rw [List.size_toArray, ← hl]; exact r1.length.symm
    subst e1
    exact wpAny_pyNext_enum_endD (draws_sq hh b it a na us.toArray) he ⟨hit, p1⟩ fun h' eb => ⟨rfl, I.turned (t' := s.toks) (fun p o hb q => eb p o hb q) f0 f1 f3 f4 f5⟩
  self := fun A i s Q E st h => let ⟨⟨_, he⟩, _⟩ := st; wpAny_pyIter_enum he h
set_option maxHeartbeats 1000000 in
theorem meets_enumT (l : Addr) (items : Array Value) : Meets (Builtin.«enumerate.__new__» ⟨[.type "enumerate", .ref l], []⟩) (fun _ R s => s.heap.IsTuple l items ∧
      R (.ok (.ret (.ref (s.heap.push (itO false l)).objs.size))) { s with heap := (s.heap.push (itO false l)).push { cls := .type "enumerate", data := .fields #[.none, .bool false, .ref s.heap.objs.size, rawInt 0, .none, .none] } }) :=
  .of_wp fun prog w A R s h => by
    obtain ⟨hp, g, d, tk, os⟩ := s
    obtain ⟨hT, h⟩ := h
    have hsub := sub_enumerate
    obtain ⟨o, ho, hc, n, hd⟩ := id hT
    obtain ⟨c, dct, dt, sl⟩ := o
    replace hc : c = .type "tuple" := hc
    replace hd : dt = .seq items n := hd
    subst hc hd
    wp_walk using wpAny_loadPart' ho
    refine wpAny_stack_any fun st => wpAny_pure ?_
    split
    · rename_i c _ _ _ _ _
      cases (c == Value.type "enumerate")
      · wp_walk using wpAny_loadPart' ho, wpAny_pyIter_tuple hT
        exact ⟨_, rfl, h⟩
      · wp_walk using wpAny_loadPart' ho, wpAny_pyIter_tuple hT
        exact ⟨_, rfl, h⟩
    · wp_walk using wpAny_loadPart' ho, wpAny_pyIter_tuple hT
      exact ⟨_, rfl, h⟩
theorem call_enumT {prog : Program} {w : World} {A : Around} {E : Value → Shared → Prop} {s : Shared} {l : Addr} {items : Array Value} {Q : Value → Shared → Prop} (hL : s.heap.IsTuple l items)
    (h : ∀ h', IsEnum h' (s.heap.objs.size + 1) s.heap.objs.size 0 .none → h'.IsTupleIter s.heap.objs.size l 0 → h'.objs.size = s.heap.objs.size + 2 →
      (∀ b o, s.heap.get? b = some o → h'.get? b = some o) → Q (.ref (s.heap.objs.size + 1)) { s with heap := h' }) :
    wpAny (model prog w) A (call (.type "enumerate") [.ref l]) Q E s := by
  refine callType_new F.called_enumerate (by decide) (F.typeCall_enumerate_1 _) (F.newCall_enumerate_1 _) (fun obj => F.args_object_init_2 obj _) F.entry_enumerate_new (meets_enumT l items) ⟨hL, ?_⟩
  have hz : (s.heap.push (itO false l)).objs.size = s.heap.objs.size + 1 := Heap.size_push ..
  show _ ∧ _
  rw [hz]
  have he : IsEnum ((s.heap.push (itO false l)).push { cls := .type "enumerate", data := .fields #[.none, .bool false, .ref s.heap.objs.size, rawInt 0, .none, .none] }) (s.heap.objs.size + 1) s.heap.objs.size 0 .none := by
    have q := Heap.get?_push_size (s.heap.push (itO false l)) (o := { cls := .type "enumerate", data := .fields #[.none, .bool false, .ref s.heap.objs.size, rawInt 0, .none, .none] }) rfl
    rw [hz] at q
    exact q
  refine ⟨⟨_, he, rfl⟩, h _ he ?_ ?_ fun b o x => Heap.get?_push_of_some _ (Heap.get?_push_of_some _ x)⟩
  · exact ⟨_, Heap.get?_push_of_some _ (Heap.get?_push_size _ rfl), rfl, rfl⟩
  · rw [Heap.size_push, hz]
def iEnumM (K : PySem.W.Frag) (ta : TA) : TI := fun σ H R => ta σ H fun vs H1 => ∃ a xs b, vs = [.ref a] ∧ Sq K H1 b a xs ∧ R (Itn K b a) H1
theorem pi_enumM {X : Cx} {e : Expr} {ta : TA} {p pos tpos : Pos} {elts : List Expr} {kk : Nat} (hg : Gl X "enumerate") (hm : X.mg "enumerate" = none) (ha : PA X [e] ta) (hs : starEach [e] X.env = [(false, eval e X.env)] := by rfl) :
    PI X (.Tuple elts kk tpos) (.Call (.Name "enumerate" p) [e] [] pos) (iEnumM X.K ta) := by
  refine ⟨fun pins s σ H R I h => ?_⟩
  refine Call_ (ld_blt I hg hm boot_enumerate (PyProof.Rows.callWith_type1 (thn (ha.run pos pins s σ H _ I h) fun us s1 ⟨vs, H1, I1, r1, q1⟩ => ?_) hs rfl))
  obtain ⟨a, xs, b, ex, hq, q⟩ := q1
  subst ex
  obtain ⟨u1, rfl, ra⟩ := vals1 r1
  obtain rfl : u1 = Value.ref a := ra
  obtain ⟨its, _, p1, la⟩ := inv_sq I1 hq
  have fin : ∀ h', IsEnum h' (s1.heap.objs.size + 1) s1.heap.objs.size 0 .none → SqI b h' s1.heap.objs.size a 0 → (∀ c o, s1.heap.get? c = some o → h'.get? c = some o) →
      wpAny (model X.prog X.w) X.A (pyIter (.ref (s1.heap.objs.size + 1))) (PIE X pins σ (.Tuple elts kk tpos) R) X.xe { s1 with heap := h' } := fun h' he hit hk => by
    refine wpAny_pyIter_enum he ?_
    have I2 : Inv X pins σ H1 { s1 with heap := h' } := I1.kept (t' := s1.toks) hk
    refine ⟨s1.heap.objs.size + 1, [s1.heap.objs.size + 1, s1.heap.objs.size], _, _, H1, rfl, I2, turn_enumM (b := b) a (s1.heap.objs.size + 1) s1.heap.objs.size (Nat.ne_of_lt la) (Nat.succ_ne_self _) (Nat.ne_of_gt (Nat.lt_succ_of_lt la)), ⟨⟨.none, he⟩, hit⟩, fun c hc => ?_, q⟩
    have le : s1.heap.objs.size ≤ c := by
      simp only [List.mem_cons, List.not_mem_nil, or_false] at hc
      rcases hc with z | z <;> subst z
      · exact Nat.le_add_right _ _
      · exact Nat.le_refl _
    exact I1.fpOk le (I1.hok.fresh le)
  cases b with
  | true => exact call_enumerate_list p1 fun h' he hit _ hk => fin h' he hit hk
  | false => exact call_enumT p1 fun h' he hit _ hk => fin h' he hit hk
/-! ### loops and comprehensions over any walk of n turns -/
theorem for_by {J : It} {g : TG} {tb : TS} {D : Ends} {σ : L2.St} {H : Hp} (n : Nat) (Pv : Nat → L2.St → Hp → Prop) (h0 : Pv 0 σ H) (hgo : ∀ i σ H, i < n → Pv i σ H → J.go i H) (hstop : ∀ σ H, Pv n σ H → J.stop n H)
    (hs : ∀ i x σ H H', i < n → Pv i σ H → J.yld i H x H' → g x σ H' fun σ2 H2 => tb { D with nx := Pv (i + 1), ct := Pv (i + 1), bk := D.nx } σ2 H2) (hd : ∀ σ H, Pv n σ H → D.nx σ H) :
    ∃ W : Nat → Nat → L2.St → Hp → Prop, (∃ m, W 0 m σ H) ∧ ∀ i m σ H, W i m σ H →
      (J.stop i H ∧ D.nx σ H) ∨ (J.go i H ∧ ∃ N : L2.St → Hp → Prop, (∀ σ' H', N σ' H' → ∃ m', m' < m ∧ W (i + 1) m' σ' H') ∧ ∀ x H', J.yld i H x H' → g x σ H' fun σ2 H2 => tb { D with nx := N, ct := N, bk := D.nx } σ2 H2) := by
  refine ⟨fun i m σ H => i ≤ n ∧ m = n - i ∧ Pv i σ H, ⟨n, Nat.zero_le _, rfl, h0⟩, fun i m σ H h => ?_⟩
  obtain ⟨l, rfl, p⟩ := h
  by_cases c : i < n
  · exact .inr ⟨hgo i σ H c p, Pv (i + 1), fun σ' H' q => ⟨n - (i + 1), by omega, c, rfl, q⟩, fun x H' y => hs i x σ H H' c p y⟩
  · have e : i = n := by omega
    subst e
    exact .inl ⟨hstop σ H p, hd σ H p⟩
theorem lc_by {J : It} {g : TG} {tt : TT} {te : TE} {vs : List Nat} {σ : L2.St} {H1 : Hp} {D : Addr} {Qd : Hp → Prop} (n : Nat) (Pv : Nat → Hp → Prop) (h0 : Pv 0 (upd H1 D (.lst []))) (hgo : ∀ i H, i < n → Pv i H → J.go i H) (hstop : ∀ H, Pv n H → J.stop n H)
    (hs : ∀ i x H H', i < n → Pv i H → J.yld i H x H' → g x (wipe σ vs) H' fun σ2 H2 => wipe σ2 vs = wipe σ vs ∧ tt σ2 H2 fun b H3 =>
      if b = true then te σ2 H3 fun y H4 => ∃ acc, H4 D = some (.lst acc) ∧ acc.length < sizeLine ∧ Pv (i + 1) (upd H4 D (.lst (acc ++ [y]))) else Pv (i + 1) H3) (hd : ∀ H, Pv n H → Qd H) :
    ∃ W : Nat → Nat → Hp → Prop, (∃ m, W 0 m (upd H1 D (.lst []))) ∧ ∀ i m H, W i m H →
      (J.stop i H ∧ Qd H) ∨ (J.go i H ∧ ∃ Nx : Hp → Prop, (∀ H', Nx H' → ∃ m', m' < m ∧ W (i + 1) m' H') ∧ ∀ x H', J.yld i H x H' → g x (wipe σ vs) H' fun σ2 H2 => wipe σ2 vs = wipe σ vs ∧ tt σ2 H2 fun b H3 =>
        if b = true then te σ2 H3 fun y H4 => ∃ acc, H4 D = some (.lst acc) ∧ acc.length < sizeLine ∧ Nx (upd H4 D (.lst (acc ++ [y]))) else Nx H3) := by
  refine ⟨fun i m H => i ≤ n ∧ m = n - i ∧ Pv i H, ⟨n, Nat.zero_le _, rfl, h0⟩, fun i m H h => ?_⟩
  obtain ⟨l, rfl, p⟩ := h
  by_cases c : i < n
  · refine .inr ⟨hgo i H c p, fun H' => Pv (i + 1) H', fun H' q => ⟨n - (i + 1), by omega, c, rfl, q⟩, fun x H' y => hs i x H H' c p y⟩
  · have e : i = n := by omega
    subst e
    exact .inl ⟨hstop H p, hd H p⟩
theorem dc_by {J : It} {g : TG} {tt : TT} {tk tv : TE} {vs : List Nat} {σ : L2.St} {H1 : Hp} {D : Addr} {Qd : Hp → Prop} (n : Nat) (Pv : Nat → Hp → Prop) (h0 : Pv 0 (upd H1 D (.dK []))) (hgo : ∀ i H, i < n → Pv i H → J.go i H) (hstop : ∀ H, Pv n H → J.stop n H)
    (hs : ∀ i x H H', i < n → Pv i H → J.yld i H x H' → g x (wipe σ vs) H' fun σ2 H2 => wipe σ2 vs = wipe σ vs ∧ tt σ2 H2 fun b H3 =>
      if b = true then tk σ2 H3 fun y H4 => tv σ2 H4 fun z H5 => ∃ kvs k, y = kV k ∧ H5 D = some (.dK kvs) ∧ kvs.length < sizeLine ∧ Pv (i + 1) (upd H5 D (.dK (putK kvs k z))) else Pv (i + 1) H3) (hd : ∀ H, Pv n H → Qd H) :
    ∃ W : Nat → Nat → Hp → Prop, (∃ m, W 0 m (upd H1 D (.dK []))) ∧ ∀ i m H, W i m H →
      (J.stop i H ∧ Qd H) ∨ (J.go i H ∧ ∃ Nx : Hp → Prop, (∀ H', Nx H' → ∃ m', m' < m ∧ W (i + 1) m' H') ∧ ∀ x H', J.yld i H x H' → g x (wipe σ vs) H' fun σ2 H2 => wipe σ2 vs = wipe σ vs ∧ tt σ2 H2 fun b H3 =>
        if b = true then tk σ2 H3 fun y H4 => tv σ2 H4 fun z H5 => ∃ kvs k, y = kV k ∧ H5 D = some (.dK kvs) ∧ kvs.length < sizeLine ∧ Nx (upd H5 D (.dK (putK kvs k z))) else Nx H3) := by
  refine ⟨fun i m H => i ≤ n ∧ m = n - i ∧ Pv i H, ⟨n, Nat.zero_le _, rfl, h0⟩, fun i m H h => ?_⟩
  obtain ⟨l, rfl, p⟩ := h
  by_cases c : i < n
  · refine .inr ⟨hgo i H c p, fun H' => Pv (i + 1) H', fun H' q => ⟨n - (i + 1), by omega, c, rfl, q⟩, fun x H' y => hs i x H H' c p y⟩
  · have e : i = n := by omega
    subst e
    exact .inl ⟨hstop H p, hd H p⟩
end Lf
/-! Rules that the layer lacks: any of ints, a tuple backwards, a locked tuple made, dict of a tuple of pairs, sorted of pairs told apart by their first. -/
namespace Lf
open PySem PySem.Spec PyProof.Rows L2
/-! ### any of ints -/
theorem truth_ints {prog : Program} {w : World} {A : Around} {ns : List Int} {its : List Value} (e : Vals (iv ns) its) :
    TruthOf prog w A (fun i v => its.toArray[i]? = some v) (fun i => (ns.getD i 0) != 0) := fun i v s Q E hv hq => by
  have hv' : its[i]? = some v := by simpa using hv
  have hl : i < ns.length := by
    have a := (List.getElem?_eq_some_iff.mp hv').1
    have b := e.length
    rw [List.length_map] at b
    omega
  have g : (iv ns)[i]? = some (.int ns[i]) := by rw [List.getElem?_map, List.getElem?_eq_getElem hl]; rfl
  obtain ⟨u, eu, ru⟩ := e.get g
  rw [hv'] at eu
  cases eu
  obtain ⟨t, rfl⟩ := ru
  have hg : ns.getD i 0 = ns[i] := by rw [List.getD_eq_getElem?_getD, List.getElem?_eq_getElem hl]; rfl
  have hq' : Q (ns.getD i 0 != 0) s := hq
  rw [hg] at hq'
  exact PyProof.Rows.truthy_int hq'
theorem any_rangeI : ∀ ns : List Int, (List.range ns.length).any (fun i => (ns.getD i 0) != 0) = ns.any (fun x => x != 0)
  | [] => rfl
  | b :: bs => by
    rw [List.length_cons, List.range_succ_eq_map, List.any_cons, List.any_map, List.any_cons, ← any_rangeI bs]
    rfl
def rAnyI (K : PySem.W.Frag) : List V → Hp → VK → Prop := fun vs H Q => ∃ (a : Addr) (ns : List Int), vs = [V.ref a] ∧ SqL K H a (iv ns) ∧ Q (.bl (ns.any fun x => x != 0)) H
theorem cr_anyI {X : Cx} (hc : X.calm = true) : CallR X (.builtin "any") (rAnyI X.K) := by
  intro pins s σ H vs us Q I r h
  obtain ⟨a, ns, rfl, hs, q⟩ := h
  obtain ⟨its, rv, hl, _⟩ := I.list hs
  obtain ⟨u, rfl, ru⟩ := vals1 r
  obtain rfl : u = Value.ref a := ru
  refine call_any_walk (wpAny_pyIter_list hl.isList ?_)
  have la : a < s.heap.objs.size := hl.lt
  refine ⟨_, _, _, _, _, _, _, rfl, Walks.list (A := X.A.in1) (I.ok.hd hc) s.heap.objs.size a (Nat.ne_of_lt la) its.toArray, ⟨⟨_, Heap.get?_push_size _ rfl, rfl, rfl⟩, hl.isList.at fun o e => Heap.get?_push_of_some _ e⟩, truth_ints rv, fun h' tk hk => ?_⟩
  refine ⟨.bl _, H, I.kept (t' := tk) fun b o eo => hk b o (fun hmem => ?_) (Heap.get?_push_of_some _ eo), ?_, q⟩
  · rcases List.mem_cons.mp hmem with e1 | hmem
    · exact absurd (e1 ▸ Heap.lt_size eo) (Nat.lt_irrefl _)
    · cases hmem
  · show Value.bool _ = Value.bool _
    have e := rv.length
    rw [List.length_map] at e
    rw [← any_rangeI, List.size_toArray, ← e]
/-! ### a tuple backwards -/
section
variable {prog : Program} {w : World} {A : Around} {E : Value → Shared → Prop} {s : Shared}
theorem sliceApplied_back {sl : Addr} {vl vu vs : Value} {n : Nat} {Q : Int × Int × Nat → Shared → Prop} (hs : s.heap.IsSliceOf sl vl vu vs) (pl : IsPart vl none) (pu : IsPart vu none) (ps : IsPart vs (some (-1)))
    (h : Q ((n : Int) - 1, -1, n) s) : wpAny (model prog w) A (Builtin.Slice.sliceApplied (.ref sl) (pure (n : Int))) Q E s := by
  obtain ⟨os, hos, hcs, hds⟩ := id hs
  unfold Builtin.Slice.sliceApplied Builtin.Slice.sliceFields
  refine wpAny_bind (wpAny_bind (wpAny_field hos hds (x := vl) rfl (wpAny_bind (wpAny_field hos hds (x := vu) rfl (wpAny_bind (wpAny_field hos hds (x := vs) rfl (wpAny_pure ?_)))))))
  refine wpAny_bind (HT.slicePart_ ps ?_)
  show wpAny _ _ (if ((-1 : Int) == 0) = true then _ else _) _ _ s
  rw [if_neg (by decide)]
  refine wpAny_bind (HT.slicePart_ pl (wpAny_bind (HT.slicePart_ pu ?_)))
  refine wpAny_bind (wpAny_pure (wpAny_pure ?_))
  have e1 : Builtin.Slice.sliceAdjust none none (-1) (n : Int) = ((n : Int) - 1, -1) := rfl
  have e2 : Builtin.Slice.slicePlaces ((n : Int) - 1) (-1) (-1) = n := by
    unfold Builtin.Slice.slicePlaces
    rw [if_neg (by decide)]
    have e3 : -(-1 : Int) = 1 := by decide
    rw [e3, Int.ediv_one]
    split <;> omega
  show Q ((Builtin.Slice.sliceAdjust none none (-1) (n : Int)).1, -1, Builtin.Slice.slicePlaces (Builtin.Slice.sliceAdjust none none (-1) (n : Int)).1 (Builtin.Slice.sliceAdjust none none (-1) (n : Int)).2 (-1)) s
  rw [e1]
  show Q ((n : Int) - 1, -1, Builtin.Slice.slicePlaces ((n : Int) - 1) (-1) (-1)) s
  rw [e2]
  exact h
theorem back_pick (xs : List Value) : ((List.range xs.length).filterMap fun (k : Nat) => xs.toArray[((xs.length : Int) - 1 + (k : Int) * (-1)).toNat]?) = xs.reverse := by
  have e : ∀ k ∈ List.range xs.length, (xs.toArray[((xs.length : Int) - 1 + (k : Int) * (-1)).toNat]? : Option Value) = xs.reverse[k]? := by
    intro k hk
    have hk' : k < xs.length := List.mem_range.mp hk
    have e1 : ((xs.length : Int) - 1 + (k : Int) * (-1)).toNat = xs.length - 1 - k := by omega
    rw [e1, List.getElem?_toArray, List.getElem?_reverse hk']
  have hc : ∀ (l : List Nat), (∀ k ∈ l, (xs.toArray[((xs.length : Int) - 1 + (k : Int) * (-1)).toNat]? : Option Value) = xs.reverse[k]?) → (l.filterMap fun (k : Nat) => xs.toArray[((xs.length : Int) - 1 + (k : Int) * (-1)).toNat]?) = l.filterMap fun k => xs.reverse[k]? := by
    intro l hl
    induction l with
    | nil => rfl
    | cons y r ih => rw [List.filterMap_cons, List.filterMap_cons, hl y List.mem_cons_self, ih fun k hk => hl k (List.mem_cons_of_mem _ hk)]
  rw [hc _ e]
  have h2 : ∀ ys : List Value, (List.range ys.length).filterMap (fun k => ys[k]?) = ys := by
    intro ys
    induction ys with
    | nil => rfl
    | cons y r ih =>
      rw [List.length_cons, List.range_succ_eq_map, List.filterMap_cons]
      show y :: _ = _
      rw [List.filterMap_map]
      congr 1
  have h3 := h2 xs.reverse
  rw [List.length_reverse] at h3
  exact h3
theorem getItem_tupleBack {t sl : Addr} {items : List Value} {vl vu vs : Value} {Q : Value → Shared → Prop} (ht : IsTup s.heap t items.toArray) (hs : s.heap.IsSliceOf sl vl vu vs) (pl : IsPart vl none) (pu : IsPart vu none) (ps : IsPart vs (some (-1)))
    (h : Q (.ref s.heap.objs.size) { s with heap := s.heap.push { cls := .type "tuple", data := .seq items.reverse.toArray } }) (hsz : items.length ≤ sizeLine) : wpAny (model prog w) A (getItem (.ref t) (.ref sl)) Q E s := by
  have hok : sizeOk (.seq items.reverse.toArray) := by
    show items.reverse.toArray.size ≤ sizeLine
    rw [List.size_toArray, List.length_reverse]
    exact hsz
  obtain ⟨os, hos, hcs, hds⟩ := id hs
  have hTs : s.TypeIs (.ref sl) "slice" := ⟨os, hos, hcs⟩
  unfold getItem
  try with_reducible refine wpAny_holding ?_
  first | refine wpAny_bind (wpAny_pure ?_) | skip
  refine wpAny_bind (wpAny_sequenceKey ht.typeIs (by decide) ?_)
  refine wpAny_bind (wpAny_callSpecial?_slot (name := Str.ofString "__getitem__") ht.typeIs PyProof.Rows.slot_tuple_getitem
    (wpAny_call_entry PyProof.Rows.slot_tuple_getitem ht.typeIs entry_tuple_getitem ?_ (args_tuple_getitem _ _)))
  show wpAny _ _ (Builtin.Tuple.tupleItemsOf (.ref t) >>= _) _ _ s
  refine wpAny_bind (tupleItemsOf_ ht (wpAny_bind (wpAny_typeOf hTs ?_)))
  rw [if_pos (by decide)]
  refine wpAny_bind ?_
  rw [List.size_toArray]
  refine sliceApplied_back hs pl pu ps ?_
  have hno : ¬ (((((items.length : Int) - 1) == 0 && (-1 : Int) == 1) && items.length == items.length) = true) := by
    intro q
    rw [Bool.and_eq_true, Bool.and_eq_true] at q
    have q1 : (-1 : Int) = 1 := eq_of_beq q.1.2
    omega
  show wpAny _ _ (if ((((items.length : Int) - 1) == 0 && (-1 : Int) == 1) && items.length == items.length) = true then _ else _) _ _ s
  rw [if_neg hno, back_pick]
  first
    | exact wpAny_bind (m := Builtin.Tuple.tupleExact _) (wpAny_newObj_type (wpAny_pure ⟨_, rfl, wpAny_pure h⟩) hok)
    | exact wpAny_bind (m := Builtin.Tuple.tupleExact _) (wpAny_newObj_type (wpAny_bind (wpAny_pure (wpAny_pure ⟨_, rfl, wpAny_pure h⟩))) hok)
end
def tRevT (K : PySem.W.Frag) (te : TE) : TE := fun σ H Q => te σ H fun x H1 => ∃ a xs, x = .ref a ∧ SqT K H1 a xs ∧ ∀ p, H1 p = none → Q (.ref p) (upd H1 p (.tup xs.reverse))
theorem pe_revT {X : Cx} {e : Expr} {te : TE} {k : Nat} {p1 p2 p3 pos : Pos} (he : PE X e te) : PE X (.Subscript e (.Slice none none (some (.UnaryOp .USub (.Constant (.int 1) k p1) p2)) p3) pos) (tRevT X.K te) := by
  refine ⟨fun pins s σ H Q I h => ?_⟩
  refine Subscript_ (thn (he.run pins s σ H _ I h) fun v s1 ⟨x, H1, I1, r1, a, xs, ex, hx, q⟩ => ?_)
  subst ex
  obtain rfl : v = Value.ref a := r1
  have st : PO X (some (.UnaryOp .USub (.Constant (.int 1) k p1) p2)) (tPart (tUn (rU fun i => .int (-i)) (tC (.int 1)))) := po_some (pe_un un_neg pe_int)
  refine wpAny_Slice (thn (po_none.run pins s1 σ H1 (fun o H2 => o = none ∧ H2 = H1) I1 ⟨rfl, rfl⟩) fun vl s2 ⟨l, H2, I2, pl, el, e2⟩ => ?_)
  subst el e2
  refine thn (po_none.run pins s2 σ H2 (fun o H3 => o = none ∧ H3 = H2) I2 ⟨rfl, rfl⟩) fun vu s3 ⟨u, H3, I3, pu, eu, e3⟩ => ?_
  subst eu e3
  refine thn (st.run pins s3 σ H3 (fun o H4 => o = some (-1) ∧ H4 = H3) I3 ⟨1, rfl, -1, rfl, rfl, rfl⟩) fun vs s4 ⟨o, H4, I4, ps, eo, e4⟩ => ?_
  subst eo e4
  have I5 : Inv X pins σ H4 { s4 with heap := s4.heap.push { cls := .type "slice", data := .fields #[vl, vu, vs] } } := I4.kept (t' := s4.toks) fun b ob q => Heap.get?_push_of_some _ q
  obtain ⟨its, r, ht, hz⟩ := I5.tuple hx
  have hlen := r.length
  show wpAny (model X.prog X.w) X.A (subscriptTail e (.Slice none none (some (.UnaryOp .USub (.Constant (.int 1) k p1) p2)) p3) (.ref a) (.ref s4.heap.objs.size)) (EP X pins σ Q) X.xe { s4 with heap := s4.heap.push { cls := .type "slice", data := .fields #[vl, vu, vs] } }
  refine tail_any (ops := [.ref a, .ref s4.heap.objs.size]) ht.typeIs (PyProof.Rows.slot_tuple_getitem.lookup) ?_ (by with_unfolding_all rfl)
  refine getItem_tupleBack ht (Heap.IsSliceOf.new _ vl vu vs) pl pu ps ?_ (by rw [← hlen]; exact hz)
  refine ⟨.ref _, _, I5.laid (t' := s4.toks) (o := .tup xs.reverse) (fun b ob q => Heap.get?_push_of_some _ q) (Nat.le_refl _) ?_, rfl, q _ (I5.hok.fresh (Nat.le_refl _))⟩
  exact ⟨by rw [List.length_reverse]; exact hz, _, r.reverse, ⟨_, Heap.get?_push_size _ rfl, rfl, _, rfl⟩⟩
end Lf
/-! A locked tuple made, dict of a tuple of pairs, sorted of pairs told apart by their first. -/
namespace SrtO
open PySem PySem.Spec PyProof.Rows L2
/-- a pair whose first is an int -/
def IsPairF (h : Heap) (v : Value) (x : Int) (r : Value) : Prop := ∃ a o t n, v = .ref a ∧ h.get? a = some o ∧ o.cls = .type "tuple" ∧ o.data = .seq #[.int x t, r] n
theorem IsPairF.keeps {h h' : Heap} {v r : Value} {x : Int} (p : IsPairF h v x r) (k : ∀ b o, h.get? b = some o → o.cls = .type "tuple" → h'.get? b = some o) : IsPairF h' v x r := by
  obtain ⟨a, o, t, n, e, ho, hc, hd⟩ := p
  exact ⟨a, o, t, n, e, k _ _ ho hc, hc, hd⟩
theorem firstsF {h : Heap} : ∀ {vs : List Value}, (∀ v ∈ vs, ∃ x r, IsPairF h v x r) → ∃ fs : List Value, PySem.W.KatTups h vs fs ∧ fs.length = vs.length ∧ ∀ f ∈ fs, ∃ x t, f = Value.int x t
  | [], _ => ⟨[], PySem.W.KatTups.nil, rfl, fun _ q => absurd q List.not_mem_nil⟩
  | v :: vs, hp => by
    obtain ⟨fs, a1, a2, a3⟩ := firstsF (vs := vs) fun u m => hp u (List.mem_cons_of_mem _ m)
    obtain ⟨x, r, a, o, t, n, rfl, ho, hc, hd⟩ := hp v List.mem_cons_self
    refine ⟨.int x t :: fs, PySem.W.KatTups.cons ho hc hd rfl a1, by simp [a2], fun f m => ?_⟩
    rcases List.mem_cons.mp m with q | q
    · exact ⟨x, t, q⟩
    · exact a3 f q
theorem swo_int (k : Value → Int) : Swo fun v u => decide (k v < k u) := by
  refine ⟨fun x y h => ?_, fun x y z h1 h2 => ?_⟩
  · have a := of_decide_eq_true h
    exact decide_eq_false (by omega)
  · have a := of_decide_eq_false h1
    have b := of_decide_eq_false h2
    exact decide_eq_false (by omega)
section
variable {prog : Program} {w : World} {A : Around} {E : Value → Shared → Prop} {s : Shared}
theorem pairF_cmp {vs : List Value} {k : Value → Int} {r : Value → Value} (hp : ∀ v ∈ vs, IsPairF s.heap v (k v) (r v)) (hi : ∀ v ∈ vs, ∀ u ∈ vs, k v = k u → v = u) :
    Cmp prog w A s (tuples' true) (fun p => p.1 ∈ vs) (lt2 fun v u => decide (k v < k u)) := by
  intro p q hm hm'
  have g1 := hp _ hm
  have g2 := hp _ hm'
  have gi := hi _ hm _ hm'
  show wpAny (model prog w) A (keyLt' (tuples' true) p.1 q.1) (fun r s' => s' = s ∧ r = decide (k p.1 < k q.1)) (fun _ _ => False) s
  obtain ⟨a, o, t, n, e, ho, hc, hd⟩ := g1
  obtain ⟨a', o', t', n', e', ho', hc', hd'⟩ := g2
  by_cases c : k p.1 = k q.1
  · have er : r p.1 = r q.1 := by rw [gi c]
    rw [er] at hd
    have nl : decide (k p.1 < k q.1) = false := decide_eq_false (by omega)
    rw [nl, e, e']
    refine PySem.W.kat_lt ho hd ho' hd' ?_
    show PySem.W.KatLex prog w A true (decide (2 < 2)) _ [(.int (k p.1) t, .int (k q.1) t'), (r q.1, r q.1)] 0 s
    refine PySem.W.kat_cons (SeqAt.EqAt.int_int (k p.1) t (k q.1) t' prog w _ _ ?_)
    refine PySem.W.kat_go (fun _ => ?_) (fun e1 => absurd c (by simpa using e1))
    exact PySem.W.kat_yes (PySem.W.kat_cons (SeqAt.EqAt.same (r q.1) prog w _ _ (PySem.W.kat_yes (PySem.W.kat_nil ⟨rfl, rfl⟩))))
  · rw [e, e']
    refine PySem.W.kat_lt ho hd ho' hd' ?_
    rw [← e, ← e']
    show PySem.W.KatLex prog w A true (decide (2 < 2)) _ [(.int (k p.1) t, .int (k q.1) t'), (r p.1, r q.1)] 0 s
    refine PySem.W.kat_cons (SeqAt.EqAt.int_int (k p.1) t (k q.1) t' prog w _ _ ?_)
    refine PySem.W.kat_go (fun e1 => absurd (by simpa using e1) c) (fun e1 => ?_)
    exact PySem.W.kat_no (oneLt_int ⟨rfl, rfl⟩)
theorem pairF_sortable {a : Addr} {vs : List Value} {k : Value → Int} {r : Value → Value} (h0 : 0 < vs.length) (hp : ∀ v ∈ vs, IsPairF s.heap v (k v) (r v)) (hi : ∀ v ∈ vs, ∀ u ∈ vs, k v = k u → v = u) (ha : ∀ o, s.heap.get? a = some o → o.cls ≠ .type "tuple") :
    SortableO prog w A s a vs fun v u => decide (k v < k u) := by
  intro h' keep
  have hp' : ∀ v ∈ vs, IsPairF h' v (k v) (r v) := fun v m => (hp v m).keeps fun b o e c => keep b o (fun z => by subst z; exact ha o e c) e
  obtain ⟨fs, b1, b2, b3⟩ := firstsF fun v m => ⟨_, _, hp' v m⟩
  refine ⟨tuples' true, fun Q E hq => ?_, pairF_cmp hp' hi⟩
  refine PySem.W.kat_kind (T := .type "int") b1 (by omega) (fun f m => ?_) (by rfl) ?_
  · obtain ⟨x, t, rfl⟩ := b3 f m
    exact PySem.W.Looks.now
  · have e : (Value.type "int" != Value.type "tuple") = true := by decide +kernel
    rw [e]
    exact hq
theorem sorted_pairF {l : Addr} {vs : List Value} {k : Value → Int} {r : Value → Value} {Q : Value → Shared → Prop} (hl : s.heap.IsList l vs.toArray) (hz : vs.length ≤ sizeLine) (hp : ∀ v ∈ vs, IsPairF s.heap v (k v) (r v)) (hi : ∀ v ∈ vs, ∀ u ∈ vs, k v = k u → v = u)
    (h : ∀ (h' : Heap) (d : Addr) (out : List Value), Srtd (fun v u => decide (k v < k u)) out → Stb (fun v u => decide (k v < k u)) out vs → (∀ b o, s.heap.get? b = some o → h'.get? b = some o) → s.heap.objs.size ≤ d → (∃ n, h'.get? d = some (seqObj "list" out.toArray n)) → Q (.ref d) { s with heap := h' }) :
    wpAny (model prog w) A (call (.builtin "sorted") [.ref l]) Q E s := by
  refine sorted_ord (swo_int k) hl hz (fun h2 g1 a ha kk => ?_) fun out hs hb => h _ _ out hs hb (fun b o e => sortedAll_old e) (Nat.le_succ _) (sortedAll_at s.heap vs out.toArray)
  refine pairF_sortable (s := { s with heap := g1 }) (by omega) (fun v m => (hp v m).keeps fun b o e _ => (kk b o e).2) hi fun o e => ?_
  have e' : some o = some (seqObj "list" vs.toArray 0) := e.symm.trans ha
  cases e'
  intro c
  exact absurd (Value.type.inj c) (by decide)
end
end SrtO
namespace Lf
open PySem PySem.Spec PyProof.Rows L2
/-- sorted(l), l a list of pairs (an int, an object), no two of one int: the pairs ascending by their ints -/
def rSortedS1 (K : PySem.W.Frag) : List V → Hp → VK → Prop := fun vs H Q => ∃ (a : Addr) (ps : List (Addr × Int × V)), vs = [V.ref a] ∧ SqL K H a (ps.map fun p => V.ref p.1) ∧ (∀ p ∈ ps, H p.1 = some (.tup [.int p.2.1, p.2.2])) ∧ (ps.map fun p => p.2.1).Nodup ∧
  ∀ (ys : List (Addr × Int × V)) (p : Addr), ys.Perm ps → ys.Pairwise (fun y z => y.2.1 < z.2.1) → H p = none → Q (.ref p) (upd H p (.lst (ys.map fun p => V.ref p.1)))
theorem map_refs : ∀ {ps : List (Addr × Int × V)} {us : List Value}, Vals (ps.map fun p => V.ref p.1) us → us = ps.map fun p => Value.ref p.1
  | [], _, .nil => rfl
  | p :: ps, _, .cons h t => by
    rw [map_refs t]
    obtain rfl := (show _ = Value.ref p.1 from h)
    rfl
theorem vals_refsP : ∀ (ps : List (Addr × Int × V)), Vals (ps.map fun p => V.ref p.1) (ps.map fun p => Value.ref p.1)
  | [] => .nil
  | p :: ps => .cons rfl (vals_refsP ps)
/-- an arrangement of the values comes from one of the pairs -/
theorem perm_of_map {α β : Type} (f : α → β) : ∀ {l : List α} {m : List β}, m.Perm (l.map f) → ∃ l' : List α, l'.Perm l ∧ l'.map f = m := by
  intro l m h
  generalize e : l.map f = n at h
  induction h generalizing l with
  | nil =>
    cases l with
    | nil => exact ⟨[], .nil, rfl⟩
    | cons => cases e
  | cons x _ ih =>
    cases l with
    | nil => cases e
    | cons y r =>
      cases e
      obtain ⟨l', p, q⟩ := ih rfl
      exact ⟨y :: l', p.cons y, by rw [List.map_cons, q]⟩
  | swap x y r =>
    match l, e with
    | a :: b :: t, e =>
      cases e
      exact ⟨b :: a :: t, .swap a b t, rfl⟩
  | trans _ _ ih1 ih2 =>
    obtain ⟨l2, p2, q2⟩ := ih2 e
    obtain ⟨l1, p1, q1⟩ := ih1 q2
    exact ⟨l1, p1.trans p2, q1⟩
/-- the int of the pair at an address -/
def keyP (ps : List (Addr × Int × V)) (v : Value) : Int := match ps.find? (fun (p : Addr × Int × V) => Value.ref p.1 == v) with
  | some p => p.2.1
  | none => 0
theorem cr_sortedS1 {X : Cx} : CallR X (.builtin "sorted") (rSortedS1 X.K) := by
  intro pins s σ H vs us Q I r h
  obtain ⟨a, ps, rfl, hs, hp, nd, q⟩ := h
  obtain ⟨its, rv, hl, hz⟩ := I.list hs
  obtain ⟨u, rfl, ru⟩ := vals1 r
  obtain rfl : u = Value.ref a := ru
  have ei := map_refs rv
  subst ei
  -- the first and the second of a pair, off its address
  have hf : ∀ p ∈ ps, ∃ r : Value, SrtO.IsPairF s.heap (Value.ref p.1) p.2.1 r := fun p m => by
    obtain ⟨_, its2, r2, o, ho, hc, n, hd⟩ := I.hok _ _ (hp p m)
    obtain ⟨u1, u2, rfl, r1, _⟩ := vals2 r2
    obtain ⟨t1, rfl⟩ := r1
    exact ⟨u2, p.1, o, t1, n, rfl, ho, hc, hd⟩
  have uq : ∀ p ∈ ps, ∀ p' ∈ ps, p.1 = p'.1 → p.2.1 = p'.2.1 := fun p m p' m' e => by
    have e1 := hp p m
    have e2 := hp p' m'
    rw [e, e2] at e1
    simp only [Option.some.injEq, HO.tup.injEq, List.cons.injEq, V.int.injEq] at e1
    exact e1.1.symm
  have hkey : ∀ p ∈ ps, keyP ps (.ref p.1) = p.2.1 := fun p m => by
    unfold keyP
    cases e : ps.find? (fun (p' : Addr × Int × V) => Value.ref p'.1 == Value.ref p.1) with
    | none =>
      have := List.find?_eq_none.mp e p m
      simp at this
    | some p' =>
      have e1 : (Value.ref p'.1 == Value.ref p.1) = true := List.find?_some (p := fun (p' : Addr × Int × V) => Value.ref p'.1 == Value.ref p.1) e
      have e2 : p'.1 = p.1 := by simpa using e1
      exact uq p' (List.mem_of_find?_eq_some e) p m e2
  have hsec : ∃ sec : Value → Value, ∀ p ∈ ps, SrtO.IsPairF s.heap (Value.ref p.1) p.2.1 (sec (.ref p.1)) := by
    refine ⟨fun v => match v with
      | .ref b => (match s.heap.get? b with
        | some ⟨_, _, .seq ys _, _⟩ => ys.getD 1 .none
        | _ => .none)
      | _ => .none, fun p m => ?_⟩
    obtain ⟨r, b, o, t, n, e, ho, hc, hd⟩ := hf p m
    cases e
    refine ⟨p.1, o, t, n, rfl, ho, hc, ?_⟩
    have : (match s.heap.get? p.1 with
        | some ⟨_, _, .seq ys _, _⟩ => ys.getD 1 Value.none
        | _ => Value.none) = r := by
      rw [ho]
      obtain ⟨oc, od, odt, osl⟩ := o
      cases hd
      rfl
    rw [hd]
    show Data.seq #[.int p.2.1 t, r] n = Data.seq #[.int p.2.1 t, (match s.heap.get? p.1 with
        | some ⟨_, _, .seq ys _, _⟩ => ys.getD 1 Value.none
        | _ => Value.none)] n
    rw [this]
  obtain ⟨sec, hsec⟩ := hsec
  refine SrtO.sorted_pairF (k := keyP ps) (r := sec) hl.isList (by rw [← rv.length]; exact hz) (fun v hv => ?_) (fun v hv u hu e => ?_) fun h' d out h1 h2 kp hd hn => ?_
  · obtain ⟨p, m, rfl⟩ := List.mem_map.mp hv
    rw [hkey p m]
    exact hsec p m
  · obtain ⟨p, m, rfl⟩ := List.mem_map.mp hv
    obtain ⟨p', m', rfl⟩ := List.mem_map.mp hu
    rw [hkey p m, hkey p' m'] at e
    have hinj : p = p' := by
      have nd' := nd
      obtain ⟨i, hi, rfl⟩ := List.mem_iff_getElem.mp m
      obtain ⟨j, hj, rfl⟩ := List.mem_iff_getElem.mp m'
      have g1 : (ps.map fun p => p.2.1)[i]? = some ps[j].2.1 := by rw [List.getElem?_map, List.getElem?_eq_getElem hi, ← e]; rfl
      have g2 : (ps.map fun p => p.2.1)[j]? = some ps[j].2.1 := by rw [List.getElem?_map, List.getElem?_eq_getElem hj]; rfl
      have ij := nd_ix nd' g1 g2
      subst ij
      rfl
    rw [hinj]
  · obtain ⟨ys, py, ey⟩ := perm_of_map (fun p : Addr × Int × V => Value.ref p.1) h2.perm
    subst ey
    obtain ⟨n, hn⟩ := hn
    have lz : ys.length ≤ sizeLine := by
      rw [py.length_eq]
      rw [List.length_map] at hz
      exact hz
    refine ⟨.ref d, upd H d (.lst (ys.map fun p => V.ref p.1)), I.laid (t' := s.toks) kp hd ⟨by rw [List.length_map]; exact lz, _, n, vals_refsP ys, hn⟩, rfl, q ys d py ?_ (I.hok.fresh hd)⟩
    have nd2 : (ys.map fun p => p.2.1).Nodup := (py.map fun p : Addr × Int × V => p.2.1).nodup_iff.mpr nd
    have hs2 : ys.Pairwise (fun (y z : Addr × Int × V) => ¬ (@LT.lt Int _ (keyP ps (Value.ref z.1)) (keyP ps (Value.ref y.1)))) := by
      have h1' : (ys.map fun (p : Addr × Int × V) => Value.ref p.1).Pairwise (fun x y => decide (keyP ps y < keyP ps x) = false) := h1
      rw [List.pairwise_map] at h1'
      exact h1'.imp fun h => of_decide_eq_false h
    have hnn : ys.Pairwise fun (y z : Addr × Int × V) => y.2.1 ≠ z.2.1 := by
      have := nd2
      unfold List.Nodup at this
      rw [List.pairwise_map] at this
      exact this
    have both := hs2.and hnn
    refine List.Pairwise.imp_of_mem ?_ both
    intro y z my mz hyz
    have a1 := hyz.1
    rw [hkey z (py.mem_iff.mp mz), hkey y (py.mem_iff.mp my)] at a1
    have a2 := hyz.2
    omega
/-! ### a tuple that is known to its object -/
/-- at p a plain tuple of xs (no dict of its own) -/
def TF (H : Hp) (p : Addr) (xs : List V) : Prop := ∃ o, H p = some (.frz o (.tup xs)) ∧ o.dict = none
theorem TF.sq {K : PySem.W.Frag} {H : Hp} {p : Addr} {xs : List V} (h : TF H p xs) : SqT K H p xs := by
  obtain ⟨o, e, _⟩ := h
  exact .inl (.inr ⟨o, e⟩)
theorem TF.same {H H' : Hp} {p : Addr} {xs : List V} (e : Same H H') (h : TF H p xs) : TF H' p xs := by
  obtain ⟨o, e1, e2⟩ := h
  exact ⟨o, e _ _ e1, e2⟩
theorem TF.ty {K : PySem.W.Frag} {H : Hp} {p : Addr} {xs : List V} (h : TF H p xs) : TyX K H (.ref p) (.type "tuple") := by
  obtain ⟨o, e, _⟩ := h
  exact .fTuple e
/-- a new plain tuple at p -/
def NewT (H : Hp) (xs : List V) (Q : VK) : Prop := ∀ p H', H p = none → Same H H' → TF H' p xs → Q (.ref p) H'
section
variable {X : Cx}
theorem lay_tf {pins : List (Addr × Obj)} {σ : L2.St} {H : Hp} {s : Shared} {xs : List V} {its : List Value} {Q : VK} (I : Inv X pins σ H s) (r : Vals xs its) (hz : xs.length ≤ sizeLine) (q : NewT H xs Q) :
    EP X pins σ Q (.ref s.heap.objs.size) { s with heap := s.heap.push { cls := .type "tuple", data := .seq its.toArray } } := by
  have g : (s.heap.push { cls := .type "tuple", data := .seq its.toArray }).get? s.heap.objs.size = some { cls := .type "tuple", data := .seq its.toArray } := Heap.get?_push_size _ rfl
  have nw : ObjOk X.prog X.w (upd H s.heap.objs.size (.frz { cls := .type "tuple", data := .seq its.toArray } (.tup xs))) (s.heap.push { cls := .type "tuple", data := .seq its.toArray }) s.heap.objs.size (.frz { cls := .type "tuple", data := .seq its.toArray } (.tup xs)) :=
    ⟨g, hz, its, r, ⟨_, g, rfl, _, rfl⟩⟩
  have hn : H s.heap.objs.size = none := I.hok.fresh (Nat.le_refl _)
  exact ⟨.ref s.heap.objs.size, _, I.laid (t' := s.toks) (fun b u e => Heap.get?_push_of_some _ e) (Nat.le_refl _) nw, rfl, q _ _ hn (same_new hn _) ⟨_, upd_same, rfl⟩⟩
/-- () -/
def tTup0 : TE := fun _ H Q => NewT H [] Q
theorem pe_tup0 {k : Nat} {pos : Pos} : PE X (.Tuple [] k pos) tTup0 := by
  refine ⟨fun pins s σ H Q I h => ?_⟩
  refine wpAny_Tuple_spliced (thn ((pa_nil (X := X)).run pos pins s σ H (fun vs H1 => vs = [] ∧ H1 = H) I ⟨rfl, rfl⟩) fun us s1 ⟨vs, H1, I1, r, e1, e2⟩ => ?_)
  subst e1 e2
  cases r
  exact ⟨Nat.zero_le _, lay_tf I1 .nil (Nat.zero_le _) h⟩
/-- tuple(x) of a list -/
def kTupF (K : PySem.W.Frag) (x : V) (H : Hp) (Q : VK) : Prop := ∃ p xs, x = .ref p ∧ SqL K H p xs ∧ NewT H xs Q
theorem pe_tupleOfF {a : Expr} {ta : TE} {p pos : Pos} (hg : Gl X "tuple") (hm : X.mg "tuple" = none) (ha : PE X a ta) (na : starEach [a] X.env = (false, eval a X.env) :: starEach [] X.env := by rfl) :
    PE X (.Call (.Name "tuple" p) [a] [] pos) (tThen ta (kTupF X.K)) := by
  refine ⟨fun pins s σ H Q I h => ?_⟩
  refine Call_ (ld_blt I hg hm boot_tuple (PyProof.Rows.callWith_type1 (one_arg ha I h (fun v s2 x H2 I2 r q => ?_) na) na))
  obtain ⟨l, xs, rfl, hs, k⟩ := q
  obtain rfl : v = .ref l := r
  obtain ⟨its, rv, pl, hz⟩ := I2.list hs
  refine call_tuple_list pl.isList (fun h' hk => ?_) (by rw [List.size_toArray, ← rv.length]; exact hz)
  have I1 : Inv X pins σ H2 { s2 with heap := h' } := I2.kept (t' := s2.toks) hk
  exact lay_tf I1 rv hz k
/-- dict(t) of a plain tuple of pairs -/
def rDictT (K : PySem.W.Frag) : List V → Hp → VK → Prop := fun xs H Q => ∃ (a : Addr) (ps : List Addr) (kvs : List (Key × V)), xs = [.ref a] ∧ TF H a (ps.map V.ref) ∧ Paired (fun p kv => SqT K H p [kV kv.1, kv.2]) ps kvs ∧ ∀ p, H p = none → Q (.ref p) (upd H p (.dK (mergeK [] kvs)))
theorem call_dictT (hcalm : X.calm = true) : CallR X (.type "dict") (rDictT X.K) := by
  intro pins s σ H xs us Q I r q
  obtain ⟨a, ps, kvs, rfl, ⟨o, ho, hd⟩, hp, q⟩ := q
  obtain ⟨u, rfl, rx⟩ := vals1 r
  obtain rfl : u = Value.ref a := rx
  obtain ⟨g, lz, its, rv, ht⟩ := I.hok _ _ ho
  have ei := refs_at rv
  subst ei
  rw [List.length_map] at lz
  obtain ⟨prs, rel, hl, hpr⟩ := pairs_of I hp
  obtain ⟨o', g', hc, n, hdat⟩ := ht
  rw [g] at g'
  cases g'
  have hA : PySem.PlainSeq "tuple" s.heap a (ps.map Value.ref).toArray := ⟨o, n, g, hc, hd, hdat⟩
  let vps : List (Value × Value) := (List.range prs.length).map fun j => match prs[j]? with
    | some q => ((match s.heap.get? (ps.getD j 0) with
      | some ⟨_, _, .seq ys _, _⟩ => ys.getD 0 .none
      | _ => .none), q.2)
    | none => (.none, .none)
  have hv : ∀ (j : Nat) (q : Key × Value), prs[j]? = some q → ∃ (b : Addr) (u : Value), ps[j]? = some b ∧ IsTup s.heap b #[u, q.2] ∧ keyIs q.1 u = true ∧ vps[j]? = some (u, q.2) := fun j q e => by
    obtain ⟨b, u, e1, e2, e3⟩ := hpr j q e
    refine ⟨b, u, e1, e2, e3, ?_⟩
    have hj : j < prs.length := (List.getElem?_eq_some_iff.mp e).1
    show ((List.range prs.length).map _)[j]? = _
    rw [List.getElem?_map, List.getElem?_range hj, Option.map_some, e]
    have eb : ps.getD j 0 = b := by rw [List.getD_eq_getElem?_getD, e1]; rfl
    obtain ⟨ob, ho1, ho2, nb, ho3⟩ := e2
    obtain ⟨oc, od, odt, osl⟩ := ob
    cases ho3
    simp only [eb, ho1]
    rfl
  have lv : vps.length = prs.length := by show ((List.range prs.length).map _).length = _; rw [List.length_map, List.length_range]
  have hB : PySem.PairItems s.heap (ps.map Value.ref).toArray (fun j => ps.getD j 0) vps := by
    refine ⟨by rw [List.size_toArray, List.length_map, lv, hl], fun j k v e => ?_⟩
    have hj : j < prs.length := by
      rw [← lv]
      exact (List.getElem?_eq_some_iff.mp e).1
    obtain ⟨b, u, e1, e2, e3, e4⟩ := hv j prs[j] (List.getElem?_eq_getElem hj)
    rw [e4] at e
    cases e
    have eb : ps.getD j 0 = b := by rw [List.getD_eq_getElem?_getD, e1]; rfl
    refine ⟨by show (ps.map Value.ref).toArray[j]? = some (Value.ref (ps.getD j 0)); rw [List.getElem?_toArray, List.getElem?_map, e1, eb]; rfl, .inl ?_⟩
    show s.heap.IsTuple (ps.getD j 0) _
    rw [eb]
    exact e2
  refine PySem.call_dict_pairs (knd := mixKind X.prog X.w) (kvs := prs) (PySem.PairArg.tuple a (ps.map Value.ref).toArray (fun j => ps.getD j 0) vps) (I.ok.hd hcalm) ⟨hA, hB⟩ ⟨lv.symm, fun i key v e => ?_⟩ (by rw [lv, hl]; exact lz) fun h' tk hd' k => ?_
  · have hj : i < prs.length := by
      rw [← lv]
      exact (List.getElem?_eq_some_iff.mp e).1
    obtain ⟨b, u, e1, e2, e3, e4⟩ := hv i prs[i] (List.getElem?_eq_getElem hj)
    have e : vps[i]? = some (key, v) := e
    rw [e4] at e
    cases e
    exact ⟨prs[i].1, List.getElem?_eq_getElem hj, e3⟩
  · have hm : (s.heap.objs.size == sysModules) = false := beq_eq_false_iff_ne.mpr (Nat.ne_of_gt I.big)
    have hlen : (mergeK [] kvs).length ≤ sizeLine := by
      refine Nat.le_trans (length_mergeK kvs []) ?_
      rw [List.length_nil, Nat.zero_add, rel.length, hl]
      exact lz
    exact ⟨.ref s.heap.objs.size, upd H s.heap.objs.size (.dK (mergeK [] kvs)), I.laid (t' := tk) (fun b o e => k b o List.not_mem_nil e) (Nat.le_refl _) (show ObjOk X.prog X.w _ _ _ (.dK (mergeK [] kvs)) from ⟨hlen, hm, merged [] prs, KV.merge rel .nil, hd'⟩), rfl, q _ (I.hok.fresh (Nat.le_refl _))⟩
end
end Lf
/-! Rules whose readings name the written part, with that part given (for a comprehension's block). -/
namespace Lf
open PySem PySem.Spec PyProof.Rows L2
section
variable {X : Cx} {K : PySem.W.Frag}
theorem pe_fldK {e : Expr} {f : Str} {pos : Pos} {ta : TE} (hK : X.K = K) (he : PE X e ta) (hb : attributeBase e f X.env (eval e X.env) = eval e X.env) : PE X (.Attribute e f pos) (tFld K ta f) := by
  subst hK
  exact pe_fld he hb
theorem ix_listK (hK : X.K = K) : IxR X (rIxL K) := by
  subst hK
  exact ix_list
theorem ix_tupK (hK : X.K = K) : IxR X (rIxT K) := by
  subst hK
  exact ix_tup
theorem op_in_seqK (hK : X.K = K) : OpR X (compareOp .In) (rIn K false) := by
  subst hK
  exact op_in_seq
theorem op_notIn_seqK (hK : X.K = K) : OpR X (compareOp .NotIn) (rIn K true) := by
  subst hK
  exact op_notIn_seq
def rLenK (K : PySem.W.Frag) : List V → Hp → VK → Prop := fun xs H Q => ∃ p ys, xs = [.ref p] ∧ (SqL K H p ys ∨ SqT K H p ys) ∧ Q (.int ys.length) H
theorem call_len_seqK (hK : X.K = K) : CallR X (.builtin "len") (rLenK K) := by
  subst hK
  exact call_len_seq
theorem call_isiKK (hK : X.K = K) : CallR X (.builtin "isinstance") (rIsi K) := by
  subst hK
  exact call_isi
theorem call_dictTK (hK : X.K = K) (hc : X.calm = true) : CallR X (.type "dict") (rDictT K) := by
  subst hK
  exact call_dictT hc
theorem cr_anyIK (hK : X.K = K) (hc : X.calm = true) : CallR X (.builtin "any") (rAnyI K) := by
  subst hK
  exact cr_anyI hc
end
end Lf
/-! Readings in use: tuples that may be read, comprehensions whose turns leave what stood. -/
namespace Lf
open PySem PySem.Spec PyProof.Rows L2
/-- a tuple of xs at p (tracked, or known to its object) -/
def Tp (H : Hp) (p : Addr) (xs : List V) : Prop := Rd H p (.tup xs)
section
variable {K : PySem.W.Frag} {H H' : Hp} {p : Addr} {xs : List V}
theorem Tp.of (h : H p = some (.tup xs)) : Tp H p xs := .inl h
theorem Tp.same (e : Same H H') (h : Tp H p xs) : Tp H' p xs := by
  rcases h with h | ⟨o, h⟩
  · exact .inl (e _ _ h)
  · exact .inr ⟨o, e _ _ h⟩
theorem Tp.sq (h : Tp H p xs) : SqT K H p xs := .inl h
theorem Tp.ty (h : Tp H p xs) : TyX K H (.ref p) (.type "tuple") := by
  rcases h with h | ⟨o, h⟩
  · exact .base (.tup h)
  · exact .fTuple h
theorem TF.tp (h : TF H p xs) : Tp H p xs := by
  obtain ⟨o, e, _⟩ := h
  exact .inr ⟨o, e⟩
theorem Tp.inj {ys : List V} (h : Tp H p xs) (h' : Tp H p ys) : xs = ys := by
  rcases h with h | ⟨o, h⟩ <;> rcases h' with h' | ⟨o', h'⟩ <;> rw [h] at h' <;> cases h' <;> rfl
/-- what is no tuple, of a kind that is known -/
def NT (H : Hp) (x : V) : Prop := x = .non ∨ (∃ b, x = .bl b) ∨ (∃ i, x = .int i) ∨ (∃ s, x = .str s) ∨ (∃ p xs, x = .ref p ∧ H p = some (.lst xs)) ∨ ∃ p kvs, x = .ref p ∧ H p = some (.dK kvs)
theorem NT.same {x : V} (e : Same H H') (h : NT H x) : NT H' x := by
  rcases h with h | h | h | h | ⟨p, xs, h1, h2⟩ | ⟨p, kvs, h1, h2⟩
  · exact .inl h
  · exact .inr (.inl h)
  · exact .inr (.inr (.inl h))
  · exact .inr (.inr (.inr (.inl h)))
  · exact .inr (.inr (.inr (.inr (.inl ⟨p, xs, h1, e _ _ h2⟩))))
  · exact .inr (.inr (.inr (.inr (.inr ⟨p, kvs, h1, e _ _ h2⟩))))
theorem NT.ty {x : V} (h : NT H x) : ∃ t, TyX K H x (.type t) ∧ kitB t "tuple" = some false := by
  rcases h with rfl | ⟨b, rfl⟩ | ⟨i, rfl⟩ | ⟨s, rfl⟩ | ⟨p, xs, rfl, h2⟩ | ⟨p, kvs, rfl, h2⟩
  · exact ⟨_, .base .non, by decide +kernel⟩
  · exact ⟨_, .base (.bl b), by decide +kernel⟩
  · exact ⟨_, .base (.int i), by decide +kernel⟩
  · exact ⟨_, .base (.str s), by decide +kernel⟩
  · exact ⟨_, .base (.lst h2), by decide +kernel⟩
  · exact ⟨_, .base (.dK h2), by decide +kernel⟩
end
theorem kit_tt : kitB "tuple" "tuple" = some true := by decide +kernel
/-! ### a comprehension whose turns leave what stood -/
theorem range_filter_succ (n : Nat) (f : Nat → Bool) : (List.range (n + 1)).filter f = (List.range n).filter f ++ if f n = true then [n] else [] := by
  rw [List.range_succ, List.filter_append]
  congr 1
  cases e : f n <;> simp [e]
theorem paired_snoc {α β : Type} {F : α → β → Prop} {a : α} {b : β} (h : F a b) : ∀ {l : List α} {m : List β}, Paired F l m → Paired F (l ++ [a]) (m ++ [b])
  | _, _, .nil => .cons h .nil
  | _, _, .cons x r => .cons x (paired_snoc h r)
theorem paired_len {α β : Type} {F : α → β → Prop} : ∀ {l : List α} {m : List β}, Paired F l m → l.length = m.length
  | _, _, .nil => rfl
  | _, _, .cons _ r => congrArg (· + 1) (paired_len r)
theorem paired_map {α β : Type} {f : α → β} : ∀ {l : List α} {m : List β}, Paired (fun a b => b = f a) l m → m = l.map f
  | _, _, .nil => rfl
  | _, _, .cons h r => by rw [h, paired_map r]; rfl
theorem paired_mono {α β : Type} {F G : α → β → Prop} (k : ∀ a b, F a b → G a b) : ∀ {l : List α} {m : List β}, Paired F l m → Paired G l m
  | _, _, .nil => .nil
  | _, _, .cons h r => .cons (k _ _ h) (paired_mono k r)
theorem paired_get {α β : Type} {F : α → β → Prop} : ∀ {l : List α} {m : List β}, Paired F l m → ∀ {i : Nat} {a : α}, l[i]? = some a → ∃ b, m[i]? = some b ∧ F a b
  | _, _, .nil, _, _, e => by simp at e
  | _, _, .cons h r, 0, _, e => by cases e; exact ⟨_, rfl, h⟩
  | _, _, .cons h r, i + 1, a, e => paired_get r (i := i) (by simpa using e)
theorem paired_get' {α β : Type} {F : α → β → Prop} : ∀ {l : List α} {m : List β}, Paired F l m → ∀ {i : Nat} {b : β}, m[i]? = some b → ∃ a, l[i]? = some a ∧ F a b
  | _, _, .nil, _, _, e => by simp at e
  | _, _, .cons h r, 0, _, e => by cases e; exact ⟨_, rfl, h⟩
  | _, _, .cons h r, i + 1, a, e => paired_get' r (i := i) (by simpa using e)
/-- all but what stands at D stays -/
def SB (D : Addr) (H H' : Hp) : Prop := ∀ b o, b ≠ D → H b = some o → H' b = some o
theorem Same.sb {D : Addr} {H H' : Hp} (e : Same H H') : SB D H H' := fun b o _ h => e b o h
theorem SB.tp {D p : Addr} {H H' : Hp} {xs ys : List V} (e : SB D H H') (hD : H D = some (.lst ys)) (h : Tp H p xs) : Tp H' p xs := by
  rcases h with h | ⟨o, h⟩
  · exact .inl (e _ _ (ne_of h hD (by intro z; cases z)) h)
  · exact .inr ⟨o, e _ _ (ne_of h hD (by intro z; cases z)) h⟩
theorem lcG {J : It} {g : TG} {tt : TT} {te : TE} {vs : List Nat} {σ : L2.St} {H1 : Hp} {D : Addr} {Qd : Hp → Prop} (n : Nat) (kept : Nat → Bool) (P : Nat → V → Hp → Prop) (mono : ∀ i v H H' ys, H D = some (.lst ys) → SB D H H' → P i v H → P i v H') (hD : H1 D = none) (hn : n ≤ 100000)
    (hgo : ∀ i H, i < n → Same H1 H → J.go i H) (hstop : ∀ H, Same H1 H → J.stop n H)
    (hs : ∀ i x H H', i < n → Same H1 H → (∃ ys, H D = some (.lst ys)) → J.yld i H x H' → ∀ R : L2.St → Hp → Prop, (∀ σ2 H2, wipe σ2 vs = wipe σ vs → Same H H2 →
      (∀ K : Bool → Hp → Prop, (∀ H3, Same H2 H3 → K (kept i) H3) → tt σ2 H2 K) → (kept i = true → ∀ H3, Same H2 H3 → ∀ R : VK, (∀ v H4, Same H3 H4 → P i v H4 → R v H4) → te σ2 H3 R) → R σ2 H2) → g x (wipe σ vs) H' R)
    (hd : ∀ H ys, Same H1 H → H D = some (.lst ys) → Paired (fun i v => P i v H) ((List.range n).filter kept) ys → Qd H) :
    ∃ W : Nat → Nat → Hp → Prop, (∃ m, W 0 m (upd H1 D (.lst []))) ∧ ∀ i m H, W i m H →
      (J.stop i H ∧ Qd H) ∨ (J.go i H ∧ ∃ Nx : Hp → Prop, (∀ H', Nx H' → ∃ m', m' < m ∧ W (i + 1) m' H') ∧ ∀ x H', J.yld i H x H' → g x (wipe σ vs) H' fun σ2 H2 => wipe σ2 vs = wipe σ vs ∧ tt σ2 H2 fun b H3 =>
        if b = true then te σ2 H3 fun y H4 => ∃ acc, H4 D = some (.lst acc) ∧ acc.length < sizeLine ∧ Nx (upd H4 D (.lst (acc ++ [y]))) else Nx H3) := by
  refine lc_by n (fun i H => Same H1 H ∧ ∃ ys, H D = some (.lst ys) ∧ Paired (fun i v => P i v H) ((List.range i).filter kept) ys) ⟨same_new hD _, [], upd_same, .nil⟩ (fun i H hi p => hgo i H hi p.1) (fun H p => hstop H p.1) ?_ (fun H p => let ⟨s, ys, e, q⟩ := p; hd H ys s e q)
  rintro i x H H' hi ⟨s1, ys, eD, pr⟩ y
  refine hs i x H H' hi s1 ⟨ys, eD⟩ y _ fun σ2 H2 w s2 ht he => ⟨w, ht _ fun H3 s3 => ?_⟩
  have s23 : Same H H3 := s2.trans s3
  cases c : kept i with
  | true =>
    refine iteT (he c H3 s3 _ fun v H4 s4 pv => ?_)
    have s14 : Same H H4 := s23.trans s4
    have eD4 := s14 _ _ eD
    have lz : ys.length < sizeLine := by
      have e1 := paired_len pr
      have e2 : ((List.range i).filter kept).length ≤ i := by
        have := List.length_filter_le kept (List.range i)
        rwa [List.length_range] at this
      exact Nat.lt_of_le_of_lt (show ys.length ≤ 100000 by omega) (by decide)
    have s5 : SB D H4 (upd H4 D (.lst (ys ++ [v]))) := fun b o hb e => by rw [upd_ne hb]; exact e
    refine ⟨ys, eD4, lz, fun b o e => ?_, ys ++ [v], upd_same, ?_⟩
    · exact s5 b o (ne_of_none e hD) (s14 _ _ (s1 _ _ e))
    · rw [range_filter_succ, if_pos c]
      exact paired_snoc (F := fun j u => P j u (upd H4 D (.lst (ys ++ [v])))) (mono _ _ _ _ _ eD4 s5 pv) (paired_mono (fun j u pj => mono _ _ _ _ _ eD4 s5 (mono _ _ _ _ _ eD (Same.sb s14) pj)) pr)
  | false =>
    refine iteF ⟨s1.trans s23, ys, s23 _ _ eD, ?_⟩
    rw [range_filter_succ, if_neg (by rw [c]; decide), List.append_nil]
    exact paired_mono (fun j u pj => mono _ _ _ _ _ eD (Same.sb s23) pj) pr
/-- the same, each value told -/
theorem lcF {J : It} {g : TG} {tt : TT} {te : TE} {vs : List Nat} {σ : L2.St} {H1 : Hp} {D : Addr} {Qd : Hp → Prop} (n : Nat) (kept : Nat → Bool) (f : Nat → V) (hD : H1 D = none) (hn : n ≤ 100000)
    (hgo : ∀ i H, i < n → Same H1 H → J.go i H) (hstop : ∀ H, Same H1 H → J.stop n H)
    (hs : ∀ i x H H', i < n → Same H1 H → J.yld i H x H' → ∀ R : L2.St → Hp → Prop, (∀ σ2 H2, wipe σ2 vs = wipe σ vs → Same H H2 →
      (∀ K : Bool → Hp → Prop, (∀ H3, Same H2 H3 → K (kept i) H3) → tt σ2 H2 K) → (kept i = true → ∀ H3, Same H2 H3 → ∀ R : VK, (∀ H4, Same H3 H4 → R (f i) H4) → te σ2 H3 R) → R σ2 H2) → g x (wipe σ vs) H' R)
    (hd : ∀ H, Same H1 H → H D = some (.lst (((List.range n).filter kept).map f)) → Qd H) :
    ∃ W : Nat → Nat → Hp → Prop, (∃ m, W 0 m (upd H1 D (.lst []))) ∧ ∀ i m H, W i m H →
      (J.stop i H ∧ Qd H) ∨ (J.go i H ∧ ∃ Nx : Hp → Prop, (∀ H', Nx H' → ∃ m', m' < m ∧ W (i + 1) m' H') ∧ ∀ x H', J.yld i H x H' → g x (wipe σ vs) H' fun σ2 H2 => wipe σ2 vs = wipe σ vs ∧ tt σ2 H2 fun b H3 =>
        if b = true then te σ2 H3 fun y H4 => ∃ acc, H4 D = some (.lst acc) ∧ acc.length < sizeLine ∧ Nx (upd H4 D (.lst (acc ++ [y]))) else Nx H3) :=
  lcG n kept (fun i v _ => v = f i) (fun _ _ _ _ _ _ _ h => h) hD hn hgo hstop
    (fun i x H H' hi s _ y R k => hs i x H H' hi s y R fun σ2 H2 w s2 ht he => k σ2 H2 w s2 ht fun c H3 s3 R' k' => he c H3 s3 R' fun H4 s4 => k' (f i) H4 s4 rfl)
    (fun H ys s e pr => hd H s (by rw [e, paired_map pr]))
theorem filter_yes (n : Nat) : (List.range n).filter (fun _ => true) = List.range n := List.filter_eq_self.mpr fun _ _ => rfl
/-- no test, each value told -/
theorem lcM {J : It} {g : TG} {te : TE} {vs : List Nat} {σ : L2.St} {H1 : Hp} {D : Addr} {Qd : Hp → Prop} (n : Nat) (f : Nat → V) (hD : H1 D = none) (hn : n ≤ 100000)
    (hgo : ∀ i H, i < n → Same H1 H → J.go i H) (hstop : ∀ H, Same H1 H → J.stop n H)
    (hs : ∀ i x H H', i < n → Same H1 H → J.yld i H x H' → ∀ R : L2.St → Hp → Prop, (∀ σ2 H2, wipe σ2 vs = wipe σ vs → Same H H2 →
      (∀ R : VK, (∀ H4, Same H2 H4 → R (f i) H4) → te σ2 H2 R) → R σ2 H2) → g x (wipe σ vs) H' R)
    (hd : ∀ H, Same H1 H → H D = some (.lst ((List.range n).map f)) → Qd H) :
    ∃ W : Nat → Nat → Hp → Prop, (∃ m, W 0 m (upd H1 D (.lst []))) ∧ ∀ i m H, W i m H →
      (J.stop i H ∧ Qd H) ∨ (J.go i H ∧ ∃ Nx : Hp → Prop, (∀ H', Nx H' → ∃ m', m' < m ∧ W (i + 1) m' H') ∧ ∀ x H', J.yld i H x H' → g x (wipe σ vs) H' fun σ2 H2 => wipe σ2 vs = wipe σ vs ∧ tYes σ2 H2 fun b H3 =>
        if b = true then te σ2 H3 fun y H4 => ∃ acc, H4 D = some (.lst acc) ∧ acc.length < sizeLine ∧ Nx (upd H4 D (.lst (acc ++ [y]))) else Nx H3) := by
  refine lc_by n (fun i H => Same H1 H ∧ H D = some (.lst ((List.range i).map f))) ⟨same_new hD _, upd_same⟩ (fun i H hi p => hgo i H hi p.1) (fun H p => hstop H p.1) ?_ (fun H p => hd H p.1 p.2)
  rintro i x H H' hi ⟨s1, eD⟩ y
  refine hs i x H H' hi s1 y _ fun σ2 H2 w s2 he => ⟨w, ?_⟩
  dsimp only [tYes]
  refine iteT (he _ fun H4 s4 => ?_)
  have s14 : Same H H4 := s2.trans s4
  refine ⟨_, s14 _ _ eD, ?_, fun b o e => ?_, ?_⟩
  · rw [List.length_map, List.length_range]
    exact Nat.lt_of_le_of_lt (show i ≤ 100000 by omega) (by decide)
  · rw [upd_ne (ne_of_none e hD)]
    exact s14 _ _ (s1 _ _ e)
  · rw [upd_same, List.range_succ, List.map_append]
    rfl
end Lf
/-! The primes that are drawn; plain facts. -/
namespace Lf
def primes : List Int := [2, 3, 5, 7, 11, 13, 31, 97, 251]
def PrimeOk (p : Int) : Prop := p ∈ primes
theorem PrimeOk.bd {p : Int} (h : PrimeOk p) : 2 ≤ p ∧ p ≤ 251 := by
  have e : ∀ p ∈ primes, 2 ≤ p ∧ p ≤ 251 := by decide +kernel
  exact e p h
theorem prime_all {p : Int} (h : PrimeOk p) : ∀ i < (p - 2).toNat, ¬ p % (2 + (i : Int)) = 0 := by
  have e : ∀ p ∈ primes, ((List.range (p - 2).toNat).all fun i => !decide (p % (2 + (i : Int)) = 0)) = true := by decide +kernel
  intro i hi
  have := List.all_eq_true.mp (e p h) i (List.mem_range.mpr hi)
  simpa using this
/-- the values whose product with v is 1 -/
def invs (p v : Int) : List Nat := (List.range (p - 1).toNat).filter fun i => decide ((1 + (i : Int)) * v % p = 1)
def inv (p v : Int) : Int := 1 + ((invs p v).headD 0 : Nat)
def invsB (p v : Nat) : Bool := (List.range (p - 1)).any fun i => Nat.beq (((1 + i) * v) % p) 1
theorem invs_all : ∀ p ∈ [2, 3, 5, 7, 11, 13, 31, 97, 251], ((List.range p).all fun v => Nat.beq v 0 || invsB p v) = true := by decide +kernel
theorem invs_ne {p v : Int} (h : PrimeOk p) (h0 : 0 < v) (h1 : v < p) : ∃ i r, invs p v = i :: r := by
  have hp := h.bd
  have hm : p.toNat ∈ [2, 3, 5, 7, 11, 13, 31, 97, 251] := by
    have e : ∀ p ∈ primes, p.toNat ∈ [2, 3, 5, 7, 11, 13, 31, 97, 251] := by decide +kernel
    exact e p h
  have a := List.all_eq_true.mp (invs_all p.toNat hm) v.toNat (List.mem_range.mpr (by omega))
  rw [Bool.or_eq_true] at a
  rcases a with a | a
  · have := Nat.eq_of_beq_eq_true a
    omega
  · obtain ⟨i, hi, e⟩ := List.any_eq_true.mp a
    have e1 := Nat.eq_of_beq_eq_true e
    have hi1 := List.mem_range.mp hi
    have hmem : i ∈ invs p v := by
      refine List.mem_filter.mpr ⟨List.mem_range.mpr (by omega), decide_eq_true ?_⟩
      have e2 : (((1 + i) * v.toNat % p.toNat : Nat) : Int) = ((1 : Nat) : Int) := by rw [e1]
      have e3 : ((v.toNat : Nat) : Int) = v := by omega
      have e4 : ((p.toNat : Nat) : Int) = p := by omega
      rw [Int.natCast_emod, Int.natCast_mul, e3, e4] at e2
      simpa using e2
    cases q : invs p v with
    | nil => rw [q] at hmem; cases hmem
    | cons x r => exact ⟨x, r, rfl⟩
theorem inv_spec {p v : Int} (h : PrimeOk p) (h0 : 0 < v) (h1 : v < p) : inv p v * v % p = 1 ∧ 1 ≤ inv p v ∧ inv p v < p := by
  obtain ⟨i, r, e⟩ := invs_ne h h0 h1
  have hm : i ∈ invs p v := by rw [e]; exact List.mem_cons_self
  obtain ⟨a, b⟩ := List.mem_filter.mp hm
  have a1 := List.mem_range.mp a
  have b1 := of_decide_eq_true b
  have hp := h.bd
  unfold inv
  rw [e]
  refine ⟨b1, ?_, ?_⟩
  · show (1 : Int) ≤ 1 + (i : Int)
    omega
  · show 1 + (i : Int) < p
    omega
/-- row less another one so many times -/
def lessT (p : Int) (row : List Int) (t : Int) (oth : List Int) : List Int := List.zipWith (fun a b => (a - t * b) % p) row oth
theorem lessT_length {p t : Int} {row oth : List Int} (h : row.length = oth.length) : (lessT p row t oth).length = row.length := by
  unfold lessT
  rw [List.length_zipWith, ← h, Nat.min_self]
theorem lessT_get {p t : Int} {row oth : List Int} {i : Nat} {a b : Int} (ha : row[i]? = some a) (hb : oth[i]? = some b) : (lessT p row t oth)[i]? = some ((a - t * b) % p) := by
  unfold lessT
  rw [List.getElem?_zipWith, ha, hb]
/-- the first place that is not 0 -/
def firstP (row : List Int) : Option Nat := row.findIdx? fun v => v != 0
/-- the places that are not 0 -/
def nzP (row : List Int) : List Nat := (List.range row.length).filter fun i => row.getD i 0 != 0
theorem nzP_head (row : List Int) : (nzP row).head? = firstP row := by
  unfold nzP firstP
  induction row with
  | nil => rfl
  | cons v r ih =>
    rw [List.length_cons, List.range_succ_eq_map, List.filter_cons, List.findIdx?_cons]
    have e0 : (v :: r).getD 0 0 = v := rfl
    rw [e0]
    cases c : (v != 0) with
    | true => rfl
    | false =>
      rw [List.filter_map]
      have e1 : ((fun i => (v :: r).getD i 0 != 0) ∘ Nat.succ) = fun i => r.getD i 0 != 0 := by
        funext i
        rfl
      rw [e1]
      simp only [Bool.false_eq_true, if_false]
      rw [List.head?_map, ih]
end Lf
/-! zip and enumerate in comprehensions: helpers. -/
namespace Lf
open PySem PySem.Spec PyProof.Rows L2
theorem dec_vi {a b : Int} : decide (V.int a = V.int b) = decide (a = b) := by
  by_cases c : a = b
  · rw [c, decide_eq_true rfl, decide_eq_true rfl]
  · rw [decide_eq_false c, decide_eq_false fun z => c (V.int.inj z)]
theorem iv_get {ns : List Int} {i : Nat} {x : V} (h : (iv ns)[i]? = some x) : ∃ n, ns[i]? = some n ∧ x = .int n := by
  rw [List.getElem?_map] at h
  cases e : ns[i]? with
  | none => rw [e] at h; cases h
  | some n => rw [e] at h; exact ⟨n, rfl, (Option.some.inj h).symm⟩
theorem iv_at {ns : List Int} {i : Nat} {n : Int} (h : ns[i]? = some n) : (iv ns)[i]? = some (.int n) := by
  rw [List.getElem?_map, h]; rfl
theorem iv_len (ns : List Int) : (iv ns).length = ns.length := List.length_map _
theorem iv_range (L : List Int) : (List.range L.length).map (fun i => V.int (L.getD i 0)) = iv L := by
  refine List.ext_getElem? fun i => ?_
  rw [List.getElem?_map, List.getElem?_map]
  by_cases h : i < L.length
  · rw [List.getElem?_range h, List.getElem?_eq_getElem h]
    show some (V.int (L.getD i 0)) = some (V.int L[i])
    rw [List.getD_eq_getElem?_getD, List.getElem?_eq_getElem h]
    rfl
  · rw [List.getElem?_eq_none (by rw [List.length_range]; omega), List.getElem?_eq_none (by omega)]
    rfl
theorem getD_of {L : List Int} {i : Nat} {z : Int} (h : L[i]? = some z) : L.getD i 0 = z := by rw [List.getD_eq_getElem?_getD, h]; rfl
theorem Sq.same {K : PySem.W.Frag} {H H' : Hp} {b : Bool} {a : Addr} {xs : List V} (e : Same H H') (h : Sq K H b a xs) : Sq K H' b a xs := by
  cases b
  · exact Same.sqt e h
  · exact e.seq h
section
variable {K : PySem.W.Frag} {b1 b2 b : Bool} {a c : Addr} {xs ys : List V} {H H' : Hp} {i : Nat} {v : V}
theorem itm_go (h1 : Sq K H b1 a xs) (h2 : Sq K H b2 c ys) (l1 : i < xs.length) (l2 : i < ys.length) : (Itm K b1 b2 a c).go i H :=
  ⟨xs, ys, _, _, h1, h2, List.getElem?_eq_getElem l1, List.getElem?_eq_getElem l2⟩
theorem itm_stop (h1 : Sq K H b1 a xs) (h2 : Sq K H b2 c ys) (hl : xs.length = ys.length) (e : i = xs.length) : (Itm K b1 b2 a c).stop i H :=
  ⟨xs, ys, h1, h2, by omega, by omega, .inl e⟩
theorem itm_yld (h1 : Sq K H b1 a xs) (h2 : Sq K H b2 c ys) (y : (Itm K b1 b2 a c).yld i H v H') : ∃ T x z, v = .ref T ∧ H T = none ∧ H' = upd H T (.tup [x, z]) ∧ xs[i]? = some x ∧ ys[i]? = some z := by
  obtain ⟨T, x, z, e1, e2, e3, e4, e5⟩ := y
  exact ⟨T, x, z, e1, e2, e3, e4 xs h1, e5 ys h2⟩
theorem itn_go (h1 : Sq K H b a xs) (l1 : i < xs.length) : (Itn K b a).go i H := ⟨xs, _, h1, List.getElem?_eq_getElem l1⟩
theorem itn_stop (h1 : Sq K H b a xs) (e : i = xs.length) : (Itn K b a).stop i H := ⟨xs, h1, e.symm⟩
theorem itn_yld (h1 : Sq K H b a xs) (y : (Itn K b a).yld i H v H') : ∃ T x, v = .ref T ∧ H T = none ∧ H' = upd H T (.tup [.int (i : Nat), x]) ∧ xs[i]? = some x := by
  obtain ⟨T, x, e1, e2, e3, e4⟩ := y
  exact ⟨T, x, e1, e2, e3, e4 xs h1⟩
theorem g_pair {T : Addr} {x y : V} {σ : L2.St} {j k : Nat} {R : L2.St → Hp → Prop} (h : H T = some (.tup [x, y])) (r : R ((σ.set j (some x)).set k (some y)) H) : gTup K 2 (gCons (gName j) (gCons (gName k) gNil)) (.ref T) σ H R :=
  ⟨T, [x, y], rfl, SqT.of h, rfl, x, [y], rfl, y, [], rfl, rfl, r⟩
theorem g_pairS {T : Addr} {x y : V} {σ : L2.St} {j k : Nat} {R : L2.St → Hp → Prop} (h : SqT K H T [x, y]) (r : R ((σ.set j (some x)).set k (some y)) H) : gTup K 2 (gCons (gName j) (gCons (gName k) gNil)) (.ref T) σ H R :=
  ⟨T, [x, y], rfl, h, rfl, x, [y], rfl, y, [], rfl, rfl, r⟩
end
/-- [e for x, y in zip(xs, ys)], xs and ys ints, as many of both: the list L of ints -/
theorem lcZ {K : PySem.W.Frag} {b1 b2 : Bool} {a c : Addr} {xs ys L : List Int} {te : TE} {vs : List Nat} {σ : L2.St} {H1 : Hp} {D : Addr} {Qd : Hp → Prop} {j k : Nat} (hD : H1 D = none) (hn : xs.length ≤ 100000) (hl : xs.length = ys.length) (hL : L.length = xs.length)
    (q1 : Sq K H1 b1 a (iv xs)) (q2 : Sq K H1 b2 c (iv ys)) (hw : ∀ x y, wipe (((wipe σ vs).set j x).set k y) vs = wipe σ vs)
    (hs : ∀ (i : Nat) (x y z : Int) (H2 : Hp), xs[i]? = some x → ys[i]? = some y → L[i]? = some z → Same H1 H2 → ∀ R : VK, R (.int z) H2 → te (((wipe σ vs).set j (some (.int x))).set k (some (.int y))) H2 R)
    (hd : ∀ H, Same H1 H → H D = some (.lst (iv L)) → Qd H) :
    ∃ W : Nat → Nat → Hp → Prop, (∃ m, W 0 m (upd H1 D (.lst []))) ∧ ∀ i m H, W i m H →
      ((Itm K b1 b2 a c).stop i H ∧ Qd H) ∨ ((Itm K b1 b2 a c).go i H ∧ ∃ Nx : Hp → Prop, (∀ H', Nx H' → ∃ m', m' < m ∧ W (i + 1) m' H') ∧ ∀ x H', (Itm K b1 b2 a c).yld i H x H' → gTup K 2 (gCons (gName j) (gCons (gName k) gNil)) x (wipe σ vs) H' fun σ2 H2 => wipe σ2 vs = wipe σ vs ∧ tYes σ2 H2 fun b H3 =>
        if b = true then te σ2 H3 fun y H4 => ∃ acc, H4 D = some (.lst acc) ∧ acc.length < sizeLine ∧ Nx (upd H4 D (.lst (acc ++ [y]))) else Nx H3) := by
  refine lcM xs.length (fun i => .int (L.getD i 0)) hD hn (fun i H hi s => itm_go (q1.same s) (q2.same s) (by rw [iv_len]; exact hi) (by rw [iv_len]; omega)) (fun H s => itm_stop (q1.same s) (q2.same s) (by rw [iv_len, iv_len]; exact hl) (iv_len _).symm) ?_ ?_
  · intro i v H H' hi s y R k'
    obtain ⟨T, x, z, rfl, nT, rfl, e1, e2⟩ := itm_yld (q1.same s) (q2.same s) y
    obtain ⟨x', f1, rfl⟩ := iv_get e1
    obtain ⟨z', f2, rfl⟩ := iv_get e2
    have f3 : L[i]? = some (L.getD i 0) := by rw [List.getD_eq_getElem?_getD, List.getElem?_eq_getElem (show i < L.length by omega)]; rfl
    exact g_pair upd_same (k' _ _ (hw _ _) (same_new nT _) fun R' k2 => hs i x' z' _ _ f1 f2 f3 (s.trans (same_new nT _)) R' (k2 _ (Same.refl _)))
  · intro H s e
    refine hd H s ?_
    rw [e, ← hL, iv_range]
end Lf
/-! Comprehensions over a list, a tuple, a range: one name. -/
namespace Lf
open PySem PySem.Spec PyProof.Rows L2
/-- a walk that gives xs one by one, making nothing -/
structure Plain (J : It) (H1 : Hp) (xs : List V) : Prop where
  go : ∀ i H, i < xs.length → Same H1 H → J.go i H
  stop : ∀ H, Same H1 H → J.stop xs.length H
  yld : ∀ i x H H', i < xs.length → Same H1 H → J.yld i H x H' → H' = H ∧ xs[i]? = some x
theorem plain_t {K : PySem.W.Frag} {H : Hp} {a : Addr} {xs : List V} (h : SqT K H a xs) : Plain (Itt K a) H xs where
  go := fun i H' hi s => ⟨xs, _, Same.sqt s h, List.getElem?_eq_getElem hi⟩
  stop := fun H' s => ⟨xs, Same.sqt s h, Nat.le_refl _⟩
  yld := fun i x H1 H2 _ s y => ⟨y.1, y.2 xs (Same.sqt s h)⟩
theorem plain_l {K : PySem.W.Frag} {H : Hp} {a : Addr} {xs : List V} (h : SqL K H a xs) : Plain (Itl K a) H xs where
  go := fun i H' hi s => ⟨xs, _, s.seq h, List.getElem?_eq_getElem hi⟩
  stop := fun H' s => ⟨xs, s.seq h, Nat.le_refl _⟩
  yld := fun i x H1 H2 _ s y => ⟨y.1, y.2 xs (s.seq h)⟩
def rgI (lo : Int) (n : Nat) : List V := (List.range n).map fun (i : Nat) => V.int (lo + (i : Int))
theorem rgI_len (lo : Int) (n : Nat) : (rgI lo n).length = n := by unfold rgI; rw [List.length_map, List.length_range]
theorem rgI_get {lo : Int} {n i : Nat} {x : V} (h : (rgI lo n)[i]? = some x) : i < n ∧ x = .int (lo + (i : Int)) := by
  have hi : i < n := by
    have := (List.getElem?_eq_some_iff.mp h).1
    rwa [rgI_len] at this
  unfold rgI at h
  rw [List.getElem?_map, List.getElem?_range hi] at h
  exact ⟨hi, (Option.some.inj h).symm⟩
theorem plain_r {H : Hp} (lo : Int) (n : Nat) : Plain (Itr lo n) H (rgI lo n) where
  go := fun i H' hi _ => by rw [rgI_len] at hi; exact hi
  stop := fun H' _ => by rw [rgI_len]; exact Nat.le_refl n
  yld := fun i x H1 H2 hi _ y => by
    rw [rgI_len] at hi
    obtain ⟨e1, e2⟩ := y
    refine ⟨e1, ?_⟩
    unfold rgI
    rw [List.getElem?_map, List.getElem?_range hi, e2]
    rfl
theorem lcS {J : It} {te : TE} {vs : List Nat} {σ : L2.St} {H1 : Hp} {D : Addr} {Qd : Hp → Prop} {j : Nat} {xs : List V} (pl : Plain J H1 xs) (f : Nat → V) (hD : H1 D = none) (hn : xs.length ≤ 100000) (hw : ∀ x, wipe ((wipe σ vs).set j x) vs = wipe σ vs)
    (hs : ∀ (i : Nat) (x : V) (H2 : Hp), xs[i]? = some x → Same H1 H2 → ∀ R : VK, (∀ H4, Same H2 H4 → R (f i) H4) → te ((wipe σ vs).set j (some x)) H2 R)
    (hd : ∀ H, Same H1 H → H D = some (.lst ((List.range xs.length).map f)) → Qd H) :
    ∃ W : Nat → Nat → Hp → Prop, (∃ m, W 0 m (upd H1 D (.lst []))) ∧ ∀ i m H, W i m H →
      (J.stop i H ∧ Qd H) ∨ (J.go i H ∧ ∃ Nx : Hp → Prop, (∀ H', Nx H' → ∃ m', m' < m ∧ W (i + 1) m' H') ∧ ∀ x H', J.yld i H x H' → gName j x (wipe σ vs) H' fun σ2 H2 => wipe σ2 vs = wipe σ vs ∧ tYes σ2 H2 fun b H3 =>
        if b = true then te σ2 H3 fun y H4 => ∃ acc, H4 D = some (.lst acc) ∧ acc.length < sizeLine ∧ Nx (upd H4 D (.lst (acc ++ [y]))) else Nx H3) := by
  refine lcM xs.length f hD hn pl.go pl.stop ?_ hd
  intro i x H H' hi s y R k
  obtain ⟨rfl, e⟩ := pl.yld i x H H' hi s y
  exact k _ _ (hw _) (Same.refl _) fun R' k2 => hs i x _ e s R' k2
theorem lcSF {J : It} {tt : TT} {te : TE} {vs : List Nat} {σ : L2.St} {H1 : Hp} {D : Addr} {Qd : Hp → Prop} {j : Nat} {xs : List V} (pl : Plain J H1 xs) (kept : Nat → Bool) (f : Nat → V) (hD : H1 D = none) (hn : xs.length ≤ 100000) (hw : ∀ x, wipe ((wipe σ vs).set j x) vs = wipe σ vs)
    (ht : ∀ (i : Nat) (x : V) (H2 : Hp), xs[i]? = some x → Same H1 H2 → ∀ R : Bool → Hp → Prop, (∀ H4, Same H2 H4 → R (kept i) H4) → tt ((wipe σ vs).set j (some x)) H2 R)
    (hs : ∀ (i : Nat) (x : V) (H2 : Hp), xs[i]? = some x → kept i = true → Same H1 H2 → ∀ R : VK, (∀ H4, Same H2 H4 → R (f i) H4) → te ((wipe σ vs).set j (some x)) H2 R)
    (hd : ∀ H, Same H1 H → H D = some (.lst (((List.range xs.length).filter kept).map f)) → Qd H) :
    ∃ W : Nat → Nat → Hp → Prop, (∃ m, W 0 m (upd H1 D (.lst []))) ∧ ∀ i m H, W i m H →
      (J.stop i H ∧ Qd H) ∨ (J.go i H ∧ ∃ Nx : Hp → Prop, (∀ H', Nx H' → ∃ m', m' < m ∧ W (i + 1) m' H') ∧ ∀ x H', J.yld i H x H' → gName j x (wipe σ vs) H' fun σ2 H2 => wipe σ2 vs = wipe σ vs ∧ tt σ2 H2 fun b H3 =>
        if b = true then te σ2 H3 fun y H4 => ∃ acc, H4 D = some (.lst acc) ∧ acc.length < sizeLine ∧ Nx (upd H4 D (.lst (acc ++ [y]))) else Nx H3) := by
  refine lcF xs.length kept f hD hn pl.go pl.stop ?_ hd
  intro i x H H' hi s y R k
  obtain ⟨rfl, e⟩ := pl.yld i x H H' hi s y
  exact k _ _ (hw _) (Same.refl _) (fun c k2 => ht i x _ e s c k2) fun c H3 s3 R' k2 => hs i x _ e c (s.trans s3) R' k2
theorem map_range_get {α : Type} {xs : List V} {f : Nat → V} {g : α → V} {ys : List α} (hl : ys.length = xs.length) (h : ∀ i y, ys[i]? = some y → f i = g y) : (List.range xs.length).map f = ys.map g := by
  refine List.ext_getElem? fun i => ?_
  rw [List.getElem?_map, List.getElem?_map]
  by_cases c : i < xs.length
  · rw [List.getElem?_range c, List.getElem?_eq_getElem (show i < ys.length by omega)]
    exact congrArg some (h i _ (List.getElem?_eq_getElem (by omega)))
  · rw [List.getElem?_eq_none (by rw [List.length_range]; omega), List.getElem?_eq_none (by omega)]
    rfl
end Lf
/-! Checks. -/
namespace Lf
open PySem PySem.Spec PyProof.Rows L2
/-- an int or a bool, as isinstance tells them apart -/
def isI : V → Option Bool
  | .int _ => some true
  | .bl _ => some false
  | _ => none
def wit (x : V) (lo hi : Int) : Option Bool := match x with
  | .int i => some (decide (lo ≤ i) && decide (i ≤ hi))
  | .bl _ => some false
  | _ => none
section
variable {P : Program} {w : World} {K : PySem.W.Frag} {mg : Str → Option Value} {base : Heap}
def spIsInteger : Sp := fun vs H Q _ => ∃ x b, vs = [x] ∧ isI x = some b ∧ Q (.bl b) H
abbrev N_is_integer : List Str := ["thing"]
theorem sc_is_integer : FnScope N_is_integer ["thing"] d_is_integer.scope := ⟨rfl, rfl, rfl, by decide +kernel, rfl, by decide +kernel, by decide +kernel⟩
theorem cl_is_integer (E : Env K mg) : Cl P w K mg base 1 "is_integer" ["thing"] (spIsInteger) := by
  refine Cl.of (k := 0) E 0 0 (d := d_is_integer) rfl rfl rfl rfl rfl sc_is_integer (fun vs H Q E' h => by (repeat obtain ⟨_, h⟩ := h); subst_vars; rfl) (fun _ _ _ _ _ _ us hl => match us, hl with | [_], _ => rfl) (fun f cdv A outer s H vs Q E' hr h => ?_)
  obtain ⟨x, b, rfl, hx, q⟩ := h
  refine ⟨_, (pss_one (ps_ret (pe_and (pe_callB call_isi (by rfl) (E.free 67) (by decide +kernel) (pa_cons (pv 0) (pa_cons (pe_bltn (v := .ty "int") (by rfl) (E.free 68) (by decide +kernel) rfl) pa_nil))) (pe_one (pe_not (pe_callB call_isi (by rfl) (E.free 67) (by decide +kernel) (pa_cons (pv 0) (pa_cons (pe_bltn (v := .ty "bool") (by rfl) (E.free 69) (by decide +kernel) rfl) pa_nil)))))))), ?_⟩
  cases x with
  | int i =>
    cases hx
    refine ⟨_, rfl, _, _, _, _, true, rfl, .ty _, .base (.int i), kit_ty (by decide +kernel), true, rfl, iteT ?_⟩
    exact ⟨_, rfl, _, _, _, _, false, rfl, .ty _, .base (.int i), kit_ty (by decide +kernel), false, rfl, q⟩
  | bl i =>
    cases hx
    refine ⟨_, rfl, _, _, _, _, true, rfl, .ty _, .base (.bl i), kit_ty (by decide +kernel), true, rfl, iteT ?_⟩
    exact ⟨_, rfl, _, _, _, _, true, rfl, .ty _, .base (.bl i), kit_ty (by decide +kernel), true, rfl, q⟩
  | _ => cases hx
def spIsWithin : Sp := fun vs H Q _ => ∃ x lo hi b, vs = [x, .int lo, .int hi] ∧ wit x lo hi = some b ∧ Q (.bl b) H
abbrev N_is_within : List Str := ["thing", "least", "most"]
theorem sc_is_within : FnScope N_is_within ["thing", "least", "most"] d_is_within.scope := ⟨rfl, rfl, rfl, by decide +kernel, rfl, by decide +kernel, by decide +kernel⟩
theorem cl_is_within (E : Env K mg) : Cl P w K mg base 2 "is_within" ["thing", "least", "most"] (spIsWithin) := by
  refine Cl.of (k := 1) E 1 1 (d := d_is_within) rfl rfl rfl rfl rfl sc_is_within (fun vs H Q E' h => by (repeat obtain ⟨_, h⟩ := h); subst_vars; rfl) (fun _ _ _ _ _ _ us hl => match us, hl with | [_, _, _], _ => rfl) (fun f cdv A outer s H vs Q E' hr h => ?_)
  obtain ⟨x, lo, hi, b, rfl, hx, q⟩ := h
  refine ⟨_, (pss_one (ps_ret (pe_and (pe_c (cl_is_integer E) (hr.mono (by decide)) rfl (pa_cons (pv 0) pa_nil)) (pe_one (pe_chain op_le op_le (pv 1) (pv 0) (pv 2)))))), ?_⟩
  cases x with
  | int i =>
    cases hx
    refine ⟨_, rfl, _, true, rfl, rfl, true, rfl, iteT ?_⟩
    refine ⟨_, rfl, _, rfl, _, _, rfl, rfl, _, rfl, ?_⟩
    by_cases c : lo ≤ i
    · rw [decide_eq_true c] at q ⊢
      exact iteT ⟨_, rfl, _, _, rfl, rfl, q⟩
    · rw [decide_eq_false c] at q ⊢
      exact iteF q
  | bl i =>
    cases hx
    exact ⟨_, rfl, _, false, rfl, rfl, false, rfl, iteF q⟩
  | _ => cases hx
end
end Lf
/-! is_pair, is_lot. -/
namespace Lf
open PySem PySem.Spec PyProof.Rows L2
/-- whether a value is a pair -/
def Pr (H : Hp) (x : V) (b : Bool) : Prop := (NT H x ∧ b = false) ∨ ∃ p xs, x = .ref p ∧ Tp H p xs ∧ b = decide (xs.length = 2)
def lotB (m : Int) : Int → List V → Bool
  | _, [] => true
  | l, .int i :: r => (decide (l + 1 ≤ i) && decide (i ≤ m - 1)) && lotB m i r
  | _, _ :: _ => false
theorem lotB_cons {m l : Int} {x : V} {r : List V} {b : Bool} (h : wit x (l + 1) (m - 1) = some b) : lotB m l (x :: r) = (b && match x with | .int i => lotB m i r | _ => false) := by
  cases x with
  | int i =>
    cases h
    rfl
  | bl i =>
    cases h
    rfl
  | _ => cases h
theorem drop_at {α : Type} {xs : List α} {i : Nat} {x : α} (h : xs[i]? = some x) : xs.drop i = x :: xs.drop (i + 1) := by
  obtain ⟨hi, e⟩ := List.getElem?_eq_some_iff.mp h
  rw [List.drop_eq_getElem_cons hi, e]
section
variable {P : Program} {w : World} {K : PySem.W.Frag} {mg : Str → Option Value} {base : Heap}
def spIsPair : Sp := fun vs H Q _ => ∃ x b, vs = [x] ∧ Pr H x b ∧ Q (.bl b) H
abbrev N_is_pair : List Str := ["thing"]
theorem sc_is_pair : FnScope N_is_pair ["thing"] d_is_pair.scope := ⟨rfl, rfl, rfl, by decide +kernel, rfl, by decide +kernel, by decide +kernel⟩
theorem cl_is_pair (E : Env K mg) : Cl P w K mg base 1 "is_pair" ["thing"] (spIsPair) := by
  refine Cl.of (k := 0) E 2 2 (d := d_is_pair) rfl rfl rfl rfl rfl sc_is_pair (fun vs H Q E' h => by (repeat obtain ⟨_, h⟩ := h); subst_vars; rfl) (fun _ _ _ _ _ _ us hl => match us, hl with | [_], _ => rfl) (fun f cdv A outer s H vs Q E' hr h => ?_)
  obtain ⟨x, b, rfl, hx, q⟩ := h
  refine ⟨_, (pss_one (ps_ret (pe_and (pe_callB call_isi (by rfl) (E.free 67) (by decide +kernel) (pa_cons (pv 0) (pa_cons (pe_bltn (v := .ty "tuple") (by rfl) (E.free 70) (by decide +kernel) rfl) pa_nil))) (pe_one (pe_cmpR op_eq (pe_callB call_len_seq (by rfl) (E.free 71) PySem.boot_len (pa_cons (pv 0) pa_nil)) pe_int (nomark _)))))), ?_⟩
  rcases hx with ⟨hn, rfl⟩ | ⟨p, xs, rfl, ht, rfl⟩
  · obtain ⟨t, ty, kt⟩ := hn.ty (K := K)
    exact ⟨_, rfl, _, _, _, _, false, rfl, .ty _, ty, kit_ty kt, false, rfl, iteF q⟩
  · refine ⟨_, rfl, _, _, _, _, true, rfl, .ty _, ht.ty, kit_ty kit_tt, true, rfl, iteT ?_⟩
    refine ⟨_, rfl, p, xs, rfl, .inr ht.sq, rfl, ?_⟩
    have e : decide (V.int (xs.length : Int) = V.int 2) = decide (xs.length = 2) := by
      by_cases c : xs.length = 2
      · rw [decide_eq_true c, c]
        exact decide_eq_true rfl
      · rw [decide_eq_false c]
        refine decide_eq_false fun z => c ?_
        have := V.int.inj z
        omega
    show Q (.bl (decide (V.int (xs.length : Int) = V.int 2))) H
    rw [e]
    exact q
def spIsLot : Sp := fun vs H Q _ => ∃ p xs m, vs = [.ref p, .int m] ∧ Tp H p xs ∧ (∀ x ∈ xs, (isI x).isSome = true) ∧ Q (.bl (lotB m (-1) xs)) H
abbrev N_is_lot : List Str := ["thing", "many", "last", "number"]
theorem sc_is_lot : FnScope N_is_lot ["thing", "many"] d_is_lot.scope := ⟨rfl, rfl, rfl, by decide +kernel, rfl, by decide +kernel, by decide +kernel⟩
theorem cl_is_lot (E : Env K mg) : Cl P w K mg base 3 "is_lot" ["thing", "many"] (spIsLot) := by
  refine Cl.of (k := 2) E 3 3 (d := d_is_lot) rfl rfl rfl rfl rfl sc_is_lot (fun vs H Q E' h => by (repeat obtain ⟨_, h⟩ := h); subst_vars; rfl) (fun _ _ _ _ _ _ us hl => match us, hl with | [_, _], _ => rfl) (fun f cdv A outer s H vs Q E' hr h => ?_)
  obtain ⟨p, xs, m, rfl, ht, hx, q⟩ := h
  refine ⟨_, (pss_cons (ps_if (pt_not (pt_val (pe_callB call_isi (by rfl) (E.free 67) (by decide +kernel) (pa_cons (pv 0) (pa_cons (pe_bltn (v := .ty "tuple") (by rfl) (E.free 70) (by decide +kernel) rfl) pa_nil)))))
      (pss_one (ps_ret pe_bl))
      pss_nil)
    (pss_cons (ps_set (i := 2) sc_is_lot.nd rfl (Or.inl rfl) (by exact pe_un un_neg pe_int))
    (pss_cons (ps_for PassesOwn.never rfl (pi_tup (pv 0)) (pg_name (i := 3) sc_is_lot.nd rfl (Or.inl rfl))
      (pss_cons (ps_if (pt_not (pt_val (pe_c (cl_is_within E) (hr.mono (by decide)) rfl (pa_cons (pv 3) (pa_cons (pe_op op_add (pv 2) pe_int) (pa_cons (pe_op op_sub (pv 1) pe_int) pa_nil))))))
        (pss_one (ps_ret pe_bl))
        pss_nil)
      (pss_one (ps_set (i := 2) sc_is_lot.nd rfl (Or.inl rfl) (pv 3)))))
    (pss_one (ps_ret pe_bl))))), ?_⟩
  refine ⟨_, rfl, _, _, _, _, true, rfl, .ty _, ht.ty, kit_ty kit_tt, true, rfl, iteF ?_⟩
  refine ⟨_, rfl, ?_⟩
  refine ⟨_, rfl, p, rfl, ⟨_, ht.sq⟩, for_tup (K := K) (a := p) (xs := xs) (fun i σ H' => H' = H ∧ ∃ (l : Int) (v : Option V), σ = [some (.ref p), some (.int m), some (.int l), v] ∧ lotB m (-1) xs = lotB m l (xs.drop i)) ⟨rfl, -1, none, rfl, rfl⟩ (fun i σ H' _ e => by rw [e.1]; exact ht.sq) ?_ ?_⟩
  · rintro i x σ H' hi ⟨rfl, l, v, rfl, el⟩
    have hm := hx x (List.mem_of_getElem? hi)
    obtain ⟨b, hb⟩ : ∃ b, wit x (l + 1) (m - 1) = some b := by
      cases x with
      | int i => exact ⟨_, rfl⟩
      | bl i => exact ⟨_, rfl⟩
      | _ => cases hm
    have e2 := lotB_cons (r := xs.drop (i + 1)) hb
    rw [← drop_at hi] at e2
    refine ⟨_, rfl, _, rfl, _, _, rfl, rfl, _, rfl, _, _, rfl, rfl, x, l + 1, m - 1, b, rfl, hb, b, rfl, ?_⟩
    cases b with
    | false =>
      refine iteT ?_
      rw [el, e2] at q
      exact q
    | true =>
      refine iteF ⟨_, rfl, ?_⟩
      cases x with
      | int j => exact ⟨rfl, j, some (.int j), rfl, by rw [el, e2]; rfl⟩
      | bl j => cases hb
      | _ => cases hm
  · rintro σ H' ⟨rfl, l, v, rfl, el⟩
    rw [el, List.drop_eq_nil_of_le (Nat.le_refl _)] at q
    exact q
end
end Lf
/-! is_prime, inverse, less_times, first_place. -/
namespace Lf
open PySem PySem.Spec PyProof.Rows L2
section
variable {P : Program} {w : World} {K : PySem.W.Frag} {mg : Str → Option Value} {base : Heap}
def spIsPrime : Sp := fun vs H Q _ => ∃ p, vs = [.int p] ∧ PrimeOk p ∧ ∀ H', Same H H' → Q (.bl true) H'
abbrev N_is_prime : List Str := ["thing", "other"]
theorem sc_is_prime : FnScope N_is_prime ["thing"] d_is_prime.scope := ⟨rfl, rfl, rfl, by decide +kernel, rfl, by decide +kernel, by decide +kernel⟩
theorem cl_is_prime (E : Env K mg) : Cl P w K mg base 3 "is_prime" ["thing"] (spIsPrime) := by
  refine Cl.of (k := 2) E 4 4 (d := d_is_prime) rfl rfl rfl rfl rfl sc_is_prime (fun vs H Q E' h => by (repeat obtain ⟨_, h⟩ := h); subst_vars; rfl) (fun _ _ _ _ _ _ us hl => match us, hl with | [_], _ => rfl) (fun f cdv A outer s H vs Q E' hr h => ?_)
  obtain ⟨p, rfl, hp, q⟩ := h
  have bd := hp.bd
  refine ⟨_, (pss_cons (ps_if (pt_not (pt_val (pe_c (cl_is_within E) (hr.mono (by decide)) rfl (pa_cons (pv 0) (pa_cons (pe_gi (E.int 61) rfl) (pa_cons (pe_gi (E.int 62) rfl) pa_nil))))))
      (pss_one (ps_ret pe_bl))
      pss_nil)
    (pss_one (ps_ret (pe_callB (cr_all rfl) (by rfl) (E.free 72) (by decide +kernel) (pa_cons (pe_lc (own := [("other", 1)]) (g := gName 1) (tt := tYes) rfl sc_is_prime.nd (pi_range2 (by rfl) (E.free 74) (pa_cons pe_int (pa_cons (pv 0) pa_nil))) (blkOk_by (own := [("other", 1)]) (N := N_is_prime) (sc := d_is_prime.scope) (by decide +kernel)) (fun _ _ _ _ _ => (pg_name (i := 1) sc_is_prime.nd rfl (Or.inl rfl))) (fun _ _ _ _ _ => pts_nil) (fun _ _ _ _ _ => (pe_cmpR op_ne (pe_op op_mod (pv 0) (pv 1)) pe_int (nomark _)))) pa_nil))))), ?_⟩
  refine ⟨_, rfl, _, _, _, true, rfl, ?_, true, rfl, iteF ?_⟩
  · show some (decide (2 ≤ p) && decide (p ≤ 251)) = some true
    rw [decide_eq_true bd.1, decide_eq_true bd.2]
    rfl
  refine ⟨_, rfl, 2, p, rfl, ⟨by decide, by decide, by omega, by omega⟩, fun D hD => ?_⟩
  refine lcM (p - 2).toNat (fun i => .bl (decide (¬ p % (2 + (i : Int)) = 0))) hD (by omega) (fun i H hi _ => hi) (fun H _ => Nat.le_refl _) ?_ ?_
  · rintro i x H1 H2 hi s ⟨rfl, rfl⟩ R k
    refine k _ _ rfl (Same.refl _) fun R' k2 => ?_
    refine ⟨_, rfl, _, rfl, _, _, rfl, rfl, (by show (0 : Int) < 2 + (i : Int); omega), rfl, ?_⟩
    have e : (!decide (V.int (p % (2 + (i : Int))) = V.int 0)) = decide (¬ p % (2 + (i : Int)) = 0) := by
      rw [dec_vi]
      simp
    rw [e]
    exact k2 _ (Same.refl _)
  · intro H1 s e
    refine ⟨D, (List.range (p - 2).toNat).map fun (i : Nat) => decide (¬ p % (2 + (i : Int)) = 0), rfl, SqL.of ?_, ?_⟩
    · rw [e, List.map_map]
      rfl
    · have : ((List.range (p - 2).toNat).map fun (i : Nat) => decide (¬ p % (2 + (i : Int)) = 0)).all id = true := by
        rw [List.all_map, List.all_eq_true]
        intro i hi
        exact decide_eq_true (prime_all hp i (List.mem_range.mp hi))
      rw [this]
      exact q _ s
def spInverse : Sp := fun vs H Q _ => ∃ p v, vs = [.int p, .int v] ∧ PrimeOk p ∧ 0 < v ∧ v < p ∧ ∀ H', Same H H' → Q (.int (inv p v)) H'
abbrev N_inverse : List Str := ["prime", "value", "one"]
theorem sc_inverse : FnScope N_inverse ["prime", "value"] d_inverse.scope := ⟨rfl, rfl, rfl, by decide +kernel, rfl, by decide +kernel, by decide +kernel⟩
theorem cl_inverse (E : Env K mg) : Cl P w K mg base 1 "inverse" ["prime", "value"] (spInverse) := by
  refine Cl.of (k := 0) E 6 6 (d := d_inverse) rfl rfl rfl rfl rfl sc_inverse (fun vs H Q E' h => by (repeat obtain ⟨_, h⟩ := h); subst_vars; rfl) (fun _ _ _ _ _ _ us hl => match us, hl with | [_, _], _ => rfl) (fun f cdv A outer s H vs Q E' hr h => ?_)
  obtain ⟨p, v, rfl, hp, h0, h1, q⟩ := h
  have bd := hp.bd
  refine ⟨_, (pss_one (ps_ret (pe_ix ix_list (pe_lc (own := [("one", 2)]) (g := gName 2) rfl sc_inverse.nd (pi_range2 (by rfl) (E.free 74) (pa_cons pe_int (pa_cons (pv 0) pa_nil))) (blkOk_by (own := [("one", 2)]) (N := N_inverse) (sc := d_inverse.scope) (by decide +kernel)) (fun _ _ _ _ _ => (pg_name (i := 2) sc_inverse.nd rfl (Or.inl rfl))) (fun _ _ _ _ _ => (pts_one (pt_cmpR op_eq (pe_op op_mod (pe_op op_mul (pv 2) (pv 1)) (pv 0)) pe_int (nomark _)))) (fun _ _ _ _ _ => (pv 2))) pe_int (fun _ _ => rfl)))), ?_⟩
  refine ⟨_, rfl, 1, p, rfl, ⟨by decide, by decide, by omega, by omega⟩, fun D hD => ?_⟩
  refine lcF (p - 1).toNat (fun i => decide ((1 + (i : Int)) * v % p = 1)) (fun i => .int (1 + (i : Int))) hD (by omega) (fun i H hi _ => hi) (fun H _ => Nat.le_refl _) ?_ ?_
  · rintro i x H1 H2 hi s ⟨rfl, rfl⟩ R k
    refine k _ _ rfl (Same.refl _) (fun c k2 => ?_) fun _ H3 s3 R' k2 => ⟨_, rfl, k2 _ (Same.refl _)⟩
    refine ⟨_, rfl, _, rfl, _, _, rfl, rfl, .inl ⟨by omega, by omega⟩, _, rfl, _, _, rfl, rfl, (by show (0 : Int) < p; omega), rfl, _, rfl, ?_⟩
    rw [dec_vi]
    exact k2 _ (Same.refl _)
  · intro H1 s e
    obtain ⟨i, r, ei⟩ := invs_ne hp h0 h1
    have e2 : (List.range (p - 1).toNat).filter (fun (i : Nat) => decide ((1 + (i : Int)) * v % p = 1)) = i :: r := ei
    rw [e2] at e
    refine ⟨_, _, _, _, rfl, rfl, SqL.of e, atI_nat (j := 0) rfl, ?_⟩
    have e3 : inv p v = 1 + (i : Int) := by
      unfold inv
      rw [ei]
      rfl
    have q1 := q _ s
    rw [e3] at q1
    exact q1
def spLess (K : PySem.W.Frag) : Sp := fun vs H Q _ => ∃ p a t c row oth, vs = [.int p, .ref a, .int t, .ref c] ∧ 0 < p ∧ (-(2 ^ 64) < t ∧ t < 2 ^ 64) ∧ H a = some (.lst (iv row)) ∧ H c = some (.lst (iv oth)) ∧ row.length = oth.length ∧ row.length ≤ 1000 ∧
  ∀ q H', H q = none → Same H H' → H' q = some (.lst (iv (lessT p row t oth))) → Q (.ref q) H'
abbrev N_less_times : List Str := ["prime", "row", "times", "other", "one", "two"]
theorem sc_less_times : FnScope N_less_times ["prime", "row", "times", "other"] d_less_times.scope := ⟨rfl, rfl, rfl, by decide +kernel, rfl, by decide +kernel, by decide +kernel⟩
theorem cl_less_times (E : Env K mg) : Cl P w K mg base 1 "less_times" ["prime", "row", "times", "other"] (spLess K) := by
  refine Cl.of (k := 0) E 7 7 (d := d_less_times) rfl rfl rfl rfl rfl sc_less_times (fun vs H Q E' h => by (repeat obtain ⟨_, h⟩ := h); subst_vars; rfl) (fun _ _ _ _ _ _ us hl => match us, hl with | [_, _, _, _], _ => rfl) (fun f cdv A outer s H vs Q E' hr h => ?_)
  obtain ⟨p, a, t, c, row, oth, rfl, hp, ht, ha, hc, hl, hz, q⟩ := h
  refine ⟨_, (pss_one (ps_ret (pe_lc (own := [("one", 4), ("two", 5)]) (g := gTup K 2 (gCons (gName 4) (gCons (gName 5) gNil))) (tt := tYes) rfl sc_less_times.nd (pi_zipM (by rfl) (E.free 75) (pa_cons (pv 1) (pa_cons (pv 3) pa_nil))) (blkOk_by (own := [("one", 4), ("two", 5)]) (N := N_less_times) (sc := d_less_times.scope) (by decide +kernel)) (fun _ _ _ _ _ => (pg_tup rfl (pgs_cons (pg_name (i := 4) sc_less_times.nd rfl (Or.inl rfl)) (pgs_cons (pg_name (i := 5) sc_less_times.nd rfl (Or.inl rfl)) pgs_nil)))) (fun _ _ _ _ _ => pts_nil) (fun _ _ _ _ _ => (pe_op op_mod (pe_op op_sub (pv 4) (pe_op op_mul (pv 2) (pv 5))) (pv 0)))))), ?_⟩
  refine ⟨_, rfl, _, rfl, a, c, _, _, true, true, rfl, Sq.lo ha, Sq.lo hc, fun D hD => ?_⟩
  refine lcZ (L := lessT p row t oth) hD (by omega) hl (lessT_length hl) (Sq.lo ha) (Sq.lo hc) (fun _ _ => rfl) ?_ fun H1 s e => q D H1 hD s e
  intro i x y z H2 hx hy hz2 s R k
  rw [lessT_get hx hy] at hz2
  cases hz2
  exact ⟨_, rfl, _, rfl, _, rfl, _, _, rfl, rfl, .inl ht, _, _, rfl, rfl, _, rfl, _, _, rfl, rfl, hp, k⟩
/-- a place, or None -/
def optV : Option Nat → V
  | some i => .int (i : Nat)
  | none => .non
def spFirst : Sp := fun vs H Q _ => ∃ a row, vs = [.ref a] ∧ H a = some (.lst (iv row)) ∧ row.length ≤ 1000 ∧ ∀ H', Same H H' → Q (optV (firstP row)) H'
abbrev N_first_place : List Str := ["row", "found", "place", "value"]
theorem sc_first_place : FnScope N_first_place ["row"] d_first_place.scope := ⟨rfl, rfl, rfl, by decide +kernel, rfl, by decide +kernel, by decide +kernel⟩
theorem cl_first_place (E : Env K mg) : Cl P w K mg base 1 "first_place" ["row"] (spFirst) := by
  refine Cl.of (k := 0) E 8 8 (d := d_first_place) rfl rfl rfl rfl rfl sc_first_place (fun vs H Q E' h => by (repeat obtain ⟨_, h⟩ := h); subst_vars; rfl) (fun _ _ _ _ _ _ us hl => match us, hl with | [_], _ => rfl) (fun f cdv A outer s H vs Q E' hr h => ?_)
  obtain ⟨a, row, rfl, ha, hz, q⟩ := h
  refine ⟨_, (pss_cons (ps_setLc (i := 1) (own := [("place", 2), ("value", 3)]) (g := gTup K 2 (gCons (gName 2) (gCons (gName 3) gNil))) rfl sc_first_place.nd rfl rfl (sw_true rfl rfl rfl (by decide +kernel)) (pi_enumM (by rfl) (E.free 76) (pa_cons (pv 0) pa_nil)) (blkOk_by (own := [("place", 2), ("value", 3)]) (N := N_first_place) (sc := d_first_place.scope) (by decide +kernel)) (fun _ _ _ _ _ => (pg_tup rfl (pgs_cons (pg_name (i := 2) sc_first_place.nd rfl (Or.inl rfl)) (pgs_cons (pg_name (i := 3) sc_first_place.nd rfl (Or.inl rfl)) pgs_nil)))) (fun _ _ _ _ _ => (pts_one (pt_cmpR op_ne (pv 3) pe_int (nomark _)))) (fun _ _ _ _ _ => (pv 2)))
    (pss_one (ps_ret (pe_ifExp (pt_cmpR op_gt (pe_callB call_len_seq (by rfl) (E.free 71) PySem.boot_len (pa_cons (pv 1) pa_nil)) pe_int (nomark _)) (pe_ix ix_list (pv 1) pe_int (fun _ _ => rfl)) pe_non)))), ?_⟩
  refine ⟨_, rfl, a, _, true, rfl, Sq.lo ha, fun D hD => ?_⟩
  refine lcF row.length (fun i => row.getD i 0 != 0) (fun i => .int (i : Nat)) hD (by omega) (fun i H hi s => itn_go (Sq.lo (s _ _ ha)) (by rw [iv_len]; exact hi)) (fun H s => itn_stop (Sq.lo (s _ _ ha)) (iv_len _).symm) ?_ ?_
  · intro i v H1 H2 hi s y R k
    obtain ⟨T, x, rfl, nT, rfl, e1⟩ := itn_yld (Sq.lo (s _ _ ha)) y
    obtain ⟨x', f1, rfl⟩ := iv_get e1
    refine g_pair upd_same (k _ _ rfl (same_new nT _) (fun c k2 => ?_) fun _ H3 s3 R' k2 => ⟨_, rfl, k2 _ (Same.refl _)⟩)
    refine ⟨_, rfl, rfl, _, rfl, ?_⟩
    have e3 : (!decide (V.int x' = V.int 0)) = (row.getD i 0 != 0) := by rw [dec_vi, getD_of f1]; simp [bne, BEq.beq]
    rw [e3]
    exact k2 _ (Same.refl _)
  · intro H1 s e
    have e1 : ((List.range row.length).filter fun i => row.getD i 0 != 0) = nzP row := rfl
    rw [e1] at e
    refine ⟨_, rfl, D, _, rfl, .inl (SqL.of e), _, _, rfl, rfl, _, rfl, ?_⟩
    have hh := nzP_head row
    cases g : nzP row with
    | nil =>
      rw [g] at hh
      refine iteF ?_
      have q1 := q H1 s
      rw [← hh] at q1
      exact q1
    | cons i r =>
      rw [g] at hh e
      have q1 := q H1 s
      rw [← hh] at q1
      refine (if_pos ?_).mpr ?_
      · rw [List.length_map, List.length_cons]
        exact decide_eq_true (by omega)
      · exact ⟨_, rfl, _, _, _, _, rfl, rfl, SqL.of e, atI_nat (j := 0) rfl, q1⟩
end
end Lf
/-! is_sum, is_piece, Web, is_lot_of, check_lot, version_sum, check_version. -/
namespace Lf
open PySem PySem.Spec PyProof.Rows L2
/-- a sum of a prime -/
structure SumOk (p : Int) (ns : List Int) : Prop where
  len : 1 ≤ ns.length ∧ ns.length ≤ 10
  bd : ∀ v ∈ ns, 0 ≤ v ∧ v < p
  ne : ∃ v ∈ ns, v ≠ 0
section
variable {P : Program} {w : World} {K : PySem.W.Frag} {mg : Str → Option Value} {base : Heap}
def spIsSum : Sp := fun vs H Q _ => ∃ p a ns, vs = [.int p, .ref a] ∧ Tp H a (iv ns) ∧ SumOk p ns ∧ ∀ H', Same H H' → Q (.bl true) H'
abbrev N_is_sum : List Str := ["prime", "thing", "value"]
theorem sc_is_sum : FnScope N_is_sum ["prime", "thing"] d_is_sum.scope := ⟨rfl, rfl, rfl, by decide +kernel, rfl, by decide +kernel, by decide +kernel⟩
theorem cl_is_sum (E : Env K mg) : Cl P w K mg base 3 "is_sum" ["prime", "thing"] (spIsSum) := by
  refine Cl.of (k := 2) E 5 5 (d := d_is_sum) rfl rfl rfl rfl rfl sc_is_sum (fun vs H Q E' h => by (repeat obtain ⟨_, h⟩ := h); subst_vars; rfl) (fun _ _ _ _ _ _ us hl => match us, hl with | [_, _], _ => rfl) (fun f cdv A outer s H vs Q E' hr h => ?_)
  obtain ⟨p, a, ns, rfl, ht, so, q⟩ := h
  refine ⟨_, (pss_cons (ps_if (PW.pt (pw_or (pt_not (pt_val (pe_callB call_isi (by rfl) (E.free 67) (by decide +kernel) (pa_cons (pv 1) (pa_cons (pe_bltn (v := .ty "tuple") (by rfl) (E.free 70) (by decide +kernel) rfl) pa_nil))))) (pw_or1 (pt_not (pt_chain op_le op_le pe_int (pe_callB call_len_seq (by rfl) (E.free 71) PySem.boot_len (pa_cons (pv 1) pa_nil)) (pe_gi (E.int 63) rfl))))))
      (pss_one (ps_ret pe_bl))
      pss_nil)
    (pss_one (ps_ret (pe_and (pe_callB (cr_all rfl) (by rfl) (E.free 72) (by decide +kernel) (pa_cons (pe_lc (own := [("value", 2)]) (g := gName 2) (tt := tYes) rfl sc_is_sum.nd (pi_tup (pv 1)) (blkOk_by (own := [("value", 2)]) (N := N_is_sum) (sc := d_is_sum.scope) (by decide +kernel)) (fun _ _ _ _ _ => (pg_name (i := 2) sc_is_sum.nd rfl (Or.inl rfl))) (fun _ _ _ _ _ => pts_nil) (fun _ _ _ _ _ => (pe_c (cl_is_within E) (hr.mono (by decide)) rfl (pa_cons (pv 2) (pa_cons pe_int (pa_cons (pe_op op_sub (pv 0) pe_int) pa_nil)))))) pa_nil)) (pe_one (pe_callB (cr_any rfl) (by rfl) (E.free 73) (by decide +kernel) (pa_cons (pe_lc (own := [("value", 2)]) (g := gName 2) (tt := tYes) rfl sc_is_sum.nd (pi_tup (pv 1)) (blkOk_by (own := [("value", 2)]) (N := N_is_sum) (sc := d_is_sum.scope) (by decide +kernel)) (fun _ _ _ _ _ => (pg_name (i := 2) sc_is_sum.nd rfl (Or.inl rfl))) (fun _ _ _ _ _ => pts_nil) (fun _ _ _ _ _ => (pe_cmpR op_ne (pv 2) pe_int (nomark _)))) pa_nil))))))), ?_⟩
  refine ⟨_, rfl, _, _, _, _, true, rfl, .ty _, ht.ty, kit_ty kit_tt, true, rfl, iteF ?_⟩
  have l10 : ns.length ≤ 10 := so.len.2
  refine ⟨_, rfl, a, _, rfl, .inr ht.sq, _, _, rfl, rfl, true, ?_, iteT ?_⟩
  · rw [iv_len]
    exact congrArg V.bl (decide_eq_true (by have := so.len.1; omega))
  refine ⟨_, _, rfl, rfl, true, ?_, iteF ?_⟩
  · rw [iv_len]
    exact congrArg V.bl (decide_eq_true (by omega))
  refine ⟨_, rfl, a, rfl, ⟨_, ht.sq⟩, fun D hD => ?_⟩
  refine lcS (plain_t ht.sq) (fun _ => .bl true) hD (by rw [iv_len]; omega) (fun _ => rfl) ?_ ?_
  · intro i x H2 hx s R k
    obtain ⟨n, hn, rfl⟩ := iv_get hx
    have hb := so.bd n (List.mem_of_getElem? hn)
    refine ⟨_, rfl, _, rfl, _, _, rfl, rfl, _, 0, p - 1, true, rfl, ?_, k _ (Same.refl _)⟩
    show some (decide (0 ≤ n) && decide (n ≤ p - 1)) = some true
    rw [decide_eq_true hb.1, decide_eq_true (by omega)]
    rfl
  intro H1 s1 e1
  refine ⟨D, (List.range (iv ns).length).map fun _ => true, rfl, SqL.of (by rw [e1, List.map_map]; rfl), true, ?_, iteT ?_⟩
  · refine congrArg V.bl ?_
    rw [List.all_map, List.all_eq_true]
    exact fun _ _ => rfl
  have ht1 := ht.same s1
  refine ⟨_, rfl, a, rfl, ⟨_, ht1.sq⟩, fun D2 hD2 => ?_⟩
  refine lcS (plain_t ht1.sq) (fun i => .bl (ns.getD i 0 != 0)) hD2 (by rw [iv_len]; omega) (fun _ => rfl) ?_ ?_
  · intro i x H2 hx s R k
    obtain ⟨n, hn, rfl⟩ := iv_get hx
    refine ⟨_, rfl, rfl, ?_⟩
    have e3 : (!decide (V.int n = V.int 0)) = (ns.getD i 0 != 0) := by rw [dec_vi, getD_of hn]; simp [bne, BEq.beq]
    rw [e3]
    exact k _ (Same.refl _)
  intro H2 s2 e2
  refine ⟨D2, (List.range (iv ns).length).map fun i => (ns.getD i 0 != 0), rfl, SqL.of (by rw [e2, List.map_map]; rfl), ?_⟩
  have : ((List.range (iv ns).length).map fun i => (ns.getD i 0 != 0)).any id = true := by
    obtain ⟨v, hv, hne⟩ := so.ne
    obtain ⟨i, hi, rfl⟩ := List.mem_iff_getElem.mp hv
    rw [List.any_map, List.any_eq_true]
    refine ⟨i, List.mem_range.mpr (by rw [iv_len]; exact hi), ?_⟩
    show (ns.getD i 0 != 0) = true
    rw [getD_of (List.getElem?_eq_getElem hi)]
    simpa using hne
  rw [this]
  exact q _ (s1.trans s2)
/-- a piece: (sum, size) -/
structure PieceOk (p n : Int) (q : List Int × Int) : Prop where
  sum : SumOk p q.1
  len : (q.1.length : Int) = n
  size : 1 ≤ q.2 ∧ q.2 ≤ 1000000
/-- at a a piece -/
def PieceAt (H : Hp) (a : Addr) (q : List Int × Int) : Prop := ∃ s, Tp H a [.ref s, .int q.2] ∧ Tp H s (iv q.1)
theorem PieceAt.same {H H' : Hp} {a : Addr} {q : List Int × Int} (e : Same H H') (h : PieceAt H a q) : PieceAt H' a q := by
  obtain ⟨s, h1, h2⟩ := h
  exact ⟨s, h1.same e, h2.same e⟩
def spIsPiece : Sp := fun vs H Q _ => ∃ p n a q, vs = [.int p, .int n, .ref a] ∧ PieceAt H a q ∧ PieceOk p n q ∧ ∀ H', Same H H' → Q (.bl true) H'
abbrev N_is_piece : List Str := ["prime", "many", "thing"]
theorem sc_is_piece : FnScope N_is_piece ["prime", "many", "thing"] d_is_piece.scope := ⟨rfl, rfl, rfl, by decide +kernel, rfl, by decide +kernel, by decide +kernel⟩
theorem cl_is_piece (E : Env K mg) : Cl P w K mg base 4 "is_piece" ["prime", "many", "thing"] (spIsPiece) := by
  refine Cl.of (k := 3) E 16 10 (d := d_is_piece) rfl rfl rfl rfl rfl sc_is_piece (fun vs H Q E' h => by (repeat obtain ⟨_, h⟩ := h); subst_vars; rfl) (fun _ _ _ _ _ _ us hl => match us, hl with | [_, _, _], _ => rfl) (fun f cdv A outer s H vs Q E' hr h => ?_)
  obtain ⟨p, n, a, pc, rfl, ⟨s', h1, h2⟩, po, q⟩ := h
  refine ⟨_, (pss_one (ps_ret (pe_and (pe_c (cl_is_pair E) (hr.mono (by decide)) rfl (pa_cons (pv 2) pa_nil)) (pe_and (pe_c (cl_is_sum E) (hr.mono (by decide)) rfl (pa_cons (pv 0) (pa_cons (pe_ix ix_tup (pv 2) pe_int (fun _ _ => rfl)) pa_nil))) (pe_and (pe_cmpR op_eq (pe_callB call_len_seq (by rfl) (E.free 71) PySem.boot_len (pa_cons (pe_ix ix_tup (pv 2) pe_int (fun _ _ => rfl)) pa_nil)) (pv 1) (nomark _)) (pe_one (pe_c (cl_is_within E) (hr.mono (by decide)) rfl (pa_cons (pe_ix ix_tup (pv 2) pe_int (fun _ _ => rfl)) (pa_cons pe_int (pa_cons (pe_gi (E.int 66) rfl) pa_nil)))))))))), ?_⟩
  refine ⟨_, rfl, _, true, rfl, .inr ⟨a, _, rfl, h1, rfl⟩, true, rfl, iteT ?_⟩
  refine ⟨_, rfl, _, rfl, _, _, _, _, rfl, rfl, h1.sq, atI_nat (j := 0) rfl, p, s', pc.1, rfl, h2, po.sum, fun H1 s1 => ⟨true, rfl, iteT ?_⟩⟩
  have g1 := h1.same s1
  have g2 := h2.same s1
  refine ⟨_, rfl, _, _, _, _, rfl, rfl, g1.sq, atI_nat (j := 0) rfl, _, _, rfl, .inr g2.sq, _, rfl, rfl, true, ?_, iteT ?_⟩
  · rw [iv_len, dec_vi]
    exact congrArg V.bl (decide_eq_true po.len)
  refine ⟨_, rfl, _, _, _, _, rfl, rfl, g1.sq, atI_nat (j := 1) rfl, _, 1, 1000000, true, rfl, ?_, q _ s1⟩
  show some (decide (1 ≤ pc.2) && decide (pc.2 ≤ 1000000)) = some true
  rw [decide_eq_true po.size.1, decide_eq_true po.size.2]
  rfl
/-- at P the pieces -/
def PiecesAt (H : Hp) (Pa : Addr) (ps : List (List Int × Int)) : Prop := ∃ as : List Addr, Tp H Pa (as.map V.ref) ∧ Paired (fun a q => PieceAt H a q) as ps
theorem PiecesAt.same {H H' : Hp} {a : Addr} {ps : List (List Int × Int)} (e : Same H H') (h : PiecesAt H a ps) : PiecesAt H' a ps := by
  obtain ⟨as, h1, h2⟩ := h
  exact ⟨as, h1.same e, paired_mono (fun _ _ x => x.same e) h2⟩
structure WebOk (p n : Int) (ps : List (List Int × Int)) : Prop where
  pr : PrimeOk p
  n1 : 1 ≤ n ∧ n ≤ 10
  len : ps.length ≤ 40
  all : ∀ q ∈ ps, PieceOk p n q
/-- a web at x -/
def webF (p n : Int) (Pa : Addr) : List (Str × V) := putF "pieces" (.ref Pa) (putF "many" (.int n) (putF "prime" (.int p) []))
def WebAt (K : PySem.W.Frag) (H : Hp) (x : Addr) (p n : Int) (Pa : Addr) : Prop := ∃ dx, H x = some (.ins (He.ga K "Web") dx (webF p n Pa))
theorem WebAt.same {H H' : Hp} {x Pa : Addr} {p n : Int} (e : Same H H') (h : WebAt K H x p n Pa) : WebAt K H' x p n Pa := by
  obtain ⟨dx, h⟩ := h
  exact ⟨dx, e _ _ h⟩
theorem webF_prime (p n : Int) (Pa : Addr) : (webF p n Pa).lookup ("prime" : Str) = some (.int p) := by
  unfold webF
  rw [lookup_putF, if_neg (by decide +kernel), lookup_putF, if_neg (by decide +kernel), lookup_putF, if_pos rfl]
theorem webF_many (p n : Int) (Pa : Addr) : (webF p n Pa).lookup ("many" : Str) = some (.int n) := by
  unfold webF
  rw [lookup_putF, if_neg (by decide +kernel), lookup_putF, if_pos rfl]
theorem webF_pieces (p n : Int) (Pa : Addr) : (webF p n Pa).lookup ("pieces" : Str) = some (.ref Pa) := by
  unfold webF
  rw [lookup_putF, if_pos rfl]
theorem webF_len (p n : Int) (Pa : Addr) : (putF "prime" (.int p) ([] : List (Str × V))).length = 1 ∧ (putF "many" (.int n) (putF "prime" (.int p) ([] : List (Str × V)))).length ≤ 2 := by
  refine ⟨rfl, ?_⟩
  exact Nat.le_trans (length_putF _ _ _) (Nat.le_refl _)
def spWeb (K : PySem.W.Frag) : Sp := fun vs H Q _ => ∃ x dx p n Pa ps, vs = [.ref x, .int p, .int n, .ref Pa] ∧ H x = some (.ins (He.ga K "Web") dx []) ∧ PiecesAt H Pa ps ∧ WebOk p n ps ∧
  ∀ H', WebAt K H' x p n Pa → (∀ b o, b ≠ x → H b = some o → H' b = some o) → Q .non H'
abbrev N_Web_init : List Str := ["self", "prime", "many", "pieces", "number", "piece"]
theorem sc_Web_init : FnScope N_Web_init ["self", "prime", "many", "pieces"] d_Web_init.scope := ⟨rfl, rfl, rfl, by decide +kernel, rfl, by decide +kernel, by decide +kernel⟩
theorem mk_Web (E : Env K mg) : Mkr P w K mg base 5 "Web" (He.ga K "Web") ["self", "prime", "many", "pieces"] (spWeb K) := by
  refine Mkr.of (k := 4) E 15 57 55 (d := d_Web_init) rfl rfl rfl rfl rfl rfl sc_Web_init (fun vs H Q E' h => by (repeat obtain ⟨_, h⟩ := h); subst_vars; rfl) (fun _ _ _ _ _ _ us hl => match us, hl with | [_, _, _, _], _ => rfl) (fun f cdv A outer s H vs Q E' hr h => ?_)
  obtain ⟨x, dx, p, n, Pa, ps, rfl, hx, ⟨as, h1, h2⟩, wo, q⟩ := h
  refine ⟨_, (pss_cons (ps_if (pt_not (pt_val (pe_c (cl_is_prime E) (hr.mono (by decide)) rfl (pa_cons (pv 1) pa_nil))))
      (pss_one ps_never)
      pss_nil)
    (pss_cons (ps_if (pt_not (pt_val (pe_c (cl_is_within E) (hr.mono (by decide)) rfl (pa_cons (pv 2) (pa_cons pe_int (pa_cons (pe_gi (E.int 64) rfl) pa_nil))))))
      (pss_one ps_never)
      pss_nil)
    (pss_cons (ps_if (PW.pt (pw_or (pt_not (pt_val (pe_callB call_isi (by rfl) (E.free 67) (by decide +kernel) (pa_cons (pv 3) (pa_cons (pe_bltn (v := .ty "tuple") (by rfl) (E.free 70) (by decide +kernel) rfl) pa_nil))))) (pw_or1 (pt_cmpR op_gt (pe_callB call_len_seq (by rfl) (E.free 71) PySem.boot_len (pa_cons (pv 3) pa_nil)) (pe_gi (E.int 65) rfl) (nomark _)))))
      (pss_one ps_never)
      pss_nil)
    (pss_cons (ps_for PassesOwn.never rfl (pi_enumM (by rfl) (E.free 76) (pa_cons (pv 3) pa_nil)) (pg_tup rfl (pgs_cons (pg_name (i := 4) sc_Web_init.nd rfl (Or.inl rfl)) (pgs_cons (pg_name (i := 5) sc_Web_init.nd rfl (Or.inl rfl)) pgs_nil)))
      (pss_one (ps_if (pt_not (pt_val (pe_c (cl_is_piece E) (hr.mono (by decide)) rfl (pa_cons (pv 1) (pa_cons (pv 2) (pa_cons (pv 5) pa_nil))))))
        (pss_one ps_never)
        pss_nil)))
    (pss_cons (ps_fld (pv 0) (pv 1) rfl)
    (pss_cons (ps_fld (pv 0) (pv 2) rfl)
    (pss_one (ps_fld (pv 0) (pv 3) rfl)))))))), ?_⟩
  have la : as.length = ps.length := paired_len h2
  refine ⟨_, rfl, p, rfl, wo.pr, fun H1 s1 => ⟨true, rfl, iteF ?_⟩⟩
  refine ⟨_, rfl, _, _, _, true, rfl, ?_, true, rfl, iteF ?_⟩
  · show some (decide (1 ≤ n) && decide (n ≤ 10)) = some true
    rw [decide_eq_true wo.n1.1, decide_eq_true wo.n1.2]
    rfl
  have g1 := h1.same s1
  refine ⟨_, rfl, _, _, _, _, true, rfl, .ty _, g1.ty, kit_ty kit_tt, true, rfl, iteF ?_⟩
  refine ⟨_, rfl, _, _, rfl, .inr g1.sq, _, _, rfl, rfl, _, rfl, ?_⟩
  refine (if_neg ?_).mpr ?_
  · rw [List.length_map, la]
    have := wo.len
    intro z
    have := of_decide_eq_true z
    omega
  refine ⟨_, rfl, Pa, _, false, rfl, Sq.t g1.sq, for_by (as.map V.ref).length (fun i σ H' => ∃ v1 v2, Same H1 H' ∧ σ = [some (.ref x), some (.int p), some (.int n), some (.ref Pa), v1, v2]) ⟨none, none, Same.refl _, rfl⟩ ?_ ?_ ?_ ?_⟩
  · rintro i σ H' hi ⟨v1, v2, s2, rfl⟩
    exact itn_go (Sq.t (g1.same s2).sq) hi
  · rintro σ H' ⟨v1, v2, s2, rfl⟩
    exact itn_stop (Sq.t (g1.same s2).sq) rfl
  · rintro i v σ H' H'' hi ⟨v1, v2, s2, rfl⟩ y
    obtain ⟨T, z, rfl, nT, rfl, e1⟩ := itn_yld (Sq.t (g1.same s2).sq) y
    refine g_pair upd_same ?_
    rw [List.getElem?_map] at e1
    obtain ⟨a, ea, rfl⟩ := Option.map_eq_some_iff.mp e1
    obtain ⟨pc, ep, hpc⟩ := paired_get h2 ea
    have s3 : Same H1 (upd H' T (.tup [.int (i : Nat), .ref a])) := s2.trans (same_new nT _)
    refine ⟨_, rfl, _, rfl, _, rfl, p, n, a, pc, rfl, hpc.same (s1.trans s3), wo.all pc (List.mem_of_getElem? ep), fun H3 s4 => ⟨true, rfl, iteF ?_⟩⟩
    exact ⟨_, _, s3.trans s4, rfl⟩
  · rintro σ H' ⟨v1, v2, s2, rfl⟩
    have hx' := s2 _ _ (s1 _ _ hx)
    refine ⟨_, rfl, _, rfl, x, _, dx, _, rfl, hx', E.clsWeb, E.noat 58, (by show 0 < 1000; decide), ?_⟩
    refine ⟨_, rfl, _, rfl, x, _, dx, _, rfl, upd_same, E.clsWeb, E.noat 59, (by show 1 < 1000; decide), ?_⟩
    refine ⟨_, rfl, _, rfl, x, _, dx, _, rfl, upd_same, E.clsWeb, E.noat 60, Nat.lt_of_le_of_lt (webF_len p n Pa).2 (by decide), ?_⟩
    refine q _ ⟨dx, upd_same⟩ fun b o hb e => ?_
    rw [upd_ne hb, upd_ne hb, upd_ne hb]
    exact s2 _ _ (s1 _ _ e)
end
end Lf
/-! is_lot_of, check_lot, version_sum, check_version. -/
namespace Lf
open PySem PySem.Spec PyProof.Rows L2
/-- a new tuple of xs -/
def NewTp (H : Hp) (xs : List V) (Q : VK) : Prop := ∀ q H', H q = none → Same H H' → Tp H' q xs → Q (.ref q) H'
/-- a new list of xs -/
def NewL (H : Hp) (xs : List V) (Q : VK) : Prop := ∀ q H', H q = none → Same H H' → H' q = some (.lst xs) → Q (.ref q) H'
theorem NewTp.lay {H H1 : Hp} {xs : List V} {Q : VK} (k : NewTp H xs Q) (s : Same H H1) : ∀ q, H1 q = none → Q (.ref q) (upd H1 q (.tup xs)) := fun q hq => k q _ (s.free hq) (s.trans (same_new hq _)) (.of upd_same)
/-- a web with its pieces -/
structure Wb (K : PySem.W.Frag) (H : Hp) (x : Addr) (p n : Int) (Pa : Addr) (ps : List (List Int × Int)) : Prop where
  at_ : WebAt K H x p n Pa
  pcs : PiecesAt H Pa ps
theorem Wb.same {K : PySem.W.Frag} {H H' : Hp} {x Pa : Addr} {p n : Int} {ps : List (List Int × Int)} (e : Same H H') (h : Wb K H x p n Pa ps) : Wb K H' x p n Pa ps := ⟨h.at_.same e, h.pcs.same e⟩
/-- the sum of a version alone -/
def unitV (n v : Int) : List Int := (List.range n.toNat).map fun (i : Nat) => if (i : Int) = v then 1 else 0
theorem unitV_len (n v : Int) : (unitV n v).length = n.toNat := by unfold unitV; rw [List.length_map, List.length_range]
section
variable {P : Program} {w : World} {K : PySem.W.Frag} {mg : Str → Option Value} {base : Heap}
def spIsLotOf (K : PySem.W.Frag) : Sp := fun vs H Q _ => ∃ x p n Pa ps a xs, vs = [.ref x, .ref a] ∧ Wb K H x p n Pa ps ∧ Tp H a xs ∧ (∀ x ∈ xs, (isI x).isSome = true) ∧ Q (.bl (lotB (ps.length : Int) (-1) xs)) H
abbrev N_is_lot_of : List Str := ["web", "thing"]
theorem sc_is_lot_of : FnScope N_is_lot_of ["web", "thing"] d_is_lot_of.scope := ⟨rfl, rfl, rfl, by decide +kernel, rfl, by decide +kernel, by decide +kernel⟩
theorem cl_is_lot_of (E : Env K mg) : Cl P w K mg base 4 "is_lot_of" ["web", "thing"] (spIsLotOf K) := by
  refine Cl.of (k := 3) E 17 11 (d := d_is_lot_of) rfl rfl rfl rfl rfl sc_is_lot_of (fun vs H Q E' h => by (repeat obtain ⟨_, h⟩ := h); subst_vars; rfl) (fun _ _ _ _ _ _ us hl => match us, hl with | [_, _], _ => rfl) (fun f cdv A outer s H vs Q E' hr h => ?_)
  obtain ⟨x, p, n, Pa, ps, a, xs, rfl, ⟨⟨dx, hx⟩, as, h1, h2⟩, ha, hi, q⟩ := h
  refine ⟨_, (pss_one (ps_ret (pe_c (cl_is_lot E) (hr.mono (by decide)) rfl (pa_cons (pv 1) (pa_cons (pe_callB call_len_seq (by rfl) (E.free 71) PySem.boot_len (pa_cons (pe_fld (pv 0) rfl) pa_nil)) pa_nil))))), ?_⟩
  refine ⟨_, rfl, _, rfl, x, _, dx, _, _, rfl, hx, E.clsWeb, E.noat 60, webF_pieces p n Pa, Pa, _, rfl, .inr h1.sq, a, xs, _, rfl, ha, hi, ?_⟩
  rw [List.length_map, paired_len h2]
  exact q
def spCheckLot (K : PySem.W.Frag) : Sp := fun vs H Q _ => ∃ x p n Pa ps a xs, vs = [.ref x, .ref a] ∧ Wb K H x p n Pa ps ∧ Tp H a xs ∧ (∀ x ∈ xs, (isI x).isSome = true) ∧ lotB (ps.length : Int) (-1) xs = true ∧ Q .non H
abbrev N_check_lot : List Str := ["web", "lot"]
theorem sc_check_lot : FnScope N_check_lot ["web", "lot"] d_check_lot.scope := ⟨rfl, rfl, rfl, by decide +kernel, rfl, by decide +kernel, by decide +kernel⟩
theorem cl_check_lot (E : Env K mg) : Cl P w K mg base 5 "check_lot" ["web", "lot"] (spCheckLot K) := by
  refine Cl.of (k := 4) E 18 12 (d := d_check_lot) rfl rfl rfl rfl rfl sc_check_lot (fun vs H Q E' h => by (repeat obtain ⟨_, h⟩ := h); subst_vars; rfl) (fun _ _ _ _ _ _ us hl => match us, hl with | [_, _], _ => rfl) (fun f cdv A outer s H vs Q E' hr h => ?_)
  obtain ⟨x, p, n, Pa, ps, a, xs, rfl, wb, ha, hi, hl, q⟩ := h
  refine ⟨_, (pss_one (ps_if (pt_not (pt_val (pe_c (cl_is_lot_of E) (hr.mono (by decide)) rfl (pa_cons (pv 0) (pa_cons (pv 1) pa_nil)))))
      (pss_one ps_never)
      pss_nil)), ?_⟩
  exact ⟨_, rfl, _, rfl, x, p, n, Pa, ps, a, xs, rfl, wb, ha, hi, true, by rw [hl], iteF q⟩
def spVersionSum (K : PySem.W.Frag) : Sp := fun vs H Q _ => ∃ x p n Pa v, vs = [.ref x, .int v] ∧ WebAt K H x p n Pa ∧ (1 ≤ n ∧ n ≤ 10) ∧ NewTp H (iv (unitV n v)) Q
abbrev N_version_sum : List Str := ["web", "version", "place"]
theorem sc_version_sum : FnScope N_version_sum ["web", "version"] d_version_sum.scope := ⟨rfl, rfl, rfl, by decide +kernel, rfl, by decide +kernel, by decide +kernel⟩
theorem cl_version_sum (E : Env K mg) : Cl P w K mg base 1 "version_sum" ["web", "version"] (spVersionSum K) := by
  refine Cl.of (k := 0) E 20 14 (d := d_version_sum) rfl rfl rfl rfl rfl sc_version_sum (fun vs H Q E' h => by (repeat obtain ⟨_, h⟩ := h); subst_vars; rfl) (fun _ _ _ _ _ _ us hl => match us, hl with | [_, _], _ => rfl) (fun f cdv A outer s H vs Q E' hr h => ?_)
  obtain ⟨x, p, n, Pa, v, rfl, ⟨dx, hx⟩, hn, q⟩ := h
  refine ⟨_, (pss_one (ps_ret (pe_tupleOf (by rfl) (E.free 70) (pe_lc (own := [("place", 2)]) (g := gName 2) (tt := tYes) rfl sc_version_sum.nd (pi_range1 (by rfl) (E.free 74) (pa_cons (pe_fld (pv 0) rfl) pa_nil)) (blkOk_by (own := [("place", 2)]) (N := N_version_sum) (sc := d_version_sum.scope) (by decide +kernel)) (fun _ _ _ _ _ => (pg_name (i := 2) sc_version_sum.nd rfl (Or.inl rfl))) (fun _ _ _ _ _ => pts_nil) (fun _ _ _ _ _ => (pe_callTy call_int1 (by rfl) (E.free 68) (by decide +kernel) (pa_cons (pe_cmpR op_eq (pv 2) (pv 1) (nomark _)) pa_nil))))))), ?_⟩
  refine ⟨_, rfl, x, _, dx, _, _, rfl, hx, E.clsWeb, E.noat 59, webF_many p n Pa, n, rfl, by omega, by omega, fun D hD => ?_⟩
  have e0 : (rgI 0 n.toNat).length = n.toNat := rgI_len 0 n.toNat
  have pl := plain_r (H := H) 0 n.toNat
  refine lcM n.toNat (fun i => .int (if (i : Int) = v then 1 else 0)) hD (by omega) (fun i H' hi _ => hi) (fun H' _ => Nat.le_refl _) ?_ ?_
  · rintro i y H1 H2 hi s ⟨rfl, rfl⟩ R k
    refine k _ _ rfl (Same.refl _) fun R' k2 => ?_
    refine ⟨_, rfl, _, rfl, rfl, .inr ⟨_, rfl, ?_⟩⟩
    have e : (if decide (V.int (0 + (i : Int)) = V.int v) = true then (1 : Int) else 0) = if (i : Int) = v then 1 else 0 := by
      rw [dec_vi, Int.zero_add]
      by_cases c : (i : Int) = v
      · rw [if_pos c, if_pos (decide_eq_true c)]
      · rw [if_neg c, if_neg (by simpa using c)]
    rw [e]
    exact k2 _ (Same.refl _)
  · intro H1 s e
    refine .inl ⟨D, _, rfl, SqL.of e, fun t ht => ?_⟩
    have e2 : (List.range n.toNat).map (fun (i : Nat) => V.int (if (i : Int) = v then 1 else 0)) = iv (unitV n v) := by
      unfold unitV iv
      rw [List.map_map]
      rfl
    rw [e2]
    exact q.lay s t ht
def spCheckVersion (K : PySem.W.Frag) : Sp := fun vs H Q _ => ∃ x p n Pa v, vs = [.ref x, .int v] ∧ WebAt K H x p n Pa ∧ 0 ≤ v ∧ v < n ∧ Q .non H
abbrev N_check_version : List Str := ["web", "version"]
theorem sc_check_version : FnScope N_check_version ["web", "version"] d_check_version.scope := ⟨rfl, rfl, rfl, by decide +kernel, rfl, by decide +kernel, by decide +kernel⟩
theorem cl_check_version (E : Env K mg) : Cl P w K mg base 3 "check_version" ["web", "version"] (spCheckVersion K) := by
  refine Cl.of (k := 2) E 21 15 (d := d_check_version) rfl rfl rfl rfl rfl sc_check_version (fun vs H Q E' h => by (repeat obtain ⟨_, h⟩ := h); subst_vars; rfl) (fun _ _ _ _ _ _ us hl => match us, hl with | [_, _], _ => rfl) (fun f cdv A outer s H vs Q E' hr h => ?_)
  obtain ⟨x, p, n, Pa, v, rfl, ⟨dx, hx⟩, h0, h1, q⟩ := h
  refine ⟨_, (pss_one (ps_if (pt_not (pt_val (pe_c (cl_is_within E) (hr.mono (by decide)) rfl (pa_cons (pv 1) (pa_cons pe_int (pa_cons (pe_op op_sub (pe_fld (pv 0) rfl) pe_int) pa_nil))))))
      (pss_one ps_never)
      pss_nil)), ?_⟩
  refine ⟨_, rfl, _, rfl, x, _, dx, _, _, rfl, hx, E.clsWeb, E.noat 59, webF_many p n Pa, _, _, rfl, rfl, _, _, _, true, rfl, ?_, true, rfl, iteF q⟩
  show some (decide (0 ≤ v) && decide (v ≤ n - 1)) = some true
  rw [decide_eq_true h0, decide_eq_true (by omega)]
  rfl
end
end Lf
/-! Dicts of ints as lists of pairs; the rows of the program's steps. -/
namespace Lf
section
variable {α : Type}
def gget (m : List (Int × α)) (k : Int) : Option α := (m.find? fun e => decide (e.1 = k)).map (·.2)
def gput (m : List (Int × α)) (k : Int) (v : α) : List (Int × α) :=
  if (m.any fun e => decide (e.1 = k)) = true then m.map (fun e => if e.1 = k then (e.1, v) else e) else m ++ [(k, v)]
theorem gget_nil (k : Int) : gget ([] : List (Int × α)) k = none := rfl
theorem gget_pos {e : Int × α} {r : List (Int × α)} {k : Int} (h : e.1 = k) : gget (e :: r) k = some e.2 := by
  unfold gget
  rw [List.find?_cons_of_pos (by simpa using h)]
  rfl
theorem gget_neg {e : Int × α} {r : List (Int × α)} {k : Int} (h : ¬ e.1 = k) : gget (e :: r) k = gget r k := by
  unfold gget
  rw [List.find?_cons_of_neg (by simpa using h)]
theorem gget_some {m : List (Int × α)} {k : Int} {v : α} (h : gget m k = some v) : (k, v) ∈ m := by
  unfold gget at h
  obtain ⟨e, h1, h2⟩ := Option.map_eq_some_iff.mp h
  have a := List.mem_of_find?_eq_some h1
  have b := List.find?_some h1
  have b' : e.1 = k := by simpa using b
  rw [← b', ← h2]
  exact a
theorem gget_none {m : List (Int × α)} {k : Int} : gget m k = none ↔ k ∉ m.map (·.1) := by
  induction m with
  | nil => simp [gget]
  | cons e r ih =>
    by_cases c : e.1 = k
    · rw [gget_pos c]
      simp [c]
    · rw [gget_neg c, ih, List.map_cons, List.mem_cons]
      constructor
      · intro h z
        rcases z with z | z
        · exact c z.symm
        · exact h z
      · intro h z
        exact h (.inr z)
theorem gget_mem {m : List (Int × α)} (nd : (m.map (·.1)).Nodup) {e : Int × α} (h : e ∈ m) : gget m e.1 = some e.2 := by
  induction m with
  | nil => cases h
  | cons x r ih =>
    rw [List.map_cons, List.nodup_cons] at nd
    rcases List.mem_cons.mp h with q | q
    · subst q
      exact gget_pos rfl
    · have : ¬ x.1 = e.1 := fun z => nd.1 (by rw [z]; exact List.mem_map.mpr ⟨e, q, rfl⟩)
      rw [gget_neg this]
      exact ih nd.2 q
theorem any_key {m : List (Int × α)} {k : Int} : (m.any fun e => decide (e.1 = k)) = true ↔ k ∈ m.map (·.1) := by
  rw [List.any_eq_true]
  constructor
  · rintro ⟨e, h, q⟩
    exact List.mem_map.mpr ⟨e, h, by simpa using q⟩
  · intro h
    obtain ⟨e, h1, h2⟩ := List.mem_map.mp h
    exact ⟨e, h1, by simpa using h2⟩
theorem gput_old {m : List (Int × α)} {k : Int} {v : α} (h : k ∈ m.map (·.1)) : gput m k v = m.map fun e => if e.1 = k then (e.1, v) else e := by
  unfold gput
  rw [if_pos (any_key.mpr h)]
theorem gput_new {m : List (Int × α)} {k : Int} {v : α} (h : k ∉ m.map (·.1)) : gput m k v = m ++ [(k, v)] := by
  unfold gput
  rw [if_neg fun z => h (any_key.mp z)]
theorem gput_keys {m : List (Int × α)} {k : Int} {v : α} : (gput m k v).map (·.1) = if k ∈ m.map (·.1) then m.map (·.1) else m.map (·.1) ++ [k] := by
  by_cases h : k ∈ m.map (·.1)
  · rw [if_pos h, gput_old h, List.map_map]
    congr 1
    funext e
    show (if e.1 = k then (e.1, v) else e).1 = e.1
    split <;> rfl
  · rw [if_neg h, gput_new h, List.map_append]
    rfl
theorem gput_nd {m : List (Int × α)} {k : Int} {v : α} (nd : (m.map (·.1)).Nodup) : ((gput m k v).map (·.1)).Nodup := by
  rw [gput_keys]
  split
  · exact nd
  · rename_i h
    rw [List.nodup_append]
    refine ⟨nd, List.nodup_cons.mpr ⟨List.not_mem_nil, List.nodup_nil⟩, fun a ha b hb => ?_⟩
    rw [List.mem_singleton.mp hb]
    intro z
    exact h (z ▸ ha)
theorem gput_key {m : List (Int × α)} {k j : Int} {v : α} (h : j ∈ (gput m k v).map (·.1)) : j = k ∨ j ∈ m.map (·.1) := by
  rw [gput_keys] at h
  split at h
  · exact .inr h
  · rcases List.mem_append.mp h with h | h
    · exact .inr h
    · exact .inl (List.mem_singleton.mp h)
theorem gget_map (k j : Int) (v : α) : ∀ m : List (Int × α), gget (m.map fun e => if e.1 = k then (e.1, v) else e) j = (gget m j).map fun x => if j = k then v else x
  | [] => rfl
  | e :: r => by
    rw [List.map_cons]
    by_cases c : e.1 = j
    · rw [gget_pos c]
      by_cases d : e.1 = k
      · rw [if_pos d, gget_pos (show (e.1, v).1 = j from c)]
        show some v = some (if j = k then v else e.2)
        rw [if_pos (c ▸ d)]
      · rw [if_neg d, gget_pos c]
        show some e.2 = some (if j = k then v else e.2)
        rw [if_neg (fun z => d (c.trans z))]
    · rw [gget_neg c]
      have : ¬ (if e.1 = k then (e.1, v) else e).1 = j := by
        split
        · exact c
        · exact c
      rw [gget_neg this]
      exact gget_map k j v r
theorem gget_snoc (k j : Int) (v : α) : ∀ m : List (Int × α), k ∉ m.map (·.1) → gget (m ++ [(k, v)]) j = if j = k then some v else gget m j
  | [], _ => by
    by_cases c : j = k
    · rw [if_pos c]
      exact gget_pos (show k = j from c.symm)
    · rw [if_neg c]
      exact gget_neg (show ¬ k = j from fun z => c z.symm)
  | e :: r, h => by
    rw [List.map_cons, List.mem_cons] at h
    rw [List.cons_append]
    by_cases c : e.1 = j
    · have : ¬ j = k := fun z => h (.inl (z.symm.trans c.symm))
      rw [gget_pos c, gget_pos c, if_neg this]
    · rw [gget_neg c, gget_neg c]
      exact gget_snoc k j v r fun z => h (.inr z)
theorem gget_put (m : List (Int × α)) (k j : Int) (v : α) : gget (gput m k v) j = if j = k then some v else gget m j := by
  by_cases h : k ∈ m.map (·.1)
  · rw [gput_old h, gget_map]
    by_cases c : j = k
    · rw [if_pos c]
      cases e : gget m j with
      | none =>
        rw [c] at e
        exact absurd h (gget_none.mp e)
      | some x =>
        show some (if j = k then v else x) = some v
        rw [if_pos c]
    · rw [if_neg c]
      cases gget m j with
      | none => rfl
      | some x =>
        show some (if j = k then v else x) = some x
        rw [if_neg c]
  · rw [gput_new h, gget_snoc k j v m h]
end
/-- with 0 for what is not there -/
def dval (m : List (Int × Int)) (k : Int) : Int := (gget m k).getD 0
theorem dval_put (m : List (Int × Int)) (k j v : Int) : dval (gput m k v) j = if j = k then v else dval m j := by
  unfold dval
  rw [gget_put]
  split <;> rfl
/-- made less parts so many times -/
def addM (p t : Int) (made parts : List (Int × Int)) : List (Int × Int) := parts.foldl (fun m e => gput m e.1 ((dval m e.1 - t * e.2) % p)) made
theorem addM_nd {p t : Int} : ∀ {parts made : List (Int × Int)}, (made.map (·.1)).Nodup → ((addM p t made parts).map (·.1)).Nodup
  | [], _, h => h
  | e :: r, _, h => addM_nd (parts := r) (gput_nd h)
theorem addM_key {p t : Int} : ∀ {parts made : List (Int × Int)} {j : Int}, j ∈ (addM p t made parts).map (·.1) → j ∈ made.map (·.1) ∨ j ∈ parts.map (·.1)
  | [], _, _, h => .inl h
  | e :: r, made, j, h => by
    rcases addM_key (parts := r) h with q | q
    · rcases gput_key q with z | z
      · exact .inr (by rw [z]; exact List.mem_cons_self)
      · exact .inl z
    · exact .inr (List.mem_cons_of_mem _ q)
theorem addM_val {p t : Int} : ∀ {parts made : List (Int × Int)} (k : Int), (parts.map (·.1)).Nodup → dval (addM p t made parts) k = match gget parts k with
    | some c => (dval made k - t * c) % p
    | none => dval made k
  | [], _, _, _ => rfl
  | e :: r, made, k, nd => by
    rw [List.map_cons, List.nodup_cons] at nd
    have ih := addM_val (p := p) (t := t) (parts := r) (made := gput made e.1 ((dval made e.1 - t * e.2) % p)) k nd.2
    show dval (addM p t (gput made e.1 ((dval made e.1 - t * e.2) % p)) r) k = _
    rw [ih]
    by_cases c : e.1 = k
    · rw [gget_pos c]
      have : gget r k = none := gget_none.mpr (c ▸ nd.1)
      rw [this]
      show dval (gput made e.1 _) k = (dval made k - t * e.2) % p
      rw [dval_put, if_pos c.symm, c]
    · rw [gget_neg c]
      cases gget r k with
      | none =>
        show dval (gput made e.1 _) k = dval made k
        rw [dval_put, if_neg (fun z => c z.symm)]
      | some x =>
        show (dval (gput made e.1 _) k - t * x) % p = (dval made k - t * x) % p
        rw [dval_put, if_neg (fun z => c z.symm)]
/-- distinct numbers below a bound are no more than it -/
theorem nodup_below : ∀ (n : Nat) (l : List Nat), l.Nodup → (∀ x ∈ l, x < n) → l.length ≤ n
  | 0, [], _, _ => Nat.le_refl _
  | 0, x :: _, _, h => absurd (h x List.mem_cons_self) (Nat.not_lt_zero _)
  | n + 1, l, nd, h => by
    have a := nodup_below n (l.filter fun x => decide (x ≠ n)) (nd.sublist List.filter_sublist) fun x hx => by
      have b := List.mem_filter.mp hx
      have c := h x b.1
      have d : x ≠ n := by simpa using b.2
      omega
    have b : l.length ≤ (l.filter fun x => decide (x ≠ n)).length + 1 := by
      clear a h
      induction l with
      | nil => exact Nat.zero_le _
      | cons x r ih =>
        rw [List.nodup_cons] at nd
        by_cases c : x = n
        · subst c
          have e : (r.filter fun y => decide (y ≠ x)) = r := List.filter_eq_self.mpr fun y hy => by
            have : y ≠ x := fun z => nd.1 (z ▸ hy)
            simpa using this
          rw [List.filter_cons_of_neg (by simp), e, List.length_cons]
          exact Nat.le_refl _
        · rw [List.filter_cons_of_pos (by simpa using c), List.length_cons, List.length_cons]
          have := ih nd.2
          omega
    omega
theorem keys_len {m : List (Int × Int)} (nd : (m.map (·.1)).Nodup) (h : ∀ e ∈ m, 0 ≤ e.1 ∧ e.1 < 40) : m.length ≤ 40 := by
  have a := nodup_below 40 (m.map fun e => e.1.toNat) (by
    unfold List.Nodup at nd ⊢
    rw [List.pairwise_map] at nd ⊢
    refine List.Pairwise.imp_of_mem (fun ha hb q => ?_) nd
    have := h _ ha
    have := h _ hb
    omega) fun x hx => by
      obtain ⟨e, he, rfl⟩ := List.mem_map.mp hx
      have := h e he
      omega
  rwa [List.length_map] at a
/-- a row of the steps: its place, the row, how it is made -/
structure Row where
  place : Nat
  own : List Int
  parts : List (Int × Int)
structure RowInv (p : Int) (n : Nat) (r : Row) : Prop where
  pl : r.place < n
  ln : r.own.length = n
  bd : ∀ v ∈ r.own, 0 ≤ v ∧ v < p
  nd : (r.parts.map (·.1)).Nodup
  ks : ∀ e ∈ r.parts, 0 ≤ e.1 ∧ e.1 < 40
/-- one turn of fallen -/
def fstep (p : Int) (s : List Int × List (Int × Int)) (r : Row) : List Int × List (Int × Int) :=
  if s.1.getD r.place 0 ≠ 0 then (lessT p s.1 (s.1.getD r.place 0) r.own, addM p (s.1.getD r.place 0) s.2 r.parts) else s
def fallen (p : Int) (srt : List Row) (row : List Int) (made : List (Int × Int)) : List Int × List (Int × Int) := srt.foldl (fstep p) (row, made)
theorem lessT_bd {p t : Int} (hp : 0 < p) {row oth : List Int} : ∀ v ∈ lessT p row t oth, 0 ≤ v ∧ v < p := by
  intro v hv
  unfold lessT at hv
  obtain ⟨i, hi, rfl⟩ := List.mem_iff_getElem.mp hv
  rw [List.getElem_zipWith]
  exact ⟨Int.emod_nonneg _ (by omega), Int.emod_lt_of_pos _ hp⟩
/-- what holds of a row and how it is made, amid fallen -/
structure Mid (p : Int) (n : Nat) (s : List Int × List (Int × Int)) : Prop where
  ln : s.1.length = n
  bd : ∀ v ∈ s.1, 0 ≤ v ∧ v < p
  nd : (s.2.map (·.1)).Nodup
  ks : ∀ e ∈ s.2, 0 ≤ e.1 ∧ e.1 < 40
theorem Mid.step {p : Int} {n : Nat} {s : List Int × List (Int × Int)} {r : Row} (hp : 0 < p) (h : Mid p n s) (hr : RowInv p n r) : Mid p n (fstep p s r) := by
  unfold fstep
  split
  · refine ⟨?_, lessT_bd hp, addM_nd h.nd, fun e he => ?_⟩
    · show (lessT p s.1 _ r.own).length = n
      rw [lessT_length (by rw [h.ln, hr.ln]), h.ln]
    · have hk : e.1 ∈ (addM p (s.1.getD r.place 0) s.2 r.parts).map (·.1) := List.mem_map.mpr ⟨e, he, rfl⟩
      rcases addM_key hk with q | q
      · obtain ⟨e', h1, h2⟩ := List.mem_map.mp q
        rw [← h2]
        exact h.ks e' h1
      · obtain ⟨e', h1, h2⟩ := List.mem_map.mp q
        rw [← h2]
        exact hr.ks e' h1
  · exact h
theorem Mid.all {p : Int} {n : Nat} (hp : 0 < p) : ∀ {srt : List Row} {s : List Int × List (Int × Int)}, Mid p n s → (∀ r ∈ srt, RowInv p n r) → Mid p n (srt.foldl (fstep p) s)
  | [], _, h, _ => h
  | r :: t, _, h, hr => Mid.all hp (srt := t) (h.step hp (hr r List.mem_cons_self)) fun x hx => hr x (List.mem_cons_of_mem _ hx)
end Lf
/-! Steps: made, fallen. -/
namespace Lf
open PySem PySem.Spec PyProof.Rows L2
/-! ### dicts of ints -/
def dkI (e : Int × Int) : Key × V := (Sum.inl e.1, V.int e.2)
abbrev dk (m : List (Int × Int)) : List (Key × V) := m.map dkI
theorem valV_dk (m : List (Int × Int)) (k : Int) : valV (dk m) (Sum.inl k : Key) = (gget m k).map V.int := by
  induction m with
  | nil => rfl
  | cons e r ih =>
    by_cases c : e.1 = k
    · rw [gget_pos c]
      exact valV_pos (p := dkI e) (show (Sum.inl e.1 : Key) = Sum.inl k by rw [c])
    · rw [gget_neg c, ← ih]
      exact valV_neg (p := dkI e) (fun z => c (Sum.inl.inj z))
theorem putK_dk (m : List (Int × Int)) (k v : Int) : putK (dk m) (Sum.inl k : Key) (V.int v) = dk (gput m k v) := by
  have ea : ((dk m).any fun kv => decide (kv.1 = (Sum.inl k : Key))) = m.any fun e => decide (e.1 = k) := by
    unfold dk
    rw [List.any_map]
    congr 1
    funext e
    show decide ((Sum.inl e.1 : Key) = Sum.inl k) = decide (e.1 = k)
    by_cases c : e.1 = k
    · rw [decide_eq_true c, decide_eq_true (by rw [c])]
    · rw [decide_eq_false c, decide_eq_false fun z => c (Sum.inl.inj z)]
  unfold putK gput
  rw [ea]
  split
  · unfold dk
    rw [List.map_map, List.map_map]
    congr 1
    funext e
    show (if (Sum.inl e.1 : Key) = Sum.inl k then ((Sum.inl e.1 : Key), V.int v) else (Sum.inl e.1, V.int e.2)) = dkI (if e.1 = k then (e.1, v) else e)
    by_cases c : e.1 = k
    · rw [if_pos (by rw [c]), if_pos c]
      rfl
    · rw [if_neg (fun z => c (Sum.inl.inj z)), if_neg c]
      rfl
  · unfold dk
    rw [List.map_append]
    rfl
theorem getD_dk (m : List (Int × Int)) (k : Int) : (valV (dk m) (Sum.inl k : Key)).getD (.int 0) = .int (dval m k) := by
  rw [valV_dk]
  unfold dval
  cases gget m k <;> rfl
/-! ### the steps in the heap -/
def RowAt (H : Hp) (e : Key × V) (r : Row) : Prop := e.1 = Sum.inl ((r.place : Nat) : Int) ∧ ∃ t l m, e.2 = .ref t ∧ Tp H t [.ref l, .ref m] ∧ H l = some (.lst (iv r.own)) ∧ H m = some (.dK (dk r.parts))
theorem RowAt.same {H H' : Hp} {e : Key × V} {r : Row} (s : Same H H') (h : RowAt H e r) : RowAt H' e r := by
  obtain ⟨h1, t, l, m, h2, h3, h4, h5⟩ := h
  exact ⟨h1, t, l, m, h2, h3.same s, s _ _ h4, s _ _ h5⟩
def RowsAt (H : Hp) (d : Addr) (rows : List Row) : Prop := ∃ kvs, H d = some (.dK kvs) ∧ Paired (RowAt H) kvs rows
theorem RowsAt.same {H H' : Hp} {d : Addr} {rows : List Row} (s : Same H H') (h : RowsAt H d rows) : RowsAt H' d rows := by
  obtain ⟨kvs, h1, h2⟩ := h
  exact ⟨kvs, s _ _ h1, paired_mono (fun _ _ x => x.same s) h2⟩
def stepF (p : Int) (d : Addr) : List (Str × V) := putF "kept_rows" (.ref d) (putF "kept_prime" (.int p) [])
theorem stepF_prime (p : Int) (d : Addr) : (stepF p d).lookup ("kept_prime" : Str) = some (.int p) := by
  unfold stepF
  rw [lookup_putF, if_neg (by decide +kernel), lookup_putF, if_pos rfl]
theorem stepF_rows (p : Int) (d : Addr) : (stepF p d).lookup ("kept_rows" : Str) = some (.ref d) := by
  unfold stepF
  rw [lookup_putF, if_pos rfl]
theorem stepF_no (p : Int) (d : Addr) {m : Str} (h1 : ¬ m = "kept_rows") (h2 : ¬ m = "kept_prime") : (stepF p d).lookup m = none := by
  unfold stepF
  rw [lookup_putF, if_neg h1, lookup_putF, if_neg h2]
  rfl
def StAt (K : PySem.W.Frag) (H : Hp) (x : Addr) (p : Int) (d : Addr) : Prop := ∃ dx, H x = some (.ins (He.ga K "Steps") dx (stepF p d))
theorem StAt.same {K : PySem.W.Frag} {H H' : Hp} {x d : Addr} {p : Int} (s : Same H H') (h : StAt K H x p d) : StAt K H' x p d := by
  obtain ⟨dx, h⟩ := h
  exact ⟨dx, s _ _ h⟩
/-- what holds of all rows -/
structure RowsOk (p : Int) (n : Nat) (rows : List Row) : Prop where
  pr : PrimeOk p
  n10 : n ≤ 10
  inv : ∀ r ∈ rows, RowInv p n r
  nd : (rows.map (·.place)).Nodup
theorem RowsOk.len {p : Int} {n : Nat} {rows : List Row} (h : RowsOk p n rows) : rows.length ≤ 10 := by
  have a := nodup_below n (rows.map (·.place)) h.nd fun x hx => by
    obtain ⟨r, hr, rfl⟩ := List.mem_map.mp hx
    exact (h.inv r hr).pl
  rw [List.length_map] at a
  have := h.n10
  omega
theorem rows_keys {H : Hp} : ∀ {kvs : List (Key × V)} {rows : List Row}, Paired (RowAt H) kvs rows → kvs.map (·.1) = (rows.map fun r => ((r.place : Nat) : Int)).map Sum.inl
  | _, _, .nil => rfl
  | _, _, .cons h t => by
    rw [List.map_cons, List.map_cons, List.map_cons, rows_keys t, h.1]
theorem rows_get {H : Hp} : ∀ {kvs : List (Key × V)} {rows : List Row}, Paired (RowAt H) kvs rows → (rows.map (·.place)).Nodup → ∀ {r : Row}, r ∈ rows → ∃ t l m, valV kvs (Sum.inl ((r.place : Nat) : Int) : Key) = some (.ref t) ∧ Tp H t [.ref l, .ref m] ∧ H l = some (.lst (iv r.own)) ∧ H m = some (.dK (dk r.parts))
  | _, _, .nil, _, _, h => by cases h
  | _, _, .cons (a := e) (b := r') h t, nd, r, hr => by
    rw [List.map_cons, List.nodup_cons] at nd
    rcases List.mem_cons.mp hr with q | q
    · subst q
      obtain ⟨h1, tt, l, m, h2, h3, h4, h5⟩ := h
      refine ⟨tt, l, m, ?_, h3, h4, h5⟩
      rw [valV_pos h1, h2]
    · obtain ⟨tt, l, m, h2, h3, h4, h5⟩ := rows_get t nd.2 q
      refine ⟨tt, l, m, ?_, h3, h4, h5⟩
      rw [valV_neg ?_]
      · exact h2
      · intro z
        rw [h.1] at z
        have z1 := Sum.inl.inj z
        have : r'.place = r.place := by omega
        exact nd.1 (this ▸ List.mem_map.mpr ⟨r, q, rfl⟩)
/-- sorted places: the rows so sorted -/
theorem sort_rows {rows : List Row} {ys : List Int} (nd : (rows.map (·.place)).Nodup) (hp : ys.Perm (rows.map fun r => ((r.place : Nat) : Int))) (hs : ys.Pairwise (· ≤ ·)) :
    ∃ srt : List Row, srt.Perm rows ∧ srt.Pairwise (fun a b => a.place < b.place) ∧ ys = srt.map fun r => ((r.place : Nat) : Int) := by
  obtain ⟨srt, p1, e⟩ := perm_of_map (fun r : Row => ((r.place : Nat) : Int)) hp
  refine ⟨srt, p1, ?_, e.symm⟩
  have nd2 : (srt.map (·.place)).Nodup := (p1.map (·.place)).nodup_iff.mpr nd
  subst e
  rw [List.pairwise_map] at hs
  unfold List.Nodup at nd2
  rw [List.pairwise_map] at nd2
  exact (hs.and nd2).imp fun h => by
    have a := h.1
    have b := h.2
    omega
section
variable {P : Program} {w : World} {K : PySem.W.Frag} {mg : Str → Option Value} {base : Heap}
def spSteps (K : PySem.W.Frag) : Sp := fun vs H Q _ => ∃ x dx p, vs = [.ref x, .int p] ∧ H x = some (.ins (He.ga K "Steps") dx []) ∧ ∀ d H', H d = none → StAt K H' x p d → RowsAt H' d [] → (∀ b o, b ≠ x → H b = some o → H' b = some o) → Q .non H'
abbrev N_Steps_init : List Str := ["self", "prime"]
theorem sc_Steps_init : FnScope N_Steps_init ["self", "prime"] d_Steps_init.scope := ⟨rfl, rfl, rfl, by decide +kernel, rfl, by decide +kernel, by decide +kernel⟩
theorem mk_Steps (E : Env K mg) : Mkr P w K mg base 1 "Steps" (He.ga K "Steps") ["self", "prime"] (spSteps K) := by
  refine Mkr.of (k := 0) E 9 48 46 (d := d_Steps_init) rfl rfl rfl rfl rfl rfl sc_Steps_init (fun vs H Q E' h => by (repeat obtain ⟨_, h⟩ := h); subst_vars; rfl) (fun _ _ _ _ _ _ us hl => match us, hl with | [_, _], _ => rfl) (fun f cdv A outer s H vs Q E' hr h => ?_)
  obtain ⟨x, dx, p, rfl, hx, q⟩ := h
  refine ⟨_, (pss_cons (ps_fld (pv 0) (pv 1) rfl)
    (pss_one (ps_fld (pv 0) pe_dnewK rfl))), ?_⟩
  refine ⟨_, rfl, _, rfl, x, _, dx, _, rfl, hx, E.clsSteps, E.noat 49, (by show 0 < 1000; decide), ?_⟩
  intro d hd
  have hxd : x ≠ d := fun z => by
    rw [← z, upd_same] at hd
    cases hd
  have hd0 : H d = none := by
    rw [upd_ne hxd.symm] at hd
    exact hd
  refine ⟨_, rfl, x, _, dx, _, rfl, (by rw [upd_ne hxd, upd_same]), E.clsSteps, E.noat 50, (by show 1 < 1000; decide), ?_⟩
  refine q d _ hd0 ⟨dx, upd_same⟩ ⟨[], by rw [upd_ne hxd.symm, upd_same], .nil⟩ fun b o hb e => ?_
  rw [upd_ne hb, upd_ne (ne_of_none e hd0), upd_ne hb]
  exact e
def spFallen (K : PySem.W.Frag) : Sp := fun vs H Q _ => ∃ x p d rows n a row m made, vs = [.ref x, .ref a, .ref m] ∧ StAt K H x p d ∧ RowsAt H d rows ∧ RowsOk p n rows ∧ Tp H a (iv row) ∧ H m = some (.dK (dk made)) ∧ Mid p n (row, made) ∧
  ∀ q H' l dm srt, H q = none → Same H H' → srt.Perm rows → srt.Pairwise (fun a b => a.place < b.place) → Tp H' q [.ref l, .ref dm] → H' l = some (.lst (iv (fallen p srt row made).1)) → H' dm = some (.dK (dk (fallen p srt row made).2)) → Q (.ref q) H'
abbrev N_Steps_fallen : List Str := ["self", "row", "made", "place", "times", "own", "parts", "name"]
theorem sc_Steps_fallen : FnScope N_Steps_fallen ["self", "row", "made"] d_Steps_fallen.scope := ⟨rfl, rfl, rfl, by decide +kernel, rfl, by decide +kernel, by decide +kernel⟩
theorem md_fallen (E : Env K mg) : Md P w K mg base 2 (He.ga K "Steps") "fallen" ["self", "row", "made"] (spFallen K) := by
  refine Md.of (k := 1) E 10 51 (d := d_Steps_fallen) rfl rfl rfl rfl rfl sc_Steps_fallen (fun vs H Q E' h => by (repeat obtain ⟨_, h⟩ := h); subst_vars; rfl) (fun _ _ _ _ _ _ us hl => match us, hl with | [_, _, _], _ => rfl) (fun f cdv A outer s H vs Q E' hr h => ?_)
  obtain ⟨x, p, d, rows, n, a, row, m, made, rfl, hx, hd, ro, ha, hm, hmid, q⟩ := h
  have hp0 : 0 < p := by have := ro.pr.bd; omega
  refine ⟨_, (pss_cons (ps_par (i := 1) (j := 2) (by rfl) sc_Steps_fallen.nd rfl rfl (by decide) rfl rfl (pa_cons (pe_callTy call_list_of (by rfl) (E.free 77) (by decide +kernel) (pa_cons (pv 1) pa_nil)) (pa_cons (pe_callTy call_dictD (by rfl) (E.free 78) (by decide +kernel) (pa_cons (pv 2) pa_nil)) pa_nil)) (by rfl))
    (pss_cons (ps_for PassesOwn.never rfl (pi_list (pe_callB (call_sortedDI rfl) (by rfl) (E.free 79) (by decide +kernel) (pa_cons (pe_fld (pv 0) rfl) pa_nil))) (pg_name (i := 3) sc_Steps_fallen.nd rfl (Or.inl rfl))
      (pss_one (ps_if (pt_cmpR op_ne (pe_ix ix_list (pv 1) (pv 3) (fun _ _ => rfl)) pe_int (nomark _))
        (pss_cons (ps_set (i := 4) sc_Steps_fallen.nd rfl (Or.inl rfl) (pe_ix ix_list (pv 1) (pv 3) (fun _ _ => rfl)))
        (pss_cons (ps_asg (pe_dget (hu_of hr) (pe_fld (pv 0) rfl) (pv 3) (fun _ _ => rfl)) (pg_tup rfl (pgs_cons (pg_name (i := 5) sc_Steps_fallen.nd rfl (Or.inl rfl)) (pgs_cons (pg_name (i := 6) sc_Steps_fallen.nd rfl (Or.inl rfl)) pgs_nil))))
        (pss_cons (ps_set (i := 1) sc_Steps_fallen.nd rfl (Or.inl rfl) (pe_c (cl_less_times E) (hr.mono (by decide)) rfl (pa_cons (pe_fld (pv 0) rfl) (pa_cons (pv 1) (pa_cons (pv 4) (pa_cons (pv 5) pa_nil))))))
        (pss_one (ps_lock (ps_for PassesOwn.never rfl (pi_keys (pv 6)) (pg_name (i := 7) sc_Steps_fallen.nd rfl (Or.inl rfl))
          (pss_one (ps_dput (hu_of hr) (pv 2) (pv 7) (pe_op op_mod (pe_op op_sub (pe_dget2 (hu_of hr) (pv 2) (pv 7) pe_int ⟨rfl, rfl, rfl, rfl⟩) (pe_op op_mul (pv 4) (pe_dget (hu_of hr) (pv 6) (pv 7) (fun _ _ => rfl)))) (pe_fld (pv 0) rfl)) rfl))))))))
        pss_nil)))
    (pss_one (ps_ret (pe_tup (pa_cons (pv 1) (pa_cons (pv 2) pa_nil))))))), ?_⟩
  -- row, made = list(row), dict(made)
  refine ⟨_, rfl, a, _, rfl, .inr ha.sq, fun l0 hl0 => ?_⟩
  have s1 : Same H (upd H l0 (.lst (iv row))) := same_new hl0 _
  refine ⟨_, rfl, m, _, rfl, .inl (s1 _ _ hm), fun dm hdm => ⟨_, _, rfl, ?_⟩⟩
  have s2 : Same H (upd (upd H l0 (.lst (iv row))) dm (.dK (dk made))) := s1.trans (same_new hdm _)
  have hdm0 : H dm = none := s1.free hdm
  have hne : l0 ≠ dm := fun z => by
    rw [← z, upd_same] at hdm
    cases hdm
  generalize eH : upd (upd H l0 (.lst (iv row))) dm (.dK (dk made)) = H2 at s2 ⊢
  have el : H2 l0 = some (.lst (iv row)) := by rw [← eH, upd_ne hne, upd_same]
  have ed : H2 dm = some (.dK (dk made)) := by rw [← eH, upd_same]
  -- sorted(self.kept_rows)
  obtain ⟨dx, gx⟩ := hx.same s2
  obtain ⟨kvs, gd, gp⟩ := hd.same s2
  refine ⟨_, rfl, x, _, dx, _, _, rfl, gx, E.clsSteps, E.noat 50, stepF_rows p d, d, kvs, rows.map fun r => ((r.place : Nat) : Int), rfl, .inl gd, rows_keys gp, (by rw [List.length_map]; have := ro.len; omega), fun ys p' perm pw hn => ?_⟩
  obtain ⟨srt, sp, ss, rfl⟩ := sort_rows ro.nd perm pw
  have hsr : ∀ r ∈ srt, RowInv p n r := fun r hr => ro.inv r (sp.mem_iff.mp hr)
  have s3 : Same H2 (upd H2 p' (.lst (iv (srt.map fun r => ((r.place : Nat) : Int))))) := same_new hn _
  have hp'dm : p' ≠ dm := fun z => by
    rw [z, ed] at hn
    cases hn
  have hp0' : H p' = none := s2.free hn
  refine ⟨p', rfl, ⟨_, SqL.of upd_same⟩, for_list (K := K) (a := p') (xs := iv (srt.map fun r => ((r.place : Nat) : Int))) (fun i σ H' => ∃ v3 v4 v5 v6 v7 ln, σ = [some (.ref x), some (.ref ln), some (.ref dm), v3, v4, v5, v6, v7] ∧ Same H H' ∧ H' p' = some (.lst (iv (srt.map fun r => ((r.place : Nat) : Int)))) ∧
      H' ln = some (.lst (iv (fallen p (srt.take i) row made).1)) ∧ H' dm = some (.dK (dk (fallen p (srt.take i) row made).2)))
    ⟨none, none, none, none, none, l0, rfl, s2.trans s3, upd_same, (s3 _ _ el), (s3 _ _ ed)⟩ ?_ ?_ ?_⟩
  · rintro i σ H' hi ⟨v3, v4, v5, v6, v7, ln, rfl, _, e, _⟩
    exact SqL.of e
  · rintro i y σ H' hi ⟨v3, v4, v5, v6, v7, ln, rfl, sH, eP, eL, eD⟩
    obtain ⟨y', hy, rfl⟩ := iv_get hi
    rw [List.getElem?_map] at hy
    obtain ⟨r, hr, rfl⟩ := Option.map_eq_some_iff.mp hy
    have hrm : r ∈ srt := List.mem_of_getElem? hr
    have ri := hsr r hrm
    have mid : Mid p n (fallen p (srt.take i) row made) := Mid.all hp0 hmid fun r hr => hsr r (List.mem_of_mem_take hr)
    have nxt : fallen p (srt.take (i + 1)) row made = fstep p (fallen p (srt.take i) row made) r := by
      unfold fallen
      rw [List.take_add_one, hr, List.foldl_append]
      rfl
    generalize eS : fallen p (srt.take i) row made = S at eL eD mid nxt
    obtain ⟨lw, md⟩ := S
    have hgx : lw[r.place]? = some (lw.getD r.place 0) := by
      have : r.place < lw.length := by rw [mid.ln]; exact ri.pl
      rw [List.getD_eq_getElem?_getD, List.getElem?_eq_getElem this]
      rfl
    have bt : 0 ≤ lw.getD r.place 0 ∧ lw.getD r.place 0 < p := mid.bd _ (List.mem_of_getElem? hgx)
    have hbd := ro.pr.bd
    refine ⟨_, rfl, _, rfl, ln, _, _, _, rfl, rfl, SqL.of eL, atI_nat (iv_at hgx), rfl, _, rfl, ?_⟩
    by_cases c : lw.getD r.place 0 = 0
    · refine iteNS (by rw [c]) ?_
      have e1 : fstep p (lw, md) r = (lw, md) := by
        unfold fstep
        exact if_neg (fun z => z c)
      refine ⟨_, _, _, _, _, ln, rfl, sH, eP, ?_, ?_⟩
      · rw [nxt, e1]
        exact eL
      · rw [nxt, e1]
        exact eD
    · refine (if_pos ?_).mpr ?_
      · rw [dec_vi]
        simpa using c
      have e1 : fstep p (lw, md) r = (lessT p lw (lw.getD r.place 0) r.own, addM p (lw.getD r.place 0) md r.parts) := by
        unfold fstep
        exact if_pos c
      generalize et : lw.getD r.place 0 = t at hgx bt c e1
      -- times = row[place]; own, parts = self.kept_rows[place]
      refine ⟨_, rfl, _, rfl, ln, _, _, _, rfl, rfl, SqL.of eL, atI_nat (iv_at hgx), ?_⟩
      obtain ⟨dx1, gx1⟩ := hx.same sH
      obtain ⟨kvs1, gd1, gp1⟩ := hd.same sH
      obtain ⟨tt, lo, mo, f1, f2, f3, f4⟩ := rows_get gp1 ro.nd (sp.mem_iff.mp hrm)
      refine ⟨_, rfl, x, _, dx1, _, _, rfl, gx1, E.clsSteps, E.noat 50, stepF_rows p d, _, rfl, d, .ref tt, rfl, ?_, g_pairS f2.sq ?_⟩
      · have g := DGet.k (k := Sum.inl ((r.place : Nat) : Int)) gd1
        rw [f1] at g
        exact g
      -- row = less_times(self.kept_prime, row, times, own)
      refine ⟨_, rfl, x, _, dx1, _, _, rfl, gx1, E.clsSteps, E.noat 49, stepF_prime p d, _, rfl, _, rfl, _, rfl, p, ln, t, lo, lw, r.own, rfl, hp0, ⟨by omega, by omega⟩, eL, f3, by rw [mid.ln, ri.ln], by rw [mid.ln]; have := ro.n10; omega, fun l2 H4 hl2 s4 e4 => ?_⟩
      have dmm : dm ≠ mo := fun z => by
        obtain ⟨kv0, gd0, gp0⟩ := hd
        obtain ⟨tt', lo', mo', f1', f2', f3', f4'⟩ := rows_get gp0 ro.nd (sp.mem_iff.mp hrm)
        have g1 := Tp.inj (f2'.same sH) (by
          have : tt' = tt := by
            have a1 := gd1.symm.trans (sH _ _ gd0)
            cases a1
            rw [f1] at f1'
            cases f1'
            rfl
          rw [this]; exact f2)
        cases g1
        rw [← z, hdm0] at f4'
        cases f4'
      have g4 := s4 _ _ f4
      have gm4 := s4 _ _ eD
      -- for name in parts
      refine ⟨mo, _, g4, trivial, fun od => ?_⟩
      refine ⟨_, rfl, mo, od, rfl, .inl ⟨_, upd_same, for_by (dk r.parts).length (fun j σ H' => ∃ v7, σ = [some (.ref x), some (.ref l2), some (.ref dm), some (.int ((r.place : Nat) : Int)), some (.int t), some (.ref lo), some (.ref mo), v7] ∧ (∀ b, b ≠ dm → b ≠ mo → H' b = H4 b) ∧
          H' mo = some (.frz od (.dK (dk r.parts))) ∧ H' dm = some (.dK (dk (addM p t md (r.parts.take j))))) ⟨_, rfl, fun b h1 h2 => upd_ne h2, upd_same, by rw [upd_ne dmm]; exact gm4⟩ ?_ ?_ ?_ ?_⟩⟩
      · rintro j σ H5 hj ⟨v7, rfl, k1, k2, k3⟩
        exact ⟨k2, hj⟩
      · rintro σ H5 ⟨v7, rfl, k1, k2, k3⟩
        exact ⟨k2, Nat.le_refl _⟩
      · rintro j z σ H5 H6 hj ⟨v7, rfl, k1, k2, k3⟩ ⟨rfl, kk, vv, hkv, rfl⟩
        rw [List.getElem?_map] at hkv
        obtain ⟨e, he, hke⟩ := Option.map_eq_some_iff.mp hkv
        cases hke
        have hem : e ∈ r.parts := List.mem_of_getElem? he
        have gp5 : gget r.parts e.1 = some e.2 := gget_mem ri.nd hem
        have x5 : H6 x = some (.ins (He.ga K "Steps") dx1 (stepF p d)) := by
          rw [k1 x (fun z => by rw [← z, gx1] at eD; cases eD) (fun z => by rw [← z, gx1] at f4; cases f4)]
          exact s4 _ _ gx1
        have lz : (addM p t md (r.parts.take j)).length ≤ 40 := by
          refine keys_len (addM_nd mid.nd) fun e' he' => ?_
          have hk : e'.1 ∈ (addM p t md (r.parts.take j)).map (·.1) := List.mem_map.mpr ⟨e', he', rfl⟩
          rcases addM_key hk with q1 | q1
          · obtain ⟨e'', h1, h2⟩ := List.mem_map.mp q1
            rw [← h2]
            exact mid.ks e'' h1
          · obtain ⟨e'', h1, h2⟩ := List.mem_map.mp q1
            rw [← h2]
            exact ri.ks e'' (List.mem_of_mem_take h1)
        have gP : DGet H6 mo (.int e.1) (some (.int e.2)) := by
          have g : DGet H6 mo (kV (Sum.inl e.1)) (valV (dk r.parts) (Sum.inl e.1 : Key)) := .inl ⟨_, _, .inr ⟨od, k2⟩, rfl, rfl⟩
          rw [valV_dk, gp5] at g
          exact g
        refine ⟨_, rfl, dm, rfl, .inl ⟨_, .inl k3⟩, _, rfl, _, DGet.k (k := Sum.inl e.1) k3, _, rfl, _, rfl, _, rfl, mo, .int e.2, rfl, gP, _, _, rfl, rfl, .inl ⟨by omega, by omega⟩, _, _, getD_dk _ _, rfl, _, rfl, x, _, dx1, _, _, rfl, x5, E.clsSteps, E.noat 49, stepF_prime p d, _, _, rfl, rfl, hp0, _, rfl, _, rfl, dm, _, rfl, DPut.k (k := Sum.inl e.1) k3 ?_, ?_⟩
        · rw [List.length_map]
          exact Nat.lt_of_le_of_lt (Nat.le_trans lz (by decide : 40 ≤ 100000)) (by decide)
        · refine ⟨_, rfl, fun b h1 h2 => ?_, ?_, ?_⟩
          · rw [upd_ne h1]
            exact k1 b h1 h2
          · rw [upd_ne dmm.symm]
            exact k2
          · rw [upd_same, putK_dk, List.take_add_one, he]
            have : addM p t md (r.parts.take j ++ (some e).toList) = gput (addM p t md (r.parts.take j)) e.1 ((dval (addM p t md (r.parts.take j)) e.1 - t * e.2) % p) := by
              unfold addM
              rw [List.foldl_append]
              rfl
            rw [this]
      · rintro σ H5 ⟨v7, rfl, k1, k2, k3⟩
        have k4 : ∀ b, b ≠ dm → (upd H5 mo (.dK (dk r.parts))) b = H4 b := fun b hb => by
          by_cases c2 : b = mo
          · rw [c2, upd_same]
            exact g4.symm
          · rw [upd_ne c2]
            exact k1 b hb c2
        refine ⟨k2, _, _, _, _, _, l2, rfl, fun b o e => ?_, ?_, ?_, ?_⟩
        · rw [k4 b (ne_of_none e hdm0)]
          exact s4 _ _ (sH _ _ e)
        · rw [k4 p' hp'dm]
          exact s4 _ _ eP
        · rw [k4 l2 (fun z => by rw [z, eD] at hl2; cases hl2), e4, nxt, e1]
        · rw [upd_ne dmm, k3, nxt, e1, List.length_map, List.take_length]
  · rintro σ H' ⟨v3, v4, v5, v6, v7, ln, rfl, sH, eP, eL, eD⟩
    rw [iv_len, List.length_map, List.take_length] at eL eD
    refine ⟨_, rfl, _, rfl, (by show 2 ≤ sizeLine; decide), fun t ht => ?_⟩
    have s9 := same_new ht (.tup [.ref ln, .ref dm])
    exact q t _ ln dm srt (sH.free ht) (sH.trans s9) sp ss (.of upd_same) (s9 _ _ eL) (s9 _ _ eD)
end
end Lf
/-! Rows taken away by steps in echelon; what is made of what. -/
namespace Lf
theorem lessT_at {p t : Int} {row oth : List Int} {n j : Nat} (h1 : row.length = n) (h2 : oth.length = n) (hj : j < n) : (lessT p row t oth).getD j 0 = (row.getD j 0 - t * oth.getD j 0) % p := by
  have a : row[j]? = some (row.getD j 0) := by rw [List.getD_eq_getElem?_getD, List.getElem?_eq_getElem (by omega)]; rfl
  have b : oth[j]? = some (oth.getD j 0) := by rw [List.getD_eq_getElem?_getD, List.getElem?_eq_getElem (by omega)]; rfl
  have c := lessT_get (p := p) (t := t) a b
  rw [List.getD_eq_getElem?_getD, c]
  rfl
theorem at_mem {v : List Int} {j : Nat} (h : j < v.length) : v.getD j 0 ∈ v := by
  rw [List.getD_eq_getElem?_getD, List.getElem?_eq_getElem h]
  exact List.getElem_mem h
/-- a row of values of a prime -/
structure Vec (p : Int) (n : Nat) (v : List Int) : Prop where
  ln : v.length = n
  bd : ∀ x ∈ v, 0 ≤ x ∧ x < p
theorem Vec.at_ {p : Int} {n : Nat} {v : List Int} (h : Vec p n v) {j : Nat} (hj : j < n) : 0 ≤ v.getD j 0 ∧ v.getD j 0 < p := h.bd _ (at_mem (by rw [h.ln]; exact hj))
theorem Vec.less {p t : Int} {n : Nat} {v o : List Int} (hp : 0 < p) (h : Vec p n v) (h2 : o.length = n) : Vec p n (lessT p v t o) := ⟨by rw [lessT_length (by rw [h.ln, h2]), h.ln], lessT_bd hp⟩
/-- one step taken away -/
def rstep (p : Int) (v : List Int) (e : Nat × List Int) : List Int := if v.getD e.1 0 ≠ 0 then lessT p v (v.getD e.1 0) e.2 else v
def red (p : Int) (L : List (Nat × List Int)) (v : List Int) : List Int := L.foldl (rstep p) v
theorem Vec.rstep {p : Int} {n : Nat} {v : List Int} {e : Nat × List Int} (hp : 0 < p) (h : Vec p n v) (h2 : e.2.length = n) : Vec p n (rstep p v e) := by
  unfold Lf.rstep
  split
  · exact h.less hp h2
  · exact h
/-- places that ascend, 1 at one's own, 0 behind at those ahead -/
structure Ech (p : Int) (n : Nat) (L : List (Nat × List Int)) : Prop where
  pl : ∀ e ∈ L, e.1 < n
  vec : ∀ e ∈ L, Vec p n e.2
  one : ∀ e ∈ L, e.2.getD e.1 0 = 1
  asc : L.Pairwise fun a b => a.1 < b.1 ∧ b.2.getD a.1 0 = 0
theorem Ech.tail {p : Int} {n : Nat} {e : Nat × List Int} {L : List (Nat × List Int)} (h : Ech p n (e :: L)) : Ech p n L :=
  ⟨fun x hx => h.pl x (List.mem_cons_of_mem _ hx), fun x hx => h.vec x (List.mem_cons_of_mem _ hx), fun x hx => h.one x (List.mem_cons_of_mem _ hx), (List.pairwise_cons.mp h.asc).2⟩
theorem red_vec {p : Int} {n : Nat} (hp : 0 < p) : ∀ {L : List (Nat × List Int)} {v : List Int}, Vec p n v → (∀ e ∈ L, Vec p n e.2) → Vec p n (red p L v)
  | [], _, h, _ => h
  | e :: L, _, h, hL => red_vec hp (L := L) (h.rstep hp (hL e List.mem_cons_self).ln) fun x hx => hL x (List.mem_cons_of_mem _ hx)
theorem rstep_keep {p : Int} {n z : Nat} {v : List Int} {e : Nat × List Int} (hv : Vec p n v) (he : Vec p n e.2) (hz : z < n) (h0 : v.getD z 0 = 0) (h1 : e.2.getD z 0 = 0) : (rstep p v e).getD z 0 = 0 := by
  unfold rstep
  split
  · rw [lessT_at hv.ln he.ln hz, h0, h1]
    simp
  · exact h0
theorem red_keep {p : Int} {n z : Nat} (hp : 0 < p) (hz : z < n) : ∀ {L : List (Nat × List Int)} {v : List Int}, Vec p n v → (∀ e ∈ L, Vec p n e.2) → v.getD z 0 = 0 → (∀ e ∈ L, e.2.getD z 0 = 0) → (red p L v).getD z 0 = 0
  | [], _, _, _, h, _ => h
  | e :: L, v, hv, hL, h, h1 => red_keep hp hz (L := L) (hv.rstep hp (hL e List.mem_cons_self).ln) (fun x hx => hL x (List.mem_cons_of_mem _ hx)) (rstep_keep hv (hL e List.mem_cons_self) hz h (h1 e List.mem_cons_self)) fun x hx => h1 x (List.mem_cons_of_mem _ hx)
theorem rstep_zero {p : Int} {n : Nat} {v : List Int} {e : Nat × List Int} (hv : Vec p n v) (he : Vec p n e.2) (hz : e.1 < n) (h1 : e.2.getD e.1 0 = 1) : (rstep p v e).getD e.1 0 = 0 := by
  unfold rstep
  split
  · rw [lessT_at hv.ln he.ln hz, h1, Int.mul_one, Int.sub_self, Int.zero_emod]
  · rename_i h
    exact Classical.not_not.mp h
theorem red_zero {p : Int} {n : Nat} (hp : 0 < p) : ∀ {L : List (Nat × List Int)} {v : List Int}, Vec p n v → Ech p n L → ∀ e ∈ L, (red p L v).getD e.1 0 = 0
  | [], _, _, _, _, h => by cases h
  | e :: L, v, hv, hE, x, hx => by
    have he := hE.vec e List.mem_cons_self
    have hz := hE.pl e List.mem_cons_self
    have hv1 : Vec p n (rstep p v e) := hv.rstep hp he.ln
    rcases List.mem_cons.mp hx with q | q
    · subst q
      show (red p L (Lf.rstep p v x)).getD x.1 0 = 0
      exact red_keep hp hz hv1 (fun y hy => hE.vec y (List.mem_cons_of_mem _ hy)) (rstep_zero hv he hz (hE.one x List.mem_cons_self)) fun y hy => ((List.pairwise_cons.mp hE.asc).1 y hy).2
    · show (red p L (Lf.rstep p v e)).getD x.1 0 = 0
      exact red_zero hp hv1 hE.tail x q
/-! ### sums so many times -/
/-- what sums make at a place, the i-th one c i times -/
def lc (c : Nat → Int) : List (List Int) → Nat → Int
  | [], _ => 0
  | b :: r, j => c 0 * b.getD j 0 + lc (fun i => c (i + 1)) r j
theorem lc_congr : ∀ {B : List (List Int)} {c d : Nat → Int} {j : Nat}, (∀ i < B.length, c i = d i) → lc c B j = lc d B j
  | [], _, _, _, _ => rfl
  | b :: r, c, d, j, h => by
    show c 0 * _ + _ = d 0 * _ + _
    rw [h 0 (Nat.zero_lt_succ _), lc_congr (B := r) fun i hi => h (i + 1) (Nat.succ_lt_succ hi)]
theorem lc_lin (a b : Int) : ∀ {B : List (List Int)} {c d : Nat → Int} {j : Nat}, lc (fun i => a * c i + b * d i) B j = a * lc c B j + b * lc d B j
  | [], _, _, _ => by simp [lc]
  | x :: r, c, d, j => by
    show (a * c 0 + b * d 0) * x.getD j 0 + lc (fun i => a * c (i + 1) + b * d (i + 1)) r j = a * (c 0 * x.getD j 0 + lc (fun i => c (i + 1)) r j) + b * (d 0 * x.getD j 0 + lc (fun i => d (i + 1)) r j)
    rw [lc_lin a b (B := r)]
    grind
theorem lc_zero : ∀ {B : List (List Int)} {c : Nat → Int} {j : Nat}, (∀ i < B.length, c i = 0) → lc c B j = 0
  | [], _, _, _ => rfl
  | b :: r, c, j, h => by
    show c 0 * _ + _ = 0
    rw [h 0 (Nat.zero_lt_succ _), lc_zero (B := r) fun i hi => h (i + 1) (Nat.succ_lt_succ hi)]
    simp
theorem lc_snoc (x : List Int) : ∀ {B : List (List Int)} {c : Nat → Int} {j : Nat}, lc c (B ++ [x]) j = lc c B j + c B.length * x.getD j 0
  | [], _, _ => by simp [lc]
  | b :: r, c, j => by
    show c 0 * _ + lc (fun i => c (i + 1)) (r ++ [x]) j = c 0 * _ + lc (fun i => c (i + 1)) r j + c (r.length + 1) * _
    rw [lc_snoc x (B := r)]
    grind
/-- one alone -/
theorem lc_one : ∀ {B : List (List Int)} {k : Nat} {x : List Int} {j : Nat} (a : Int), B[k]? = some x → lc (fun i => if i = k then a else 0) B j = a * x.getD j 0
  | [], _, _, _, _, h => by simp at h
  | b :: r, 0, x, j, a, h => by
    cases h
    show (if (0 : Nat) = 0 then a else 0) * b.getD j 0 + lc (fun i => if i + 1 = 0 then a else 0) r j = a * b.getD j 0
    rw [if_pos rfl, lc_zero (B := r) fun i _ => if_neg (Nat.succ_ne_zero i)]
    simp
  | b :: r, k + 1, x, j, a, h => by
    show (if (0 : Nat) = k + 1 then a else 0) * b.getD j 0 + lc (fun i => if i + 1 = k + 1 then a else 0) r j = a * x.getD j 0
    rw [if_neg (by omega)]
    have e : lc (fun i => if i + 1 = k + 1 then a else 0) r j = lc (fun i => if i = k then a else 0) r j := lc_congr fun i _ => by
      by_cases c : i = k
      · rw [if_pos c, if_pos (by omega)]
      · rw [if_neg c, if_neg (by omega)]
    rw [e, lc_one (B := r) a (by simpa using h)]
    simp
/-- v is made of B -/
def Span (p : Int) (n : Nat) (B : List (List Int)) (v : Nat → Int) : Prop := ∃ c : Nat → Int, ∀ j < n, p ∣ v j - lc c B j
section
variable {p : Int} {n : Nat} {B B' : List (List Int)} {u v w : Nat → Int}
theorem Span.congr (h : ∀ j < n, p ∣ v j - w j) (s : Span p n B v) : Span p n B w := by
  obtain ⟨c, hc⟩ := s
  refine ⟨c, fun j hj => ?_⟩
  obtain ⟨a, ha⟩ := h j hj
  obtain ⟨b, hb⟩ := hc j hj
  exact ⟨b - a, by grind⟩
theorem Span.lin (a b : Int) (h1 : Span p n B v) (h2 : Span p n B w) : Span p n B fun j => a * v j + b * w j := by
  obtain ⟨c, hc⟩ := h1
  obtain ⟨d, hd⟩ := h2
  refine ⟨fun i => a * c i + b * d i, fun j hj => ?_⟩
  rw [lc_lin]
  obtain ⟨x, hx⟩ := hc j hj
  obtain ⟨y, hy⟩ := hd j hj
  exact ⟨a * x + b * y, by grind⟩
theorem Span.mem {b : List Int} (h : b ∈ B) : Span p n B fun j => b.getD j 0 := by
  obtain ⟨k, hk, rfl⟩ := List.mem_iff_getElem.mp h
  refine ⟨fun i => if i = k then 1 else 0, fun j _ => ?_⟩
  rw [lc_one 1 (List.getElem?_eq_getElem hk)]
  exact ⟨0, by simp⟩
theorem Span.zero : Span p n B fun _ => 0 := ⟨fun _ => 0, fun j _ => by rw [lc_zero fun _ _ => rfl]; exact ⟨0, by simp⟩⟩
theorem span_lc : ∀ {B : List (List Int)} (c : Nat → Int), (∀ b ∈ B, Span p n B' fun j => b.getD j 0) → Span p n B' fun j => lc c B j
  | [], _, _ => Span.zero
  | b :: r, c, h => by
    have a := Span.lin (c 0) 1 (h b List.mem_cons_self) (span_lc (B := r) (fun i => c (i + 1)) fun x hx => h x (List.mem_cons_of_mem _ hx))
    refine a.congr fun j _ => ⟨0, ?_⟩
    show c 0 * b.getD j 0 + 1 * lc (fun i => c (i + 1)) r j - (c 0 * b.getD j 0 + lc (fun i => c (i + 1)) r j) = p * 0
    grind
theorem Span.trans (h : ∀ b ∈ B, Span p n B' fun j => b.getD j 0) (s : Span p n B v) : Span p n B' v := by
  obtain ⟨c, hc⟩ := s
  refine (span_lc c h).congr fun j hj => ?_
  obtain ⟨a, ha⟩ := hc j hj
  exact ⟨-a, by grind⟩
theorem Span.mono (h : ∀ b ∈ B, b ∈ B') (s : Span p n B v) : Span p n B' v := s.trans fun b hb => .mem (h b hb)
end
theorem emod_dvd (p x : Int) : p ∣ x - x % p := Int.dvd_self_sub_emod
/-- what is taken away is made of the steps -/
theorem red_span {p : Int} {n : Nat} (hp : 0 < p) : ∀ {L : List (Nat × List Int)} {v : List Int}, Vec p n v → (∀ e ∈ L, Vec p n e.2) → Span p n (L.map (·.2)) fun j => v.getD j 0 - (red p L v).getD j 0
  | [], v, _, _ => Span.zero.congr fun j _ => ⟨0, by show 0 - (v.getD j 0 - v.getD j 0) = p * 0; grind⟩
  | e :: L, v, hv, hL => by
    have he := hL e List.mem_cons_self
    have ih := red_span hp (L := L) (hv.rstep hp he.ln) fun x hx => hL x (List.mem_cons_of_mem _ hx)
    have ih2 : Span p n ((e :: L).map (·.2)) fun j => (rstep p v e).getD j 0 - (red p L (rstep p v e)).getD j 0 := ih.mono fun b hb => List.mem_cons_of_mem _ hb
    have one : Span p n ((e :: L).map (·.2)) fun j => e.2.getD j 0 := .mem List.mem_cons_self
    show Span p n ((e :: L).map (·.2)) fun j => v.getD j 0 - (red p L (rstep p v e)).getD j 0
    by_cases c : v.getD e.1 0 ≠ 0
    · refine (Span.lin 1 (v.getD e.1 0) ih2 one).congr fun j hj => ?_
      have e1 : (rstep p v e).getD j 0 = (v.getD j 0 - v.getD e.1 0 * e.2.getD j 0) % p := by
        unfold rstep
        rw [if_pos c, lessT_at hv.ln he.ln hj]
      rw [e1]
      obtain ⟨a, ha⟩ := emod_dvd p (v.getD j 0 - v.getD e.1 0 * e.2.getD j 0)
      exact ⟨-a, by grind⟩
    · have e1 : rstep p v e = v := by
        unfold rstep
        exact if_neg c
      rw [e1] at ih2 ⊢
      exact ih2
/-- what is made of steps in echelon and is 0 at their places is 0 -/
theorem ech_zero {p : Int} {n : Nat} : ∀ {L : List (Nat × List Int)} {v : Nat → Int}, Ech p n L → Span p n (L.map (·.2)) v → (∀ e ∈ L, p ∣ v e.1) → ∀ j < n, p ∣ v j
  | [], v, _, s, _, j, hj => by
    obtain ⟨c, hc⟩ := s
    obtain ⟨a, ha⟩ := hc j hj
    exact ⟨a, by rw [← ha]; show v j = v j - 0; simp⟩
  | e :: L, v, hE, s, hz, j, hj => by
    obtain ⟨c, hc⟩ := s
    have zl : lc (fun i => c (i + 1)) (L.map (·.2)) e.1 = 0 := by
      have : ∀ (M : List (Nat × List Int)) (d : Nat → Int), (∀ x ∈ M, x.2.getD e.1 0 = 0) → lc d (M.map (·.2)) e.1 = 0 := by
        intro M
        induction M with
        | nil => intro d _; rfl
        | cons x r ih =>
          intro d h
          show d 0 * x.2.getD e.1 0 + lc (fun i => d (i + 1)) (r.map (·.2)) e.1 = 0
          rw [h x List.mem_cons_self, ih _ fun y hy => h y (List.mem_cons_of_mem _ hy)]
          simp
      exact this L _ fun x hx => ((List.pairwise_cons.mp hE.asc).1 x hx).2
    have c0 : p ∣ c 0 := by
      obtain ⟨a, ha⟩ := hc e.1 (hE.pl e List.mem_cons_self)
      obtain ⟨b, hb⟩ := hz e List.mem_cons_self
      have ha' : v e.1 - (c 0 * e.2.getD e.1 0 + lc (fun i => c (i + 1)) (L.map (·.2)) e.1) = p * a := ha
      rw [hE.one e List.mem_cons_self, zl] at ha'
      exact ⟨b - a, by grind⟩
    refine ech_zero hE.tail ⟨fun i => c (i + 1), fun k hk => ?_⟩ (fun x hx => hz x (List.mem_cons_of_mem _ hx)) j hj
    obtain ⟨a, ha⟩ := hc k hk
    obtain ⟨b, hb⟩ := c0
    have ha' : v k - (c 0 * e.2.getD k 0 + lc (fun i => c (i + 1)) (L.map (·.2)) k) = p * a := ha
    exact ⟨a + b * e.2.getD k 0, by grind⟩
theorem dvd_bd {p x : Int} (h : p ∣ x) (h0 : 0 ≤ x) (h1 : x < p) : x = 0 := by
  obtain ⟨k, hk⟩ := h
  have hp : 0 < p := by omega
  have : x % p = x := Int.emod_eq_of_lt h0 h1
  rw [hk, Int.mul_emod_right] at this
  omega
/-- nothing is left exactly of what is made of the steps -/
theorem red_nil_iff {p : Int} {n : Nat} {L : List (Nat × List Int)} {v : List Int} (hp : 0 < p) (hv : Vec p n v) (hE : Ech p n L) : (∀ j < n, (red p L v).getD j 0 = 0) ↔ Span p n (L.map (·.2)) fun j => v.getD j 0 := by
  have hs := red_span hp hv hE.vec
  constructor
  · intro h
    refine hs.congr fun j hj => ⟨0, ?_⟩
    show v.getD j 0 - (red p L v).getD j 0 - v.getD j 0 = p * 0
    rw [h j hj]
    grind
  · intro h j hj
    have hr : Span p n (L.map (·.2)) fun k => (red p L v).getD k 0 := (Span.lin 1 (-1) h hs).congr fun k _ => ⟨0, by grind⟩
    have hv2 := red_vec hp hv hE.vec
    have z := ech_zero hE hr (fun e he => ⟨0, by rw [red_zero hp hv hE e he]; simp⟩) j hj
    exact dvd_bd z (hv2.at_ hj).1 (hv2.at_ hj).2
end Lf
/-! Steps: cleared, made_by. -/
namespace Lf
open PySem PySem.Spec PyProof.Rows L2
/-- {k: g for k in made if ..} over a dict of ints -/
theorem dcK {tt : TT} {tk tv : TE} {vs : List Nat} {σ : L2.St} {H1 : Hp} {D dm : Addr} {od : Obj} {Qd : Hp → Prop} {j : Nat} {made : List (Int × Int)} (nd : (made.map (·.1)).Nodup) (hl : made.length ≤ 1000) (hD : H1 D = none) (hm : H1 dm = some (.frz od (.dK (dk made))))
    (keep : Int × Int → Bool) (g : Int × Int → Int) (hw : ∀ x, wipe ((wipe σ vs).set j x) vs = wipe σ vs)
    (ht : ∀ (e : Int × Int) (H2 : Hp), e ∈ made → gget made e.1 = some e.2 → Same H1 H2 → ∀ R : Bool → Hp → Prop, R (keep e) H2 → tt ((wipe σ vs).set j (some (.int e.1))) H2 R)
    (hk : ∀ (e : Int × Int) (H2 : Hp), e ∈ made → Same H1 H2 → ∀ R : VK, R (.int e.1) H2 → tk ((wipe σ vs).set j (some (.int e.1))) H2 R)
    (hv : ∀ (e : Int × Int) (H2 : Hp), e ∈ made → gget made e.1 = some e.2 → Same H1 H2 → ∀ R : VK, R (.int (g e)) H2 → tv ((wipe σ vs).set j (some (.int e.1))) H2 R)
    (hd : ∀ H, Same H1 H → H D = some (.dK (dk ((made.filter keep).map fun e => (e.1, g e)))) → Qd H) :
    ∃ W : Nat → Nat → Hp → Prop, (∃ m, W 0 m (upd H1 D (.dK []))) ∧ ∀ i m H, W i m H →
      ((Itk dm od (dk made)).stop i H ∧ Qd H) ∨ ((Itk dm od (dk made)).go i H ∧ ∃ Nx : Hp → Prop, (∀ H', Nx H' → ∃ m', m' < m ∧ W (i + 1) m' H') ∧ ∀ x H', (Itk dm od (dk made)).yld i H x H' → gName j x (wipe σ vs) H' fun σ2 H2 => wipe σ2 vs = wipe σ vs ∧ tt σ2 H2 fun b H3 =>
        if b = true then tk σ2 H3 fun y H4 => tv σ2 H4 fun z H5 => ∃ kvs k, y = kV k ∧ H5 D = some (.dK kvs) ∧ kvs.length < sizeLine ∧ Nx (upd H5 D (.dK (putK kvs k z))) else Nx H3) := by
  have ll : (dk made).length = made.length := List.length_map _
  refine dc_by (dk made).length (fun i H => Same H1 H ∧ H D = some (.dK (dk (((made.take i).filter keep).map fun e => (e.1, g e))))) ⟨same_new hD _, upd_same⟩ (fun i H hi p => ⟨p.1 _ _ hm, hi⟩) (fun H p => ⟨p.1 _ _ hm, Nat.le_refl _⟩) ?_ ?_
  · rintro i x H H' hi ⟨s1, eD⟩ ⟨rfl, k, v, hkv, rfl⟩
    rw [List.getElem?_map] at hkv
    obtain ⟨e, he, hke⟩ := Option.map_eq_some_iff.mp hkv
    cases hke
    have hem : e ∈ made := List.mem_of_getElem? he
    have hg := gget_mem nd hem
    refine ⟨hw _, ht e _ hem hg s1 _ ?_⟩
    cases c : keep e with
    | false =>
      refine iteF ⟨s1, ?_⟩
      rw [eD, List.take_add_one, he, List.filter_append]
      show _ = some (HO.dK (dk (((made.take i).filter keep ++ [e].filter keep).map fun e => (e.1, g e))))
      rw [List.filter_cons_of_neg (by rw [c]; decide), List.filter_nil, List.append_nil]
    | true =>
      refine iteT (hk e _ hem s1 _ (hv e _ hem hg s1 _ ⟨_, Sum.inl e.1, rfl, eD, ?_, fun b o q => ?_, ?_⟩))
      · have : ((made.take i).filter keep).length ≤ 1000 := Nat.le_trans (List.length_filter_le _ _) (by rw [List.length_take]; omega)
        rw [List.length_map, List.length_map]
        exact Nat.lt_of_le_of_lt this (by decide)
      · rw [upd_ne (ne_of_none q hD)]
        exact s1 _ _ q
      · rw [upd_same, putK_dk, List.take_add_one, he, List.filter_append]
        show _ = some (HO.dK (dk (((made.take i).filter keep ++ [e].filter keep).map fun e => (e.1, g e))))
        rw [List.filter_cons_of_pos c, List.filter_nil, List.map_append, gput_new]
        · rfl
        · intro z
          rw [List.map_map] at z
          obtain ⟨e', h1, h2⟩ := List.mem_map.mp z
          have h3 := (List.mem_filter.mp h1).1
          obtain ⟨k, hk, rfl⟩ := List.mem_iff_getElem.mp h3
          rw [List.length_take] at hk
          have a1 : (made.map (·.1))[k]? = some e.1 := by
            rw [List.getElem?_map, List.getElem?_eq_getElem (show k < made.length by omega), ← h2, List.getElem_take]
            rfl
          have a2 : (made.map (·.1))[i]? = some e.1 := by rw [List.getElem?_map, he]; rfl
          have := nd_ix nd a1 a2
          omega
  · rintro H ⟨s1, eD⟩
    refine hd H s1 ?_
    rw [eD, ll, List.take_length]
section
variable {P : Program} {w : World} {K : PySem.W.Frag} {mg : Str → Option Value} {base : Heap}
def spCleared (K : PySem.W.Frag) : Sp := fun vs H Q _ => ∃ x p d n a lo mo r pl l left m made, vs = [.ref x, .ref a, .int ((pl : Nat) : Int), .ref l, .ref m] ∧ StAt K H x p d ∧ PrimeOk p ∧ n ≤ 10 ∧ pl < n ∧ RowInv p n r ∧ Tp H a [.ref lo, .ref mo] ∧ H lo = some (.lst (iv r.own)) ∧ Rd H mo (.dK (dk r.parts)) ∧
  H l = some (.lst (iv left)) ∧ left.length = n ∧ H m = some (.dK (dk made)) ∧ (made.map (·.1)).Nodup ∧ (∀ e ∈ made, 0 ≤ e.1 ∧ e.1 < 40) ∧
  ∀ q H' l' m', H q = none → H m' = none → Same H H' → Tp H' q [.ref l', .ref m'] → H' l' = some (.lst (iv (lessT p r.own (r.own.getD pl 0) left))) → H' m' = some (.dK (dk (addM p (r.own.getD pl 0) r.parts made))) → Q (.ref q) H'
abbrev N_Steps_cleared : List Str := ["self", "pair", "place", "left", "made", "own", "parts", "many", "one"]
theorem sc_Steps_cleared : FnScope N_Steps_cleared ["self", "pair", "place", "left", "made"] d_Steps_cleared.scope := ⟨rfl, rfl, rfl, by decide +kernel, rfl, by decide +kernel, by decide +kernel⟩
theorem md_cleared (E : Env K mg) : Md P w K mg base 2 (He.ga K "Steps") "cleared" ["self", "pair", "place", "left", "made"] (spCleared K) := by
  refine Md.of (k := 1) E 12 53 (d := d_Steps_cleared) rfl rfl rfl rfl rfl sc_Steps_cleared (fun vs H Q E' h => by (repeat obtain ⟨_, h⟩ := h); subst_vars; rfl) (fun _ _ _ _ _ _ us hl => match us, hl with | [_, _, _, _, _], _ => rfl) (fun f cdv A outer s H vs Q E' hr h => ?_)
  obtain ⟨x, p, d, n, a, lo, mo, r, pl, l, left, m, made, rfl, ⟨dx, hx⟩, hpr, hn, hpl, ri, ha, hlo, hmo, hl, hll, hm, ndm, ksm, q⟩ := h
  have hbd := hpr.bd
  have hp0 : 0 < p := by omega
  refine ⟨_, (pss_cons (ps_par (i := 5) (j := 6) (by rfl) sc_Steps_cleared.nd rfl rfl (by decide) rfl rfl (pa_cons (pe_ix ix_tup (pv 1) pe_int (fun _ _ => rfl)) (pa_cons (pe_callTy call_dictD (by rfl) (E.free 78) (by decide +kernel) (pa_cons (pe_ix ix_tup (pv 1) pe_int (fun _ _ => rfl)) pa_nil)) pa_nil)) (by rfl))
    (pss_cons (ps_set (i := 7) sc_Steps_cleared.nd rfl (Or.inl rfl) (pe_ix ix_list (pv 5) (pv 2) (fun _ _ => rfl)))
    (pss_cons (ps_lock (ps_for PassesOwn.never rfl (pi_keys (pv 4)) (pg_name (i := 8) sc_Steps_cleared.nd rfl (Or.inl rfl))
      (pss_one (ps_dput (hu_of hr) (pv 6) (pv 8) (pe_op op_mod (pe_op op_sub (pe_dget2 (hu_of hr) (pv 6) (pv 8) pe_int ⟨rfl, rfl, rfl, rfl⟩) (pe_op op_mul (pv 7) (pe_dget (hu_of hr) (pv 4) (pv 8) (fun _ _ => rfl)))) (pe_fld (pv 0) rfl)) rfl))))
    (pss_one (ps_ret (pe_tup (pa_cons (pe_c (cl_less_times E) (hr.mono (by decide)) rfl (pa_cons (pe_fld (pv 0) rfl) (pa_cons (pv 5) (pa_cons (pv 7) (pa_cons (pv 3) pa_nil))))) (pa_cons (pv 6) pa_nil)))))))), ?_⟩
  refine ⟨_, rfl, _, _, _, _, rfl, rfl, ha.sq, atI_nat (j := 0) rfl, _, rfl, _, _, _, _, rfl, rfl, ha.sq, atI_nat (j := 1) rfl, mo, _, rfl, hmo, fun dm hdm => ⟨_, _, rfl, ?_⟩⟩
  have s1 : Same H (upd H dm (.dK (dk r.parts))) := same_new hdm _
  have ep : (upd H dm (.dK (dk r.parts))) dm = some (.dK (dk r.parts)) := upd_same
  generalize upd H dm (.dK (dk r.parts)) = H4 at s1 ep ⊢
  have hgx : r.own[pl]? = some (r.own.getD pl 0) := by
    have : pl < r.own.length := by rw [ri.ln]; exact hpl
    rw [List.getD_eq_getElem?_getD, List.getElem?_eq_getElem this]
    rfl
  have bt : 0 ≤ r.own.getD pl 0 ∧ r.own.getD pl 0 < p := ri.bd _ (List.mem_of_getElem? hgx)
  generalize r.own.getD pl 0 = t at hgx bt q ⊢
  refine ⟨_, rfl, _, rfl, lo, _, _, _, rfl, rfl, SqL.of (s1 _ _ hlo), atI_nat (iv_at hgx), ?_⟩
  have dmm : dm ≠ m := fun z => by
    rw [z, hm] at hdm
    cases hdm
  have g4 := s1 _ _ hm
  have gx4 := s1 _ _ hx
  refine ⟨m, _, g4, trivial, fun od => ?_⟩
  refine ⟨_, rfl, m, od, rfl, .inl ⟨_, upd_same, for_by (dk made).length (fun j σ H' => ∃ v8, σ = [some (.ref x), some (.ref a), some (.int ((pl : Nat) : Int)), some (.ref l), some (.ref m), some (.ref lo), some (.ref dm), some (.int t), v8] ∧ (∀ b, b ≠ dm → b ≠ m → H' b = H4 b) ∧
      H' m = some (.frz od (.dK (dk made))) ∧ H' dm = some (.dK (dk (addM p t r.parts (made.take j))))) ⟨_, rfl, fun b h1 h2 => upd_ne h2, upd_same, by rw [upd_ne dmm]; exact ep⟩ ?_ ?_ ?_ ?_⟩⟩
  · rintro j σ H5 hj ⟨v7, rfl, k1, k2, k3⟩
    exact ⟨k2, hj⟩
  · rintro σ H5 ⟨v7, rfl, k1, k2, k3⟩
    exact ⟨k2, Nat.le_refl _⟩
  · rintro j z σ H5 H6 hj ⟨v7, rfl, k1, k2, k3⟩ ⟨rfl, kk, vv, hkv, rfl⟩
    rw [List.getElem?_map] at hkv
    obtain ⟨e, he, hke⟩ := Option.map_eq_some_iff.mp hkv
    cases hke
    have hem : e ∈ made := List.mem_of_getElem? he
    have gp5 : gget made e.1 = some e.2 := gget_mem ndm hem
    have x5 : H6 x = some (.ins (He.ga K "Steps") dx (stepF p d)) := by
      rw [k1 x (fun z => by rw [← z, hx] at hdm; cases hdm) (fun z => by rw [← z, hx] at hm; cases hm)]
      exact gx4
    have lz : (addM p t r.parts (made.take j)).length ≤ 40 := by
      refine keys_len (addM_nd ri.nd) fun e' he' => ?_
      have hk : e'.1 ∈ (addM p t r.parts (made.take j)).map (·.1) := List.mem_map.mpr ⟨e', he', rfl⟩
      rcases addM_key hk with q1 | q1
      · obtain ⟨e'', h1, h2⟩ := List.mem_map.mp q1
        rw [← h2]
        exact ri.ks e'' h1
      · obtain ⟨e'', h1, h2⟩ := List.mem_map.mp q1
        rw [← h2]
        exact ksm e'' (List.mem_of_mem_take h1)
    have gP : DGet H6 m (.int e.1) (some (.int e.2)) := by
      have g : DGet H6 m (kV (Sum.inl e.1)) (valV (dk made) (Sum.inl e.1 : Key)) := .inl ⟨_, _, .inr ⟨od, k2⟩, rfl, rfl⟩
      rw [valV_dk, gp5] at g
      exact g
    refine ⟨_, rfl, dm, rfl, .inl ⟨_, .inl k3⟩, _, rfl, _, DGet.k (k := Sum.inl e.1) k3, _, rfl, _, rfl, _, rfl, m, .int e.2, rfl, gP, _, _, rfl, rfl, .inl ⟨by omega, by omega⟩, _, _, getD_dk _ _, rfl, _, rfl, x, _, dx, _, _, rfl, x5, E.clsSteps, E.noat 49, stepF_prime p d, _, _, rfl, rfl, hp0, _, rfl, _, rfl, dm, _, rfl, DPut.k (k := Sum.inl e.1) k3 ?_, ?_⟩
    · rw [List.length_map]
      exact Nat.lt_of_le_of_lt (Nat.le_trans lz (by decide : 40 ≤ 100000)) (by decide)
    · refine ⟨_, rfl, fun b h1 h2 => ?_, ?_, ?_⟩
      · rw [upd_ne h1]
        exact k1 b h1 h2
      · rw [upd_ne dmm.symm]
        exact k2
      · rw [upd_same, putK_dk, List.take_add_one, he]
        have : addM p t r.parts (made.take j ++ (some e).toList) = gput (addM p t r.parts (made.take j)) e.1 ((dval (addM p t r.parts (made.take j)) e.1 - t * e.2) % p) := by
          unfold addM
          rw [List.foldl_append]
          rfl
        rw [this]
  · rintro σ H5 ⟨v7, rfl, k1, k2, k3⟩
    have k4 : ∀ b, b ≠ dm → (upd H5 m (.dK (dk made))) b = H4 b := fun b hb => by
      by_cases c2 : b = m
      · rw [c2, upd_same]
        exact g4.symm
      · rw [upd_ne c2]
        exact k1 b hb c2
    have s5 : Same H (upd H5 m (.dK (dk made))) := fun b o e => by
      rw [k4 b (ne_of_none e hdm)]
      exact s1 _ _ e
    have eD5 : (upd H5 m (.dK (dk made))) dm = some (.dK (dk (addM p t r.parts made))) := by
      rw [upd_ne dmm, k3, List.length_map, List.take_length]
    refine ⟨k2, ?_⟩
    generalize upd H5 m (.dK (dk made)) = H6 at s5 eD5 ⊢
    refine ⟨_, rfl, x, _, dx, _, _, rfl, s5 _ _ hx, E.clsSteps, E.noat 49, stepF_prime p d, _, rfl, _, rfl, _, rfl, p, lo, t, l, r.own, left, rfl, hp0, ⟨by omega, by omega⟩, s5 _ _ hlo, s5 _ _ hl, by rw [ri.ln, hll], by rw [ri.ln]; omega, fun l2 H7 hl2 s7 e7 => ?_⟩
    refine ⟨_, rfl, (by show 2 ≤ sizeLine; decide), fun t2 ht2 => ?_⟩
    have s8 := same_new ht2 (.tup [.ref l2, .ref dm])
    exact q t2 _ l2 dm ((s5.trans s7).free ht2) hdm ((s5.trans s7).trans s8) (.of upd_same) (s8 _ _ e7) (s8 _ _ (s7 _ _ eD5))
/-- what made_by gives of what is left -/
def madeBy (p : Int) (s : List Int × List (Int × Int)) : Option (List (Int × Int)) := match firstP s.1 with
  | some _ => none
  | none => some ((s.2.filter fun e => decide (¬ e.2 = 0)).map fun e => (e.1, -e.2 % p))
def spMadeBy (K : PySem.W.Frag) : Sp := fun vs H Q _ => ∃ x p d rows n a row, vs = [.ref x, .ref a] ∧ StAt K H x p d ∧ RowsAt H d rows ∧ RowsOk p n rows ∧ Tp H a (iv row) ∧ Vec p n row ∧
  ∀ H' srt, Same H H' → srt.Perm rows → srt.Pairwise (fun a b => a.place < b.place) → (madeBy p (fallen p srt row []) = none → Q .non H') ∧ ∀ m D, madeBy p (fallen p srt row []) = some m → H' D = some (.dK (dk m)) → Q (.ref D) H'
abbrev N_Steps_made_by : List Str := ["self", "row", "left", "made", "name"]
theorem sc_Steps_made_by : FnScope N_Steps_made_by ["self", "row"] d_Steps_made_by.scope := ⟨rfl, rfl, rfl, by decide +kernel, rfl, by decide +kernel, by decide +kernel⟩
theorem md_made_by (E : Env K mg) : Md P w K mg base 3 (He.ga K "Steps") "made_by" ["self", "row"] (spMadeBy K) := by
  refine Md.of (k := 2) E 13 54 (d := d_Steps_made_by) rfl rfl rfl rfl rfl sc_Steps_made_by (fun vs H Q E' h => by (repeat obtain ⟨_, h⟩ := h); subst_vars; rfl) (fun _ _ _ _ _ _ us hl => match us, hl with | [_, _], _ => rfl) (fun f cdv A outer s H vs Q E' hr h => ?_)
  obtain ⟨x, p, d, rows, n, a, row, rfl, hx, hd, ro, ha, hv, q⟩ := h
  have hp0 : 0 < p := by have := ro.pr.bd; omega
  refine ⟨_, (pss_cons (ps_asg (pe_md (pv 0) E.clsSteps (md_fallen E) (hr.mono (by decide)) (pa_cons (pv 1) (pa_cons pe_dnewK pa_nil))) (pg_tup rfl (pgs_cons (pg_name (i := 2) sc_Steps_made_by.nd rfl (Or.inl rfl)) (pgs_cons (pg_name (i := 3) sc_Steps_made_by.nd rfl (Or.inr rfl)) pgs_nil))))
    (pss_cons (ps_if (pt_cmpR op_notN (pe_c (cl_first_place E) (hr.mono (by decide)) rfl (pa_cons (pv 2) pa_nil)) pe_non (nomark _))
      (pss_one (ps_ret pe_non))
      pss_nil)
    (pss_one (ps_ret (pe_lock (pe_dc (own := [("name", 4)]) (g := gName 4) rfl sc_Steps_made_by.nd (pi_keys (pv 3)) (blkOk_by (own := [("name", 4)]) (N := N_Steps_made_by) (sc := d_Steps_made_by.scope) (by decide +kernel)) (fun _ _ _ _ _ => (pg_name (i := 4) sc_Steps_made_by.nd rfl (Or.inl rfl))) (fun _ _ _ _ _ => (pts_one (pt_cmpR op_ne (pe_dget (hu_of hr) (pv 3) (pv 4) (fun _ _ => rfl)) pe_int (nomark _)))) (fun _ _ _ _ _ => (pv 4)) (fun _ _ _ _ _ => (pe_op op_mod (by exact pe_un un_neg (pe_dget (hu_of hr) (pv 3) (pv 4) (fun _ _ => rfl))) (pe_fldK (K := K) rfl (pv 0) rfl))))))))), ?_⟩
  obtain ⟨dx0, gx0⟩ := id hx
  refine ⟨_, rfl, x, dx0, _, rfl, gx0, stepF_no p d (by decide +kernel) (by decide +kernel), _, rfl, fun m0 hm0 => ?_⟩
  have s1 := same_new hm0 (.dK [])
  refine ⟨x, p, d, rows, n, a, row, m0, [], rfl, hx.same s1, hd.same s1, ro, ha.same s1, upd_same, ⟨hv.ln, hv.bd, List.nodup_nil, fun e he => by cases he⟩, fun T H1 l dm srt nT s2 sp ss hT hl hdm => ?_⟩
  have s12 := s1.trans s2
  refine g_pairS hT.sq ?_
  have midF : Mid p n (fallen p srt row []) := Mid.all hp0 ⟨hv.ln, hv.bd, List.nodup_nil, fun e he => by cases he⟩ fun r hr => ro.inv r (sp.mem_iff.mp hr)
  have qq := fun H' (s : Same H H') => q H' srt s sp ss
  generalize fallen p srt row [] = S at hl hdm midF qq
  obtain ⟨left, made⟩ := S
  refine ⟨_, rfl, l, left, rfl, hl, by rw [midF.ln]; have := ro.n10; omega, fun H2 s3 => ⟨rfl, _, rfl, ?_⟩⟩
  have s13 := s12.trans s3
  cases c : firstP left with
  | some i =>
    refine iteT ?_
    have e1 : madeBy p (left, made) = none := by
      unfold madeBy
      rw [show firstP (left, made).1 = some i from c]
    exact (qq H2 s13).1 e1
  | none =>
    refine iteF ?_
    have e1 : madeBy p (left, made) = some ((made.filter fun e => decide (¬ e.2 = 0)).map fun e => (e.1, -e.2 % p)) := by
      unfold madeBy
      rw [show firstP (left, made).1 = none from c]
    have g2 := s3 _ _ hdm
    refine ⟨dm, _, g2, trivial, fun od => ?_⟩
    refine ⟨_, rfl, dm, od, rfl, .inl ⟨_, upd_same, fun D hD => ?_⟩⟩
    obtain ⟨dx, gx⟩ := hx.same s13
    have nxd : x ≠ dm := fun z => by rw [z, g2] at gx; cases gx
    have gxf : (upd H2 dm (.frz od (.dK (dk made)))) x = some (.ins (He.ga K "Steps") dx (stepF p d)) := by rw [upd_ne nxd]; exact gx
    have lm : made.length ≤ 40 := keys_len midF.nd midF.ks
    refine dcK midF.nd (Nat.le_trans lm (by decide)) hD upd_same (fun e => decide (¬ e.2 = 0)) (fun e => -e.2 % p) (fun _ => rfl) ?_ ?_ ?_ ?_
    · intro e H3 he hg s4 R k
      have gP : DGet H3 dm (.int e.1) (some (.int e.2)) := by
        have g : DGet H3 dm (kV (Sum.inl e.1)) (valV (dk made) (Sum.inl e.1 : Key)) := .inl ⟨_, _, .inr ⟨od, s4 _ _ upd_same⟩, rfl, rfl⟩
        rw [valV_dk, hg] at g
        exact g
      refine ⟨_, rfl, _, rfl, dm, .int e.2, rfl, gP, rfl, _, rfl, ?_⟩
      have e3 : (!decide (V.int e.2 = V.int 0)) = decide (¬ e.2 = 0) := by rw [dec_vi]; simp
      rw [e3]
      exact k
    · intro e H3 he s4 R k
      exact ⟨_, rfl, k⟩
    · intro e H3 he hg s4 R k
      have gP : DGet H3 dm (.int e.1) (some (.int e.2)) := by
        have g : DGet H3 dm (kV (Sum.inl e.1)) (valV (dk made) (Sum.inl e.1 : Key)) := .inl ⟨_, _, .inr ⟨od, s4 _ _ upd_same⟩, rfl, rfl⟩
        rw [valV_dk, hg] at g
        exact g
      exact ⟨_, rfl, _, rfl, dm, .int e.2, rfl, gP, _, rfl, _, rfl, x, _, dx, _, _, rfl, s4 _ _ gxf, E.clsSteps, E.noat 49, stepF_prime p d, _, _, rfl, rfl, hp0, k⟩
    · intro H3 s4 eD
      have ndm : D ≠ dm := fun z => by rw [z, upd_same] at hD; cases hD
      have s5 : Same H (upd H3 dm (.dK (dk made))) := fun b o e => by
        by_cases cb : b = dm
        · rw [cb] at e ⊢
          rw [upd_same, ← g2]
          exact s13 _ _ e
        · rw [upd_ne cb]
          exact s4 _ _ (by rw [upd_ne cb]; exact s13 _ _ e)
      refine ⟨s4 _ _ upd_same, (qq _ s5).2 _ D e1 ?_⟩
      rw [upd_ne ndm]
      exact eD
end
end Lf
/-! The program's steps: what taking a sum makes of them. -/
namespace Lf
def toE (r : Row) : Nat × List Int := (r.place, r.own)
theorem fallen_red (p : Int) : ∀ (srt : List Row) (row : List Int) (made : List (Int × Int)), (fallen p srt row made).1 = red p (srt.map toE) row
  | [], _, _ => rfl
  | r :: t, row, made => by
    have e : (fstep p (row, made) r).1 = rstep p row (toE r) := by
      unfold fstep rstep
      show (if row.getD r.place 0 ≠ 0 then _ else _ : List Int × List (Int × Int)).1 = if row.getD r.place 0 ≠ 0 then lessT p row (row.getD r.place 0) r.own else row
      split <;> rfl
    have ih := fallen_red p t (fstep p (row, made) r).1 (fstep p (row, made) r).2
    show (fallen p t (fstep p (row, made) r).1 (fstep p (row, made) r).2).1 = red p (t.map toE) (rstep p row (toE r))
    rw [ih, e]
structure RowsRed (p : Int) (n : Nat) (rows : List Row) : Prop where
  ok : RowsOk p n rows
  one : ∀ r ∈ rows, r.own.getD r.place 0 = 1
  off : ∀ r ∈ rows, ∀ r' ∈ rows, r.place ≠ r'.place → r.own.getD r'.place 0 = 0
theorem RowInv.vec {p : Int} {n : Nat} {r : Row} (h : RowInv p n r) : Vec p n r.own := ⟨h.ln, h.bd⟩
theorem RowsRed.ech {p : Int} {n : Nat} {rows srt : List Row} (h : RowsRed p n rows) (sp : srt.Perm rows) (ss : srt.Pairwise fun a b => a.place < b.place) : Ech p n (srt.map toE) where
  pl := fun e he => by
    obtain ⟨r, hr, rfl⟩ := List.mem_map.mp he
    exact (h.ok.inv r (sp.mem_iff.mp hr)).pl
  vec := fun e he => by
    obtain ⟨r, hr, rfl⟩ := List.mem_map.mp he
    exact (h.ok.inv r (sp.mem_iff.mp hr)).vec
  one := fun e he => by
    obtain ⟨r, hr, rfl⟩ := List.mem_map.mp he
    exact h.one r (sp.mem_iff.mp hr)
  asc := by
    rw [List.pairwise_map]
    refine List.Pairwise.imp_of_mem (fun ha hb q => ⟨q, ?_⟩) ss
    exact h.off _ (sp.mem_iff.mp hb) _ (sp.mem_iff.mp ha) (Nat.ne_of_gt q)
theorem firstP_some {v : List Int} {i : Nat} (h : firstP v = some i) : i < v.length ∧ v.getD i 0 ≠ 0 ∧ ∀ j < i, v.getD j 0 = 0 := by
  unfold firstP at h
  obtain ⟨h1, h2, h3⟩ := List.findIdx?_eq_some_iff_getElem.mp h
  refine ⟨h1, ?_, fun j hj => ?_⟩
  · rw [List.getD_eq_getElem?_getD, List.getElem?_eq_getElem h1]
    simpa using h2
  · rw [List.getD_eq_getElem?_getD, List.getElem?_eq_getElem (by omega)]
    simpa using h3 j hj
theorem firstP_none {v : List Int} (h : firstP v = none) : ∀ j, v.getD j 0 = 0 := by
  unfold firstP at h
  have h1 := List.findIdx?_eq_none_iff.mp h
  intro j
  by_cases c : j < v.length
  · have := h1 _ (List.getElem_mem c)
    rw [List.getD_eq_getElem?_getD, List.getElem?_eq_getElem c]
    simpa using this
  · rw [List.getD_eq_getElem?_getD, List.getElem?_eq_none (by omega)]
    rfl
def scale (p t : Int) (v : List Int) : List Int := v.map fun x => x * t % p
def scaleM (p t : Int) (m : List (Int × Int)) : List (Int × Int) := m.map fun e => (e.1, e.2 * t % p)
theorem scale_at {p t : Int} {v : List Int} {j : Nat} (hj : j < v.length) : (scale p t v).getD j 0 = v.getD j 0 * t % p := by
  unfold scale
  rw [List.getD_eq_getElem?_getD, List.getElem?_map, List.getD_eq_getElem?_getD, List.getElem?_eq_getElem hj]
  rfl
theorem scaleM_keys (p t : Int) (m : List (Int × Int)) : (scaleM p t m).map (·.1) = m.map (·.1) := by
  unfold scaleM
  rw [List.map_map]
  rfl
theorem scaleM_get (p t : Int) (k : Int) : ∀ m : List (Int × Int), gget (scaleM p t m) k = (gget m k).map fun x => x * t % p
  | [] => rfl
  | e :: r => by
    by_cases c : e.1 = k
    · rw [gget_pos c]
      exact gget_pos (e := (e.1, e.2 * t % p)) c
    · rw [gget_neg c, ← scaleM_get p t k r]
      exact gget_neg (e := (e.1, e.2 * t % p)) c
theorem scale_vec {p t : Int} {n : Nat} {v : List Int} (hp : 0 < p) (h : v.length = n) : Vec p n (scale p t v) := by
  refine ⟨by unfold scale; rw [List.length_map, h], fun x hx => ?_⟩
  unfold scale at hx
  obtain ⟨y, _, rfl⟩ := List.mem_map.mp hx
  exact ⟨Int.emod_nonneg _ (by omega), Int.emod_lt_of_pos _ hp⟩
def clr (p : Int) (pl : Nat) (left : List Int) (made : List (Int × Int)) (r : Row) : Row := ⟨r.place, lessT p r.own (r.own.getD pl 0) left, addM p (r.own.getD pl 0) r.parts made⟩
/-- what a taken sum makes of the rows; none if it is made of them -/
def takeM (p : Int) (srt rows : List Row) (name : Int) (row : List Int) : Option (List Row) :=
  match firstP (fallen p srt row [(name, 1)]).1 with
  | none => none
  | some pl =>
    let t := inv p ((fallen p srt row [(name, 1)]).1.getD pl 0)
    let left := scale p t (fallen p srt row [(name, 1)]).1
    let made := scaleM p t (fallen p srt row [(name, 1)]).2
    some (⟨pl, left, made⟩ :: rows.map (clr p pl left made))
theorem mid1 {p : Int} {n : Nat} {name : Int} {row : List Int} (hv : Vec p n row) (hn : 0 ≤ name ∧ name < 40) : Mid p n (row, [(name, 1)]) :=
  ⟨hv.ln, hv.bd, List.nodup_cons.mpr ⟨List.not_mem_nil, List.nodup_nil⟩, fun e he => by
    rw [List.mem_singleton.mp he]
    exact hn⟩
/-- the parts of takeM, where a sum is taken -/
structure Took (p : Int) (n : Nat) (S : List Int × List (Int × Int)) (rows : List Row) (pl : Nat) (t : Int) : Prop where
  fst : firstP S.1 = some pl
  mid : Mid p n S
  tt : t = inv p (S.1.getD pl 0)
  zero : ∀ r ∈ rows, S.1.getD r.place 0 = 0
theorem Took.pn {p : Int} {n : Nat} {S : List Int × List (Int × Int)} {rows : List Row} {pl : Nat} {t : Int} (h : Took p n S rows pl t) : pl < n := by
  have := (firstP_some h.fst).1
  rw [h.mid.ln] at this
  exact this
theorem Took.bd {p : Int} {n : Nat} {S : List Int × List (Int × Int)} {rows : List Row} {pl : Nat} {t : Int} (h : Took p n S rows pl t) : 0 < S.1.getD pl 0 ∧ S.1.getD pl 0 < p := by
  have a := (firstP_some h.fst).2.1
  have b := h.mid.bd _ (at_mem (by rw [h.mid.ln]; exact h.pn))
  omega
theorem Took.new {p : Int} {n : Nat} {S : List Int × List (Int × Int)} {rows : List Row} {pl : Nat} {t : Int} (h : Took p n S rows pl t) : ∀ r ∈ rows, r.place ≠ pl := by
  intro r hr e
  have a := h.zero r hr
  rw [e] at a
  exact (firstP_some h.fst).2.1 a
theorem Took.red {p : Int} {n : Nat} {S : List Int × List (Int × Int)} {rows : List Row} {pl : Nat} {t : Int} (h : Took p n S rows pl t) (hr : RowsRed p n rows) :
    RowsRed p n (⟨pl, scale p t S.1, scaleM p t S.2⟩ :: rows.map (clr p pl (scale p t S.1) (scaleM p t S.2))) := by
  have hp := hr.ok.pr
  have hp0 : 0 < p := by have := hp.bd; omega
  have hp1 : 1 < p := by have := hp.bd; omega
  have hl : Vec p n (scale p t S.1) := scale_vec hp0 h.mid.ln
  have hpn := h.pn
  have l1 : (scale p t S.1).getD pl 0 = 1 := by
    rw [scale_at (by rw [h.mid.ln]; exact hpn), h.tt]
    have := (inv_spec hp h.bd.1 h.bd.2).1
    rw [Int.mul_comm] at this
    exact this
  have l0 : ∀ r ∈ rows, (scale p t S.1).getD r.place 0 = 0 := fun r hm => by
    rw [scale_at (by rw [h.mid.ln]; exact (hr.ok.inv r hm).pl), h.zero r hm]
    simp
  have cl : ∀ r ∈ rows, ∀ j < n, (clr p pl (scale p t S.1) (scaleM p t S.2) r).own.getD j 0 = (r.own.getD j 0 - r.own.getD pl 0 * (scale p t S.1).getD j 0) % p := fun r hm j hj => lessT_at (hr.ok.inv r hm).ln hl.ln hj
  have inv1 : RowInv p n ⟨pl, scale p t S.1, scaleM p t S.2⟩ := ⟨hpn, hl.ln, hl.bd, by show ((scaleM p t S.2).map (·.1)).Nodup; rw [scaleM_keys]; exact h.mid.nd, fun e he => by
    obtain ⟨e', h1, rfl⟩ := List.mem_map.mp (show e ∈ S.2.map _ from he)
    exact h.mid.ks e' h1⟩
  have inv2 : ∀ r ∈ rows, RowInv p n (clr p pl (scale p t S.1) (scaleM p t S.2) r) := fun r hm => by
    have ri := hr.ok.inv r hm
    refine ⟨ri.pl, (ri.vec.less hp0 hl.ln).ln, (ri.vec.less hp0 hl.ln).bd, addM_nd ri.nd, fun e he => ?_⟩
    have hk : e.1 ∈ (addM p (r.own.getD pl 0) r.parts (scaleM p t S.2)).map (·.1) := List.mem_map.mpr ⟨e, he, rfl⟩
    rcases addM_key hk with q | q
    · obtain ⟨e', h1, h2⟩ := List.mem_map.mp q
      rw [← h2]
      exact ri.ks e' h1
    · rw [scaleM_keys] at q
      obtain ⟨e', h1, h2⟩ := List.mem_map.mp q
      rw [← h2]
      exact h.mid.ks e' h1
  have c1 : ∀ r ∈ rows, (clr p pl (scale p t S.1) (scaleM p t S.2) r).own.getD r.place 0 = 1 := fun r hm => by
    rw [cl r hm _ (hr.ok.inv r hm).pl, l0 r hm, hr.one r hm]
    simp
    exact Int.emod_eq_of_lt (by decide) hp1
  have cpl : ∀ r ∈ rows, (clr p pl (scale p t S.1) (scaleM p t S.2) r).own.getD pl 0 = 0 := fun r hm => by
    rw [cl r hm _ hpn, l1]
    simp
  have cof : ∀ r ∈ rows, ∀ r' ∈ rows, r.place ≠ r'.place → (clr p pl (scale p t S.1) (scaleM p t S.2) r).own.getD r'.place 0 = 0 := fun r hm r' hm' ne => by
    rw [cl r hm _ (hr.ok.inv r' hm').pl, l0 r' hm', hr.off r hm r' hm' ne]
    simp
  refine ⟨⟨hp, hr.ok.n10, fun r hm => ?_, ?_⟩, fun r hm => ?_, fun r hm r' hm' ne => ?_⟩
  · rcases List.mem_cons.mp hm with q | q
    · rw [q]
      exact inv1
    · obtain ⟨r', h1, rfl⟩ := List.mem_map.mp q
      exact inv2 r' h1
  · rw [List.map_cons, List.map_map]
    have e : (rows.map ((fun r : Row => r.place) ∘ clr p pl (scale p t S.1) (scaleM p t S.2))) = rows.map fun r => r.place := rfl
    rw [e, List.nodup_cons]
    refine ⟨fun z => ?_, hr.ok.nd⟩
    obtain ⟨r, h1, h2⟩ := List.mem_map.mp z
    exact h.new r h1 h2
  · rcases List.mem_cons.mp hm with q | q
    · rw [q]
      exact l1
    · obtain ⟨r', h1, rfl⟩ := List.mem_map.mp q
      exact c1 r' h1
  · rcases List.mem_cons.mp hm with q | q <;> rcases List.mem_cons.mp hm' with q' | q'
    · rw [q, q'] at ne
      exact absurd rfl ne
    · obtain ⟨r2, h1, rfl⟩ := List.mem_map.mp q'
      rw [q]
      exact l0 r2 h1
    · obtain ⟨r2, h1, rfl⟩ := List.mem_map.mp q
      rw [q']
      exact cpl r2 h1
    · obtain ⟨r2, h1, rfl⟩ := List.mem_map.mp q
      obtain ⟨r3, h3, rfl⟩ := List.mem_map.mp q'
      exact cof r2 h1 r3 h3 ne
/-- the sum fallen: what holds where it is taken -/
theorem took_of {p : Int} {n : Nat} {rows srt : List Row} {name : Int} {row : List Int} {pl : Nat} (hr : RowsRed p n rows) (sp : srt.Perm rows) (ss : srt.Pairwise fun a b => a.place < b.place) (hv : Vec p n row) (hn : 0 ≤ name ∧ name < 40)
    (h : firstP (fallen p srt row [(name, 1)]).1 = some pl) : Took p n (fallen p srt row [(name, 1)]) rows pl (inv p ((fallen p srt row [(name, 1)]).1.getD pl 0)) := by
  have hp0 : 0 < p := by have := hr.ok.pr.bd; omega
  refine ⟨h, Mid.all hp0 (mid1 hv hn) fun r hr' => hr.ok.inv r (sp.mem_iff.mp hr'), rfl, fun r hm => ?_⟩
  rw [fallen_red]
  exact red_zero hp0 hv (hr.ech sp ss) (toE r) (List.mem_map.mpr ⟨r, sp.mem_iff.mpr hm, rfl⟩)
end Lf
/-! Steps: take. -/
namespace Lf
open PySem PySem.Spec PyProof.Rows L2
theorem stepF_put (p : Int) (d e : Addr) : putF "kept_rows" (.ref e) (stepF p d) = stepF p e := by
  have n1 : ¬ ("kept_prime" : Str) = "kept_rows" := by decide +kernel
  unfold stepF
  simp only [putF, if_neg n1, if_pos rfl, eq_self_iff_true, if_true]
theorem valV_none {kvs : List (Key × V)} {k : Key} (h : k ∉ kvs.map (·.1)) : valV kvs k = none := by
  induction kvs with
  | nil => rfl
  | cons e r ih =>
    rw [List.map_cons, List.mem_cons] at h
    rw [valV_neg fun z => h (.inl z.symm)]
    exact ih fun z => h (.inr z)
/-- a row in the heap, its dict elsewhere than at z -/
def RowX (z : Addr) (H : Hp) (e : Key × V) (r : Row) : Prop := e.1 = Sum.inl ((r.place : Nat) : Int) ∧ ∃ t l m, e.2 = .ref t ∧ Tp H t [.ref l, .ref m] ∧ H l = some (.lst (iv r.own)) ∧ H m = some (.dK (dk r.parts)) ∧ m ≠ z
theorem RowX.at_ {z : Addr} {H : Hp} {e : Key × V} {r : Row} (h : RowX z H e r) : RowAt H e r := by
  obtain ⟨h1, t, l, m, h2, h3, h4, h5, _⟩ := h
  exact ⟨h1, t, l, m, h2, h3, h4, h5⟩
/-- the dict at z may change -/
theorem RowX.same {z : Addr} {H H' : Hp} {e : Key × V} {r : Row} {kvs : List (Key × V)} (s : ∀ b o, b ≠ z → H b = some o → H' b = some o) (hz : H z = some (.dK kvs)) (h : RowX z H e r) : RowX z H' e r := by
  obtain ⟨h1, t, l, m, h2, h3, h4, h5, h6⟩ := h
  refine ⟨h1, t, l, m, h2, ?_, s _ _ (ne_of h4 hz (by intro q; cases q)) h4, s _ _ h6 h5, h6⟩
  rcases h3 with h3 | ⟨o, h3⟩
  · exact .inl (s _ _ (ne_of h3 hz (by intro q; cases q)) h3)
  · exact .inr ⟨o, s _ _ (ne_of h3 hz (by intro q; cases q)) h3⟩
theorem rowX_keys {z : Addr} {H : Hp} : ∀ {kvs : List (Key × V)} {rows : List Row}, Paired (RowX z H) kvs rows → kvs.map (·.1) = rows.map fun r => (Sum.inl ((r.place : Nat) : Int) : Key)
  | _, _, .nil => rfl
  | _, _, .cons h t => by rw [List.map_cons, List.map_cons, rowX_keys t, h.1]
theorem rows_nth {H : Hp} {kvs : List (Key × V)} {rows : List Row} (h : Paired (RowAt H) kvs rows) {i : Nat} {k : Key} {v : V} (e : kvs[i]? = some (k, v)) : ∃ r, rows[i]? = some r ∧ RowAt H (k, v) r := paired_get h e
section
variable {P : Program} {w : World} {K : PySem.W.Frag} {mg : Str → Option Value} {base : Heap}
def spTake (K : PySem.W.Frag) : Sp := fun vs H Q _ => ∃ x p d rows n name a row, vs = [.ref x, .int name, .ref a] ∧ StAt K H x p d ∧ RowsAt H d rows ∧ RowsRed p n rows ∧ Tp H a (iv row) ∧ Vec p n row ∧ (0 ≤ name ∧ name < 40) ∧
  ∀ H' srt, (∀ b o, b ≠ x → H b = some o → H' b = some o) → srt.Perm rows → srt.Pairwise (fun a b => a.place < b.place) →
    (takeM p srt rows name row = none → StAt K H' x p d → RowsAt H' d rows → Q (.bl false) H') ∧ ∀ rows' d', takeM p srt rows name row = some rows' → StAt K H' x p d' → RowsAt H' d' rows' → Q (.bl true) H'
abbrev N_Steps_take : List Str := ["self", "name", "row", "left", "made", "place", "times", "rows", "other", "value", "one"]
theorem sc_Steps_take : FnScope N_Steps_take ["self", "name", "row"] d_Steps_take.scope := ⟨rfl, rfl, rfl, by decide +kernel, rfl, by decide +kernel, by decide +kernel⟩
theorem md_take (E : Env K mg) : Md P w K mg base 3 (He.ga K "Steps") "take" ["self", "name", "row"] (spTake K) := by
  refine Md.of (k := 2) E 11 52 (d := d_Steps_take) rfl rfl rfl rfl rfl sc_Steps_take (fun vs H Q E' h => by (repeat obtain ⟨_, h⟩ := h); subst_vars; rfl) (fun _ _ _ _ _ _ us hl => match us, hl with | [_, _, _], _ => rfl) (fun f cdv A outer s H vs Q E' hr h => ?_)
  obtain ⟨x, p, d, rows, n, name, a, row, rfl, hx, hd, rr, ha, hv, hname, q⟩ := h
  have ro := rr.ok
  have hbd := ro.pr.bd
  have hp0 : 0 < p := by omega
  refine ⟨_, (pss_cons (ps_asg (pe_md (pv 0) E.clsSteps (md_fallen E) (hr.mono (by decide)) (pa_cons (pv 2) (pa_cons (pe_disp (pps_cons (pv 1) pe_int pps_nil) (by rfl) (by rfl) (fun z => by cases z) (by decide)) pa_nil))) (pg_tup rfl (pgs_cons (pg_name (i := 3) sc_Steps_take.nd rfl (Or.inl rfl)) (pgs_cons (pg_name (i := 4) sc_Steps_take.nd rfl (Or.inr rfl)) pgs_nil))))
    (pss_cons (ps_set (i := 5) sc_Steps_take.nd rfl (Or.inl rfl) (pe_c (cl_first_place E) (hr.mono (by decide)) rfl (pa_cons (pv 3) pa_nil)))
    (pss_cons (ps_if (pt_cmpR op_isN (pv 5) pe_non (nomark _))
      (pss_one (ps_ret pe_bl))
      pss_nil)
    (pss_cons (ps_set (i := 6) sc_Steps_take.nd rfl (Or.inr rfl) (pe_c (cl_inverse E) (hr.mono (by decide)) rfl (pa_cons (pe_fld (pv 0) rfl) (pa_cons (pe_ix ix_list (pv 3) (pv 5) (fun _ _ => rfl)) pa_nil))))
    (pss_cons (ps_setLc (i := 3) (own := [("value", 9)]) (g := gName 9) (tt := tYes) rfl sc_Steps_take.nd rfl rfl (sw_true rfl rfl rfl (by decide +kernel)) (pi_list (pv 3)) (blkOk_by (own := [("value", 9)]) (N := N_Steps_take) (sc := d_Steps_take.scope) (by decide +kernel)) (fun _ _ _ _ _ => (pg_name (i := 9) sc_Steps_take.nd rfl (Or.inl rfl))) (fun _ _ _ _ _ => pts_nil) (fun _ _ _ _ _ => (pe_op op_mod (pe_op op_mul (pv 9) (pv 6)) (pe_fldK (K := K) rfl (pv 0) rfl))))
    (pss_cons (ps_set (i := 4) sc_Steps_take.nd rfl (Or.inr rfl) (pe_lock (pe_dc (own := [("one", 10)]) (g := gName 10) (tt := tYes) rfl sc_Steps_take.nd (pi_keys (pv 4)) (blkOk_by (own := [("one", 10)]) (N := N_Steps_take) (sc := d_Steps_take.scope) (by decide +kernel)) (fun _ _ _ _ _ => (pg_name (i := 10) sc_Steps_take.nd rfl (Or.inl rfl))) (fun _ _ _ _ _ => pts_nil) (fun _ _ _ _ _ => (pv 10)) (fun _ _ _ _ _ => (pe_op op_mod (pe_op op_mul (pe_dget (hu_of hr) (pv 4) (pv 10) (fun _ _ => rfl)) (pv 6)) (pe_fldK (K := K) rfl (pv 0) rfl))))))
    (pss_cons (ps_set (i := 7) sc_Steps_take.nd rfl (Or.inl rfl) (pe_disp (pps_cons (pv 5) (pe_tup (pa_cons (pv 3) (pa_cons (pv 4) pa_nil))) pps_nil) (by rfl) (by rfl) (fun z => by cases z) (by decide)))
    (pss_cons (ps_lock (ps_for PassesOwn.never rfl (pi_keys (pe_fld (pv 0) rfl)) (pg_name (i := 8) sc_Steps_take.nd rfl (Or.inl rfl))
      (pss_one (ps_dput (hu_of hr) (pv 7) (pv 8) (pe_md (pv 0) E.clsSteps (md_cleared E) (hr.mono (by decide)) (pa_cons (pe_dget (hu_of hr) (pe_fld (pv 0) rfl) (pv 8) (fun _ _ => rfl)) (pa_cons (pv 5) (pa_cons (pv 3) (pa_cons (pv 4) pa_nil))))) rfl))))
    (pss_cons (ps_fld (pv 0) (pv 7) rfl)
    (pss_one (ps_ret pe_bl))))))))))), ?_⟩
  obtain ⟨dx0, gx0⟩ := id hx
  refine ⟨_, rfl, x, dx0, _, rfl, gx0, stepF_no p d (by decide +kernel) (by decide +kernel), _, rfl, fun m0 hm0 => ?_⟩
  refine ⟨_, rfl, upd_same, [(Sum.inl name, .int 1)], rfl, by show 1 ≤ 15; decide, ?_⟩
  have s1 : Same H (upd (upd H m0 (.dK [])) m0 (.dK (mergeK [] [(Sum.inl name, .int 1)]))) := by
    rw [upd_upd]
    exact same_new hm0 _
  have em : (upd (upd H m0 (.dK [])) m0 (.dK (mergeK [] [(Sum.inl name, .int 1)]))) m0 = some (.dK (dk [(name, 1)])) := upd_same
  generalize upd (upd H m0 (.dK [])) m0 (.dK (mergeK [] [(Sum.inl name, .int 1)])) = H0 at s1 em ⊢
  refine ⟨x, p, d, rows, n, a, row, m0, [(name, 1)], rfl, hx.same s1, hd.same s1, ro, ha.same s1, em, mid1 hv hname, fun T H1 l dm srt nT s2 sp ss hT hl hdm => ?_⟩
  have s12 := s1.trans s2
  refine g_pairS hT.sq ?_
  have midF : Mid p n (fallen p srt row [(name, 1)]) := Mid.all hp0 (mid1 hv hname) fun r hr => ro.inv r (sp.mem_iff.mp hr)
  have qq := fun H' s => q H' srt s sp ss
  have tk : ∀ pl, firstP (fallen p srt row [(name, 1)]).1 = some pl → Took p n (fallen p srt row [(name, 1)]) rows pl (inv p ((fallen p srt row [(name, 1)]).1.getD pl 0)) := fun pl => took_of rr sp ss hv hname
  unfold takeM at qq
  generalize fallen p srt row [(name, 1)] = S at hl hdm midF qq tk
  obtain ⟨left, made⟩ := S
  refine ⟨_, rfl, l, left, rfl, hl, by rw [midF.ln]; have := ro.n10; omega, fun H2 s3 => ⟨_, rfl, rfl, _, rfl, ?_⟩⟩
  have s13 := s12.trans s3
  cases c : firstP left with
  | none =>
    refine iteT ?_
    have qn := (qq H2 fun b o _ e => s13 _ _ e).1
    rw [show firstP (left, made).1 = none from c] at qn
    exact qn rfl (hx.same s13) (hd.same s13)
  | some pl =>
    have tk := tk pl c
    have hpn := tk.pn
    have lbd := tk.bd
    have midl : left.length = n := midF.ln
    have qs : ∀ H', (∀ b o, b ≠ x → H b = some o → H' b = some o) → ∀ d', StAt K H' x p d' → RowsAt H' d' (⟨pl, scale p (inv p (left.getD pl 0)) left, scaleM p (inv p (left.getD pl 0)) made⟩ :: rows.map (clr p pl (scale p (inv p (left.getD pl 0)) left) (scaleM p (inv p (left.getD pl 0)) made))) → Q (.bl true) H' := by
      intro H' s' d' h1 h2
      refine (qq H' s').2 _ d' ?_ h1 h2
      rw [show firstP (left, made).1 = some pl from c]
    clear qq
    refine iteF ?_
    obtain ⟨dx, gx⟩ := hx.same s13
    have gl := s3 _ _ hl
    have gdm := s3 _ _ hdm
    have hgx : left[pl]? = some (left.getD pl 0) := by rw [List.getD_eq_getElem?_getD, List.getElem?_eq_getElem (by omega)]; rfl
    have ib := inv_spec ro.pr lbd.1 lbd.2
    -- times = inverse(self.kept_prime, left[place])
    refine ⟨_, rfl, x, _, dx, _, _, rfl, gx, E.clsSteps, E.noat 49, stepF_prime p d, _, rfl, _, rfl, l, _, _, _, rfl, rfl, SqL.of gl, atI_nat (iv_at hgx), p, _, rfl, ro.pr, lbd.1, lbd.2, fun H3 s4 => ?_⟩
    generalize inv p (left.getD pl 0) = t at ib tk qs ⊢
    have gl3 := s4 _ _ gl
    have gx3 := s4 _ _ gx
    -- left = [value * times % p for value in left]
    refine ⟨_, rfl, l, rfl, ⟨_, SqL.of gl3⟩, fun Dl hDl => ?_⟩
    refine lcS (plain_l (SqL.of gl3)) (fun i => .int ((scale p t left).getD i 0)) hDl (by rw [iv_len, midl]; have := ro.n10; omega) (fun _ => rfl) ?_ ?_
    · intro i v H5 hi s5 R k
      obtain ⟨v', hv', rfl⟩ := iv_get hi
      refine ⟨_, rfl, _, rfl, _, _, rfl, rfl, .inr ⟨by omega, by omega⟩, _, rfl, x, _, dx, _, _, rfl, s5 _ _ gx3, E.clsSteps, E.noat 49, stepF_prime p d, _, _, rfl, rfl, hp0, ?_⟩
      have e1 : (scale p t left).getD i 0 = v' * t % p := by
        rw [scale_at (List.getElem?_eq_some_iff.mp hv').1, getD_of hv']
      have k1 := k _ (Same.refl _)
      rw [e1] at k1
      exact k1
    intro H4 s5 eDl
    have eL : H4 Dl = some (.lst (iv (scale p t left))) := by
      have ll : (iv left).length = (scale p t left).length := by unfold scale; rw [iv_len, List.length_map]
      rw [eDl, ll, iv_range]
    have s15 : Same H H4 := (s13.trans s4).trans s5
    have gdm4 := s5 _ _ (s4 _ _ gdm)
    have gx4 := s5 _ _ gx3
    -- made = {one: made[one] * times % p for one in made}
    refine ⟨dm, _, gdm4, trivial, fun od => ⟨_, rfl, dm, od, rfl, .inl ⟨_, upd_same, fun Dm hDm => ?_⟩⟩⟩
    have nxd : x ≠ dm := fun z => by rw [z, gdm4] at gx4; cases gx4
    have nld : Dl ≠ dm := fun z => by rw [z, gdm4] at eL; cases eL
    have lm : made.length ≤ 40 := keys_len midF.nd midF.ks
    have gxf : (upd H4 dm (.frz od (.dK (dk made)))) x = some (.ins (He.ga K "Steps") dx (stepF p d)) := by rw [upd_ne nxd]; exact gx4
    refine dcK midF.nd (Nat.le_trans lm (by decide)) hDm upd_same (fun _ => true) (fun e => e.2 * t % p) (fun _ => rfl) (fun e H5 he hg s6 R k => k) ?_ ?_ ?_
    · intro e H5 he s6 R k
      exact ⟨_, rfl, k⟩
    · intro e H5 he hg s6 R k
      have gP : DGet H5 dm (.int e.1) (some (.int e.2)) := by
        have g : DGet H5 dm (kV (Sum.inl e.1)) (valV (dk made) (Sum.inl e.1 : Key)) := .inl ⟨_, _, .inr ⟨od, s6 _ _ upd_same⟩, rfl, rfl⟩
        rw [valV_dk, hg] at g
        exact g
      exact ⟨_, rfl, _, rfl, dm, .int e.2, rfl, gP, _, rfl, _, _, rfl, rfl, .inr ⟨by omega, by omega⟩, _, rfl, x, _, dx, _, _, rfl, s6 _ _ gxf, E.clsSteps, E.noat 49, stepF_prime p d, _, _, rfl, rfl, hp0, k⟩
    intro H5 s6 eDm
    refine ⟨s6 _ _ upd_same, ?_⟩
    have eDm' : H5 Dm = some (.dK (dk (scaleM p t made))) := by
      rw [eDm]
      have : made.filter (fun _ => true) = made := List.filter_eq_self.mpr fun _ _ => rfl
      rw [this]
      rfl
    have nmd : Dm ≠ dm := fun z => by rw [z, upd_same] at hDm; cases hDm
    have s7 : Same H4 (upd H5 dm (.dK (dk made))) := fun b o e => by
      by_cases cb : b = dm
      · rw [cb, gdm4] at e
        cases e
        rw [cb, upd_same]
      · rw [upd_ne cb]
        exact s6 _ _ (by rw [upd_ne cb]; exact e)
    have eM : (upd H5 dm (.dK (dk made))) Dm = some (.dK (dk (scaleM p t made))) := by rw [upd_ne nmd]; exact eDm'
    generalize upd H5 dm (.dK (dk made)) = H6 at s7 eM ⊢
    have s16 := s15.trans s7
    have eL6 := s7 _ _ eL
    have gx6 := s7 _ _ gx4
    -- rows = {place: (left, made)}
    intro p5 hp5
    refine ⟨_, rfl, _, rfl, _, rfl, (by show 2 ≤ sizeLine; decide), fun t5 ht5 => ?_⟩
    have n5 : t5 ≠ p5 := fun z => by rw [z, upd_same] at ht5; cases ht5
    refine ⟨by rw [upd_ne n5.symm, upd_same], [(Sum.inl ((pl : Nat) : Int), .ref t5)], rfl, by show 1 ≤ 15; decide, ?_⟩
    have s8 : Same H6 (upd (upd (upd H6 p5 (.dK [])) t5 (.tup [.ref Dl, .ref Dm])) p5 (.dK (mergeK [] [(Sum.inl ((pl : Nat) : Int), .ref t5)]))) := fun b o e => by
      rw [upd_ne (ne_of_none e hp5)]
      exact (same_new hp5 _).trans (same_new ht5 _) _ _ e
    have e5 : (upd (upd (upd H6 p5 (.dK [])) t5 (.tup [.ref Dl, .ref Dm])) p5 (.dK (mergeK [] [(Sum.inl ((pl : Nat) : Int), .ref t5)]))) p5 = some (.dK [(Sum.inl ((pl : Nat) : Int), .ref t5)]) := upd_same
    have e5t : (upd (upd (upd H6 p5 (.dK [])) t5 (.tup [.ref Dl, .ref Dm])) p5 (.dK (mergeK [] [(Sum.inl ((pl : Nat) : Int), .ref t5)]))) t5 = some (.tup [.ref Dl, .ref Dm]) := by rw [upd_ne n5, upd_same]
    generalize upd (upd (upd H6 p5 (.dK [])) t5 (.tup [.ref Dl, .ref Dm])) p5 (.dK (mergeK [] [(Sum.inl ((pl : Nat) : Int), .ref t5)])) = H7 at s8 e5 e5t ⊢
    have s17 := s16.trans s8
    have hp5H : H p5 = none := s16.free hp5
    have gx7 := s8 _ _ gx6
    have eL7 := s8 _ _ eL6
    have eM7 := s8 _ _ eM
    have nm5 : Dm ≠ p5 := fun z => by rw [z, hp5] at eM; cases eM
    obtain ⟨kvs, gd7, gp7⟩ := hd.same s17
    have ndp5 : d ≠ p5 := fun z => by
      obtain ⟨kv0, g0, _⟩ := hd
      rw [z, hp5H] at g0
      cases g0
    have nxd7 : x ≠ d := fun z => by rw [z, gd7] at gx7; cases gx7
    have lk : kvs.length = rows.length := paired_len gp7
    -- for other in self.kept_rows: rows[other] = self.cleared(self.kept_rows[other], place, left, made)
    refine ⟨d, _, gd7, trivial, fun od7 => ?_⟩
    refine ⟨_, rfl, x, _, dx, _, _, rfl, (by rw [upd_ne nxd7]; exact gx7), E.clsSteps, E.noat 50, stepF_rows p d, d, od7, rfl, .inl ⟨_, upd_same, for_by kvs.length (fun i σ H' => ∃ v8, σ = [some (.ref x), some (.int name), some (.ref a), some (.ref Dl), some (.ref Dm), some (.int ((pl : Nat) : Int)), some (.int t), some (.ref p5), v8, none, none] ∧
      (∀ b o, b ≠ p5 → b ≠ d → H7 b = some o → H' b = some o) ∧ H' d = some (.frz od7 (.dK kvs)) ∧ ∃ kvs', H' p5 = some (.dK kvs') ∧ Paired (RowX p5 H') kvs' (⟨pl, scale p t left, scaleM p t made⟩ :: (rows.take i).map (clr p pl (scale p t left) (scaleM p t made))))
      ⟨none, rfl, fun b o h1 h2 e => by rw [upd_ne h2]; exact e, upd_same, [(Sum.inl ((pl : Nat) : Int), .ref t5)], by rw [upd_ne ndp5.symm]; exact e5, ?_⟩ ?_ ?_ ?_ ?_⟩⟩
    · refine .cons ⟨rfl, t5, Dl, Dm, rfl, ?_, ?_, ?_, nm5⟩ .nil
      · exact .of (by rw [upd_ne (fun z => by rw [z, gd7] at e5t; cases e5t)]; exact e5t)
      · rw [upd_ne (fun z => by rw [z, gd7] at eL7; cases eL7)]
        exact eL7
      · rw [upd_ne (fun z => by
          obtain ⟨kv0, g0, _⟩ := hd
          have g4 := s15 _ _ g0
          rw [← z] at g4
          have hD4 : H4 Dm = none := by rw [upd_ne nmd] at hDm; exact hDm
          rw [hD4] at g4
          cases g4)]
        exact eM7
    · rintro i σ H8 hi ⟨v8, rfl, k1, k2, k3⟩
      exact ⟨k2, hi⟩
    · rintro σ H8 ⟨v8, rfl, k1, k2, k3⟩
      exact ⟨k2, Nat.le_refl _⟩
    · rintro i z σ H8 H9 hi ⟨v8, rfl, k1, k2, kvs', k3, k4⟩ ⟨rfl, kk, vv, hkv, rfl⟩
      obtain ⟨r, hr, hkk, tt, lo, mo, htt, f2, f3, f4⟩ := rows_nth gp7 hkv
      have hrm : r ∈ rows := List.mem_of_getElem? hr
      have ri := ro.inv r hrm
      replace hkk : kk = Sum.inl ((r.place : Nat) : Int) := hkk
      replace htt : vv = .ref tt := htt
      subst hkk htt
      obtain ⟨tt2, lo2, mo2, g1, g2, g3, g4⟩ := rows_get gp7 ro.nd hrm
      have gx9 : H9 x = some (.ins (He.ga K "Steps") dx (stepF p d)) := k1 _ _ (fun z => by rw [z, e5] at gx7; cases gx7) nxd7 gx7
      have kp : ∀ b o, b ≠ p5 → b ≠ d → H7 b = some o → H9 b = some o := k1
      have ng : Tp H9 tt2 [.ref lo2, .ref mo2] := by
        rcases g2 with g2 | ⟨o, g2⟩
        · exact .inl (kp _ _ (ne_of g2 e5 (by intro q; cases q)) (ne_of g2 gd7 (by intro q; cases q)) g2)
        · exact .inr ⟨o, kp _ _ (ne_of g2 e5 (by intro q; cases q)) (ne_of g2 gd7 (by intro q; cases q)) g2⟩
      have nmo : mo2 ≠ p5 := fun z => by
        obtain ⟨kv0, g0, gp0⟩ := hd
        obtain ⟨t9, l9, m9, a1, a2, a3, a4⟩ := rows_get gp0 ro.nd hrm
        have a5 := s17 _ _ g0
        rw [gd7] at a5
        cases a5
        rw [g1] at a1
        cases a1
        have a6 := Tp.inj (a2.same s17) g2
        cases a6
        rw [z, hp5H] at a4
        cases a4
      have nmo9 : Rd H9 mo2 (.dK (dk r.parts)) := by
        by_cases cd : mo2 = d
        · refine .inr ⟨od7, ?_⟩
          rw [cd] at g4 ⊢
          rw [gd7] at g4
          cases g4
          exact k2
        · exact .inl (kp _ _ nmo cd g4)
      have eL9 := kp _ _ (ne_of eL7 e5 (by intro q; cases q)) (ne_of eL7 gd7 (by intro q; cases q)) eL7
      have nDmd : Dm ≠ d := fun z => by
        obtain ⟨kv0, g0, _⟩ := hd
        have g4 := s15 _ _ g0
        rw [← z] at g4
        have hD4 : H4 Dm = none := by rw [upd_ne nmd] at hDm; exact hDm
        rw [hD4] at g4
        cases g4
      have eM9 := kp _ _ nm5 nDmd eM7
      have gP : DGet H9 d (.int ((r.place : Nat) : Int)) (some (.ref tt2)) := by
        have g : DGet H9 d (kV (Sum.inl ((r.place : Nat) : Int))) (valV kvs (Sum.inl ((r.place : Nat) : Int) : Key)) := .inl ⟨_, _, .inr ⟨od7, k2⟩, rfl, rfl⟩
        rw [g1] at g
        exact g
      refine ⟨_, rfl, x, dx, _, rfl, gx9, stepF_no p d (by decide +kernel) (by decide +kernel), _, rfl, x, _, dx, _, _, rfl, gx9, E.clsSteps, E.noat 50, stepF_rows p d, _, rfl, d, .ref tt2, rfl, gP, _, rfl, _, rfl, _, rfl, ?_⟩
      refine ⟨x, p, d, n, tt2, lo2, mo2, r, pl, Dl, scale p t left, Dm, scaleM p t made, rfl, ⟨dx, gx9⟩, ro.pr, ro.n10, hpn, ri, ng, kp _ _ (ne_of g3 e5 (by intro q; cases q)) (ne_of g3 gd7 (by intro q; cases q)) g3, nmo9, eL9, (scale_vec hp0 midl).ln, eM9, by rw [scaleM_keys]; exact midF.nd, fun e he => ?_, fun q9 H10 l9 m9 nq nm s9 hq hl9 hm9 => ?_⟩
      · obtain ⟨e', h1, rfl⟩ := List.mem_map.mp he
        exact midF.ks e' h1
      have k3' := s9 _ _ k3
      have k2' := s9 _ _ k2
      have k4' : Paired (RowX p5 H10) kvs' (⟨pl, scale p t left, scaleM p t made⟩ :: (rows.take i).map (clr p pl (scale p t left) (scaleM p t made))) := paired_mono (fun _ _ h => h.same (fun b o _ e => s9 _ _ e) k3) k4
      have m9p : m9 ≠ p5 := fun z => by rw [z, k3] at nm; cases nm
      have lz : kvs'.length ≤ 100 := by
        rw [paired_len k4, List.length_cons, List.length_map, List.length_take]
        have := ro.len
        omega
      have nk : valV kvs' (Sum.inl ((r.place : Nat) : Int) : Key) = none := by
        refine valV_none ?_
        rw [rowX_keys k4, List.map_cons, List.mem_cons]
        rintro (z | z)
        · have z1 := Sum.inl.inj z
          have : r.place = pl := by
            have z2 : ((r.place : Nat) : Int) = ((pl : Nat) : Int) := z1
            omega
          exact tk.new r hrm this
        · obtain ⟨r', h1, h2⟩ := List.mem_map.mp z
          obtain ⟨r2, h3, rfl⟩ := List.mem_map.mp h1
          have z1 := Sum.inl.inj h2
          have z2 : r2.place = r.place := by
            have z3 : ((r2.place : Nat) : Int) = ((r.place : Nat) : Int) := z1
            omega
          obtain ⟨k, hk, rfl⟩ := List.mem_iff_getElem.mp h3
          rw [List.length_take] at hk
          have b1 : (rows.map (·.place))[k]? = some r.place := by
            rw [List.getElem?_map, List.getElem?_eq_getElem (show k < rows.length by omega), ← z2, List.getElem_take]
            rfl
          have b2 : (rows.map (·.place))[i]? = some r.place := by rw [List.getElem?_map, hr]; rfl
          have := nd_ix ro.nd b1 b2
          omega
      refine ⟨_, rfl, _, rfl, p5, _, rfl, DPut.k (k := Sum.inl ((r.place : Nat) : Int)) k3' (Nat.lt_of_le_of_lt (Nat.le_trans lz (by decide : 100 ≤ 100000)) (by decide)), ?_⟩
      refine ⟨_, rfl, fun b o h1 h2 e => ?_, by rw [upd_ne ndp5]; exact k2', _, upd_same, ?_⟩
      · rw [upd_ne h1]
        exact s9 _ _ (k1 _ _ h1 h2 e)
      · rw [putK_new _ nk]
        have sx : ∀ b o, b ≠ p5 → H10 b = some o → (upd H10 p5 (.dK (kvs' ++ [(Sum.inl ((r.place : Nat) : Int), .ref q9)]))) b = some o := fun b o h1 e => by rw [upd_ne h1]; exact e
        have e9 : (⟨pl, scale p t left, scaleM p t made⟩ :: (rows.take (i + 1)).map (clr p pl (scale p t left) (scaleM p t made)) : List Row) = (⟨pl, scale p t left, scaleM p t made⟩ :: (rows.take i).map (clr p pl (scale p t left) (scaleM p t made))) ++ [clr p pl (scale p t left) (scaleM p t made) r] := by
          rw [List.take_add_one, hr, List.map_append]
          rfl
        rw [e9]
        have new : RowX p5 H10 ((Sum.inl ((r.place : Nat) : Int) : Key), V.ref q9) (clr p pl (scale p t left) (scaleM p t made) r) := ⟨rfl, q9, l9, m9, rfl, hq, hl9, hm9, m9p⟩
        exact paired_snoc (new.same sx k3') (paired_mono (fun _ _ h => h.same sx k3') k4')
    · rintro σ H8 ⟨v8, rfl, k1, k2, kvs', k3, k4⟩
      refine ⟨k2, ?_⟩
      rw [lk, List.take_length] at k4
      have sd : ∀ b o, b ≠ d → H8 b = some o → (upd H8 d (.dK kvs)) b = some o := fun b o h1 e => by rw [upd_ne h1]; exact e
      have k3' : (upd H8 d (.dK kvs)) p5 = some (.dK kvs') := by rw [upd_ne ndp5.symm]; exact k3
      have k4' : Paired (RowX p5 (upd H8 d (.dK kvs))) kvs' (⟨pl, scale p t left, scaleM p t made⟩ :: rows.map (clr p pl (scale p t left) (scaleM p t made))) := paired_mono (fun e r h => by
        obtain ⟨h1, t1, l1, m1, h2, h3, h4, h5, h6⟩ := h
        refine ⟨h1, t1, l1, m1, h2, ?_, sd _ _ (ne_of h4 k2 (by intro q; cases q)) h4, sd _ _ (ne_of h5 k2 (by intro q; cases q)) h5, h6⟩
        rcases h3 with h3 | ⟨o, h3⟩
        · exact .inl (sd _ _ (ne_of h3 k2 (by intro q; cases q)) h3)
        · exact .inr ⟨o, by
            by_cases cd : t1 = d
            · rw [cd, k2] at h3
              cases h3
            · exact sd _ _ cd h3⟩) k4
      have kx : (upd H8 d (.dK kvs)) x = some (.ins (He.ga K "Steps") dx (stepF p d)) := sd _ _ nxd7 (k1 _ _ (fun z => by rw [z, e5] at gx7; cases gx7) nxd7 gx7)
      have sf : ∀ b o, b ≠ p5 → H7 b = some o → (upd H8 d (.dK kvs)) b = some o := fun b o h1 e => by
        by_cases cd : b = d
        · rw [cd, gd7] at e
          cases e
          rw [cd, upd_same]
        · exact sd _ _ cd (k1 _ _ h1 cd e)
      generalize upd H8 d (.dK kvs) = H9 at k3' k4' kx sf ⊢
      refine ⟨_, rfl, _, rfl, x, _, dx, _, rfl, kx, E.clsSteps, E.noat 50, Nat.lt_of_le_of_lt (show (stepF p d).length ≤ 2 from Nat.le_trans (length_putF _ _ _) (Nat.le_refl _)) (by decide), ?_⟩
      rw [stepF_put]
      have nx5 : p5 ≠ x := fun z => by rw [← z, k3'] at kx; cases kx
      refine qs _ (fun b o hb e => ?_) p5 ⟨dx, upd_same⟩ ⟨kvs', by rw [upd_ne nx5]; exact k3', ?_⟩
      · rw [upd_ne hb]
        exact sf _ _ (ne_of_none e hp5H) (s17 _ _ e)
      · have sx : ∀ b o, b ≠ x → H9 b = some o → (upd H9 x (.ins (He.ga K "Steps") dx (stepF p p5))) b = some o := fun b o h1 e => by rw [upd_ne h1]; exact e
        refine paired_mono (fun e r h => ?_) k4'
        obtain ⟨h1, t1, l1, m1, h2, h3, h4, h5, h6⟩ := h
        refine ⟨h1, t1, l1, m1, h2, ?_, sx _ _ (ne_of h4 kx (by intro q; cases q)) h4, sx _ _ (ne_of h5 kx (by intro q; cases q)) h5⟩
        rcases h3 with h3 | ⟨o, h3⟩
        · exact .inl (sx _ _ (ne_of h3 kx (by intro q; cases q)) h3)
        · exact .inr ⟨o, sx _ _ (ne_of h3 kx (by intro q; cases q)) h3⟩
end
end Lf
/-! What the steps mean: which sums are taken, what is made of which. -/
namespace Lf
theorem lc_cong {p : Int} : ∀ {B : List (List Int)} {c d : Nat → Int} {j : Nat}, (∀ i < B.length, p ∣ c i - d i) → p ∣ lc c B j - lc d B j
  | [], _, _, _, _ => ⟨0, by simp [lc]⟩
  | b :: r, c, d, j, h => by
    obtain ⟨x, hx⟩ := h 0 (Nat.zero_lt_succ _)
    obtain ⟨y, hy⟩ := lc_cong (B := r) (c := fun i => c (i + 1)) (d := fun i => d (i + 1)) (j := j) fun i hi => h (i + 1) (Nat.succ_lt_succ hi)
    refine ⟨x * b.getD j 0 + y, ?_⟩
    show c 0 * b.getD j 0 + lc (fun i => c (i + 1)) r j - (d 0 * b.getD j 0 + lc (fun i => d (i + 1)) r j) = _
    grind
/-- how many times each of the named -/
def cf (N : List Int) (m : List (Int × Int)) : Nat → Int := fun k => dval m (N.getD k 0)
theorem cf_addM {p t : Int} {N : List Int} {made parts : List (Int × Int)} (nd : (parts.map (·.1)).Nodup) (k : Nat) : p ∣ cf N (addM p t made parts) k - (1 * cf N made k + (-t) * cf N parts k) := by
  unfold cf
  rw [addM_val _ nd]
  have e : dval parts (N.getD k 0) = (gget parts (N.getD k 0)).getD 0 := rfl
  rw [e]
  cases gget parts (N.getD k 0) with
  | none => exact ⟨0, by simp⟩
  | some c =>
    obtain ⟨a, ha⟩ := emod_dvd p (dval made (N.getD k 0) - t * c)
    refine ⟨-a, ?_⟩
    show (dval made (N.getD k 0) - t * c) % p - (1 * dval made (N.getD k 0) + -t * c) = p * -a
    grind
theorem cf_scaleM {p t : Int} {N : List Int} {m : List (Int × Int)} (k : Nat) : p ∣ cf N (scaleM p t m) k - (t * cf N m k + 0 * cf N m k) := by
  unfold cf dval
  rw [scaleM_get]
  cases gget m (N.getD k 0) with
  | none => exact ⟨0, by simp⟩
  | some c =>
    obtain ⟨a, ha⟩ := emod_dvd p (c * t)
    refine ⟨-a, ?_⟩
    show c * t % p - (t * c + 0 * c) = p * -a
    grind
/-- v, less what m makes, is w -/
def Dif (p : Int) (n : Nat) (N : List Int) (S : List (List Int)) (v : List Int) (m : List (Int × Int)) (w : Nat → Int) : Prop := ∀ j < n, p ∣ v.getD j 0 - lc (cf N m) S j - w j
/-- v is what m makes -/
abbrev MadeOf (p : Int) (n : Nat) (N : List Int) (S : List (List Int)) (v : List Int) (m : List (Int × Int)) : Prop := Dif p n N S v m fun _ => 0
section
variable {p : Int} {n : Nat} {N : List Int} {S : List (List Int)}
theorem Dif.less {t : Int} {v o : List Int} {m q : List (Int × Int)} {w : Nat → Int} (hv : v.length = n) (ho : o.length = n) (nd : (q.map (·.1)).Nodup) (h : Dif p n N S v m w) (h2 : MadeOf p n N S o q) : Dif p n N S (lessT p v t o) (addM p t m q) w := by
  intro j hj
  rw [lessT_at hv ho hj]
  obtain ⟨a, ha⟩ := h j hj
  obtain ⟨b, hb⟩ := h2 j hj
  obtain ⟨c, hc⟩ := emod_dvd p (v.getD j 0 - t * o.getD j 0)
  obtain ⟨d, hd⟩ := lc_cong (p := p) (B := S) (j := j) fun i _ => cf_addM (p := p) (t := t) (N := N) (made := m) nd i
  rw [lc_lin] at hd
  refine ⟨a - t * b - c - d, ?_⟩
  grind
theorem MadeOf.scale {t : Int} {v : List Int} {m : List (Int × Int)} (hv : v.length = n) (h : MadeOf p n N S v m) : MadeOf p n N S (scale p t v) (scaleM p t m) := by
  intro j hj
  rw [scale_at (by rw [hv]; exact hj)]
  obtain ⟨a, ha⟩ := h j hj
  obtain ⟨c, hc⟩ := emod_dvd p (v.getD j 0 * t)
  obtain ⟨d, hd⟩ := lc_cong (p := p) (B := S) (j := j) fun i _ => cf_scaleM (p := p) (t := t) (N := N) (m := m) i
  rw [lc_lin] at hd
  refine ⟨t * a - c - d, ?_⟩
  grind
theorem fallen_dif (hp : 0 < p) {w : Nat → Int} : ∀ {srt : List Row} {s : List Int × List (Int × Int)}, Mid p n s → Dif p n N S s.1 s.2 w → (∀ r ∈ srt, RowInv p n r ∧ MadeOf p n N S r.own r.parts) →
    Dif p n N S (srt.foldl (fstep p) s).1 (srt.foldl (fstep p) s).2 w
  | [], _, _, h, _ => h
  | r :: t, s, hm, h, hr => by
    have r1 := hr r List.mem_cons_self
    refine fallen_dif hp (srt := t) (s := fstep p s r) (hm.step hp r1.1) ?_ fun x hx => hr x (List.mem_cons_of_mem _ hx)
    unfold fstep
    split
    · exact Dif.less hm.ln r1.1.ln r1.1.nd h r1.2
    · exact h
/-- the names that may stand -/
theorem fallen_key {Pk : Int → Prop} : ∀ {srt : List Row} {s : List Int × List (Int × Int)}, (∀ j ∈ s.2.map (·.1), Pk j) → (∀ r ∈ srt, ∀ j ∈ r.parts.map (·.1), Pk j) → ∀ j ∈ (srt.foldl (fstep p) s).2.map (·.1), Pk j
  | [], _, h, _ => h
  | r :: t, s, h, hr => by
    refine fallen_key (srt := t) (s := fstep p s r) ?_ fun x hx => hr x (List.mem_cons_of_mem _ hx)
    intro j hj
    unfold fstep at hj
    split at hj
    · rcases addM_key hj with q | q
      · exact h j q
      · exact hr r List.mem_cons_self j q
    · exact h j hj
theorem gput_bd {Pv : Int → Prop} {m : List (Int × Int)} {k v : Int} (h : ∀ e ∈ m, Pv e.2) (hv : Pv v) : ∀ e ∈ gput m k v, Pv e.2 := by
  intro e he
  unfold gput at he
  split at he
  · obtain ⟨e', h1, h2⟩ := List.mem_map.mp he
    split at h2
    · rw [← h2]
      exact hv
    · rw [← h2]
      exact h _ h1
  · rcases List.mem_append.mp he with q | q
    · exact h _ q
    · rw [List.mem_singleton.mp q]
      exact hv
theorem addM_bd (hp : 0 < p) {t : Int} : ∀ {parts made : List (Int × Int)}, (∀ e ∈ made, 0 ≤ e.2 ∧ e.2 < p) → ∀ e ∈ addM p t made parts, 0 ≤ e.2 ∧ e.2 < p
  | [], _, h => h
  | x :: r, made, h => addM_bd hp (parts := r) (made := gput made x.1 ((dval made x.1 - t * x.2) % p)) (gput_bd (Pv := fun v => 0 ≤ v ∧ v < p) h ⟨Int.emod_nonneg _ (by omega), Int.emod_lt_of_pos _ hp⟩)
theorem fallen_bd (hp : 0 < p) : ∀ {srt : List Row} {s : List Int × List (Int × Int)}, (∀ e ∈ s.2, 0 ≤ e.2 ∧ e.2 < p) → ∀ e ∈ (srt.foldl (fstep p) s).2, 0 ≤ e.2 ∧ e.2 < p
  | [], _, h => h
  | r :: t, s, h => by
    refine fallen_bd hp (srt := t) (s := fstep p s r) ?_
    unfold fstep
    split
    · exact addM_bd hp h
    · exact h
end
/-! ### which are taken -/
/-- the k-th is not made of those ahead -/
def Tk (p : Int) (n : Nat) (S : List (List Int)) (k : Nat) : Prop := ¬ Span p n (S.take k) fun j => (S.getD k []).getD j 0
theorem not_dvd_inv {p a : Int} (hp : PrimeOk p) (h : ¬ p ∣ a) : ∃ t, p ∣ t * a - 1 := by
  have hb := hp.bd
  have h0 : 0 ≤ a % p := Int.emod_nonneg _ (by omega)
  have h1 : a % p < p := Int.emod_lt_of_pos _ (by omega)
  have h2 : a % p ≠ 0 := fun z => h (Int.dvd_of_emod_eq_zero z)
  have i := (inv_spec hp (show 0 < a % p by omega) h1).1
  obtain ⟨x, hx⟩ := emod_dvd p (inv p (a % p) * (a % p))
  obtain ⟨y, hy⟩ := emod_dvd p a
  exact ⟨inv p (a % p), x + inv p (a % p) * y, by grind⟩
theorem take_snoc {α : Type} {l : List α} {i : Nat} {x : α} (h : l[i]? = some x) : l.take (i + 1) = l.take i ++ [x] := by rw [List.take_add_one, h]; rfl
theorem getD_at {α : Type} {l : List α} {i : Nat} {d : α} (h : i < l.length) : l[i]? = some (l.getD i d) := by rw [List.getD_eq_getElem?_getD, List.getElem?_eq_getElem h]; rfl
/-- what is made of the taken alone and is 0 is made of none -/
theorem indep {p : Int} {n : Nat} {S : List (List Int)} {c : Nat → Int} (hp : PrimeOk p) (hc : ∀ k < S.length, ¬ Tk p n S k → p ∣ c k) : ∀ i ≤ S.length, (∀ j < n, p ∣ lc c (S.take i) j) → ∀ k < i, p ∣ c k
  | 0, _, _, k, hk => absurd hk (Nat.not_lt_zero _)
  | i + 1, hi, h, k, hk => by
    have hs := getD_at (d := ([] : List Int)) (show i < S.length by omega)
    have ht := take_snoc hs
    have ln : (S.take i).length = i := by rw [List.length_take]; omega
    have hc1 : p ∣ c i := by
      refine Classical.byContradiction fun no => ?_
      refine no (hc i (by omega) fun tk => tk ?_)
      obtain ⟨t, x, hx⟩ := not_dvd_inv hp no
      have base : Span p n (S.take i) fun j => lc c (S.take i) j := ⟨c, fun j _ => ⟨0, by simp⟩⟩
      refine (Span.lin (-t) 0 base base).congr fun j hj => ?_
      obtain ⟨y, hy⟩ := h j hj
      rw [ht, lc_snoc, ln] at hy
      refine ⟨-t * y + x * (S.getD i []).getD j 0, ?_⟩
      show -t * lc c (S.take i) j + 0 * lc c (S.take i) j - (S.getD i []).getD j 0 = _
      grind
    have h2 : ∀ j < n, p ∣ lc c (S.take i) j := fun j hj => by
      obtain ⟨y, hy⟩ := h j hj
      rw [ht, lc_snoc, ln] at hy
      obtain ⟨x, hx⟩ := hc1
      exact ⟨y - x * (S.getD i []).getD j 0, by grind⟩
    by_cases e : k = i
    · rw [e]
      exact hc1
    · exact indep hp hc i (by omega) h2 k (by omega)
/-- how many times each of S, of the taken alone, so that u is made -/
structure Sol (p : Int) (n : Nat) (S : List (List Int)) (u : Nat → Int) (x : Nat → Int) : Prop where
  bd : ∀ k < S.length, 0 ≤ x k ∧ x k < p
  off : ∀ k < S.length, ¬ Tk p n S k → x k = 0
  eq : ∀ j < n, p ∣ u j - lc x S j
theorem Sol.uniq {p : Int} {n : Nat} {S : List (List Int)} {u x y : Nat → Int} (hp : PrimeOk p) (h : Sol p n S u x) (h' : Sol p n S u y) : ∀ k < S.length, x k = y k := by
  have := indep (S := S) (n := n) (c := fun i => 1 * x i + (-1) * y i) hp (fun k hk t => ⟨0, by
    show 1 * x k + -1 * y k = p * 0
    rw [h.off k hk t, h'.off k hk t]
    simp⟩) S.length (Nat.le_refl _) (fun j hj => by
      rw [List.take_length, lc_lin]
      obtain ⟨a, ha⟩ := h.eq j hj
      obtain ⟨b, hb⟩ := h'.eq j hj
      exact ⟨b - a, by grind⟩)
  intro k hk
  obtain ⟨a, ha⟩ := this k hk
  have ha' : 1 * x k + -1 * y k = p * a := ha
  have b1 := h.bd k hk
  have b2 := h'.bd k hk
  have : p ∣ x k - y k := ⟨a, by grind⟩
  by_cases c : y k ≤ x k
  · have := dvd_bd this (by omega) (by omega)
    omega
  · have : p ∣ y k - x k := ⟨-a, by grind⟩
    have := dvd_bd this (by omega) (by omega)
    omega
theorem Sol.span {p : Int} {n : Nat} {S : List (List Int)} {u x : Nat → Int} (h : Sol p n S u x) : Span p n S u := ⟨x, h.eq⟩
/-! ### the steps as the sums are taken -/
structure StepsOk (p : Int) (n : Nat) (N : List Int) (S : List (List Int)) (i : Nat) (rows : List Row) : Prop where
  red : RowsRed p n rows
  mf : ∀ r ∈ rows, MadeOf p n N S r.own r.parts
  ks : ∀ r ∈ rows, ∀ j ∈ r.parts.map (·.1), ∃ k < i, Tk p n S k ∧ j = N.getD k 0
  sa : ∀ r ∈ rows, Span p n (S.take i) fun j => r.own.getD j 0
  sb : ∀ s ∈ S.take i, Span p n (rows.map (·.own)) fun j => s.getD j 0
theorem toE_own (rows : List Row) : (rows.map toE).map (·.2) = rows.map (·.own) := by rw [List.map_map]; rfl
section
variable {p : Int} {n : Nat} {N : List Int} {S : List (List Int)} {i : Nat} {rows srt : List Row} {u : List Int}
theorem StepsOk.span_iff (h : StepsOk p n N S i rows) {v : Nat → Int} : Span p n (rows.map (·.own)) v ↔ Span p n (S.take i) v := by
  constructor
  · refine Span.trans fun b hb => ?_
    obtain ⟨r, hr, rfl⟩ := List.mem_map.mp hb
    exact h.sa r hr
  · exact Span.trans h.sb
theorem StepsOk.zero (hp : PrimeOk p) (n10 : n ≤ 10) : StepsOk p n N S 0 [] :=
  ⟨⟨⟨hp, n10, fun r hr => (nomatch hr), List.nodup_nil⟩, fun r hr => (nomatch hr), fun r hr => (nomatch hr)⟩, fun r hr => (nomatch hr), fun r hr => (nomatch hr), fun r hr => (nomatch hr), fun s hs => (nomatch hs)⟩
theorem perm_span (sp : srt.Perm rows) {v : Nat → Int} (h : Span p n (srt.map (·.own)) v) : Span p n (rows.map (·.own)) v := h.mono fun b hb => (sp.map _).mem_iff.mp hb
/-- nothing left of a row exactly if it is made of the sums so far -/
theorem StepsOk.left (h : StepsOk p n N S i rows) (sp : srt.Perm rows) (ss : srt.Pairwise fun a b => a.place < b.place) (hv : Vec p n u) (made : List (Int × Int)) : firstP (fallen p srt u made).1 = none ↔ Span p n (S.take i) fun j => u.getD j 0 := by
  have hp0 : 0 < p := by have := h.red.ok.pr.bd; omega
  have hE := h.red.ech sp ss
  rw [fallen_red, ← h.span_iff]
  have a := red_nil_iff hp0 hv hE
  rw [toE_own] at a
  constructor
  · intro z
    exact perm_span sp (a.mp fun j _ => firstP_none z j)
  · intro z
    have b := a.mpr (perm_span sp.symm z)
    unfold firstP
    rw [List.findIdx?_eq_none_iff]
    intro x hx
    obtain ⟨j, hj, rfl⟩ := List.mem_iff_getElem.mp hx
    have hv2 := red_vec hp0 hv hE.vec
    have c := b j (by rw [← hv2.ln]; exact hj)
    rw [List.getD_eq_getElem?_getD, List.getElem?_eq_getElem hj] at c
    simpa using c
theorem StepsOk.inv_mf (h : StepsOk p n N S i rows) (sp : srt.Perm rows) : ∀ r ∈ srt, RowInv p n r ∧ MadeOf p n N S r.own r.parts := fun r hr => ⟨h.red.ok.inv r (sp.mem_iff.mp hr), h.mf r (sp.mem_iff.mp hr)⟩
theorem cf_one {name : Int} (h : ∀ k < S.length, N.getD k 0 = N.getD i 0 → k = i) (e : name = N.getD i 0) (hu : S[i]? = some u) : MadeOf p n N S u [(name, 1)] := by
  intro j hj
  have e1 : lc (cf N [(name, 1)]) S j = lc (fun k => if k = i then 1 else 0) S j := lc_congr fun k hk => by
    unfold cf dval
    by_cases c : k = i
    · rw [if_pos c, c, gget_pos (show ((name, (1 : Int)) : Int × Int).1 = N.getD i 0 from e)]
      rfl
    · rw [if_neg c, gget_neg (fun z => c (h k hk ?_)), gget_nil]
      · rfl
      · rw [← e]
        exact z.symm
  rw [e1, lc_one 1 hu]
  exact ⟨0, by simp⟩
theorem StepsOk.take (h : StepsOk p n N S i rows) (hN : ∀ k < S.length, N.getD k 0 = N.getD i 0 → k = i) (hu : S[i]? = some u) (hv : Vec p n u) (hn : 0 ≤ N.getD i 0 ∧ N.getD i 0 < 40) (sp : srt.Perm rows) (ss : srt.Pairwise fun a b => a.place < b.place) :
    (takeM p srt rows (N.getD i 0) u = none → StepsOk p n N S (i + 1) rows) ∧ ∀ rows', takeM p srt rows (N.getD i 0) u = some rows' → StepsOk p n N S (i + 1) rows' := by
  have hbd := h.red.ok.pr.bd
  have hp0 : 0 < p := by omega
  have hil : i < S.length := (List.getElem?_eq_some_iff.mp hu).1
  have hg : S.getD i [] = u := by rw [List.getD_eq_getElem?_getD, hu]; rfl
  have lf := h.left sp ss hv [(N.getD i 0, 1)]
  have tks := take_snoc hu
  constructor
  · intro ht
    unfold takeM at ht
    have f0 : firstP (fallen p srt u [(N.getD i 0, 1)]).1 = none := by
      cases c : firstP (fallen p srt u [(N.getD i 0, 1)]).1 with
      | none => rfl
      | some x =>
        rw [c] at ht
        cases ht
    refine ⟨h.red, h.mf, fun r hr j hj => ?_, fun r hr => ?_, fun s hs => ?_⟩
    · obtain ⟨k, h1, h2⟩ := h.ks r hr j hj
      exact ⟨k, by omega, h2⟩
    · refine (h.sa r hr).mono fun b hb => ?_
      rw [tks]
      exact List.mem_append_left _ hb
    · rw [tks] at hs
      rcases List.mem_append.mp hs with q | q
      · exact h.sb s q
      · rw [List.mem_singleton.mp q]
        exact h.span_iff.mpr (lf.mp f0)
  · intro rows' ht
    unfold takeM at ht
    cases c : firstP (fallen p srt u [(N.getD i 0, 1)]).1 with
    | none =>
      rw [c] at ht
      cases ht
    | some pl =>
      rw [c] at ht
      have tk := took_of h.red sp ss hv hn c
      have isTk : Tk p n S i := by
        unfold Tk
        rw [hg]
        intro z
        rw [lf.mpr z] at c
        cases c
      have dif : MadeOf p n N S (fallen p srt u [(N.getD i 0, 1)]).1 (fallen p srt u [(N.getD i 0, 1)]).2 :=
        fallen_dif hp0 (mid1 hv hn) (cf_one hN rfl hu) (h.inv_mf sp)
      have kf : ∀ j ∈ (fallen p srt u [(N.getD i 0, 1)]).2.map (·.1), ∃ k < i + 1, Tk p n S k ∧ j = N.getD k 0 := by
        refine fallen_key (p := p) (Pk := fun j => ∃ k < i + 1, Tk p n S k ∧ j = N.getD k 0) (srt := srt) (s := (u, [(N.getD i 0, 1)])) (fun j hj => ?_) fun r hr j hj => ?_
        · have : j = N.getD i 0 := by simpa using hj
          exact ⟨i, by omega, isTk, this⟩
        · obtain ⟨k, h1, h2⟩ := h.ks r (sp.mem_iff.mp hr) j hj
          exact ⟨k, by omega, h2⟩
      have rs : Span p n (rows.map (·.own)) fun j => u.getD j 0 - (fallen p srt u [(N.getD i 0, 1)]).1.getD j 0 := by
        have a := red_span hp0 hv (h.red.ech sp ss).vec
        rw [toE_own, ← fallen_red p srt u [(N.getD i 0, 1)]] at a
        exact perm_span sp a
      generalize fallen p srt u [(N.getD i 0, 1)] = F at c ht tk dif kf rs
      obtain ⟨left, made⟩ := F
      cases ht
      have hpn := tk.pn
      have ib := (inv_spec h.red.ok.pr tk.bd.1 tk.bd.2).1
      have rr := tk.red h.red
      show StepsOk p n N S (i + 1) (⟨pl, scale p (inv p (left.getD pl 0)) left, scaleM p (inv p (left.getD pl 0)) made⟩ :: rows.map (clr p pl (scale p (inv p (left.getD pl 0)) left) (scaleM p (inv p (left.getD pl 0)) made)))
      replace rr : RowsRed p n (⟨pl, scale p (inv p (left.getD pl 0)) left, scaleM p (inv p (left.getD pl 0)) made⟩ :: rows.map (clr p pl (scale p (inv p (left.getD pl 0)) left) (scaleM p (inv p (left.getD pl 0)) made))) := rr
      replace ib : inv p (left.getD pl 0) * left.getD pl 0 % p = 1 := ib
      generalize inv p (left.getD pl 0) = t at ib rr ⊢
      have hll : left.length = n := tk.mid.ln
      have hm2 : MadeOf p n N S (scale p t left) (scaleM p t made) := MadeOf.scale hll dif
      have ln2 : (scale p t left).length = n := (scale_vec hp0 hll).ln
      have ndm : ((scaleM p t made).map (·.1)).Nodup := by rw [scaleM_keys]; exact tk.mid.nd
      have us : Span p n (S.take (i + 1)) fun j => u.getD j 0 := by
        refine .mem ?_
        rw [tks]
        exact List.mem_append_right _ List.mem_cons_self
      have old : ∀ {v : Nat → Int}, Span p n (S.take i) v → Span p n (S.take (i + 1)) v := fun z => z.mono fun b hb => by
        rw [tks]
        exact List.mem_append_left _ hb
      have s1 : Span p n (S.take (i + 1)) fun j => (scale p t left).getD j 0 := by
        refine (Span.lin t (-t) us (old (h.span_iff.mp rs))).congr fun j hj => ?_
        rw [scale_at (by rw [hll]; exact hj)]
        obtain ⟨a, ha⟩ := emod_dvd p (left.getD j 0 * t)
        refine ⟨a, ?_⟩
        show t * u.getD j 0 + -t * (u.getD j 0 - left.getD j 0) - left.getD j 0 * t % p = p * a
        grind
      have clrd : ∀ r ∈ rows, ∀ j < n, ∃ a, (clr p pl (scale p t left) (scaleM p t made) r).own.getD j 0 = r.own.getD j 0 - r.own.getD pl 0 * (scale p t left).getD j 0 - p * a := fun r hr j hj => by
        obtain ⟨a, ha⟩ := emod_dvd p (r.own.getD j 0 - r.own.getD pl 0 * (scale p t left).getD j 0)
        refine ⟨a, ?_⟩
        have e1 : (clr p pl (scale p t left) (scaleM p t made) r).own.getD j 0 = (r.own.getD j 0 - r.own.getD pl 0 * (scale p t left).getD j 0) % p := lessT_at (h.red.ok.inv r hr).ln ln2 hj
        rw [e1]
        grind
      refine ⟨rr, fun r hr => ?_, fun r hr j hj => ?_, fun r hr => ?_, ?_⟩
      · rcases List.mem_cons.mp hr with q | q
        · rw [q]
          exact hm2
        · obtain ⟨r', h1, rfl⟩ := List.mem_map.mp q
          exact Dif.less (h.red.ok.inv r' h1).ln ln2 ndm (h.mf r' h1) hm2
      · rcases List.mem_cons.mp hr with q | q
        · rw [q] at hj
          have hj' : j ∈ (scaleM p t made).map (·.1) := hj
          rw [scaleM_keys] at hj'
          exact kf j hj'
        · obtain ⟨r', h1, rfl⟩ := List.mem_map.mp q
          rcases addM_key (show j ∈ (addM p (r'.own.getD pl 0) r'.parts (scaleM p t made)).map (·.1) from hj) with z | z
          · obtain ⟨k, h1, h2⟩ := h.ks r' h1 j z
            exact ⟨k, by omega, h2⟩
          · rw [scaleM_keys] at z
            exact kf j z
      · rcases List.mem_cons.mp hr with q | q
        · rw [q]
          exact s1
        · obtain ⟨r', h1, rfl⟩ := List.mem_map.mp q
          refine (Span.lin 1 (-(r'.own.getD pl 0)) (old (h.sa r' h1)) s1).congr fun j hj => ?_
          obtain ⟨a, ha⟩ := clrd r' h1 j hj
          exact ⟨a, by rw [ha]; grind⟩
      · have newm : Span p n ((⟨pl, scale p t left, scaleM p t made⟩ :: rows.map (clr p pl (scale p t left) (scaleM p t made)) : List Row).map (·.own)) fun j => (scale p t left).getD j 0 := .mem List.mem_cons_self
        have oldm : ∀ {v : Nat → Int}, Span p n (rows.map (·.own)) v → Span p n ((⟨pl, scale p t left, scaleM p t made⟩ :: rows.map (clr p pl (scale p t left) (scaleM p t made)) : List Row).map (·.own)) v := Span.trans fun b hb => by
          obtain ⟨r, hr, rfl⟩ := List.mem_map.mp hb
          have : Span p n ((⟨pl, scale p t left, scaleM p t made⟩ :: rows.map (clr p pl (scale p t left) (scaleM p t made)) : List Row).map (·.own)) fun j => (clr p pl (scale p t left) (scaleM p t made) r).own.getD j 0 :=
            .mem (List.mem_cons_of_mem _ (List.mem_map.mpr ⟨_, List.mem_map.mpr ⟨r, hr, rfl⟩, rfl⟩))
          refine (Span.lin 1 (r.own.getD pl 0) this newm).congr fun j hj => ?_
          obtain ⟨a, ha⟩ := clrd r hr j hj
          exact ⟨-a, by rw [ha]; grind⟩
        intro s hs
        rw [tks] at hs
        rcases List.mem_append.mp hs with q | q
        · exact oldm (h.sb s q)
        · rw [List.mem_singleton.mp q]
          refine (Span.lin 1 (left.getD pl 0) (oldm rs) newm).congr fun j hj => ?_
          rw [scale_at (by rw [hll]; exact hj)]
          obtain ⟨a, ha⟩ := emod_dvd p (left.getD j 0 * t)
          obtain ⟨b, hb⟩ := emod_dvd p (t * left.getD pl 0)
          rw [ib] at hb
          refine ⟨b * left.getD j 0 - a * left.getD pl 0, ?_⟩
          show 1 * (u.getD j 0 - left.getD j 0) + left.getD pl 0 * (left.getD j 0 * t % p) - u.getD j 0 = _
          grind
/-- what made_by gives -/
theorem StepsOk.made (h : StepsOk p n N S S.length rows) (hN : ∀ k < S.length, ∀ i < S.length, N.getD k 0 = N.getD i 0 → k = i) (hv : Vec p n u) (sp : srt.Perm rows) (ss : srt.Pairwise fun a b => a.place < b.place) :
    (madeBy p (fallen p srt u []) = none → ¬ Span p n S fun j => u.getD j 0) ∧ ∀ m, madeBy p (fallen p srt u []) = some m → Sol p n S (fun j => u.getD j 0) (cf N m) ∧ (m.map (·.1)).Nodup ∧ (∀ e ∈ m, e.2 ≠ 0) ∧ ∀ j ∈ m.map (·.1), ∃ k < S.length, j = N.getD k 0 := by
  have hbd := h.red.ok.pr.bd
  have hp0 : 0 < p := by omega
  have lf := h.left sp ss hv []
  rw [List.take_length] at lf
  have mid0 : Mid p n (u, ([] : List (Int × Int))) := ⟨hv.ln, hv.bd, List.nodup_nil, fun e he => by cases he⟩
  have mid : Mid p n (fallen p srt u []) := Mid.all hp0 mid0 fun r hr => (h.inv_mf sp r hr).1
  have dif0 : Dif p n N S u [] fun j => u.getD j 0 := fun j hj => by
    have z : lc (cf N []) S j = 0 := lc_zero fun _ _ => rfl
    rw [z]
    exact ⟨0, by simp⟩
  have dif : Dif p n N S (fallen p srt u []).1 (fallen p srt u []).2 fun j => u.getD j 0 := fallen_dif hp0 mid0 dif0 (h.inv_mf sp)
  have kf : ∀ j ∈ (fallen p srt u []).2.map (·.1), ∃ k < S.length, Tk p n S k ∧ j = N.getD k 0 :=
    fallen_key (p := p) (Pk := fun j => ∃ k < S.length, Tk p n S k ∧ j = N.getD k 0) (srt := srt) (s := (u, [])) (fun j hj => by cases hj) fun r hr j hj => h.ks r (sp.mem_iff.mp hr) j hj
  have bd : ∀ e ∈ (fallen p srt u []).2, 0 ≤ e.2 ∧ e.2 < p := fallen_bd hp0 (s := (u, [])) fun e he => by cases he
  generalize fallen p srt u [] = F at lf mid dif kf bd
  obtain ⟨left, made⟩ := F
  unfold madeBy
  cases c : firstP (left, made).1 with
  | some x =>
    refine ⟨fun _ z => ?_, fun m hm => by cases hm⟩
    rw [lf.mpr z] at c
    cases c
  | none =>
    refine ⟨fun z => (nomatch z), fun m hm => ?_⟩
    have em : (made.filter fun e => decide (¬ e.2 = 0)).map (fun e => (e.1, -e.2 % p)) = m := Option.some.inj hm
    subst em
    have neg : ∀ e ∈ made, e.2 ≠ 0 → 0 < -e.2 % p ∧ -e.2 % p < p := fun e he ne => by
      have b := bd e he
      have e1 : -e.2 % p = p - e.2 := by
        rw [← Int.add_emod_right, show -e.2 + p = p - e.2 by omega]
        exact Int.emod_eq_of_lt (by omega) (by omega)
      rw [e1]
      omega
    have nd2 : (((made.filter fun e => decide (¬ e.2 = 0)).map fun e => (e.1, -e.2 % p)).map (·.1)).Nodup := by
      rw [List.map_map]
      exact mid.nd.sublist (List.Sublist.map _ List.filter_sublist)
    have get : ∀ j, (gget ((made.filter fun e => decide (¬ e.2 = 0)).map fun e => (e.1, -e.2 % p)) j = none ∧ dval made j = 0) ∨ ∃ v, v ≠ 0 ∧ (j, v) ∈ made ∧ gget ((made.filter fun e => decide (¬ e.2 = 0)).map fun e => (e.1, -e.2 % p)) j = some (-v % p) ∧ dval made j = v := by
      intro j
      unfold dval
      cases g : gget made j with
      | none =>
        refine .inl ⟨gget_none.mpr fun z => ?_, rfl⟩
        obtain ⟨e, h1, rfl⟩ := List.mem_map.mp z
        obtain ⟨e', h2, rfl⟩ := List.mem_map.mp h1
        exact gget_none.mp g (List.mem_map.mpr ⟨e', (List.mem_filter.mp h2).1, rfl⟩)
      | some v =>
        have gm := gget_some g
        by_cases z : v = 0
        · refine .inl ⟨gget_none.mpr fun y => ?_, z⟩
          obtain ⟨e, h1, h3⟩ := List.mem_map.mp y
          obtain ⟨e', h2, rfl⟩ := List.mem_map.mp h1
          have h4 := List.mem_filter.mp h2
          have h5 := gget_mem mid.nd h4.1
          have h6 : e'.1 = j := h3
          rw [h6] at h5
          rw [show gget (left, made).2 j = gget made j from rfl, g] at h5
          have := Option.some.inj h5
          have h7 := of_decide_eq_true h4.2
          omega
        · refine .inr ⟨v, z, gm, ?_, rfl⟩
          exact gget_mem (e := (j, -v % p)) nd2 (List.mem_map.mpr ⟨(j, v), List.mem_filter.mpr ⟨gm, decide_eq_true z⟩, rfl⟩)
    have l0 := firstP_none c
    refine ⟨⟨fun k hk => ?_, fun k hk ntk => ?_, fun j hj => ?_⟩, nd2, fun e he => ?_, fun j hj => ?_⟩
    · show 0 ≤ dval _ _ ∧ dval _ _ < p
      rcases get (N.getD k 0) with ⟨g, _⟩ | ⟨v, vz, gm, g, _⟩
      · unfold dval
        rw [g]
        exact ⟨Int.le_refl _, hp0⟩
      · unfold dval
        rw [g]
        have := neg _ gm vz
        exact ⟨Int.le_of_lt this.1, this.2⟩
    · show dval _ _ = 0
      rcases get (N.getD k 0) with ⟨g, _⟩ | ⟨v, vz, gm, g, _⟩
      · unfold dval
        rw [g]
        rfl
      · obtain ⟨k', h1, h2, h3⟩ := kf (N.getD k 0) (List.mem_map.mpr ⟨_, gm, rfl⟩)
        rw [hN k hk k' h1 h3] at ntk
        exact absurd h2 ntk
    · obtain ⟨a, ha⟩ := dif j hj
      have ha' : left.getD j 0 - lc (cf N made) S j - u.getD j 0 = p * a := ha
      rw [show left.getD j 0 = 0 from l0 j] at ha'
      obtain ⟨b, hb⟩ := lc_cong (p := p) (B := S) (j := j) (c := cf N ((made.filter fun e => decide (¬ e.2 = 0)).map fun e => (e.1, -e.2 % p))) (d := fun k => (-1) * cf N made k + 0 * cf N made k) fun k _ => by
        show p ∣ dval _ _ - (-1 * dval made _ + 0 * dval made _)
        rcases get (N.getD k 0) with ⟨g, e⟩ | ⟨v, vz, gm, g, e⟩
        · rw [e]
          unfold dval
          rw [g]
          exact ⟨0, by simp⟩
        · rw [e]
          unfold dval
          rw [g]
          obtain ⟨y, hy⟩ := emod_dvd p (-v)
          refine ⟨-y, ?_⟩
          show -v % p - (-1 * v + 0 * v) = p * -y
          grind
      rw [lc_lin] at hb
      exact ⟨-a - b, by grind⟩
    · obtain ⟨e', h1, rfl⟩ := List.mem_map.mp he
      have h2 := List.mem_filter.mp h1
      have := neg e' h2.1 (by simpa using h2.2)
      show -e'.2 % p ≠ 0
      omega
    · obtain ⟨e, h1, rfl⟩ := List.mem_map.mp hj
      obtain ⟨e', h2, rfl⟩ := List.mem_map.mp h1
      obtain ⟨k, h3, _, h4⟩ := kf e'.1 (List.mem_map.mpr ⟨e', (List.mem_filter.mp h2).1, rfl⟩)
      exact ⟨k, h3, h4⟩
end
end Lf
/-! steps_in. -/
namespace Lf
open PySem PySem.Spec PyProof.Rows L2
/-- numbers of m pieces, ascending -/
structure LotN (m : Nat) (N : List Int) : Prop where
  bd : ∀ y ∈ N, 0 ≤ y ∧ y < m
  asc : N.Pairwise (· < ·)
/-- the sums of the numbered pieces -/
def sumsOf (ps : List (List Int × Int)) (N : List Int) : List (List Int) := N.map fun y => (ps.getD y.toNat ([], 0)).1
theorem asc_inj : ∀ {N : List Int}, N.Pairwise (· < ·) → ∀ k < N.length, ∀ i < N.length, N.getD k 0 = N.getD i 0 → k = i := by
  intro N h k hk i hi e
  rw [List.getD_eq_getElem?_getD, List.getElem?_eq_getElem hk, List.getD_eq_getElem?_getD, List.getElem?_eq_getElem hi] at e
  have e' : N[k] = N[i] := e
  rw [List.pairwise_iff_getElem] at h
  rcases Nat.lt_trichotomy k i with c | c | c
  · have := h k i hk hi c
    omega
  · exact c
  · have := h i k hi hk c
    omega
section
variable {m : Nat} {N : List Int} {ps : List (List Int × Int)} {p n : Int} {H H' : Hp}
theorem sumsOf_len : (sumsOf ps N).length = N.length := List.length_map _
theorem LotN.at_ (h : LotN m N) {k : Nat} {y : Int} (e : N[k]? = some y) : ∃ i : Nat, y = ((i : Nat) : Int) ∧ i < m := by
  have b := h.bd y (List.mem_of_getElem? e)
  exact ⟨y.toNat, by omega, by omega⟩
theorem pieces_get {as : List Addr} (h : Paired (fun a q => PieceAt H a q) as ps) {i : Nat} (hi : i < ps.length) : ∃ a q, as[i]? = some a ∧ ps[i]? = some q ∧ PieceAt H a q := by
  obtain ⟨a, h1, h2⟩ := paired_get' h (List.getElem?_eq_getElem hi)
  exact ⟨a, _, h1, List.getElem?_eq_getElem hi, h2⟩
theorem sumsOf_get {k i : Nat} {q : List Int × Int} (e : N[k]? = some ((i : Nat) : Int)) (e2 : ps[i]? = some q) : (sumsOf ps N)[k]? = some q.1 := by
  unfold sumsOf
  rw [List.getElem?_map, e]
  show some (ps.getD (((i : Nat) : Int)).toNat ([], 0)).1 = some q.1
  rw [Int.toNat_natCast, List.getD_eq_getElem?_getD, e2]
  rfl
theorem PieceOk.vec {q : List Int × Int} (h : PieceOk p n q) : Vec p n.toNat q.1 := ⟨by have := h.len; omega, h.sum.bd⟩
theorem WebOk.vec (h : WebOk p n ps) (l : LotN ps.length N) : ∀ v ∈ sumsOf ps N, Vec p n.toNat v := by
  intro v hv
  obtain ⟨y, hy, rfl⟩ := List.mem_map.mp hv
  obtain ⟨k, hk⟩ := List.mem_iff_getElem?.mp hy
  obtain ⟨i, rfl, hi⟩ := l.at_ hk
  rw [Int.toNat_natCast, List.getD_eq_getElem?_getD, List.getElem?_eq_getElem hi]
  exact (h.all _ (List.getElem_mem hi)).vec
end
section
variable {P : Program} {w : World} {K : PySem.W.Frag} {mg : Str → Option Value} {base : Heap}
def spStepsIn (K : PySem.W.Frag) : Sp := fun vs H Q _ => ∃ x p n Pa ps a N, vs = [.ref x, .ref a] ∧ Wb K H x p n Pa ps ∧ WebOk p n ps ∧ Tp H a (iv N) ∧ LotN ps.length N ∧
  ∀ y d rows H', Same H H' → StAt K H' y p d → RowsAt H' d rows → StepsOk p n.toNat N (sumsOf ps N) N.length rows → Q (.ref y) H'
abbrev N_steps_in : List Str := ["web", "lot", "steps", "piece"]
theorem sc_steps_in : FnScope N_steps_in ["web", "lot"] d_steps_in.scope := ⟨rfl, rfl, rfl, by decide +kernel, rfl, by decide +kernel, by decide +kernel⟩
theorem cl_steps_in (E : Env K mg) : Cl P w K mg base 4 "steps_in" ["web", "lot"] (spStepsIn K) := by
  refine Cl.of (k := 3) E 19 13 (d := d_steps_in) rfl rfl rfl rfl rfl sc_steps_in (fun vs H Q E' h => by (repeat obtain ⟨_, h⟩ := h); subst_vars; rfl) (fun _ _ _ _ _ _ us hl => match us, hl with | [_, _], _ => rfl) (fun f cdv A outer s H vs Q E' hr h => ?_)
  obtain ⟨x, p, n, Pa, ps, a, N, rfl, wb, wo, ha, hN, q⟩ := h
  have n10 : n.toNat ≤ 10 := by have := wo.n1; omega
  refine ⟨_, (pss_cons (ps_set (i := 2) sc_steps_in.nd rfl (Or.inl rfl) (pe_mk (mk_Steps E) (hr.mono (by decide)) rfl (pa_cons (pe_fld (pv 0) rfl) pa_nil)))
    (pss_cons (ps_for PassesOwn.never rfl (pi_tup (pv 1)) (pg_name (i := 3) sc_steps_in.nd rfl (Or.inl rfl))
      (pss_one (ps_expr (pe_md (pv 2) E.clsSteps (md_take E) (hr.mono (by decide)) (pa_cons (pv 3) (pa_cons (pe_ix ix_tup (pe_ix ix_tup (pe_fld (pv 0) rfl) (pv 3) (fun _ _ => rfl)) pe_int (fun _ _ => rfl)) pa_nil))))))
    (pss_one (ps_ret (pv 2))))), ?_⟩
  obtain ⟨dx, gx⟩ := wb.at_
  refine ⟨_, rfl, x, _, dx, _, _, rfl, gx, E.clsWeb, E.noat 58, webF_prime p n Pa, fun y dy hy hdy ndy => ?_⟩
  refine ⟨y, dy, p, rfl, upd_same, fun d H1 hd hst hrows keep => ⟨rfl, ?_⟩⟩
  have s1 : Same H H1 := fun b o e => keep b o (ne_of_none e hy) (by rw [upd_ne (ne_of_none e hy), upd_ne (ne_of_none e hdy)]; exact e)
  refine ⟨_, rfl, a, rfl, ⟨_, (ha.same s1).sq⟩, for_tup (K := K) (a := a) (xs := iv N) (fun i σ H' => ∃ d rows v3, σ = [some (.ref x), some (.ref a), some (.ref y), v3] ∧ Same H H' ∧ StAt K H' y p d ∧ RowsAt H' d rows ∧ StepsOk p n.toNat N (sumsOf ps N) i rows)
    ⟨d, [], none, rfl, s1, hst, hrows, .zero wo.pr n10⟩ (fun i σ H' _ e => ?_) ?_ ?_⟩
  · obtain ⟨d, rows, v3, rfl, s2, _⟩ := e
    exact (ha.same s2).sq
  · rintro i v σ H' hi ⟨d, rows, v3, rfl, s2, hst, hrows, so⟩
    obtain ⟨v', hv', rfl⟩ := iv_get hi
    obtain ⟨j, rfl, hj⟩ := hN.at_ hv'
    obtain ⟨dx2, gx2⟩ := wb.at_.same s2
    obtain ⟨as, g1, g2⟩ := wb.pcs.same s2
    obtain ⟨pa, pq, e1, e2, sa, g3, g4⟩ := pieces_get g2 hj
    obtain ⟨dy2, gy2⟩ := id hst
    have ea : (as.map V.ref)[j]? = some (.ref pa) := by rw [List.getElem?_map, e1]; rfl
    have hl : i < (sumsOf ps N).length := by rw [sumsOf_len]; exact (List.getElem?_eq_some_iff.mp hv').1
    have hS : (sumsOf ps N)[i]? = some pq.1 := sumsOf_get hv' e2
    have hvec : Vec p n.toNat pq.1 := (wo.all _ (List.mem_of_getElem? e2)).vec
    have hl40 := wo.len
    have hname : (0 : Int) ≤ ((j : Nat) : Int) ∧ ((j : Nat) : Int) < 40 := by omega
    have eN : N.getD i 0 = ((j : Nat) : Int) := getD_of hv'
    refine ⟨_, rfl, y, dy2, _, rfl, gy2, stepF_no p d (by decide +kernel) (by decide +kernel), _, rfl, _, rfl, x, _, dx2, _, _, rfl, gx2, E.clsWeb, E.noat 60, webF_pieces p n Pa, _, rfl, Pa, _, _, _, rfl, rfl, g1.sq, atI_nat ea, pa, _, _, _, rfl, rfl, g3.sq, atI_nat (j := 0) rfl, ?_⟩
    refine ⟨y, p, d, rows, n.toNat, _, sa, pq.1, rfl, hst, hrows, so.red, g4, hvec, hname, fun H3 srt keep3 sp ss => ?_⟩
    have s3 : Same H H3 := fun b o e => keep3 b o (ne_of_none e hy) (s2 _ _ e)
    have tk := so.take (u := pq.1) (N := N) (srt := srt) (fun k hk e => asc_inj hN.asc k (by rw [sumsOf_len] at hk; exact hk) i (by rw [sumsOf_len] at hl; exact hl) e) hS hvec (by rw [eN]; exact hname) sp ss
    rw [eN] at tk
    exact ⟨fun ht h1 h2 => ⟨d, rows, _, rfl, s3, h1, h2, tk.1 ht⟩, fun rows' d' ht h1 h2 => ⟨d', rows', _, rfl, s3, h1, h2, tk.2 rows' ht⟩⟩
  · rintro σ H' ⟨d, rows, v3, rfl, s2, hst, hrows, so⟩
    rw [iv_len] at so
    exact ⟨_, rfl, q y d rows H' s2 hst hrows so⟩
end
end Lf
/-! reading. -/
namespace Lf
open PySem PySem.Spec PyProof.Rows L2
theorem lotB_of {m : Nat} : ∀ {N : List Int} {l : Int}, (∀ y ∈ N, l < y ∧ y < m) → N.Pairwise (· < ·) → lotB (m : Int) l (iv N) = true
  | [], _, _, _ => rfl
  | y :: r, l, h, hp => by
    have b := h y List.mem_cons_self
    have pc := List.pairwise_cons.mp hp
    show (decide (l + 1 ≤ y) && decide (y ≤ (m : Int) - 1) && lotB (m : Int) y (iv r)) = true
    rw [decide_eq_true (by omega), decide_eq_true (by omega), lotB_of (fun z hz => ⟨pc.1 z hz, (h z (List.mem_cons_of_mem _ hz)).2⟩) pc.2]
    rfl
theorem LotN.lotB {m : Nat} {N : List Int} (h : LotN m N) : lotB (m : Int) (-1) (iv N) = true := lotB_of (fun y hy => by have := h.bd y hy; omega) h.asc
theorem iv_isI (N : List Int) : ∀ x ∈ iv N, (isI x).isSome = true := fun x hx => by
  obtain ⟨y, _, rfl⟩ := List.mem_map.mp hx
  rfl
theorem LotN.len {m : Nat} {N : List Int} (h : LotN m N) : N.length ≤ m := by
  have a := nodup_below m (N.map Int.toNat) (by
    unfold List.Nodup
    rw [List.pairwise_map]
    refine List.Pairwise.imp_of_mem (fun ha hb q => ?_) h.asc
    have := h.bd _ ha
    have := h.bd _ hb
    omega) fun x hx => by
      obtain ⟨y, hy, rfl⟩ := List.mem_map.mp hx
      have := h.bd y hy
      omega
  rwa [List.length_map] at a
theorem unit_at {n v : Int} {i : Nat} (h : i < n.toNat) : (unitV n v).getD i 0 = if (i : Int) = v then 1 else 0 := by
  unfold unitV
  rw [List.getD_eq_getElem?_getD, List.getElem?_map, List.getElem?_range h]
  rfl
theorem unit_vec {p n v : Int} (hp : PrimeOk p) : Vec p n.toNat (unitV n v) := ⟨unitV_len n v, fun x hx => by
  have b := hp.bd
  unfold unitV at hx
  obtain ⟨i, _, rfl⟩ := List.mem_map.mp hx
  show 0 ≤ (if (i : Int) = v then (1 : Int) else 0) ∧ (if (i : Int) = v then (1 : Int) else 0) < p
  split <;> omega⟩
/-- at t pairs of ints -/
def PairsAt (H : Hp) (t : Addr) (prs : List (Int × Int)) : Prop := ∃ as : List Addr, Tp H t (as.map V.ref) ∧ Paired (fun a (e : Int × Int) => Tp H a [.int e.1, .int e.2]) as prs
theorem PairsAt.same {H H' : Hp} {t : Addr} {prs : List (Int × Int)} (e : Same H H') (h : PairsAt H t prs) : PairsAt H' t prs := by
  obtain ⟨as, h1, h2⟩ := h
  exact ⟨as, h1.same e, paired_mono (fun _ _ x => x.same e) h2⟩
/-- the names with their times, where they are not 0 -/
def prsOf (N X : List Int) : List (Int × Int) := (N.zip X).filter fun e => decide (e.2 ≠ 0)
theorem prsOf_map (f : Int → Int) (N : List Int) : prsOf N (N.map f) = (N.filter fun y => decide (f y ≠ 0)).map fun y => (y, f y) := by
  unfold prsOf
  have e : N.zip (N.map f) = N.map fun y => (y, f y) := by
    induction N with
    | nil => rfl
    | cons y r ih => rw [List.map_cons, List.zip_cons_cons, ih, List.map_cons]
  rw [e, List.filter_map]
  rfl
/-- ascending lists of the same numbers are the same -/
theorem asc_ext : ∀ {l m : List Int}, l.Pairwise (· < ·) → m.Pairwise (· < ·) → (∀ x, x ∈ l ↔ x ∈ m) → l = m
  | [], [], _, _, _ => rfl
  | [], y :: r, _, _, h => nomatch (h y).mpr List.mem_cons_self
  | x :: r, [], _, _, h => nomatch (h x).mp List.mem_cons_self
  | x :: r, y :: s, hl, hm, h => by
    have a := List.pairwise_cons.mp hl
    have b := List.pairwise_cons.mp hm
    have e : x = y := by
      rcases List.mem_cons.mp ((h x).mp List.mem_cons_self) with q | q
      · exact q
      · rcases List.mem_cons.mp ((h y).mpr List.mem_cons_self) with q' | q'
        · exact q'.symm
        · have := b.1 x q
          have := a.1 y q'
          omega
    subst e
    rw [asc_ext a.2 b.2 fun z => ?_]
    constructor
    · intro hz
      rcases List.mem_cons.mp ((h z).mp (List.mem_cons_of_mem _ hz)) with q | q
      · have := a.1 z hz
        omega
      · exact q
    · intro hz
      rcases List.mem_cons.mp ((h z).mpr (List.mem_cons_of_mem _ hz)) with q | q
      · have := b.1 z hz
        omega
      · exact q
theorem Sol.congr {p : Int} {n : Nat} {S : List (List Int)} {u x y : Nat → Int} (h : Sol p n S u x) (e : ∀ k < S.length, x k = y k) : Sol p n S u y :=
  ⟨fun k hk => by rw [← e k hk]; exact h.bd k hk, fun k hk t => by rw [← e k hk]; exact h.off k hk t, fun j hj => by
    rw [← lc_congr e]
    exact h.eq j hj⟩
theorem map_getD {N : List Int} {f : Int → Int} {k : Nat} (h : k < N.length) : (N.map f).getD k 0 = f (N.getD k 0) := by
  rw [List.getD_eq_getElem?_getD, List.getElem?_map, List.getD_eq_getElem?_getD, List.getElem?_eq_getElem h]
  rfl
/-- the keys of a dict ascending: its pairs are those of the numbers -/
theorem keys_prs {N ys : List Int} {m : List (Int × Int)} (asc : N.Pairwise (· < ·)) (nd : (m.map (·.1)).Nodup) (ne : ∀ e ∈ m, e.2 ≠ 0) (ks : ∀ j ∈ m.map (·.1), j ∈ N) (hp : ys.Perm (m.map (·.1))) (hs : ys.Pairwise (· ≤ ·)) :
    (ys.map fun y => (y, dval m y)) = prsOf N (N.map (dval m)) := by
  rw [prsOf_map]
  congr 1
  have ysnd : ys.Nodup := hp.nodup_iff.mpr nd
  refine asc_ext ((hs.and ysnd).imp fun h => by have a := h.1; have b := h.2; omega) (asc.sublist List.filter_sublist) fun x => ?_
  rw [hp.mem_iff, List.mem_filter]
  constructor
  · intro hx
    refine ⟨ks x hx, decide_eq_true ?_⟩
    obtain ⟨e, he, rfl⟩ := List.mem_map.mp hx
    show dval m e.1 ≠ 0
    unfold dval
    rw [gget_mem nd he]
    exact ne e he
  · rintro ⟨_, h2⟩
    refine Classical.byContradiction fun no => ?_
    have h3 : dval m x ≠ 0 := of_decide_eq_true h2
    refine h3 ?_
    unfold dval
    rw [gget_none.mpr no]
    rfl
theorem keys_dk (m : List (Int × Int)) : (dk m).map (·.1) = (m.map (·.1)).map Sum.inl := by
  unfold dk
  rw [List.map_map, List.map_map]
  rfl
theorem paired_range {α : Type} {F : Addr → α → Prop} {as : List Addr} {L : List α} (hl : as.length = L.length) (h : ∀ (i : Nat) (a : Addr) (x : α), as[i]? = some a → L[i]? = some x → F a x) : Paired F as L := by
  induction as generalizing L with
  | nil =>
    cases L with
    | nil => exact .nil
    | cons => cases hl
  | cons a r ih =>
    cases L with
    | nil => cases hl
    | cons x t => exact .cons (h 0 a x rfl rfl) (ih (by simpa using hl) fun i b y h1 h2 => h (i + 1) b y (by simpa using h1) (by simpa using h2))
theorem all_refs : ∀ {zs : List V}, (∀ z ∈ zs, ∃ b, z = V.ref b) → ∃ as : List Addr, zs = as.map V.ref
  | [], _ => ⟨[], rfl⟩
  | z :: r, h => by
    obtain ⟨b, hb⟩ := h z List.mem_cons_self
    obtain ⟨as, ha⟩ := all_refs fun y hy => h y (List.mem_cons_of_mem _ hy)
    exact ⟨b :: as, by rw [List.map_cons, hb, ha]⟩
section
variable {P : Program} {w : World} {K : PySem.W.Frag} {mg : Str → Option Value} {base : Heap}
def spReading (K : PySem.W.Frag) : Sp := fun vs H Q _ => ∃ x p n Pa ps a N v, vs = [.ref x, .ref a, .int v] ∧ Wb K H x p n Pa ps ∧ WebOk p n ps ∧ Tp H a (iv N) ∧ LotN ps.length N ∧ 0 ≤ v ∧ v < n ∧
  ∀ H', Same H H' → (¬ Span p n.toNat (sumsOf ps N) (fun j => (unitV n v).getD j 0) → Q .non H') ∧ ∀ X t, X.length = N.length → Sol p n.toNat (sumsOf ps N) (fun j => (unitV n v).getD j 0) (fun k => X.getD k 0) → PairsAt H' t (prsOf N X) → Q (.ref t) H'
abbrev N_reading : List Str := ["web", "lot", "version", "made", "piece"]
theorem sc_reading : FnScope N_reading ["web", "lot", "version"] d_reading.scope := ⟨rfl, rfl, rfl, by decide +kernel, rfl, by decide +kernel, by decide +kernel⟩
theorem cl_reading (E : Env K mg) : Cl P w K mg base 6 "reading" ["web", "lot", "version"] (spReading K) := by
  refine Cl.of (k := 5) E 22 16 (d := d_reading) rfl rfl rfl rfl rfl sc_reading (fun vs H Q E' h => by (repeat obtain ⟨_, h⟩ := h); subst_vars; rfl) (fun _ _ _ _ _ _ us hl => match us, hl with | [_, _, _], _ => rfl) (fun f cdv A outer s H vs Q E' hr h => ?_)
  obtain ⟨x, p, n, Pa, ps, a, N, v, rfl, wb, wo, ha, hN, hv0, hv1, q⟩ := h
  have n10 : n.toNat ≤ 10 := by have := wo.n1; omega
  refine ⟨_, (pss_cons (ps_expr (pe_c (cl_check_lot E) (hr.mono (by decide)) rfl (pa_cons (pv 0) (pa_cons (pv 1) pa_nil))))
    (pss_cons (ps_expr (pe_c (cl_check_version E) (hr.mono (by decide)) rfl (pa_cons (pv 0) (pa_cons (pv 2) pa_nil))))
    (pss_cons (ps_set (i := 3) sc_reading.nd rfl (Or.inr rfl) (pe_md (pe_c (cl_steps_in E) (hr.mono (by decide)) rfl (pa_cons (pv 0) (pa_cons (pv 1) pa_nil))) E.clsSteps (md_made_by E) (hr.mono (by decide)) (pa_cons (pe_c (cl_version_sum E) (hr.mono (by decide)) rfl (pa_cons (pv 0) (pa_cons (pv 2) pa_nil))) pa_nil)))
    (pss_one (ps_ret (pe_ifExp (pt_cmpR op_isN (pv 3) pe_non (nomark _)) pe_non (pe_tupleOf (by rfl) (E.free 70) (pe_lc (own := [("piece", 4)]) (g := gName 4) (tt := tYes) rfl sc_reading.nd (pi_list (pe_callB (call_sortedDI rfl) (by rfl) (E.free 79) (by decide +kernel) (pa_cons (pv 3) pa_nil))) (blkOk_by (own := [("piece", 4)]) (N := N_reading) (sc := d_reading.scope) (by decide +kernel)) (fun _ _ _ _ _ => (pg_name (i := 4) sc_reading.nd rfl (Or.inl rfl))) (fun _ _ _ _ _ => pts_nil) (fun _ _ _ _ _ => (pe_tup (pa_cons (pv 4) (pa_cons (pe_dget (hu_of hr) (pv 3) (pv 4) (fun _ _ => rfl)) pa_nil)))))))))))), ?_⟩
  refine ⟨_, rfl, _, rfl, x, p, n, Pa, ps, a, iv N, rfl, wb, ha, iv_isI N, hN.lotB, ?_⟩
  refine ⟨_, rfl, _, rfl, x, p, n, Pa, v, rfl, wb.at_, hv0, hv1, ?_⟩
  refine ⟨_, rfl, _, rfl, x, p, n, Pa, ps, a, N, rfl, wb, wo, ha, hN, fun y d rows H1 s1 hst hrows so => ?_⟩
  obtain ⟨dy, gy⟩ := id hst
  refine ⟨y, dy, _, rfl, gy, stepF_no p d (by decide +kernel) (by decide +kernel), ?_⟩
  refine ⟨_, rfl, _, rfl, x, p, n, Pa, v, rfl, wb.at_.same s1, wo.n1, fun u H2 hu s2 hut => ?_⟩
  have s12 := s1.trans s2
  refine ⟨y, p, d, rows, n.toNat, u, unitV n v, rfl, hst.same s2, hrows.same s2, so.red.ok, hut, unit_vec wo.pr, fun H3 srt s3 sp ss => ?_⟩
  have s13 := s12.trans s3
  have hS : (sumsOf ps N).length = N.length := sumsOf_len
  rw [← hS] at so
  have mb := so.made (u := unitV n v) (srt := srt) (fun k hk i hi e => asc_inj hN.asc k (by rw [hS] at hk; exact hk) i (by rw [hS] at hi; exact hi) e) (unit_vec wo.pr) sp ss
  refine ⟨fun hm => ⟨_, rfl, rfl, _, rfl, ?_⟩, fun m D hm hD => ⟨_, rfl, rfl, _, rfl, ?_⟩⟩
  · exact iteT ((q H3 s13).1 (mb.1 hm))
  · obtain ⟨sol, nd, ne, ks⟩ := mb.2 m hm
    have ksN : ∀ j ∈ m.map (·.1), j ∈ N := fun j hj => by
      obtain ⟨k, hk, rfl⟩ := ks j hj
      rw [hS] at hk
      exact at_mem hk
    have lm : m.length ≤ 40 := keys_len nd fun e he => by
      have := hN.bd _ (ksN e.1 (List.mem_map.mpr ⟨e, he, rfl⟩))
      have := wo.len
      omega
    refine iteF ?_
    refine ⟨_, rfl, D, dk m, m.map (·.1), rfl, .inl hD, keys_dk m, by rw [List.length_map]; omega, fun ys p' perm pw hn => ?_⟩
    have s4 : Same H3 (upd H3 p' (.lst (iv ys))) := same_new hn _
    have e4 : (upd H3 p' (.lst (iv ys))) p' = some (.lst (iv ys)) := upd_same
    have lys : ys.length ≤ 40 := by rw [perm.length_eq, List.length_map]; exact lm
    have hD4 := s4 _ _ hD
    generalize upd H3 p' (.lst (iv ys)) = H4 at s4 e4 hD4 ⊢
    refine ⟨p', rfl, ⟨_, SqL.of e4⟩, fun L hL => ?_⟩
    have pl := plain_l (K := K) (SqL.of e4)
    refine lcG (iv ys).length (fun _ => true) (fun i v H => ∃ b, v = .ref b ∧ Tp H b [.int (ys.getD i 0), .int (dval m (ys.getD i 0))]) (fun i v Ha Hb zs e sb ⟨b, h1, h2⟩ => ⟨b, h1, sb.tp e h2⟩) hL (by rw [iv_len]; omega) pl.go pl.stop ?_ ?_
    · intro i z Ha Hb hi s5 _ yl R k
      obtain ⟨rfl, e5⟩ := pl.yld i z Ha Hb hi s5 yl
      obtain ⟨y', hy', rfl⟩ := iv_get e5
      have ey : ys.getD i 0 = y' := getD_of hy'
      refine k _ _ rfl (Same.refl _) (fun c k2 => k2 _ (Same.refl _)) fun _ H5 s6 R' k2 => ?_
      have ym : y' ∈ m.map (·.1) := perm.mem_iff.mp (List.mem_of_getElem? hy')
      obtain ⟨e, he, rfl⟩ := List.mem_map.mp ym
      have gm := gget_mem nd he
      have ed : dval m e.1 = e.2 := by unfold dval; rw [gm]; rfl
      have gP : DGet H5 D (.int e.1) (some (.int e.2)) := by
        have g : DGet H5 D (kV (Sum.inl e.1)) (valV (dk m) (Sum.inl e.1 : Key)) := DGet.k (s6 _ _ (s5 _ _ hD4))
        rw [valV_dk, gm] at g
        exact g
      refine ⟨_, rfl, _, rfl, _, rfl, D, .int e.2, rfl, gP, (by show 2 ≤ sizeLine; decide), fun t ht => ?_⟩
      refine k2 _ _ (same_new ht _) ⟨t, rfl, ?_⟩
      rw [ey, ed]
      exact .of upd_same
    · intro H5 zs s5 e5 pr
      rw [iv_len, filter_yes] at pr
      have lz : zs.length = ys.length := by rw [← paired_len pr, List.length_range]
      obtain ⟨as, rfl⟩ : ∃ as : List Addr, zs = as.map V.ref := by
        refine all_refs fun z hz => ?_
        obtain ⟨i, hi⟩ := List.mem_iff_getElem?.mp hz
        obtain ⟨_, _, b, h1, _⟩ := paired_get' pr hi
        exact ⟨b, h1⟩
      rw [List.length_map] at lz
      refine .inl ⟨L, _, rfl, SqL.of e5, fun t ht => ?_⟩
      have s6 : Same H5 (upd H5 t (.tup (as.map V.ref))) := same_new ht _
      have sA := ((s13.trans s4).trans s5).trans s6
      refine (q _ sA).2 (N.map (dval m)) t (List.length_map _) ?_ ?_
      · refine sol.congr fun k hk => ?_
        rw [hS] at hk
        rw [map_getD hk]
        rfl
      · refine ⟨as, .of upd_same, ?_⟩
        rw [← keys_prs hN.asc nd ne ksN perm pw]
        refine paired_range (by rw [List.length_map, lz]) fun i b e h1 h2 => ?_
        have hi : i < ys.length := by have := (List.getElem?_eq_some_iff.mp h1).1; omega
        obtain ⟨v, hv, b', h3, h4⟩ := paired_get pr (List.getElem?_range hi)
        rw [List.getElem?_map, h1] at hv
        cases hv
        cases h3
        rw [List.getElem?_map, getD_at (d := 0) hi] at h2
        cases h2
        exact h4.same s6
end
end Lf
/-! == of tuples of ints and of pairs of ints; in. -/
namespace Lf
open PySem PySem.Spec PyProof.Rows L2
abbrev pI (ns : List Int) : List PyData := ns.map PyData.int
def pP (e : Int × Int) : PyData := .tuple [.int e.1, .int e.2]
theorem eqvAll_ints : ∀ ns ms : List Int, PyData.eqvAll (pI ns) (pI ms) = decide (ns = ms)
  | [], [] => by simp [PyData.eqvAll]
  | [], _ :: _ => by simp [PyData.eqvAll]
  | _ :: _, [] => by simp [PyData.eqvAll]
  | a :: r, b :: t => by
    simp only [List.map_cons, PyData.eqvAll, PyData.eqv, eqvAll_ints r t]
    by_cases h : a = b <;> by_cases h' : r = t <;> simp [h, h']
theorem eqvAll_prs : ∀ ns ms : List (Int × Int), PyData.eqvAll (ns.map pP) (ms.map pP) = decide (ns = ms)
  | [], [] => by simp [PyData.eqvAll]
  | [], _ :: _ => by simp [PyData.eqvAll]
  | _ :: _, [] => by simp [PyData.eqvAll]
  | (a, a') :: r, (b, b') :: t => by
    simp only [List.map_cons, PyData.eqvAll, PyData.eqv, pP, eqvAll_prs r t]
    by_cases h : a = b <;> by_cases h2 : a' = b' <;> by_cases h' : r = t <;> simp [h, h', h2]
theorem lay_ints : ∀ ns : List Int, PyData.canLayAll0 (pI ns) = true ∧ PyData.depthAll (pI ns) = 0
  | [] => ⟨rfl, rfl⟩
  | a :: r => by
    have ih := lay_ints r
    simp [PyData.canLayAll0, PyData.canLay0, PyData.depthAll, PyData.depth, ih.1, ih.2]
theorem lay_prs : ∀ ns : List (Int × Int), PyData.canLayAll0 (ns.map pP) = true ∧ PyData.depthAll (ns.map pP) ≤ 1
  | [] => ⟨rfl, by decide⟩
  | a :: r => by
    have ih := lay_prs r
    have h2 := ih.2
    simp only [List.map_cons, PyData.canLayAll0, PyData.canLay0, PyData.depthAll, PyData.depth, pP, ih.1, Bool.and_self, true_and]
    omega
theorem shaped_ti (ns : List Int) : SeqAt.shaped (.tuple (pI ns)) = true := by
  have := lay_ints ns
  simp [SeqAt.shaped, PyData.canLay0, PyData.depth, this.1, this.2]
theorem shaped_tp (ns : List (Int × Int)) : SeqAt.shaped (.tuple (ns.map pP)) = true := by
  have := lay_prs ns
  have h2 := this.2
  simp [SeqAt.shaped, PyData.canLay0, PyData.depth, this.1]
  omega
theorem eqv_ti (ns ms : List Int) : PyData.eqv (.tuple (pI ns)) (.tuple (pI ms)) = decide (ns = ms) := by
  simp only [PyData.eqv]
  exact eqvAll_ints ns ms
theorem eqv_tp (ns ms : List (Int × Int)) : PyData.eqv (.tuple (ns.map pP)) (.tuple (ms.map pP)) = decide (ns = ms) := by
  simp only [PyData.eqv]
  exact eqvAll_prs ns ms
section
variable {K : PySem.W.Frag} {H : Hp} {a b : Addr}
theorem dpAll_ints : ∀ ns : List Int, DpAll K H (iv ns) (pI ns)
  | [] => .nil
  | x :: r => .cons (.int x) (dpAll_ints r)
theorem Tp.dp {ns : List Int} (h : Tp H a (iv ns)) : Dp K H (.ref a) (.tuple (pI ns)) := .tup h.sq (dpAll_ints ns)
theorem PairsAt.dp {prs : List (Int × Int)} (h : PairsAt H a prs) : Dp K H (.ref a) (.tuple (prs.map pP)) := by
  obtain ⟨as, h1, h2⟩ := h
  refine .tup h1.sq ?_
  clear h1
  induction h2 with
  | nil => exact .nil
  | cons x t ih => exact .cons (.tup x.sq (.cons (.int _) (.cons (.int _) .nil))) ih
/-- == of tuples of ints -/
theorem eqT {ns ms : List Int} {Q : VK} (h : Tp H a (iv ns)) (h' : Tp H b (iv ms)) (q : Q (.bl (decide (ns = ms))) H) : rEqD K (.ref a) (.ref b) H Q :=
  ⟨_, _, h.dp, h'.dp, shaped_ti _, shaped_ti _, by rw [eqv_ti]; exact q⟩
theorem neT {ns ms : List (Int × Int)} {Q : VK} (h : PairsAt H a ns) (h' : PairsAt H b ms) (q : Q (.bl (!decide (ns = ms))) H) : rNeD K (.ref a) (.ref b) H Q :=
  ⟨_, _, h.dp, h'.dp, shaped_tp _, shaped_tp _, by rw [eqv_tp]; exact q⟩
theorem flat_iv : ∀ ns : List Int, (iv ns).all flatV = true
  | [] => rfl
  | _ :: r => by
    show (flatV (.int _) && (iv r).all flatV) = true
    rw [flat_iv r]
    rfl
theorem inV_iv (i : Int) (ns : List Int) : inV (.int i) (iv ns) = decide (i ∈ ns) := by
  unfold inV
  rw [List.any_map]
  by_cases c : i ∈ ns
  · rw [decide_eq_true c, List.any_eq_true]
    exact ⟨i, c, by show (i == i) = true; exact beq_self_eq_true i⟩
  · rw [decide_eq_false c, List.any_eq_false]
    intro x hx z
    have z' : (x == i) = true := z
    have : x = i := eq_of_beq z'
    exact c (this ▸ hx)
end
end Lf
/-! added. -/
namespace Lf
open PySem PySem.Spec PyProof.Rows L2
/-- row and another so many times -/
def addT (p : Int) (row : List Int) (t : Int) (oth : List Int) : List Int := List.zipWith (fun a b => (a + t * b) % p) row oth
theorem addT_length {p t : Int} {row oth : List Int} (h : row.length = oth.length) : (addT p row t oth).length = row.length := by
  unfold addT
  rw [List.length_zipWith, ← h, Nat.min_self]
theorem addT_get {p t : Int} {row oth : List Int} {i : Nat} {a b : Int} (ha : row[i]? = some a) (hb : oth[i]? = some b) : (addT p row t oth)[i]? = some ((a + t * b) % p) := by
  unfold addT
  rw [List.getElem?_zipWith, ha, hb]
def addAll (p : Int) (w : Nat) (L : List (List Int × Int)) : List Int := L.foldl (fun acc e => addT p acc e.2 e.1) (List.replicate w 0)
theorem addAll_len {p : Int} {w : Nat} : ∀ {L : List (List Int × Int)} {acc : List Int}, acc.length = w → (∀ e ∈ L, e.1.length = w) → (L.foldl (fun acc e => addT p acc e.2 e.1) acc).length = w
  | [], _, h, _ => h
  | e :: r, acc, h, hl => addAll_len (L := r) (acc := addT p acc e.2 e.1) (by rw [addT_length (by rw [h, hl e List.mem_cons_self]), h]) fun x hx => hl x (List.mem_cons_of_mem _ hx)
theorem replicate_iv (w : Nat) : (List.replicate w (V.int 0)) = iv (List.replicate w 0) := by
  unfold iv
  rw [List.map_replicate]
/-- at each address a tuple of ints -/
abbrev TpsAt (H : Hp) (as : List Addr) (ss : List (List Int)) : Prop := Paired (fun a s => Tp H a (iv s)) as ss
section
variable {P : Program} {w : World} {K : PySem.W.Frag} {mg : Str → Option Value} {base : Heap}
def spAdded (K : PySem.W.Frag) : Sp := fun vs H Q _ => ∃ p a c w as ss vals, vs = [.int p, .ref a, .ref c, .int w] ∧ 0 < p ∧ (0 ≤ w ∧ w ≤ 1000) ∧ H a = some (.lst (as.map V.ref)) ∧ TpsAt H as ss ∧ H c = some (.lst (iv vals)) ∧ ss.length = vals.length ∧ (∀ s ∈ ss, s.length = w.toNat) ∧ (∀ t ∈ vals, -(2 ^ 64) < t ∧ t < 2 ^ 64) ∧ NewTp H (iv (addAll p w.toNat (ss.zip vals))) Q
abbrev N_added : List Str := ["prime", "sums", "values", "width", "found", "one", "times", "here", "more"]
theorem sc_added : FnScope N_added ["prime", "sums", "values", "width"] d_added.scope := ⟨rfl, rfl, rfl, by decide +kernel, rfl, by decide +kernel, by decide +kernel⟩
theorem cl_added (E : Env K mg) : Cl P w K mg base 1 "added" ["prime", "sums", "values", "width"] (spAdded K) := by
  refine Cl.of (k := 0) E 14 9 (d := d_added) rfl rfl rfl rfl rfl sc_added (fun vs H Q E' h => by (repeat obtain ⟨_, h⟩ := h); subst_vars; rfl) (fun _ _ _ _ _ _ us hl => match us, hl with | [_, _, _, _], _ => rfl) (fun f cdv A outer s H vs Q E' hr h => ?_)
  obtain ⟨p, a, c, w, as, ss, vals, rfl, hp, hw, ha, hss, hc, hl, hsl, htb, q⟩ := h
  refine ⟨_, (pss_cons (ps_set (i := 4) sc_added.nd rfl (Or.inl rfl) (pe_op op_rep (pe_lst (pa_cons pe_int pa_nil)) (pv 3)))
    (pss_cons (ps_for PassesOwn.never rfl (pi_zipM (by rfl) (E.free 75) (pa_cons (pv 1) (pa_cons (pv 2) pa_nil))) (pg_tup rfl (pgs_cons (pg_name (i := 5) sc_added.nd rfl (Or.inl rfl)) (pgs_cons (pg_name (i := 6) sc_added.nd rfl (Or.inr rfl)) pgs_nil)))
      (pss_one (ps_setLc (i := 4) (own := [("here", 7), ("more", 8)]) (g := gTup K 2 (gCons (gName 7) (gCons (gName 8) gNil))) (tt := tYes) rfl sc_added.nd rfl rfl (sw_true rfl rfl rfl (by decide +kernel)) (pi_zipM (by rfl) (E.free 75) (pa_cons (pv 4) (pa_cons (pv 5) pa_nil))) (blkOk_by (own := [("here", 7), ("more", 8)]) (N := N_added) (sc := d_added.scope) (by decide +kernel)) (fun _ _ _ _ _ => (pg_tup rfl (pgs_cons (pg_name (i := 7) sc_added.nd rfl (Or.inl rfl)) (pgs_cons (pg_name (i := 8) sc_added.nd rfl (Or.inl rfl)) pgs_nil)))) (fun _ _ _ _ _ => pts_nil) (fun _ _ _ _ _ => (pe_op op_mod (pe_op op_add (pv 7) (pe_op op_mul (pv 6) (pv 8))) (pv 0))))))
    (pss_one (ps_ret (pe_tupleOf (by rfl) (E.free 70) (pv 4)))))), ?_⟩
  have hal : as.length = ss.length := paired_len hss
  refine ⟨(by show 1 ≤ sizeLine; decide), fun z0 hz0 => ?_⟩
  refine ⟨_, rfl, z0, w, [.int 0], rfl, rfl, upd_same, by omega, by omega, Nat.le_trans (show 1 * w.toNat ≤ 100000 by omega) (by decide), fun f0 hf0 => ?_⟩
  have e0 : (List.replicate w.toNat [V.int 0]).flatten = iv (List.replicate w.toNat 0) := by
    rw [← replicate_iv]
    induction w.toNat with
    | zero => rfl
    | succ k ih => rw [List.replicate_succ, List.flatten_cons, ih, List.replicate_succ]; rfl
  rw [e0]
  have s1 := (same_new hz0 (.lst [.int 0])).trans (same_new hf0 (.lst (iv (List.replicate w.toNat 0))))
  have ef : (upd (upd H z0 (.lst [.int 0])) f0 (.lst (iv (List.replicate w.toNat 0)))) f0 = some (.lst (iv (List.replicate w.toNat 0))) := upd_same
  generalize upd (upd H z0 (.lst [.int 0])) f0 (.lst (iv (List.replicate w.toNat 0))) = H1 at s1 ef ⊢
  have ha1 := s1 _ _ ha
  have hc1 := s1 _ _ hc
  refine ⟨_, rfl, _, rfl, a, c, _, _, true, true, rfl, Sq.lo ha1, Sq.lo hc1, for_by as.length (fun i σ H' => ∃ f v5 v6, σ = [some (.int p), some (.ref a), some (.ref c), some (.int w), some (.ref f), v5, v6, none, none] ∧ Same H1 H' ∧ H' f = some (.lst (iv (addAll p w.toNat ((ss.zip vals).take i)))))
    ⟨f0, none, none, rfl, Same.refl _, ef⟩ ?_ ?_ ?_ ?_⟩
  · rintro i σ H' hi ⟨f, v5, v6, rfl, s2, e2⟩
    exact itm_go (Sq.lo (s2 _ _ ha1)) (Sq.lo (s2 _ _ hc1)) (by rw [List.length_map]; exact hi) (by rw [iv_len]; omega)
  · rintro σ H' ⟨f, v5, v6, rfl, s2, e2⟩
    exact itm_stop (Sq.lo (s2 _ _ ha1)) (Sq.lo (s2 _ _ hc1)) (by rw [List.length_map, iv_len]; omega) (List.length_map _).symm
  · rintro i v σ H' H'' hi ⟨f, v5, v6, rfl, s2, e2⟩ y
    obtain ⟨T, x, z, rfl, nT, rfl, e3, e4⟩ := itm_yld (Sq.lo (s2 _ _ ha1)) (Sq.lo (s2 _ _ hc1)) y
    rw [List.getElem?_map] at e3
    obtain ⟨b, eb, rfl⟩ := Option.map_eq_some_iff.mp e3
    obtain ⟨t, et, rfl⟩ := iv_get e4
    obtain ⟨s, es, hs⟩ := paired_get hss eb
    refine g_pair upd_same ?_
    have s3 : Same H' (upd H' T (.tup [.ref b, .int t])) := same_new nT _
    have e5 := s3 _ _ e2
    have hsT := (hs.same s1).same (s2.trans s3)
    have s23 := s2.trans s3
    generalize upd H' T (.tup [.ref b, .int t]) = H3 at s3 e5 hsT s23 ⊢
    have hz : (ss.zip vals)[i]? = some (s, t) := by
      rw [List.getElem?_zip_eq_some]
      exact ⟨es, et⟩
    have lacc : (addAll p w.toNat ((ss.zip vals).take i)).length = w.toNat := addAll_len (by rw [List.length_replicate]) fun e he => by
      have := List.mem_of_mem_take he
      exact hsl e.1 (List.of_mem_zip this).1
    have nxt : addAll p w.toNat ((ss.zip vals).take (i + 1)) = addT p (addAll p w.toNat ((ss.zip vals).take i)) t s := by
      unfold addAll
      rw [List.take_add_one, hz, List.foldl_append]
      rfl
    have lsw := hsl s (List.mem_of_getElem? es)
    have tb := htb t (List.mem_of_getElem? et)
    refine ⟨_, rfl, _, rfl, f, b, _, _, true, false, rfl, Sq.lo e5, Sq.t hsT.sq, fun D hD => ?_⟩
    refine lcZ (L := addT p (addAll p w.toNat ((ss.zip vals).take i)) t s) hD (by omega) (by omega) (addT_length (by omega)) (Sq.lo e5) (Sq.t hsT.sq) (fun _ _ => rfl) ?_ fun H5 s5 e6 => ?_
    · intro j x1 x2 x3 H4 hx1 hx2 hx3 s4 R k
      rw [addT_get hx1 hx2] at hx3
      cases hx3
      exact ⟨_, rfl, _, rfl, _, rfl, _, _, rfl, rfl, .inl tb, _, _, rfl, rfl, _, rfl, _, _, rfl, rfl, hp, k⟩
    · refine ⟨D, _, _, rfl, s23.trans s5, ?_⟩
      rw [nxt]
      exact e6
  · rintro σ H' ⟨f, v5, v6, rfl, s2, e2⟩
    have el : (ss.zip vals).take as.length = ss.zip vals := List.take_of_length_le (by rw [List.length_zip]; omega)
    rw [el] at e2
    exact ⟨_, rfl, .inl ⟨f, _, rfl, SqL.of e2, q.lay (s1.trans s2)⟩⟩
end
end Lf
/-! is_reading. -/
namespace Lf
open PySem PySem.Spec PyProof.Rows L2
def toI : V → Int
  | .int i => i
  | _ => 0
/-- what is asked of pairs that are told -/
def rd2 (p n : Int) (ps : List (List Int × Int)) (N : List Int) (v : Int) (prs : List (V × V)) : Bool :=
  (lotB (ps.length : Int) (-1) (prs.map (·.1)) && prs.all fun e => inV e.1 (iv N)) && ((prs.all fun e => wit e.2 1 (p - 1) == some true) &&
    decide (addAll p n.toNat ((sumsOf ps (prs.map fun e => toI e.1)).zip (prs.map fun e => toI e.2)) = unitV n v))
/-- a thing that may be asked for: no tuple; a tuple with something else than pairs; pairs -/
inductive Thing
  | no
  | bad
  | ok (prs : List (V × V))
def thB (p n : Int) (ps : List (List Int × Int)) (N : List Int) (v : Int) : Thing → Bool
  | .ok prs => rd2 p n ps N v prs
  | _ => false
/-- pairs of ints or bools -/
def VPairs (H : Hp) (t : Addr) (prs : List (V × V)) : Prop := ∃ as : List Addr, Tp H t (as.map V.ref) ∧ Paired (fun a (e : V × V) => Tp H a [e.1, e.2]) as prs ∧ ∀ e ∈ prs, (isI e.1).isSome = true ∧ (isI e.2).isSome = true
def ThingAt (H : Hp) (x : V) : Thing → Prop
  | .no => NT H x
  | .bad => ∃ t xs bs, x = .ref t ∧ Tp H t xs ∧ Paired (fun x b => Pr H x b) xs bs ∧ bs.all id = false ∧ xs.length ≤ 1000
  | .ok prs => ∃ t, x = .ref t ∧ VPairs H t prs ∧ prs.length ≤ 1000
theorem Pr.same {H H' : Hp} {x : V} {b : Bool} (e : Same H H') (h : Pr H x b) : Pr H' x b := by
  rcases h with ⟨h, r⟩ | ⟨p, xs, h1, h2, h3⟩
  · exact .inl ⟨h.same e, r⟩
  · exact .inr ⟨p, xs, h1, h2.same e, h3⟩
theorem VPairs.same {H H' : Hp} {t : Addr} {prs : List (V × V)} (e : Same H H') (h : VPairs H t prs) : VPairs H' t prs := by
  obtain ⟨as, h1, h2, h3⟩ := h
  exact ⟨as, h1.same e, paired_mono (fun _ _ x => x.same e) h2, h3⟩
theorem ThingAt.same {H H' : Hp} {x : V} {th : Thing} (e : Same H H') (h : ThingAt H x th) : ThingAt H' x th := by
  cases th with
  | no => exact NT.same e h
  | bad =>
    obtain ⟨t, xs, bs, h1, h2, h3, h4⟩ := h
    exact ⟨t, xs, bs, h1, h2.same e, paired_mono (fun _ _ z => z.same e) h3, h4⟩
  | ok prs =>
    obtain ⟨t, h1, h2, h3⟩ := h
    exact ⟨t, h1, h2.same e, h3⟩
theorem lotB_mem {m : Int} : ∀ {xs : List V} {l : Int}, lotB m l xs = true → ∀ x ∈ xs, ∃ j : Int, x = .int j ∧ l < j ∧ j < m
  | [], _, _, x, hx => nomatch hx
  | y :: r, l, h, x, hx => by
    cases y with
    | int i =>
      have h' : (decide (l + 1 ≤ i) && decide (i ≤ m - 1) && lotB m i r) = true := h
      rw [Bool.and_eq_true, Bool.and_eq_true] at h'
      have h1 := of_decide_eq_true h'.1.1
      have h2 := of_decide_eq_true h'.1.2
      rcases List.mem_cons.mp hx with q | q
      · exact ⟨i, q, by omega, by omega⟩
      · obtain ⟨j, e, h3, h4⟩ := lotB_mem h'.2 x q
        exact ⟨j, e, by omega, h4⟩
    | _ => exact absurd h (by simp [lotB])
theorem wit_some {x : V} (h : (isI x).isSome = true) (lo hi : Int) : ∃ b, wit x lo hi = some b := by
  cases x with
  | int i => exact ⟨_, rfl⟩
  | bl i => exact ⟨_, rfl⟩
  | _ => cases h
theorem isI_flat {x : V} (h : (isI x).isSome = true) : flatV x = true := by
  cases x with
  | int i => rfl
  | bl i => rfl
  | _ => cases h
theorem wit_tI {x : V} {lo hi : Int} (h : wit x lo hi = some true) : x = .int (toI x) ∧ lo ≤ toI x ∧ toI x ≤ hi := by
  cases x with
  | int i =>
    have h' : some (decide (lo ≤ i) && decide (i ≤ hi)) = some true := h
    have h2 := Option.some.inj h'
    rw [Bool.and_eq_true] at h2
    exact ⟨rfl, of_decide_eq_true h2.1, of_decide_eq_true h2.2⟩
  | bl i => cases h
  | _ => cases h
theorem range_bl {α : Type} (f : α → Bool) (l : List α) (g : Nat → Bool) (h : ∀ i x, l[i]? = some x → g i = f x) : (List.range l.length).map (fun i => V.bl (g i)) = (l.map f).map V.bl := by
  refine List.ext_getElem? fun i => ?_
  rw [List.getElem?_map, List.getElem?_map, List.getElem?_map]
  by_cases c : i < l.length
  · rw [List.getElem?_range c, List.getElem?_eq_getElem c]
    exact congrArg (fun b => some (V.bl b)) (h i _ (List.getElem?_eq_getElem c))
  · rw [List.getElem?_eq_none (by rw [List.length_range]; omega), List.getElem?_eq_none (by omega)]
    rfl
section
variable {P : Program} {w : World} {K : PySem.W.Frag} {mg : Str → Option Value} {base : Heap}
def spIsReading (K : PySem.W.Frag) : Sp := fun vs H Q _ => ∃ x p n Pa ps a N v y th, vs = [.ref x, .ref a, .int v, y] ∧ Wb K H x p n Pa ps ∧ WebOk p n ps ∧ Tp H a (iv N) ∧ LotN ps.length N ∧ 0 ≤ v ∧ v < n ∧ ThingAt H y th ∧
  ∀ H', Same H H' → Q (.bl (thB p n ps N v th)) H'
abbrev N_is_reading : List Str := ["web", "lot", "version", "thing", "sums", "values", "piece", "times", "pair"]
theorem sc_is_reading : FnScope N_is_reading ["web", "lot", "version", "thing"] d_is_reading.scope := ⟨rfl, rfl, rfl, by decide +kernel, rfl, by decide +kernel, by decide +kernel⟩
theorem cl_is_reading (E : Env K mg) : Cl P w K mg base 6 "is_reading" ["web", "lot", "version", "thing"] (spIsReading K) := by
  refine Cl.of (k := 5) E 23 17 (d := d_is_reading) rfl rfl rfl rfl rfl sc_is_reading (fun vs H Q E' h => by (repeat obtain ⟨_, h⟩ := h); subst_vars; rfl) (fun _ _ _ _ _ _ us hl => match us, hl with | [_, _, _, _], _ => rfl) (fun f cdv A outer s H vs Q E' hr h => ?_)
  obtain ⟨x, p, n, Pa, ps, a, N, v, y, th, rfl, wb, wo, ha, hN, hv0, hv1, hth, q⟩ := h
  refine ⟨_, (pss_cons (ps_expr (pe_c (cl_check_lot E) (hr.mono (by decide)) rfl (pa_cons (pv 0) (pa_cons (pv 1) pa_nil))))
    (pss_cons (ps_expr (pe_c (cl_check_version E) (hr.mono (by decide)) rfl (pa_cons (pv 0) (pa_cons (pv 2) pa_nil))))
    (pss_cons (ps_if (PW.pt (pw_or (pt_not (pt_val (pe_callB call_isi (by rfl) (E.free 67) (by decide +kernel) (pa_cons (pv 3) (pa_cons (pe_bltn (v := .ty "tuple") (by rfl) (E.free 70) (by decide +kernel) rfl) pa_nil))))) (pw_or1 (pt_not (pt_val (pe_callB (cr_all rfl) (by rfl) (E.free 72) (by decide +kernel) (pa_cons (pe_lc (own := [("pair", 8)]) (g := gName 8) (tt := tYes) rfl sc_is_reading.nd (pi_tup (pv 3)) (blkOk_by (own := [("pair", 8)]) (N := N_is_reading) (sc := d_is_reading.scope) (by decide +kernel)) (fun _ _ _ _ _ => (pg_name (i := 8) sc_is_reading.nd rfl (Or.inl rfl))) (fun _ _ _ _ _ => pts_nil) (fun _ _ _ _ _ => (pe_c (cl_is_pair E) (hr.mono (by decide)) rfl (pa_cons (pv 8) pa_nil)))) pa_nil)))))))
      (pss_one (ps_ret pe_bl))
      pss_nil)
    (pss_cons (ps_if (PW.pt (pw_or (pt_not (pt_val (pe_c (cl_is_lot_of E) (hr.mono (by decide)) rfl (pa_cons (pv 0) (pa_cons (pe_tupleOf (by rfl) (E.free 70) (pe_lc (own := [("pair", 8)]) (g := gName 8) (tt := tYes) rfl sc_is_reading.nd (pi_tup (pv 3)) (blkOk_by (own := [("pair", 8)]) (N := N_is_reading) (sc := d_is_reading.scope) (by decide +kernel)) (fun _ _ _ _ _ => (pg_name (i := 8) sc_is_reading.nd rfl (Or.inl rfl))) (fun _ _ _ _ _ => pts_nil) (fun _ _ _ _ _ => (pe_ix (ix_tupK (K := K) rfl) (pv 8) pe_int (fun _ _ => rfl))))) pa_nil))))) (pw_or1 (pt_not (pt_val (pe_callB (cr_all rfl) (by rfl) (E.free 72) (by decide +kernel) (pa_cons (pe_lc (own := [("pair", 8)]) (g := gName 8) (tt := tYes) rfl sc_is_reading.nd (pi_tup (pv 3)) (blkOk_by (own := [("pair", 8)]) (N := N_is_reading) (sc := d_is_reading.scope) (by decide +kernel)) (fun _ _ _ _ _ => (pg_name (i := 8) sc_is_reading.nd rfl (Or.inl rfl))) (fun _ _ _ _ _ => pts_nil) (fun _ _ _ _ _ => (pe_cmpR (op_in_seqK (K := K) rfl) (pe_ix (ix_tupK (K := K) rfl) (pv 8) pe_int (fun _ _ => rfl)) (pv 1) (by rfl)))) pa_nil)))))))
      (pss_one (ps_ret pe_bl))
      pss_nil)
    (pss_cons (ps_if (pt_not (pt_val (pe_callB (cr_all rfl) (by rfl) (E.free 72) (by decide +kernel) (pa_cons (pe_lc (own := [("pair", 8)]) (g := gName 8) (tt := tYes) rfl sc_is_reading.nd (pi_tup (pv 3)) (blkOk_by (own := [("pair", 8)]) (N := N_is_reading) (sc := d_is_reading.scope) (by decide +kernel)) (fun _ _ _ _ _ => (pg_name (i := 8) sc_is_reading.nd rfl (Or.inl rfl))) (fun _ _ _ _ _ => pts_nil) (fun _ _ _ _ _ => (pe_c (cl_is_within E) (hr.mono (by decide)) rfl (pa_cons (pe_ix (ix_tupK (K := K) rfl) (pv 8) pe_int (fun _ _ => rfl)) (pa_cons pe_int (pa_cons (pe_op op_sub (pe_fldK (K := K) rfl (pv 0) rfl) pe_int) pa_nil)))))) pa_nil))))
      (pss_one (ps_ret pe_bl))
      pss_nil)
    (pss_cons (ps_par (i := 4) (j := 5) (by rfl) sc_is_reading.nd rfl rfl (by decide) rfl rfl (pa_cons (pe_lc (own := [("piece", 6), ("times", 7)]) (g := gTup K 2 (gCons (gName 6) (gCons (gName 7) gNil))) (tt := tYes) rfl sc_is_reading.nd (pi_tup (pv 3)) (blkOk_by (own := [("piece", 6), ("times", 7)]) (N := N_is_reading) (sc := d_is_reading.scope) (by decide +kernel)) (fun _ _ _ _ _ => (pg_tup rfl (pgs_cons (pg_name (i := 6) sc_is_reading.nd rfl (Or.inl rfl)) (pgs_cons (pg_name (i := 7) sc_is_reading.nd rfl (Or.inl rfl)) pgs_nil)))) (fun _ _ _ _ _ => pts_nil) (fun _ _ _ _ _ => (pe_ix (ix_tupK (K := K) rfl) (pe_ix (ix_tupK (K := K) rfl) (pe_fldK (K := K) rfl (pv 0) rfl) (pv 6) (fun _ _ => rfl)) pe_int (fun _ _ => rfl)))) (pa_cons (pe_lc (own := [("piece", 6), ("times", 7)]) (g := gTup K 2 (gCons (gName 6) (gCons (gName 7) gNil))) (tt := tYes) rfl sc_is_reading.nd (pi_tup (pv 3)) (blkOk_by (own := [("piece", 6), ("times", 7)]) (N := N_is_reading) (sc := d_is_reading.scope) (by decide +kernel)) (fun _ _ _ _ _ => (pg_tup rfl (pgs_cons (pg_name (i := 6) sc_is_reading.nd rfl (Or.inl rfl)) (pgs_cons (pg_name (i := 7) sc_is_reading.nd rfl (Or.inl rfl)) pgs_nil)))) (fun _ _ _ _ _ => pts_nil) (fun _ _ _ _ _ => (pv 7))) pa_nil)) (by rfl))
    (pss_one (ps_ret (pe_cmpR (op_eqD hr.units) (pe_c (cl_added E) (hr.mono (by decide)) rfl (pa_cons (pe_fld (pv 0) rfl) (pa_cons (pv 4) (pa_cons (pv 5) (pa_cons (pe_fld (pv 0) rfl) pa_nil))))) (pe_c (cl_version_sum E) (hr.mono (by decide)) rfl (pa_cons (pv 0) (pa_cons (pv 2) pa_nil))) (nomark _)))))))))), ?_⟩
  have n10 : n.toNat ≤ 10 := by have := wo.n1; omega
  refine ⟨_, rfl, _, rfl, x, p, n, Pa, ps, a, iv N, rfl, wb, ha, iv_isI N, hN.lotB, ?_⟩
  refine ⟨_, rfl, _, rfl, x, p, n, Pa, v, rfl, wb.at_, hv0, hv1, ?_⟩
  cases th with
  | no =>
    obtain ⟨t, ty, kt⟩ := NT.ty (K := K) hth
    exact ⟨_, rfl, _, _, _, _, false, rfl, .ty _, ty, kit_ty kt, false, rfl, iteT (q _ (Same.refl _))⟩
  | bad =>
    obtain ⟨t, xs, bs, rfl, ht, hp, hb, hl⟩ := hth
    refine ⟨_, rfl, _, _, _, _, true, rfl, .ty _, ht.ty, kit_ty kit_tt, true, rfl, iteF ?_⟩
    refine ⟨_, rfl, t, rfl, ⟨_, ht.sq⟩, fun D hD => ?_⟩
    have lb := paired_len hp
    refine lcS (plain_t ht.sq) (fun i => .bl (bs.getD i false)) hD (by omega) (fun _ => rfl) ?_ ?_
    · intro i z H2 hz s R k
      obtain ⟨b, hb, hpr⟩ := paired_get hp hz
      refine ⟨_, rfl, z, b, rfl, hpr.same s, ?_⟩
      have e : bs.getD i false = b := by rw [List.getD_eq_getElem?_getD, hb]; rfl
      have k1 := k _ (Same.refl _)
      rw [e] at k1
      exact k1
    · intro H1 s1 e1
      rw [lb, range_bl id bs (fun i => bs.getD i false) fun i x hx => by rw [List.getD_eq_getElem?_getD, hx]; rfl] at e1
      refine ⟨D, bs.map id, rfl, SqL.of e1, false, ?_, iteT (q _ s1)⟩
      rw [List.map_id, hb]
  | ok prs =>
    obtain ⟨t, rfl, ⟨as, ht, hp, hi⟩, hl⟩ := hth
    have q' : ∀ H', Same H H' → Q (.bl ((lotB (ps.length : Int) (-1) (prs.map (·.1)) && prs.all fun e => inV e.1 (iv N)) && ((prs.all fun e => wit e.2 1 (p - 1) == some true) &&
      decide (addAll p n.toNat ((sumsOf ps (prs.map fun e => toI e.1)).zip (prs.map fun e => toI e.2)) = unitV n v)))) H' := q
    clear q
    have la : as.length = prs.length := paired_len hp
    have item : ∀ {i : Nat} {z : V}, (as.map V.ref)[i]? = some z → ∃ b e, z = .ref b ∧ prs[i]? = some e ∧ Tp H b [e.1, e.2] := fun {i z} h => by
      rw [List.getElem?_map] at h
      obtain ⟨b, eb, rfl⟩ := Option.map_eq_some_iff.mp h
      obtain ⟨e, he, ht⟩ := paired_get hp eb
      exact ⟨b, e, rfl, he, ht⟩
    have lm : (as.map V.ref).length = prs.length := by rw [List.length_map, la]
    have geD : ∀ {i : Nat} {e : V × V}, prs[i]? = some e → prs.getD i (.non, .non) = e := fun h => by rw [List.getD_eq_getElem?_getD, h]; rfl
    refine ⟨_, rfl, _, _, _, _, true, rfl, .ty _, ht.ty, kit_ty kit_tt, true, rfl, iteF ?_⟩
    refine ⟨_, rfl, t, rfl, ⟨_, ht.sq⟩, fun D1 hD1 => ?_⟩
    refine lcS (plain_t ht.sq) (fun i => .bl true) hD1 (by omega) (fun _ => rfl) ?_ ?_
    · intro i z H2 hz s R k
      obtain ⟨b, e, rfl, he, htp⟩ := item hz
      exact ⟨_, rfl, _, true, rfl, .inr ⟨b, _, rfl, htp.same s, rfl⟩, k _ (Same.refl _)⟩
    intro H1 s1 e1
    rw [lm, range_bl (fun _ => true) prs (fun _ => true) fun i x hx => rfl] at e1
    refine ⟨D1, _, rfl, SqL.of e1, true, by rw [List.all_map]; exact congrArg V.bl (List.all_eq_true.mpr fun _ _ => rfl), iteF ?_⟩
    have ht1 := ht.same s1
    -- is_lot_of
    refine ⟨_, rfl, _, rfl, t, rfl, ⟨_, ht1.sq⟩, fun D2 hD2 => ?_⟩
    refine lcS (plain_t ht1.sq) (fun i => (prs.getD i (.non, .non)).1) hD2 (by omega) (fun _ => rfl) ?_ ?_
    · intro i z H2 hz s R k
      obtain ⟨b, e, rfl, he, htp⟩ := item hz
      have k1 := k _ (Same.refl _)
      rw [geD he] at k1
      exact ⟨_, rfl, b, _, _, _, rfl, rfl, (htp.same (s1.trans s)).sq, atI_nat (j := 0) rfl, k1⟩
    intro H2 s2 e2
    have m1 : (List.range (as.map V.ref).length).map (fun i => (prs.getD i (.non, .non)).1) = prs.map (·.1) := map_range_get lm.symm fun i y hy => by rw [geD hy]
    rw [m1] at e2
    refine .inl ⟨D2, _, rfl, SqL.of e2, fun t2 ht2 => ?_⟩
    have s3 : Same H2 (upd H2 t2 (.tup (prs.map (·.1)))) := same_new ht2 _
    have et2 : Tp (upd H2 t2 (.tup (prs.map (·.1)))) t2 (prs.map (·.1)) := .of upd_same
    generalize upd H2 t2 (.tup (prs.map (·.1))) = H3 at s3 et2 ⊢
    have s13 := (s1.trans s2).trans s3
    refine ⟨x, p, n, Pa, ps, t2, _, rfl, wb.same s13, et2, fun z hz => ?_, ?_⟩
    · obtain ⟨e, he, rfl⟩ := List.mem_map.mp hz
      exact (hi e he).1
    refine ⟨_, rfl, ?_⟩
    cases hA : lotB (ps.length : Int) (-1) (prs.map (·.1)) with
    | false =>
      rw [hA] at q'
      exact iteT (q' _ s13)
    | true =>
      rw [hA] at q'
      refine iteF ?_
      have ht3 := ht.same s13
      refine ⟨_, rfl, t, rfl, ⟨_, ht3.sq⟩, fun D4 hD4 => ?_⟩
      refine lcS (plain_t ht3.sq) (fun i => .bl (inV (prs.getD i (.non, .non)).1 (iv N))) hD4 (by omega) (fun _ => rfl) ?_ ?_
      · intro i z H4 hz s R k
        obtain ⟨b, e, rfl, he, htp⟩ := item hz
        have k1 := k _ (Same.refl _)
        rw [geD he] at k1
        have s14 := s13.trans s
        exact ⟨_, rfl, b, _, _, _, rfl, rfl, (htp.same s14).sq, atI_nat (j := 0) rfl, _, rfl, a, _, rfl, .inr (ha.same s14).sq, isI_flat (hi e (List.mem_of_getElem? he)).1, flat_iv N, k1⟩
      intro H4 s4 e4
      have s14 := s13.trans s4
      rw [lm, range_bl (fun e => inV e.1 (iv N)) prs (fun i => inV (prs.getD i (.non, .non)).1 (iv N)) fun i x hx => by rw [geD hx]] at e4
      refine ⟨D4, _, rfl, SqL.of e4, _, rfl, ?_⟩
      rw [List.all_map]
      show (if (!(prs.all fun e => inV e.1 (iv N))) = true then _ else _)
      cases hB : prs.all fun e => inV e.1 (iv N) with
      | false =>
        rw [hB] at q'
        exact iteT (q' _ s14)
      | true =>
        rw [hB] at q'
        refine iteF ?_
        have ht4 := ht.same s14
        obtain ⟨dx4, gx4⟩ := wb.at_.same s14
        refine ⟨_, rfl, t, rfl, ⟨_, ht4.sq⟩, fun D5 hD5 => ?_⟩
        refine lcS (plain_t ht4.sq) (fun i => .bl (wit (prs.getD i (.non, .non)).2 1 (p - 1) == some true)) hD5 (by omega) (fun _ => rfl) ?_ ?_
        · intro i z H5 hz s5 R k
          obtain ⟨b, e, rfl, he, htp⟩ := item hz
          obtain ⟨c, hc⟩ := wit_some (hi e (List.mem_of_getElem? he)).2 1 (p - 1)
          have k1 := k _ (Same.refl _)
          have ec : (wit e.2 1 (p - 1) == some true) = c := by rw [hc]; cases c <;> rfl
          rw [geD he, ec] at k1
          exact ⟨_, rfl, b, _, _, _, rfl, rfl, (htp.same (s14.trans s5)).sq, atI_nat (j := 1) rfl, _, rfl, x, _, dx4, _, _, rfl, s5 _ _ gx4, E.clsWeb, E.noat 58, webF_prime p n Pa, _, _, rfl, rfl, _, 1, p - 1, c, rfl, hc, k1⟩
        intro H5 s5 e5
        have s15 := s14.trans s5
        rw [lm, range_bl (fun e => wit e.2 1 (p - 1) == some true) prs (fun i => wit (prs.getD i (.non, .non)).2 1 (p - 1) == some true) fun i x hx => by rw [geD hx]] at e5
        refine ⟨D5, _, rfl, SqL.of e5, _, rfl, ?_⟩
        rw [List.all_map]
        show (if (!(prs.all fun e => wit e.2 1 (p - 1) == some true)) = true then _ else _)
        cases hC : prs.all fun e => wit e.2 1 (p - 1) == some true with
        | false =>
          rw [hC] at q'
          exact iteT (q' _ s15)
        | true =>
          rw [hC] at q'
          refine iteF ?_
          have ht5 := ht.same s15
          obtain ⟨dx5, gx5⟩ := wb.at_.same s15
          obtain ⟨pas, g1, g2⟩ := wb.pcs.same s15
          have firsts : ∀ {i : Nat} {e : V × V}, prs[i]? = some e → ∃ j : Nat, e.1 = .int ((j : Nat) : Int) ∧ j < ps.length := fun h => by
            obtain ⟨j, e1, h1, h2⟩ := lotB_mem hA _ (List.mem_map.mpr ⟨_, List.mem_of_getElem? h, rfl⟩)
            exact ⟨j.toNat, by rw [e1]; exact congrArg V.int (by omega), by omega⟩
          have snds : ∀ {i : Nat} {e : V × V}, prs[i]? = some e → e.2 = .int (toI e.2) ∧ 1 ≤ toI e.2 ∧ toI e.2 ≤ p - 1 := fun h => wit_tI (by
            have := List.all_eq_true.mp hC _ (List.mem_of_getElem? h)
            exact eq_of_beq this)
          have hsum : ∀ {i j : Nat} {e : V × V} {q : List Int × Int}, prs[i]? = some e → e.1 = .int ((j : Nat) : Int) → ps[j]? = some q → (sumsOf ps (prs.map fun e => toI e.1))[i]? = some q.1 := fun {i j e q} h1 h2 h3 => by
            refine sumsOf_get (i := j) ?_ h3
            rw [List.getElem?_map, h1]
            show some (toI e.1) = _
            rw [h2]
            rfl
          refine ⟨_, rfl, t, rfl, ⟨_, ht5.sq⟩, fun D6 hD6 => ?_⟩
          have pl5 := plain_t (K := K) ht5.sq
          refine lcG (as.map V.ref).length (fun _ => true) (fun i v H => ∃ sa, v = .ref sa ∧ Tp H sa (iv ((sumsOf ps (prs.map fun (e : V × V) => toI e.1)).getD i []))) (fun i v Ha Hb zs e sb ⟨b, h1, h2⟩ => ⟨b, h1, sb.tp e h2⟩) hD6 (by omega) pl5.go pl5.stop ?_ ?_
          · intro i z Ha Hb hi6 s6 _ yl R k
            obtain ⟨rfl, hz⟩ := pl5.yld i z Ha Hb hi6 s6 yl
            obtain ⟨b, e, rfl, he, htp⟩ := item hz
            refine g_pairS (htp.same (s15.trans s6)).sq (k _ _ rfl (Same.refl _) (fun c k2 => k2 _ (Same.refl _)) fun _ H7 s7 R' k2 => ?_)
            obtain ⟨j, ej, hj⟩ := firsts he
            have s67 := s6.trans s7
            obtain ⟨pa, pq, f1, f2, sa, f3, f4⟩ := pieces_get (paired_mono (fun _ _ z => z.same s67) g2) hj
            have ea : (pas.map V.ref)[j]? = some (.ref pa) := by rw [List.getElem?_map, f1]; rfl
            refine ⟨_, rfl, x, _, dx5, _, _, rfl, s67 _ _ gx5, E.clsWeb, E.noat 60, webF_pieces p n Pa, _, rfl, Pa, _, _, _, rfl, ej, (g1.same s67).sq, atI_nat ea, pa, _, _, _, rfl, rfl, f3.sq, atI_nat (j := 0) rfl, k2 _ _ (Same.refl _) ⟨sa, rfl, ?_⟩⟩
            rw [List.getD_eq_getElem?_getD, hsum he ej f2]
            exact f4
          intro H6 zs s6 e6 pr6
          rw [lm, filter_yes] at pr6
          have lz : zs.length = prs.length := by rw [← paired_len pr6, List.length_range]
          obtain ⟨sas, rfl⟩ : ∃ sas : List Addr, zs = sas.map V.ref := by
            refine all_refs fun z hz => ?_
            obtain ⟨i, hi⟩ := List.mem_iff_getElem?.mp hz
            obtain ⟨_, _, b, h1, _⟩ := paired_get' pr6 hi
            exact ⟨b, h1⟩
          rw [List.length_map] at lz
          have lS : (sumsOf ps (prs.map fun e => toI e.1)).length = prs.length := by rw [sumsOf_len, List.length_map]
          have tps : TpsAt H6 sas (sumsOf ps (prs.map fun e => toI e.1)) := paired_range (by rw [lz, lS]) fun i b e h1 h2 => by
            have hi : i < prs.length := by have := (List.getElem?_eq_some_iff.mp h1).1; omega
            obtain ⟨v, hv, b', h3, h4⟩ := paired_get pr6 (List.getElem?_range hi)
            rw [List.getElem?_map, h1] at hv
            cases hv
            cases h3
            rw [List.getD_eq_getElem?_getD, h2] at h4
            exact h4
          have s16 := s15.trans s6
          have ht6 := ht.same s16
          refine ⟨_, rfl, t, rfl, ⟨_, ht6.sq⟩, fun D7 hD7 => ?_⟩
          have pl6 := plain_t (K := K) ht6.sq
          refine lcM (as.map V.ref).length (fun i => .int ((prs.map fun e => toI e.2).getD i 0)) hD7 (by omega) pl6.go pl6.stop ?_ ?_
          · intro i z Ha Hb hi7 s7 yl R k
            obtain ⟨rfl, hz⟩ := pl6.yld i z Ha Hb hi7 s7 yl
            obtain ⟨b, e, rfl, he, htp⟩ := item hz
            refine g_pairS (htp.same (s16.trans s7)).sq (k _ _ rfl (Same.refl _) fun R' k2 => ⟨_, rfl, ?_⟩)
            have k3 := k2 _ (Same.refl _)
            have : (prs.map fun e => toI e.2).getD i 0 = toI e.2 := by
              rw [List.getD_eq_getElem?_getD, List.getElem?_map, he]
              rfl
            rw [this, ← (snds he).1] at k3
            exact k3
          intro H7 s7 e7
          have ev : (List.range (as.map V.ref).length).map (fun i => V.int ((prs.map fun e => toI e.2).getD i 0)) = iv (prs.map fun e => toI e.2) := by
            rw [← iv_range, List.length_map, List.length_map, la]
          rw [ev] at e7
          have s17 := s16.trans s7
          obtain ⟨dx7, gx7⟩ := wb.at_.same s17
          refine ⟨_, _, rfl, ?_⟩
          have e67 := s7 _ _ e6
          have hpp := wo.pr.bd
          refine ⟨_, rfl, x, _, dx7, _, _, rfl, gx7, E.clsWeb, E.noat 58, webF_prime p n Pa, _, rfl, _, rfl, _, rfl, x, _, dx7, _, _, rfl, gx7, E.clsWeb, E.noat 59, webF_many p n Pa, ?_⟩
          refine ⟨p, D6, D7, n, sas, sumsOf ps (prs.map fun e => toI e.1), prs.map fun e => toI e.2, rfl, by omega, by omega, e67, paired_mono (fun _ _ z => z.same s7) tps, e7, by rw [lS, List.length_map], ?_, ?_, fun u H8 hu s8 hut => ?_⟩
          · intro sm hsm
            obtain ⟨y, hy, rfl⟩ := List.mem_map.mp hsm
            obtain ⟨e, he, rfl⟩ := List.mem_map.mp hy
            obtain ⟨i, hi⟩ := List.mem_iff_getElem?.mp he
            obtain ⟨j, ej, hj⟩ := firsts hi
            rw [ej]
            show (ps.getD (((j : Nat) : Int)).toNat ([], 0)).1.length = n.toNat
            rw [Int.toNat_natCast, List.getD_eq_getElem?_getD, List.getElem?_eq_getElem hj]
            exact (wo.all _ (List.getElem_mem hj)).vec.ln
          · intro tt htt
            obtain ⟨e, he, rfl⟩ := List.mem_map.mp htt
            obtain ⟨i, hi⟩ := List.mem_iff_getElem?.mp he
            have := snds hi
            omega
          have s18 := s17.trans s8
          refine ⟨_, rfl, _, rfl, x, p, n, Pa, v, rfl, wb.at_.same s18, wo.n1, fun u2 H9 hu2 s9 hut2 => ?_⟩
          exact eqT (hut.same s9) hut2 (q' _ (s18.trans s9))
end
end Lf
/-! The law's hand and what is drawn. -/
namespace Lf
open PySem PySem.Spec PyProof.Rows L2
/-- the hand at g -/
def Hd (H : Hp) (g gl : Addr) : Prop := ∃ (cells : List Int) (a b c d : Int), H g = some (.lst [.ref gl, .int a, .int b, .int c, .int d]) ∧ H gl = some (.lst (iv cells)) ∧ cells.length ≤ 1000 ∧ (∀ x ∈ cells, 0 ≤ x) ∧ 0 ≤ a ∧ 0 ≤ b ∧ 0 ≤ c ∧ 0 ≤ d
theorem Hd.same {H H' : Hp} {g gl : Addr} (e : Same H H') (h : Hd H g gl) : Hd H' g gl := by
  obtain ⟨cells, a, b, c, d, h1, h2, h3⟩ := h
  exact ⟨cells, a, b, c, d, e _ _ h1, e _ _ h2, h3⟩
theorem SB.refl {D : Addr} {H : Hp} : SB D H H := fun _ _ _ h => h
theorem SB.trans {D : Addr} {H H' H'' : Hp} (e : SB D H H') (e' : SB D H' H'') : SB D H H'' := fun b o n h => e' b o n (e b o n h)
theorem SB.upd {D : Addr} {H : Hp} {o : HO} : SB D H (upd H D o) := fun b u n h => by rw [upd_ne n]; exact h
/-- one row after the other, by what holds between -/
theorem seq_by {t u : TS} {D : Ends} {σ : L2.St} {H : Hp} (M : L2.St → Hp → Prop) (h1 : ∀ N : L2.St → Hp → Prop, (∀ σ' H', M σ' H' → N σ' H') → t { D with nx := N } σ H) (h2 : ∀ σ' H', M σ' H' → u D σ' H') : tSeq t u D σ H := h1 _ h2
theorem cutV_iv (ns : List Int) (lo hi : Option Int) : ∃ ms, cutV (iv ns) lo hi = iv ms ∧ ms.length ≤ ns.length ∧ ∀ x ∈ ms, x ∈ ns := by
  refine ⟨(ns.drop (HT.sIx (iv ns).length 0 lo)).take (HT.sIx (iv ns).length (iv ns).length hi - HT.sIx (iv ns).length 0 lo), ?_, ?_, fun x hx => List.mem_of_mem_drop (List.mem_of_mem_take hx)⟩
  · unfold cutV iv
    rw [List.map_take, List.map_drop]
  · rw [List.length_take, List.length_drop]
    omega
section
variable {P : Program} {w : World} {K : PySem.W.Frag} {mg : Str → Option Value} {base : Heap}
def spHand (K : PySem.W.Frag) : Sp := fun vs H Q _ => ∃ a ns, vs = [.ref a] ∧ SqL K H a (iv ns) ∧ ns.length ≤ 63 ∧ ∀ g gl H', H g = none → Same H H' → Hd H' g gl → Q (.ref g) H'
abbrev N__law_hand : List Str := ["_law_script", "_law_given", "_law_cell"]
theorem sc__law_hand : FnScope N__law_hand ["_law_script"] d__law_hand.scope := ⟨rfl, rfl, rfl, by decide +kernel, rfl, by decide +kernel, by decide +kernel⟩
theorem cl__law_hand (E : Env K mg) : Cl P w K mg base 1 "_law_hand" ["_law_script"] (spHand K) := by
  refine Cl.of (k := 0) E 24 18 (d := d__law_hand) rfl rfl rfl rfl rfl sc__law_hand (fun vs H Q E' h => by (repeat obtain ⟨_, h⟩ := h); subst_vars; rfl) (fun _ _ _ _ _ _ us hl => match us, hl with | [_], _ => rfl) (fun f cdv A outer s H vs Q E' hr h => ?_)
  obtain ⟨a, ns, rfl, ha, hl, q⟩ := h
  refine ⟨_, (pss_cons (ps_setLc (i := 1) (own := [("_law_cell", 2)]) (g := gName 2) (tt := tYes) rfl sc__law_hand.nd rfl rfl (sw_true rfl rfl rfl (by decide +kernel)) (pi_list (pe_slice sl_list (pv 0) po_none (po_some pe_int))) (blkOk_by (own := [("_law_cell", 2)]) (N := N__law_hand) (sc := d__law_hand.scope) (by decide +kernel)) (fun _ _ _ _ _ => (pg_name (i := 2) sc__law_hand.nd rfl (Or.inl rfl))) (fun _ _ _ _ _ => pts_nil) (fun _ _ _ _ _ => (pe_callB call_abs (by rfl) (E.free 80) (by decide +kernel) (pa_cons (pe_callTy call_int1 (by rfl) (E.free 68) (by decide +kernel) (pa_cons (pv 2) pa_nil)) pa_nil))))
    (pss_one (ps_ret (pe_lst (pa_cons (pv 1) (pa_cons pe_int (pa_cons pe_int (pa_cons (pe_op op_add pe_int (pe_callB call_len_seq (by rfl) (E.free 71) PySem.boot_len (pa_cons (pv 1) pa_nil))) (pa_cons pe_int pa_nil))))))))), ?_⟩
  refine ⟨_, rfl, 63, rfl, a, _, rfl, ha, fun p0 hp0 => ?_⟩
  obtain ⟨ms, em, lm, _⟩ := cutV_iv ns none (some 63)
  rw [em]
  have s1 : Same H (upd H p0 (.lst (iv ms))) := same_new hp0 _
  have e1 : (upd H p0 (.lst (iv ms))) p0 = some (.lst (iv ms)) := upd_same
  generalize upd H p0 (.lst (iv ms)) = H1 at s1 e1 ⊢
  refine ⟨p0, rfl, ⟨_, SqL.of e1⟩, fun D hD => ?_⟩
  refine lcS (plain_l (SqL.of e1)) (fun i => .int (if ms.getD i 0 < 0 then -(ms.getD i 0) else ms.getD i 0)) hD (by rw [iv_len]; omega) (fun _ => rfl) ?_ ?_
  · intro i x H2 hx s R k
    obtain ⟨n, hn, rfl⟩ := iv_get hx
    have k1 := k _ (Same.refl _)
    rw [getD_of hn] at k1
    exact ⟨_, rfl, .inl ⟨n, rfl, n, rfl, k1⟩⟩
  intro H2 s2 e2
  have ev : (List.range (iv ms).length).map (fun i => V.int (if ms.getD i 0 < 0 then -(ms.getD i 0) else ms.getD i 0)) = iv (ms.map fun x => if x < 0 then -x else x) := by
    rw [iv_len, ← List.length_map (f := fun x : Int => if x < 0 then -x else x), ← iv_range]
    refine List.map_congr_left fun i hi => ?_
    have hi' : i < ms.length := by have := List.mem_range.mp hi; rwa [List.length_map] at this
    rw [map_getD (f := fun x : Int => if x < 0 then -x else x) hi']
  rw [ev] at e2
  refine ⟨_, rfl, _, rfl, D, _, rfl, .inl (SqL.of e2), _, _, rfl, rfl, (by show 5 ≤ sizeLine; decide), fun g hg => ?_⟩
  have sA := (s1.trans s2).trans (same_new hg (.lst [.ref D, .int 0, .int 0, .int (1 + ((iv (ms.map fun x => if x < 0 then -x else x)).length : Int)), .int 0]))
  refine q g D _ ((s1.trans s2).free hg) sA ⟨ms.map fun x => if x < 0 then -x else x, 0, 0, 1 + ((iv (ms.map fun x => if x < 0 then -x else x)).length : Int), 0, upd_same, same_new hg _ _ _ e2, by rw [List.length_map]; omega, fun x hx => ?_, Int.le_refl _, Int.le_refl _, by omega, Int.le_refl _⟩
  obtain ⟨y, _, rfl⟩ := List.mem_map.mp hx
  split <;> omega
def spDraw : Sp := fun vs H Q _ => ∃ g gl m, vs = [.ref g, .int m] ∧ Hd H g gl ∧ 0 < m ∧ m ≤ 1000000 ∧ ∀ r H', 0 ≤ r → r < m → SB g H H' → Hd H' g gl → Q (.int r) H'
abbrev N__law_draw : List Str := ["_law_hand_here", "_law_many", "_law_cell", "_law_digit", "_law_number"]
theorem sc__law_draw : FnScope N__law_draw ["_law_hand_here", "_law_many"] d__law_draw.scope := ⟨rfl, rfl, rfl, by decide +kernel, rfl, by decide +kernel, by decide +kernel⟩
theorem cl__law_draw (E : Env K mg) : Cl P w K mg base 1 "_law_draw" ["_law_hand_here", "_law_many"] (spDraw) := by
  refine Cl.of (k := 0) E 25 19 (d := d__law_draw) rfl rfl rfl rfl rfl sc__law_draw (fun vs H Q E' h => by (repeat obtain ⟨_, h⟩ := h); subst_vars; rfl) (fun _ _ _ _ _ _ us hl => match us, hl with | [_, _], _ => rfl) (fun f cdv A outer s H vs Q E' hr h => ?_)
  obtain ⟨g, gl, m, rfl, ⟨cells, a, b, c, d, hg, hgl, hz, hcell, ha, hb, hc, hd⟩, hm, hm2, q⟩ := h
  have ngl : gl ≠ g := fun z => by rw [z, hg] at hgl; cases cells with | nil => cases hgl | cons => cases hgl
  refine ⟨_, (pss_cons (ps_if (PW.pt (pw_and (pt_cmpR op_eq (pe_ix ix_list (pv 0) pe_int (fun _ _ => rfl)) pe_int (nomark _)) (pw_and1 (pt_cmpR op_lt (pe_ix ix_list (pv 0) pe_int (fun _ _ => rfl)) (pe_callB call_len_seq (by rfl) (E.free 71) PySem.boot_len (pa_cons (pe_ix ix_list (pv 0) pe_int (fun _ _ => rfl)) pa_nil)) (nomark _)))))
      (pss_cons (ps_set (i := 2) sc__law_draw.nd rfl (Or.inl rfl) (pe_ix ix_list (pe_ix ix_list (pv 0) pe_int (fun _ _ => rfl)) (pe_ix ix_list (pv 0) pe_int (fun _ _ => rfl)) (fun _ _ => rfl)))
      (pss_cons (ps_asg (pe_op op_add (pe_ix ix_list (pv 0) pe_int (fun _ _ => rfl)) pe_int) (pg_sub (pv 0) pe_int set_list))
      (pss_cons (ps_asg (pe_op op_mod (pe_callTy call_int1 (by rfl) (E.free 68) (by decide +kernel) (pa_cons (pe_op op_add (pe_op op_add (pe_op op_mul (pe_ix ix_list (pv 0) pe_int (fun _ _ => rfl)) pe_int) (pv 2)) pe_int) pa_nil)) pe_int) (pg_sub (pv 0) pe_int set_list))
      (pss_one (ps_if (pt_cmpR op_ge (pv 2) (pe_op op_pow pe_int pe_int) (nomark _))
        (pss_one (ps_asg (pv 2) (pg_sub (pv 0) pe_int set_list)))
        pss_nil)))))
      pss_nil)
    (pss_cons (ps_if (pt_cmpR op_gt (pe_ix ix_list (pv 0) pe_int (fun _ _ => rfl)) pe_int (nomark _))
      (pss_cons (ps_set (i := 3) sc__law_draw.nd rfl (Or.inl rfl) (pe_op op_mod (pe_callTy call_int1 (by rfl) (E.free 68) (by decide +kernel) (pa_cons (pe_ix ix_list (pv 0) pe_int (fun _ _ => rfl)) pa_nil)) (pv 1)))
      (pss_cons (ps_asg (pe_op op_fdiv (pe_ix ix_list (pv 0) pe_int (fun _ _ => rfl)) (pv 1)) (pg_sub (pv 0) pe_int set_list))
      (pss_one (ps_ret (pv 3)))))
      pss_nil)
    (pss_cons (ps_asg (pe_op op_add (pe_ix ix_list (pv 0) pe_int (fun _ _ => rfl)) pe_int) (pg_sub (pv 0) pe_int set_list))
    (pss_cons (ps_set (i := 4) sc__law_draw.nd rfl (Or.inl rfl) (pe_op op_mod (pe_callTy call_int1 (by rfl) (E.free 68) (by decide +kernel) (pa_cons (pe_op op_mul (pe_callTy call_int1 (by rfl) (E.free 68) (by decide +kernel) (pa_cons (pe_op op_add (pe_ix ix_list (pv 0) pe_int (fun _ _ => rfl)) (pe_op op_mul pe_int (pe_ix ix_list (pv 0) pe_int (fun _ _ => rfl)))) pa_nil)) pe_int) pa_nil)) pe_int))
    (pss_cons (ps_set (i := 4) sc__law_draw.nd rfl (Or.inl rfl) (pe_op op_mod (pe_callTy call_int1 (by rfl) (E.free 68) (by decide +kernel) (pa_cons (pe_op op_mul (pv 4) (pe_op op_add (pe_op op_fdiv (pv 4) pe_int) pe_int)) pa_nil)) pe_int))
    (pss_cons (ps_set (i := 4) sc__law_draw.nd rfl (Or.inl rfl) (pe_op op_mod (pe_callTy call_int1 (by rfl) (E.free 68) (by decide +kernel) (pa_cons (pe_op op_mul (pv 4) (pe_op op_add (pe_op op_fdiv (pv 4) pe_int) pe_int)) pa_nil)) pe_int))
    (pss_one (ps_ret (pe_op op_mod (pe_callTy call_int1 (by rfl) (E.free 68) (by decide +kernel) (pa_cons (pe_op op_fdiv (pv 4) pe_int) pa_nil)) (pv 1)))))))))), ?_⟩
  refine seq_by (fun σ' H' => ∃ v2 a b c d, σ' = [some (.ref g), some (.int m), v2, none, none] ∧ H' g = some (.lst [.ref gl, .int a, .int b, .int c, .int d]) ∧ 0 ≤ a ∧ 0 ≤ b ∧ 0 ≤ c ∧ 0 ≤ d ∧ SB g H H') (fun N k => ?_) ?_
  · refine ⟨_, rfl, g, _, _, _, rfl, rfl, SqL.of hg, atI_nat (j := 2) rfl, rfl, _, rfl, ?_⟩
    by_cases c1 : b = 0
    · refine (if_pos ?_).mpr ?_
      · rw [dec_vi]
        exact decide_eq_true c1
      refine ⟨_, rfl, g, _, _, _, rfl, rfl, SqL.of hg, atI_nat (j := 1) rfl, _, rfl, g, _, _, _, rfl, rfl, SqL.of hg, atI_nat (j := 0) rfl, gl, _, rfl, .inl (SqL.of hgl), _, _, rfl, rfl, _, rfl, ?_⟩
      by_cases c2 : a < (cells.length : Int)
      · refine (if_pos ?_).mpr ?_
        · rw [iv_len]
          exact decide_eq_true c2
        obtain ⟨j, rfl⟩ : ∃ j : Nat, a = ((j : Nat) : Int) := ⟨a.toNat, by omega⟩
        have hj : j < cells.length := by omega
        have hcj := hcell _ (List.getElem_mem hj)
        refine ⟨_, rfl, g, _, _, _, rfl, rfl, SqL.of hg, atI_nat (j := 0) rfl, _, rfl, g, _, _, _, rfl, rfl, SqL.of hg, atI_nat (j := 1) rfl, gl, _, _, _, rfl, rfl, SqL.of hgl, atI_nat (iv_at (List.getElem?_eq_getElem hj)), ?_⟩
        generalize cells[j] = cell at hcj ⊢
        refine ⟨_, rfl, g, _, _, _, rfl, rfl, SqL.of hg, atI_nat (j := 1) rfl, _, _, rfl, rfl, _, rfl, g, _, _, 1, rfl, rfl, hg, rfl, ?_⟩
        refine ⟨_, rfl, g, _, _, _, rfl, rfl, SqL.of upd_same, atI_nat (j := 3) rfl, _, _, rfl, rfl, .inr ⟨by omega, by omega⟩, _, rfl, _, _, rfl, rfl, _, _, rfl, rfl, .inl ⟨_, rfl, _, _, rfl, rfl, (by show (0 : Int) < 2147483629; omega), _, rfl, g, _, _, 3, rfl, rfl, upd_same, rfl, ?_⟩⟩
        have h3 : 0 ≤ (c * 69621 + cell + 11) % 2147483629 := Int.emod_nonneg _ (by omega)
        refine ⟨_, rfl, _, _, rfl, rfl, ⟨by omega, by omega, by decide⟩, _, _, rfl, rfl, _, rfl, ?_⟩
        by_cases c3 : (10 : Int) ^ ((18 : Int).toNat) ≤ cell
        · refine (if_pos (decide_eq_true c3)).mpr ?_
          refine ⟨_, rfl, _, rfl, g, _, _, 2, rfl, rfl, upd_same, rfl, k _ _ ⟨_, ((j : Nat) : Int) + 1, cell, _, d, rfl, upd_same, by omega, hcj, h3, hd, ?_⟩⟩
          exact (SB.upd.trans SB.upd).trans SB.upd
        · refine (if_neg (fun z => c3 (of_decide_eq_true z))).mpr ?_
          exact k _ _ ⟨_, ((j : Nat) : Int) + 1, b, _, d, rfl, upd_same, by omega, hb, h3, hd, SB.upd.trans SB.upd⟩
      · refine (if_neg ?_).mpr ?_
        · rw [iv_len]
          exact fun z => c2 (of_decide_eq_true z)
        exact k _ _ ⟨_, a, b, c, d, rfl, hg, ha, hb, hc, hd, SB.refl⟩
    · refine (if_neg ?_).mpr ?_
      · rw [dec_vi]
        exact fun z => c1 (of_decide_eq_true z)
      exact k _ _ ⟨_, a, b, c, d, rfl, hg, ha, hb, hc, hd, SB.refl⟩
  rintro σ' H1 ⟨v2, a, b, c, d, rfl, hg1, ha, hb, hc, hd, sb⟩
  have hgl1 := sb _ _ ngl hgl
  clear hg hgl
  refine ⟨_, rfl, g, _, _, _, rfl, rfl, SqL.of hg1, atI_nat (j := 2) rfl, _, _, rfl, rfl, _, rfl, ?_⟩
  by_cases c1 : 0 < b
  · refine (if_pos (decide_eq_true c1)).mpr ?_
    refine ⟨_, rfl, g, _, _, _, rfl, rfl, SqL.of hg1, atI_nat (j := 2) rfl, .inl ⟨_, rfl, _, rfl, _, _, rfl, rfl, hm, ?_⟩⟩
    refine ⟨_, rfl, g, _, _, _, rfl, rfl, SqL.of hg1, atI_nat (j := 2) rfl, _, rfl, _, _, rfl, rfl, ⟨hm, by omega⟩, _, rfl, g, _, _, 2, rfl, rfl, hg1, rfl, ?_⟩
    refine ⟨_, rfl, q _ _ (Int.emod_nonneg _ (by omega)) (Int.emod_lt_of_pos _ hm) (sb.trans SB.upd) ⟨cells, a, b / m, c, d, upd_same, by rw [upd_ne ngl]; exact hgl1, hz, hcell, ha, Int.ediv_nonneg hb (by omega), hc, hd⟩⟩
  · refine (if_neg (fun z => c1 (of_decide_eq_true z))).mpr ?_
    refine ⟨_, rfl, g, _, _, _, rfl, rfl, SqL.of hg1, atI_nat (j := 4) rfl, _, _, rfl, rfl, _, rfl, g, _, _, 4, rfl, rfl, hg1, rfl, ?_⟩
    have hg2 : (upd H1 g (.lst ([V.ref gl, .int a, .int b, .int c, .int d].set 4 (.int (d + 1))))) g = some (.lst [.ref gl, .int a, .int b, .int c, .int (d + 1)]) := upd_same
    have sb2 : SB g H (upd H1 g (.lst ([V.ref gl, .int a, .int b, .int c, .int d].set 4 (.int (d + 1))))) := sb.trans SB.upd
    have hgl2 := SB.upd (D := g) (o := .lst ([V.ref gl, .int a, .int b, .int c, .int d].set 4 (.int (d + 1)))) _ _ ngl hgl1
    generalize upd H1 g (.lst ([V.ref gl, .int a, .int b, .int c, .int d].set 4 (.int (d + 1)))) = H2 at hg2 sb2 hgl2 ⊢
    refine ⟨_, rfl, g, _, _, _, rfl, rfl, SqL.of hg2, atI_nat (j := 3) rfl, _, rfl, g, _, _, _, rfl, rfl, SqL.of hg2, atI_nat (j := 4) rfl, _, _, rfl, rfl, .inl ⟨by omega, by omega⟩, _, _, rfl, rfl, .inl ⟨_, rfl, _, _, rfl, rfl, .inr ⟨by omega, by omega⟩, .inl ⟨_, rfl, _, _, rfl, rfl, (by show (0 : Int) < 2147483647; omega), ?_⟩⟩⟩
    have r1 : ∀ z : Int, 0 ≤ z % 2147483647 ∧ z % 2147483647 < 2147483647 := fun z => ⟨Int.emod_nonneg _ (by omega), Int.emod_lt_of_pos _ (by omega)⟩
    have r2 : ∀ z : Int, 0 ≤ z % 2147483399 ∧ z % 2147483399 < 2147483399 := fun z => ⟨Int.emod_nonneg _ (by omega), Int.emod_lt_of_pos _ (by omega)⟩
    have b1 := r1 ((c + 7919 * (d + 1)) * 48271)
    generalize (c + 7919 * (d + 1)) * 48271 % 2147483647 = n1 at b1 ⊢
    refine ⟨_, rfl, _, rfl, _, _, rfl, rfl, ⟨by omega, by omega⟩, _, _, rfl, rfl, _, _, rfl, rfl, .inl ⟨by omega, by omega⟩, .inl ⟨_, rfl, _, _, rfl, rfl, (by show (0 : Int) < 2147483647; omega), ?_⟩⟩
    have b2 := r1 (n1 * (n1 / 1009 + 69621))
    generalize n1 * (n1 / 1009 + 69621) % 2147483647 = n2 at b2 ⊢
    refine ⟨_, rfl, _, rfl, _, _, rfl, rfl, ⟨by omega, by omega⟩, _, _, rfl, rfl, _, _, rfl, rfl, .inl ⟨by omega, by omega⟩, .inl ⟨_, rfl, _, _, rfl, rfl, (by show (0 : Int) < 2147483399; omega), ?_⟩⟩
    generalize n2 * (n2 / 2003 + 40692) % 2147483399 = n3
    refine ⟨_, rfl, _, _, rfl, rfl, ⟨by omega, by omega⟩, .inl ⟨_, rfl, _, rfl, _, _, rfl, rfl, hm, ?_⟩⟩
    exact q _ _ (Int.emod_nonneg _ (by omega)) (Int.emod_lt_of_pos _ hm) sb2 ⟨cells, a, b, c, d + 1, hg2, hgl2, hz, hcell, ha, hb, hc, by omega⟩
def spAny : Sp := fun vs H Q _ => ∃ g gl l xs, vs = [.ref g, .ref l] ∧ Hd H g gl ∧ l ≠ g ∧ H l = some (.lst xs) ∧ xs ≠ [] ∧ xs.length ≤ 1000 ∧ ∀ x H', x ∈ xs → SB g H H' → Hd H' g gl → Q x H'
abbrev N__law_any : List Str := ["_law_hand_here", "_law_some"]
theorem sc__law_any : FnScope N__law_any ["_law_hand_here", "_law_some"] d__law_any.scope := ⟨rfl, rfl, rfl, by decide +kernel, rfl, by decide +kernel, by decide +kernel⟩
theorem cl__law_any (E : Env K mg) : Cl P w K mg base 2 "_law_any" ["_law_hand_here", "_law_some"] (spAny) := by
  refine Cl.of (k := 1) E 26 20 (d := d__law_any) rfl rfl rfl rfl rfl sc__law_any (fun vs H Q E' h => by (repeat obtain ⟨_, h⟩ := h); subst_vars; rfl) (fun _ _ _ _ _ _ us hl => match us, hl with | [_, _], _ => rfl) (fun f cdv A outer s H vs Q E' hr h => ?_)
  obtain ⟨g, gl, l, xs, rfl, hd, hlg, hl, hx, hz, q⟩ := h
  refine ⟨_, (pss_one (ps_ret (pe_ix ix_list (pv 1) (pe_c (cl__law_draw E) (hr.mono (by decide)) rfl (pa_cons (pv 0) (pa_cons (pe_callB call_len_seq (by rfl) (E.free 71) PySem.boot_len (pa_cons (pv 1) pa_nil)) pa_nil))) (fun _ _ => rfl)))), ?_⟩
  have hp := List.length_pos_iff.mpr hx
  refine ⟨_, rfl, _, rfl, _, rfl, l, _, rfl, .inl (SqL.of hl), g, gl, _, rfl, hd, by omega, by omega, fun r H1 h0 h1 sb hd1 => ?_⟩
  obtain ⟨j, rfl⟩ : ∃ j : Nat, r = ((j : Nat) : Int) := ⟨r.toNat, by omega⟩
  have hj : j < xs.length := by omega
  exact ⟨l, _, _, _, rfl, rfl, SqL.of (sb _ _ hlg hl), atI_nat (List.getElem?_eq_getElem hj), q _ _ (List.getElem_mem hj) sb hd1⟩
end
end Lf
/-! The law's own small defs. -/
namespace Lf
open PySem PySem.Spec PyProof.Rows L2
section
variable {P : Program} {w : World} {K : PySem.W.Frag} {mg : Str → Option Value} {base : Heap}
abbrev N__law_is_int : List Str := ["_law_thing", "_law_least", "_law_most"]
theorem sc__law_is_int : FnScope N__law_is_int ["_law_thing", "_law_least", "_law_most"] d__law_is_int.scope := ⟨rfl, rfl, rfl, by decide +kernel, rfl, by decide +kernel, by decide +kernel⟩
theorem cl__law_is_int (E : Env K mg) : Cl P w K mg base 1 "_law_is_int" ["_law_thing", "_law_least", "_law_most"] (spIsWithin) := by
  refine Cl.of (k := 0) E 27 21 (d := d__law_is_int) rfl rfl rfl rfl rfl sc__law_is_int (fun vs H Q E' h => by (repeat obtain ⟨_, h⟩ := h); subst_vars; rfl) (fun _ _ _ _ _ _ us hl => match us, hl with | [_, _, _], _ => rfl) (fun f cdv A outer s H vs Q E' hr h => ?_)
  obtain ⟨x, lo, hi, b, rfl, hx, q⟩ := h
  refine ⟨_, (pss_one (ps_ret (pe_and (pe_callB call_isi (by rfl) (E.free 67) (by decide +kernel) (pa_cons (pv 0) (pa_cons (pe_bltn (v := .ty "int") (by rfl) (E.free 68) (by decide +kernel) rfl) pa_nil))) (pe_and (pe_not (pe_callB call_isi (by rfl) (E.free 67) (by decide +kernel) (pa_cons (pv 0) (pa_cons (pe_bltn (v := .ty "bool") (by rfl) (E.free 69) (by decide +kernel) rfl) pa_nil)))) (pe_one (pe_chain op_le op_le (pv 1) (pv 0) (pv 2))))))), ?_⟩
  cases x with
  | int i =>
    cases hx
    refine ⟨_, rfl, _, _, _, _, true, rfl, .ty _, .base (.int i), kit_ty (by decide +kernel), true, rfl, iteT ?_⟩
    refine ⟨_, rfl, _, _, _, _, false, rfl, .ty _, .base (.int i), kit_ty (by decide +kernel), false, rfl, true, rfl, iteT ?_⟩
    refine ⟨_, rfl, _, rfl, _, _, rfl, rfl, _, rfl, ?_⟩
    by_cases c : lo ≤ i
    · rw [decide_eq_true c] at q ⊢
      exact iteT ⟨_, rfl, _, _, rfl, rfl, q⟩
    · rw [decide_eq_false c] at q ⊢
      exact iteF q
  | bl i =>
    cases hx
    refine ⟨_, rfl, _, _, _, _, true, rfl, .ty _, .base (.bl i), kit_ty (by decide +kernel), true, rfl, iteT ?_⟩
    exact ⟨_, rfl, _, _, _, _, true, rfl, .ty _, .base (.bl i), kit_ty (by decide +kernel), true, rfl, false, rfl, iteF q⟩
  | _ => cases hx
def spTimes (K : PySem.W.Frag) : Sp := fun vs H Q _ => ∃ p a t c row oth b, vs = [.int p, .ref a, .int t, .ref c] ∧ 0 < p ∧ (-(2 ^ 64) < t ∧ t < 2 ^ 64) ∧ H a = some (.lst (iv row)) ∧ Sq K H b c (iv oth) ∧ row.length = oth.length ∧ row.length ≤ 1000 ∧ NewL H (iv (addT p row t oth)) Q
abbrev N__law_times : List Str := ["_law_prime_here", "_law_row", "_law_times_here", "_law_other", "_law_one", "_law_two"]
theorem sc__law_times : FnScope N__law_times ["_law_prime_here", "_law_row", "_law_times_here", "_law_other"] d__law_times.scope := ⟨rfl, rfl, rfl, by decide +kernel, rfl, by decide +kernel, by decide +kernel⟩
theorem cl__law_times (E : Env K mg) : Cl P w K mg base 1 "_law_times" ["_law_prime_here", "_law_row", "_law_times_here", "_law_other"] (spTimes K) := by
  refine Cl.of (k := 0) E 34 28 (d := d__law_times) rfl rfl rfl rfl rfl sc__law_times (fun vs H Q E' h => by (repeat obtain ⟨_, h⟩ := h); subst_vars; rfl) (fun _ _ _ _ _ _ us hl => match us, hl with | [_, _, _, _], _ => rfl) (fun f cdv A outer s H vs Q E' hr h => ?_)
  obtain ⟨p, a, t, c, row, oth, b, rfl, hp, ht, ha, hc, hl, hz, q⟩ := h
  refine ⟨_, (pss_one (ps_ret (pe_lc (own := [("_law_one", 4), ("_law_two", 5)]) (g := gTup K 2 (gCons (gName 4) (gCons (gName 5) gNil))) (tt := tYes) rfl sc__law_times.nd (pi_zipM (by rfl) (E.free 75) (pa_cons (pv 1) (pa_cons (pv 3) pa_nil))) (blkOk_by (own := [("_law_one", 4), ("_law_two", 5)]) (N := N__law_times) (sc := d__law_times.scope) (by decide +kernel)) (fun _ _ _ _ _ => (pg_tup rfl (pgs_cons (pg_name (i := 4) sc__law_times.nd rfl (Or.inl rfl)) (pgs_cons (pg_name (i := 5) sc__law_times.nd rfl (Or.inl rfl)) pgs_nil)))) (fun _ _ _ _ _ => pts_nil) (fun _ _ _ _ _ => (pe_op op_mod (pe_callTy call_int1 (by rfl) (E.free 68) (by decide +kernel) (pa_cons (pe_op op_add (pv 4) (pe_op op_mul (pv 2) (pv 5))) pa_nil)) (pv 0)))))), ?_⟩
  refine ⟨_, rfl, _, rfl, a, c, _, _, true, b, rfl, Sq.lo ha, hc, fun D hD => ?_⟩
  refine lcZ (L := addT p row t oth) hD (by omega) hl (addT_length hl) (Sq.lo ha) hc (fun _ _ => rfl) ?_ fun H1 s e => q D H1 hD s e
  intro i x y z H2 hx hy hz2 s R k
  rw [addT_get hx hy] at hz2
  cases hz2
  exact ⟨_, rfl, _, rfl, _, rfl, _, _, rfl, rfl, .inl ht, _, _, rfl, rfl, .inl ⟨_, rfl, _, rfl, _, _, rfl, rfl, hp, k⟩⟩
abbrev N__law_inverse : List Str := ["_law_prime_here", "_law_value", "_law_one"]
theorem sc__law_inverse : FnScope N__law_inverse ["_law_prime_here", "_law_value"] d__law_inverse.scope := ⟨rfl, rfl, rfl, by decide +kernel, rfl, by decide +kernel, by decide +kernel⟩
theorem cl__law_inverse (E : Env K mg) : Cl P w K mg base 1 "_law_inverse" ["_law_prime_here", "_law_value"] (spInverse) := by
  refine Cl.of (k := 0) E 35 29 (d := d__law_inverse) rfl rfl rfl rfl rfl sc__law_inverse (fun vs H Q E' h => by (repeat obtain ⟨_, h⟩ := h); subst_vars; rfl) (fun _ _ _ _ _ _ us hl => match us, hl with | [_, _], _ => rfl) (fun f cdv A outer s H vs Q E' hr h => ?_)
  obtain ⟨p, v, rfl, hp, h0, h1, q⟩ := h
  have bd := hp.bd
  refine ⟨_, (pss_one (ps_ret (pe_ix ix_list (pe_lc (own := [("_law_one", 2)]) (g := gName 2) rfl sc__law_inverse.nd (pi_range2 (by rfl) (E.free 74) (pa_cons pe_int (pa_cons (pv 0) pa_nil))) (blkOk_by (own := [("_law_one", 2)]) (N := N__law_inverse) (sc := d__law_inverse.scope) (by decide +kernel)) (fun _ _ _ _ _ => (pg_name (i := 2) sc__law_inverse.nd rfl (Or.inl rfl))) (fun _ _ _ _ _ => (pts_one (pt_cmpR op_eq (pe_op op_mod (pe_callTy call_int1 (by rfl) (E.free 68) (by decide +kernel) (pa_cons (pe_op op_mul (pv 2) (pv 1)) pa_nil)) (pv 0)) pe_int (nomark _)))) (fun _ _ _ _ _ => (pv 2))) pe_int (fun _ _ => rfl)))), ?_⟩
  refine ⟨_, rfl, 1, p, rfl, ⟨by decide, by decide, by omega, by omega⟩, fun D hD => ?_⟩
  refine lcF (p - 1).toNat (fun i => decide ((1 + (i : Int)) * v % p = 1)) (fun i => .int (1 + (i : Int))) hD (by omega) (fun i H hi _ => hi) (fun H _ => Nat.le_refl _) ?_ ?_
  · rintro i x H1 H2 hi s ⟨rfl, rfl⟩ R k
    refine k _ _ rfl (Same.refl _) (fun c k2 => ?_) fun _ H3 s3 R' k2 => ⟨_, rfl, k2 _ (Same.refl _)⟩
    refine ⟨_, rfl, _, rfl, _, _, rfl, rfl, .inl ⟨by omega, by omega⟩, .inl ⟨_, rfl, _, rfl, _, _, rfl, rfl, (by show (0 : Int) < p; omega), rfl, _, rfl, ?_⟩⟩
    rw [dec_vi]
    exact k2 _ (Same.refl _)
  · intro H1 s e
    obtain ⟨i, r, ei⟩ := invs_ne hp h0 h1
    have e2 : (List.range (p - 1).toNat).filter (fun (i : Nat) => decide ((1 + (i : Int)) * v % p = 1)) = i :: r := ei
    rw [e2] at e
    refine ⟨_, _, _, _, rfl, rfl, SqL.of e, atI_nat (j := 0) rfl, ?_⟩
    have e3 : inv p v = 1 + (i : Int) := by
      unfold inv
      rw [ei]
      rfl
    have q1 := q _ s
    rw [e3] at q1
    exact q1
def spUnit : Sp := fun vs H Q _ => ∃ n v, vs = [.int n, .int v] ∧ (1 ≤ n ∧ n ≤ 10) ∧ NewTp H (iv (unitV n v)) Q
abbrev N__law_unit : List Str := ["_law_many", "_law_version", "_law_place"]
theorem sc__law_unit : FnScope N__law_unit ["_law_many", "_law_version"] d__law_unit.scope := ⟨rfl, rfl, rfl, by decide +kernel, rfl, by decide +kernel, by decide +kernel⟩
theorem cl__law_unit (E : Env K mg) : Cl P w K mg base 1 "_law_unit" ["_law_many", "_law_version"] (spUnit) := by
  refine Cl.of (k := 0) E 41 35 (d := d__law_unit) rfl rfl rfl rfl rfl sc__law_unit (fun vs H Q E' h => by (repeat obtain ⟨_, h⟩ := h); subst_vars; rfl) (fun _ _ _ _ _ _ us hl => match us, hl with | [_, _], _ => rfl) (fun f cdv A outer s H vs Q E' hr h => ?_)
  obtain ⟨n, v, rfl, hn, q⟩ := h
  refine ⟨_, (pss_one (ps_ret (pe_tupleOf (by rfl) (E.free 70) (pe_lc (own := [("_law_place", 2)]) (g := gName 2) (tt := tYes) rfl sc__law_unit.nd (pi_range1 (by rfl) (E.free 74) (pa_cons (pv 0) pa_nil)) (blkOk_by (own := [("_law_place", 2)]) (N := N__law_unit) (sc := d__law_unit.scope) (by decide +kernel)) (fun _ _ _ _ _ => (pg_name (i := 2) sc__law_unit.nd rfl (Or.inl rfl))) (fun _ _ _ _ _ => pts_nil) (fun _ _ _ _ _ => (pe_callTy call_int1 (by rfl) (E.free 68) (by decide +kernel) (pa_cons (pe_cmpR op_eq (pv 2) (pv 1) (nomark _)) pa_nil))))))), ?_⟩
  refine ⟨_, rfl, n, rfl, by omega, by omega, fun D hD => ?_⟩
  refine lcM n.toNat (fun i => .int (if (i : Int) = v then 1 else 0)) hD (by omega) (fun i H' hi _ => hi) (fun H' _ => Nat.le_refl _) ?_ ?_
  · rintro i y H1 H2 hi s ⟨rfl, rfl⟩ R k
    refine k _ _ rfl (Same.refl _) fun R' k2 => ?_
    refine ⟨_, rfl, _, rfl, rfl, .inr ⟨_, rfl, ?_⟩⟩
    have e : (if decide (V.int (0 + (i : Int)) = V.int v) = true then (1 : Int) else 0) = if (i : Int) = v then 1 else 0 := by
      rw [dec_vi, Int.zero_add]
      by_cases c : (i : Int) = v
      · rw [if_pos c, if_pos (decide_eq_true c)]
      · rw [if_neg c, if_neg (by simpa using c)]
    rw [e]
    exact k2 _ (Same.refl _)
  · intro H1 s e
    refine .inl ⟨D, _, rfl, SqL.of e, fun t ht => ?_⟩
    have e2 : (List.range n.toNat).map (fun (i : Nat) => V.int (if (i : Int) = v then 1 else 0)) = iv (unitV n v) := by
      unfold unitV iv
      rw [List.map_map]
      rfl
    rw [e2]
    exact q.lay s t ht
def spPrime : Sp := fun vs H Q _ => ∃ g gl, vs = [.ref g] ∧ Hd H g gl ∧ ∀ p H', PrimeOk p → SB g H H' → Hd H' g gl → Q (.int p) H'
abbrev N__law_prime : List Str := ["_law_hand_here"]
theorem sc__law_prime : FnScope N__law_prime ["_law_hand_here"] d__law_prime.scope := ⟨rfl, rfl, rfl, by decide +kernel, rfl, by decide +kernel, by decide +kernel⟩
theorem cl__law_prime (E : Env K mg) : Cl P w K mg base 3 "_law_prime" ["_law_hand_here"] (spPrime) := by
  refine Cl.of (k := 2) E 30 24 (d := d__law_prime) rfl rfl rfl rfl rfl sc__law_prime (fun vs H Q E' h => by (repeat obtain ⟨_, h⟩ := h); subst_vars; rfl) (fun _ _ _ _ _ _ us hl => match us, hl with | [_], _ => rfl) (fun f cdv A outer s H vs Q E' hr h => ?_)
  obtain ⟨g, gl, rfl, hd, q⟩ := h
  refine ⟨_, (pss_one (ps_ret (pe_c (cl__law_any E) (hr.mono (by decide)) rfl (pa_cons (pv 0) (pa_cons (pe_lst (pa_cons pe_int (pa_cons pe_int (pa_cons pe_int (pa_cons pe_int (pa_cons pe_int (pa_cons pe_int (pa_cons pe_int (pa_cons pe_int (pa_cons pe_int (pa_cons pe_int (pa_cons pe_int (pa_cons pe_int (pa_cons pe_int (pa_cons pe_int pa_nil))))))))))))))) pa_nil))))), ?_⟩
  refine ⟨_, rfl, (by show 14 ≤ sizeLine; decide), fun l hl => ?_⟩
  have hg : H g ≠ none := by
    obtain ⟨_, _, _, _, _, e, _⟩ := hd
    rw [e]
    exact fun z => by cases z
  have lg : l ≠ g := fun z => hg (z ▸ hl)
  refine ⟨g, gl, l, iv [2, 2, 2, 3, 3, 3, 5, 5, 7, 11, 13, 31, 97, 251], rfl, hd.same (same_new hl _), lg, upd_same, by decide, by decide, fun x H1 hx sb hd1 => ?_⟩
  obtain ⟨y, hy, rfl⟩ := List.mem_map.mp hx
  have : ∀ y ∈ ([2, 2, 2, 3, 3, 3, 5, 5, 7, 11, 13, 31, 97, 251] : List Int), y ∈ primes := by decide +kernel
  exact q y H1 (this y hy) ((Same.sb (same_new hl _)).trans sb) hd1
end
end Lf
/-! Sums that are drawn. -/
namespace Lf
open PySem PySem.Spec PyProof.Rows L2
theorem Hd.ne {H : Hp} {g gl D : Addr} (h : Hd H g gl) (hD : H D = none) : D ≠ g := fun z => by
  obtain ⟨_, _, _, _, _, e, _⟩ := h
  rw [← z, hD] at e
  cases e
theorem Hd.ne_iv {H : Hp} {g gl l : Addr} {ns : List Int} (h : Hd H g gl) (e : H l = some (.lst (iv ns))) : l ≠ g := fun z => by
  obtain ⟨_, _, _, _, _, e1, _⟩ := h
  rw [z, e1] at e
  cases ns with
  | nil => cases e
  | cons => cases e
theorem Hd.ne_refs {H : Hp} {g gl l : Addr} {as : List Addr} (h : Hd H g gl) (e : H l = some (.lst (as.map V.ref))) : l ≠ g := fun z => by
  obtain ⟨_, _, _, _, _, e1, _⟩ := h
  rw [z, e1] at e
  match as, e with
  | [], e => cases e
  | [_], e => cases e
  | _ :: _ :: _, e => cases e
theorem Hd.tp {H H' : Hp} {g gl p : Addr} {xs : List V} (h : Hd H g gl) (sb : SB g H H') (t : Tp H p xs) : Tp H' p xs := by
  obtain ⟨_, _, _, _, _, e1, _⟩ := h
  exact sb.tp e1 t
theorem Hd.nl {H : Hp} {g gl D : Addr} (h : Hd H g gl) (hD : H D = none) : D ≠ gl := fun z => by
  obtain ⟨_, _, _, _, _, _, e, _⟩ := h
  rw [← z, hD] at e
  cases e
theorem Hd.upd {H : Hp} {g gl D : Addr} {o : HO} (h : Hd H g gl) (n1 : D ≠ g) (n2 : D ≠ gl) : Hd (upd H D o) g gl := by
  obtain ⟨cells, a, b, c, d, h1, h2, h3⟩ := h
  exact ⟨cells, a, b, c, d, by rw [upd_ne n1.symm]; exact h1, by rw [upd_ne n2.symm]; exact h2, h3⟩
/-- what is new after was new before -/
theorem Hd.back {H H' : Hp} {g gl t : Addr} (h : Hd H' g gl) (sb : SB g H H') (ht : H' t = none) : H t = none := by
  cases e : H t with
  | none => rfl
  | some o =>
    by_cases c : t = g
    · exact absurd c (h.ne ht)
    · rw [sb t o c e] at ht
      cases ht
theorem if_by {tt : TT} {t u : TS} {D : Ends} {σ : L2.St} {H : Hp} (M : Bool → Hp → Prop) (h1 : ∀ K : Bool → Hp → Prop, (∀ c H', M c H' → K c H') → tt σ H K) (h2 : ∀ H', M true H' → t D σ H') (h3 : ∀ H', M false H' → u D σ H') : tIfS tt t u D σ H := by
  refine h1 _ fun c H' m => ?_
  cases c with
  | true => exact iteT (h2 H' m)
  | false => exact iteF (h3 H' m)
theorem rep_iv (w : Nat) : (List.replicate w [V.int 0]).flatten = iv (List.replicate w 0) := by
  rw [← replicate_iv]
  induction w with
  | zero => rfl
  | succ k ih => rw [List.replicate_succ, List.flatten_cons, ih, List.replicate_succ]; rfl
theorem ixN_nat {n j : Nat} (h : j < n) : ixN n (j : Int) = some j := by
  unfold ixN
  rw [if_pos (by omega), if_pos (by omega)]
  simp
/-- a comprehension over a range in whose turns is drawn -/
theorem lcD {tt : TT} {te : TE} {vs : List Nat} {σ : L2.St} {H1 : Hp} {D gg gl : Addr} {Qd : Hp → Prop} {j n : Nat} {lo : Int} (hD : H1 D = none) (hd0 : Hd H1 gg gl) (hn : n ≤ 100000) (hw : ∀ x, wipe ((wipe σ vs).set j x) vs = wipe σ vs)
    (R : Nat → List Int → Prop) (h0 : R 0 []) (hl : ∀ i ys, R i ys → ys.length ≤ i)
    (ht : ∀ (i : Nat) (H2 : Hp) (ys : List Int), i < n → SB gg H1 H2 → Hd H2 gg gl → R i ys → ∀ K : Bool → Hp → Prop, (∀ b H3, SB gg H2 H3 → Hd H3 gg gl → (b = false → R (i + 1) ys) → K b H3) → tt ((wipe σ vs).set j (some (.int (lo + (i : Int))))) H2 K)
    (hs : ∀ (i : Nat) (H2 : Hp) (ys : List Int), i < n → SB gg H1 H2 → Hd H2 gg gl → R i ys → ∀ R' : VK, (∀ v H4, SB gg H2 H4 → Hd H4 gg gl → R (i + 1) (ys ++ [v]) → R' (.int v) H4) → te ((wipe σ vs).set j (some (.int (lo + (i : Int))))) H2 R')
    (hd : ∀ H ys, SB gg H1 H → Hd H gg gl → H D = some (.lst (iv ys)) → R n ys → Qd H) :
    ∃ W : Nat → Nat → Hp → Prop, (∃ m, W 0 m (upd H1 D (.lst []))) ∧ ∀ i m H, W i m H →
      ((Itr lo n).stop i H ∧ Qd H) ∨ ((Itr lo n).go i H ∧ ∃ Nx : Hp → Prop, (∀ H', Nx H' → ∃ m', m' < m ∧ W (i + 1) m' H') ∧ ∀ x H', (Itr lo n).yld i H x H' → gName j x (wipe σ vs) H' fun σ2 H2 => wipe σ2 vs = wipe σ vs ∧ tt σ2 H2 fun b H3 =>
        if b = true then te σ2 H3 fun y H4 => ∃ acc, H4 D = some (.lst acc) ∧ acc.length < sizeLine ∧ Nx (upd H4 D (.lst (acc ++ [y]))) else Nx H3) := by
  have nD : D ≠ gg := hd0.ne hD
  refine lc_by n (fun i H => SB gg H1 H ∧ Hd H gg gl ∧ ∃ ys, H D = some (.lst (iv ys)) ∧ R i ys) ⟨Same.sb (same_new hD _), hd0.same (same_new hD _), [], upd_same, h0⟩ (fun i H hi p => hi) (fun H p => Nat.le_refl _) ?_ (fun H p => let ⟨s, h, ys, e, r⟩ := p; hd H ys s h e r)
  rintro i x H H' hi ⟨s1, h1, ys, eD, r⟩ ⟨rfl, rfl⟩
  refine ⟨hw _, ht i _ ys hi s1 h1 r _ fun b H3 s3 h3 r3 => ?_⟩
  cases b with
  | false => exact iteF ⟨s1.trans s3, h3, ys, s3 _ _ nD eD, r3 rfl⟩
  | true =>
    refine iteT (hs i H3 ys hi (s1.trans s3) h3 r _ fun v H4 s4 h4 r4 => ?_)
    have s14 := s3.trans s4
    refine ⟨iv ys, s14 _ _ nD eD, ?_, ?_, h4.upd nD (hd0.nl hD) , ys ++ [v], ?_, r4⟩
    · rw [iv_len]
      exact Nat.lt_of_le_of_lt (Nat.le_trans (hl i ys r) (show i ≤ 100000 by omega)) (by decide)
    · intro b o hb e
      have nb : b ≠ D := ne_of_none e hD
      rw [upd_ne nb]
      exact s14 _ _ hb (s1 _ _ hb e)
    · rw [upd_same]
      unfold iv
      rw [List.map_append]
      rfl
section
variable {P : Program} {w : World} {K : PySem.W.Frag} {mg : Str → Option Value} {base : Heap}
/-- a new tuple that is a sum -/
def NewSum (H : Hp) (g gl : Addr) (p : Int) (wd : Int) (Q : VK) : Prop := ∀ t ns H', H t = none → SB g H H' → Hd H' g gl → Tp H' t (iv ns) → SumOk p ns → (ns.length : Int) = wd → Q (.ref t) H'
def spSum : Sp := fun vs H Q _ => ∃ g gl p wd, vs = [.ref g, .int p, .int wd] ∧ Hd H g gl ∧ PrimeOk p ∧ (1 ≤ wd ∧ wd ≤ 10) ∧ NewSum H g gl p wd Q
abbrev N__law_sum : List Str := ["_law_hand_here", "_law_prime_here", "_law_width", "_law_kind", "_law_found", "_law_place", "_law_value"]
theorem sc__law_sum : FnScope N__law_sum ["_law_hand_here", "_law_prime_here", "_law_width"] d__law_sum.scope := ⟨rfl, rfl, rfl, by decide +kernel, rfl, by decide +kernel, by decide +kernel⟩
theorem cl__law_sum (E : Env K mg) : Cl P w K mg base 2 "_law_sum" ["_law_hand_here", "_law_prime_here", "_law_width"] (spSum) := by
  refine Cl.of (k := 1) E 31 25 (d := d__law_sum) rfl rfl rfl rfl rfl sc__law_sum (fun vs H Q E' h => by (repeat obtain ⟨_, h⟩ := h); subst_vars; rfl) (fun _ _ _ _ _ _ us hl => match us, hl with | [_, _, _], _ => rfl) (fun f cdv A outer s H vs Q E' hr h => ?_)
  obtain ⟨g, gl, p, wd, rfl, hd, hp, hw, q⟩ := h
  have bd := hp.bd
  refine ⟨_, (pss_cons (ps_set (i := 3) sc__law_sum.nd rfl (Or.inr rfl) (pe_c (cl__law_draw E) (hr.mono (by decide)) rfl (pa_cons (pv 0) (pa_cons pe_int pa_nil))))
    (pss_cons (ps_setLc (i := 4) (own := [("_law_place", 5)]) (g := gName 5) (tt := tYes) rfl sc__law_sum.nd rfl rfl (sw_true rfl rfl rfl (by decide +kernel)) (pi_range1 (by rfl) (E.free 74) (pa_cons (pv 2) pa_nil)) (blkOk_by (own := [("_law_place", 5)]) (N := N__law_sum) (sc := d__law_sum.scope) (by decide +kernel)) (fun _ _ _ _ _ => (pg_name (i := 5) sc__law_sum.nd rfl (Or.inl rfl))) (fun _ _ _ _ _ => pts_nil) (fun _ _ _ _ _ => (pe_ifExp (PW.pt (pw_or (pt_cmpR op_lt (pv 3) pe_int (nomark _)) (pw_or1 (pt_cmpR op_eq (pe_c (cl__law_draw E) (hr.mono (by decide)) rfl (pa_cons (pv 0) (pa_cons pe_int pa_nil))) pe_int (nomark _))))) (pe_c (cl__law_draw E) (hr.mono (by decide)) rfl (pa_cons (pv 0) (pa_cons (pv 1) pa_nil))) pe_int)))
    (pss_cons (ps_if (PW.pt (pw_or (pt_cmpR op_eq (pv 3) pe_int (nomark _)) (pw_or1 (pt_not (pt_val (pe_callB (cr_any rfl) (by rfl) (E.free 73) (by decide +kernel) (pa_cons (pe_lc (own := [("_law_value", 6)]) (g := gName 6) (tt := tYes) rfl sc__law_sum.nd (pi_list (pv 4)) (blkOk_by (own := [("_law_value", 6)]) (N := N__law_sum) (sc := d__law_sum.scope) (by decide +kernel)) (fun _ _ _ _ _ => (pg_name (i := 6) sc__law_sum.nd rfl (Or.inl rfl))) (fun _ _ _ _ _ => pts_nil) (fun _ _ _ _ _ => (pe_cmpR op_ne (pv 6) pe_int (nomark _)))) pa_nil)))))))
      (pss_cons (ps_set (i := 4) sc__law_sum.nd rfl (Or.inl rfl) (pe_op op_rep (pe_lst (pa_cons pe_int pa_nil)) (pv 2)))
      (pss_one (ps_asg (pe_op op_add pe_int (pe_c (cl__law_draw E) (hr.mono (by decide)) rfl (pa_cons (pv 0) (pa_cons (pe_op op_sub (pv 1) pe_int) pa_nil)))) (pg_sub (pv 4) (pe_c (cl__law_draw E) (hr.mono (by decide)) rfl (pa_cons (pv 0) (pa_cons (pv 2) pa_nil))) set_list))))
      pss_nil)
    (pss_one (ps_ret (pe_tupleOf (by rfl) (E.free 70) (pv 4))))))), ?_⟩
  refine seq_by (fun σ' H' => ∃ kd, σ' = [some (.ref g), some (.int p), some (.int wd), some (.int kd), none, none, none] ∧ SB g H H' ∧ Hd H' g gl) (fun N k => ⟨_, rfl, g, gl, _, rfl, hd, by omega, by omega, fun kd H1 k0 k1 sb1 hd1 => k _ _ ⟨kd, rfl, sb1, hd1⟩⟩) ?_
  rintro σ' H1 ⟨kd, rfl, sb1, hd1⟩
  refine seq_by (fun σ' H' => ∃ D ys, σ' = [some (.ref g), some (.int p), some (.int wd), some (.int kd), some (.ref D), none, none] ∧ SB g H H' ∧ Hd H' g gl ∧ H' D = some (.lst (iv ys)) ∧ H D = none ∧ ys.length = wd.toNat ∧ ∀ v ∈ ys, 0 ≤ v ∧ v < p) (fun N k => ?_) ?_
  · refine ⟨_, rfl, wd, rfl, by omega, by omega, fun D hD => ?_⟩
    have hD0 : H D = none := hd1.back sb1 hD
    refine lcD hD hd1 (by omega) (fun _ => rfl) (fun i ys => ys.length = i ∧ ∀ v ∈ ys, 0 ≤ v ∧ v < p) ⟨rfl, fun v hv => (nomatch hv)⟩ (fun i ys r => Nat.le_of_eq r.1) (fun i H2 ys hi s2 hd2 r K kk => kk true H2 SB.refl hd2 fun z => (nomatch z)) ?_ fun H2 ys s2 hd2 e2 r => k _ _ ⟨D, ys, rfl, sb1.trans s2, hd2, e2, hD0, r⟩
    intro i H2 ys hi s2 hd2 ⟨r1, r2⟩ R' k2
    have add : ∀ v, 0 ≤ v ∧ v < p → (ys ++ [v]).length = i + 1 ∧ ∀ x ∈ ys ++ [v], 0 ≤ x ∧ x < p := fun v hv => ⟨by rw [List.length_append, r1]; rfl, fun x hx => by
      rcases List.mem_append.mp hx with z | z
      · exact r2 x z
      · rw [List.mem_singleton.mp z]
        exact hv⟩
    refine ⟨_, rfl, _, _, rfl, rfl, _, rfl, ?_⟩
    by_cases c1 : kd < 2
    · refine (if_pos (decide_eq_true c1)).mpr (iteT ?_)
      exact ⟨_, rfl, _, rfl, g, gl, p, rfl, hd2, by omega, by omega, fun v H3 v0 v1 s3 hd3 => k2 v H3 s3 hd3 (add v ⟨v0, v1⟩)⟩
    · refine (if_neg (fun z => c1 (of_decide_eq_true z))).mpr ?_
      refine ⟨_, rfl, g, gl, 3, rfl, hd2, by omega, by omega, fun d H3 d0 d1 s3 hd3 => ⟨rfl, _, rfl, ?_⟩⟩
      by_cases c2 : d = 0
      · refine (if_pos ?_).mpr ?_
        · rw [dec_vi]
          exact decide_eq_true c2
        · exact ⟨_, rfl, _, rfl, g, gl, p, rfl, hd3, by omega, by omega, fun v H4 v0 v1 s4 hd4 => k2 v H4 (s3.trans s4) hd4 (add v ⟨v0, v1⟩)⟩
      · refine (if_neg ?_).mpr ?_
        · rw [dec_vi]
          exact fun z => c2 (of_decide_eq_true z)
        · exact k2 0 H3 s3 hd3 (add 0 ⟨Int.le_refl _, by omega⟩)
  rintro σ' H2 ⟨D, ys, rfl, sb2, hd2, eD, hD0, ly, by_⟩
  refine seq_by (fun σ' H' => ∃ D ys, σ' = [some (.ref g), some (.int p), some (.int wd), some (.int kd), some (.ref D), none, none] ∧ SB g H H' ∧ Hd H' g gl ∧ H' D = some (.lst (iv ys)) ∧ ys.length = wd.toNat ∧ (∀ v ∈ ys, 0 ≤ v ∧ v < p) ∧ ∃ v ∈ ys, v ≠ 0) (fun N k => ?_) ?_
  · refine if_by (fun c H' => SB g H H' ∧ Hd H' g gl ∧ (c = false → H' D = some (.lst (iv ys)) ∧ ∃ v ∈ ys, v ≠ 0)) (fun K k2 => ?_) ?_ ?_
    · refine ⟨_, rfl, rfl, _, rfl, ?_⟩
      by_cases c1 : kd = 3
      · refine (if_pos ?_).mpr (k2 true H2 ⟨sb2, hd2, fun z => nomatch z⟩)
        rw [dec_vi]
        exact decide_eq_true c1
      · refine (if_neg ?_).mpr ?_
        · rw [dec_vi]
          exact fun z => c1 (of_decide_eq_true z)
        refine ⟨_, rfl, D, rfl, ⟨_, SqL.of eD⟩, fun D2 hD2 => ?_⟩
        refine lcS (plain_l (SqL.of eD)) (fun i => .bl (ys.getD i 0 != 0)) hD2 (by rw [iv_len]; omega) (fun _ => rfl) ?_ ?_
        · intro i x H3 hx s R k3
          obtain ⟨n, hn, rfl⟩ := iv_get hx
          refine ⟨_, rfl, rfl, ?_⟩
          have e3 : (!decide (V.int n = V.int 0)) = (ys.getD i 0 != 0) := by rw [dec_vi, getD_of hn]; simp [bne, BEq.beq]
          rw [e3]
          exact k3 _ (Same.refl _)
        intro H3 s3 e3
        have sb3 : SB g H H3 := sb2.trans (Same.sb s3)
        rw [iv_len, range_bl (fun v => v != 0) ys (fun i => ys.getD i 0 != 0) fun i x hx => by rw [getD_of hx]] at e3
        refine ⟨D2, _, rfl, SqL.of e3, _, rfl, k2 _ H3 ⟨sb3, hd2.same s3, fun z => ⟨s3 _ _ eD, ?_⟩⟩⟩
        rw [List.any_map] at z
        have z1 : ys.any (id ∘ fun v => v != 0) = true := by
          cases h : ys.any (id ∘ fun v => v != 0) with
          | true => rfl
          | false => rw [h] at z; cases z
        obtain ⟨v, hv, hne⟩ := List.any_eq_true.mp z1
        exact ⟨v, hv, by simpa using hne⟩
    · rintro H3 ⟨sb3, hd3, _⟩
      refine ⟨(by show 1 ≤ sizeLine; decide), fun z0 hz0 => ?_⟩
      refine ⟨_, rfl, z0, wd, [.int 0], rfl, rfl, upd_same, by omega, by omega, Nat.le_trans (show 1 * wd.toNat ≤ 100000 by omega) (by decide), fun f0 hf0 => ?_⟩
      have e0 : (List.replicate wd.toNat [V.int 0]).flatten = iv (List.replicate wd.toNat 0) := rep_iv _
      rw [e0]
      have s4 := (same_new hz0 (.lst [.int 0])).trans (same_new hf0 (.lst (iv (List.replicate wd.toNat 0))))
      have ef : (upd (upd H3 z0 (.lst [.int 0])) f0 (.lst (iv (List.replicate wd.toNat 0)))) f0 = some (.lst (iv (List.replicate wd.toNat 0))) := upd_same
      have hf3 := (same_new hz0 (.lst [.int 0])).free hf0
      have nfl : f0 ≠ gl := hd3.nl hf3
      generalize upd (upd H3 z0 (.lst [.int 0])) f0 (.lst (iv (List.replicate wd.toNat 0))) = H4 at s4 ef ⊢
      have hd4 := hd3.same s4
      have nf : f0 ≠ g := hd4.ne_iv ef
      refine ⟨_, rfl, _, rfl, _, _, rfl, rfl, g, gl, p - 1, rfl, hd4, by omega, by omega, fun v H5 v0 v1 s5 hd5 => ⟨_, _, rfl, rfl, ?_⟩⟩
      refine ⟨_, rfl, _, rfl, _, rfl, g, gl, wd, rfl, hd5, by omega, by omega, fun r H6 r0 r1 s6 hd6 => ?_⟩
      obtain ⟨j, rfl⟩ : ∃ j : Nat, r = ((j : Nat) : Int) := ⟨r.toNat, by omega⟩
      have ef6 := s6 _ _ nf (s5 _ _ nf ef)
      have lr : (List.replicate wd.toNat (0 : Int)).length = wd.toNat := List.length_replicate
      have hj : j < wd.toNat := by omega
      refine ⟨f0, _, _, j, rfl, rfl, ef6, ixN_nat (by rw [iv_len, lr]; exact hj), k _ _ ⟨f0, (List.replicate wd.toNat (0 : Int)).set j (1 + v), rfl, ?_, hd6.upd nf nfl, ?_, ?_, ?_, 1 + v, ?_, by omega⟩⟩
      · intro b o nb e
        rw [upd_ne (ne_of_none (sb3 b o nb e) hf3)]
        exact s6 _ _ nb (s5 _ _ nb (s4 _ _ (sb3 b o nb e)))
      · rw [upd_same]
        unfold iv
        rw [List.map_set]
      · rw [List.length_set, lr]
      · intro x hx
        rcases List.mem_or_eq_of_mem_set hx with z | z
        · rw [List.eq_of_mem_replicate z]
          omega
        · omega
      · exact List.mem_set (by rw [lr]; exact hj) _
    · rintro H3 ⟨sb3, hd3, h3⟩
      obtain ⟨e3, v, hv, hne⟩ := h3 rfl
      exact k _ _ ⟨D, ys, rfl, sb3, hd3, e3, ly, by_, v, hv, hne⟩
  rintro σ' H3 ⟨D, ys, rfl, sb3, hd3, eD, ly, by_, ne⟩
  refine ⟨_, rfl, .inl ⟨D, _, rfl, SqL.of eD, fun t ht => ?_⟩⟩
  have s4 := same_new ht (.tup (iv ys))
  exact q t ys _ (hd3.back sb3 ht) (sb3.trans (Same.sb s4)) (hd3.same s4) (.of upd_same) ⟨by omega, by_, ne⟩ (by omega)
end
end Lf
/-! Sums that are drawn: mixed, many. -/
namespace Lf
open PySem PySem.Spec PyProof.Rows L2
/-- sums of a prime and a width -/
def SumsOk (p wd : Int) (ss : List (List Int)) : Prop := ∀ s ∈ ss, SumOk p s ∧ (s.length : Int) = wd
theorem Hd.tps {H H' : Hp} {g gl : Addr} {as : List Addr} {ss : List (List Int)} (h : Hd H g gl) (sb : SB g H H') (t : TpsAt H as ss) : TpsAt H' as ss := paired_mono (fun _ _ z => h.tp sb z) t
theorem addT_bd {p t : Int} (hp : 0 < p) {row oth : List Int} : ∀ v ∈ addT p row t oth, 0 ≤ v ∧ v < p := by
  intro v hv
  unfold addT at hv
  obtain ⟨i, hi, rfl⟩ := List.mem_iff_getElem.mp hv
  rw [List.getElem_zipWith]
  exact ⟨Int.emod_nonneg _ (by omega), Int.emod_lt_of_pos _ hp⟩
section
variable {P : Program} {w : World} {K : PySem.W.Frag} {mg : Str → Option Value} {base : Heap}
def spMixed : Sp := fun vs H Q _ => ∃ g gl p l as ss wd, vs = [.ref g, .int p, .ref l] ∧ Hd H g gl ∧ PrimeOk p ∧ H l = some (.lst (as.map V.ref)) ∧ TpsAt H as ss ∧ SumsOk p wd ss ∧ ss ≠ [] ∧ ss.length ≤ 100 ∧ (1 ≤ wd ∧ wd ≤ 10) ∧
  NewSum H g gl p wd Q ∧ ∀ H', SB g H H' → Hd H' g gl → Q .non H'
abbrev N__law_mixed : List Str := ["_law_hand_here", "_law_prime_here", "_law_sums_here", "_law_found", "_law_turn", "_law_one", "_law_times_here", "_law_here", "_law_more", "_law_value"]
theorem sc__law_mixed : FnScope N__law_mixed ["_law_hand_here", "_law_prime_here", "_law_sums_here"] d__law_mixed.scope := ⟨rfl, rfl, rfl, by decide +kernel, rfl, by decide +kernel, by decide +kernel⟩
theorem cl__law_mixed (E : Env K mg) : Cl P w K mg base 3 "_law_mixed" ["_law_hand_here", "_law_prime_here", "_law_sums_here"] (spMixed) := by
  refine Cl.of (k := 2) E 32 26 (d := d__law_mixed) rfl rfl rfl rfl rfl sc__law_mixed (fun vs H Q E' h => by (repeat obtain ⟨_, h⟩ := h); subst_vars; rfl) (fun _ _ _ _ _ _ us hl => match us, hl with | [_, _, _], _ => rfl) (fun f cdv A outer s H vs Q E' hr h => ?_)
  obtain ⟨g, gl, p, l, as, ss, wd, rfl, hd, hp, hl, hss, so, hne, hlen, hw, q, q0⟩ := h
  have bd := hp.bd
  refine ⟨_, (pss_cons (ps_set (i := 3) sc__law_mixed.nd rfl (Or.inl rfl) (pe_op op_rep (pe_lst (pa_cons pe_int pa_nil)) (pe_callB call_len_seq (by rfl) (E.free 71) PySem.boot_len (pa_cons (pe_ix ix_list (pv 2) pe_int (fun _ _ => rfl)) pa_nil))))
    (pss_cons (ps_for PassesOwn.never rfl (pi_range1 (by rfl) (E.free 74) (pa_cons (pe_op op_add pe_int (pe_c (cl__law_draw E) (hr.mono (by decide)) rfl (pa_cons (pv 0) (pa_cons pe_int pa_nil)))) pa_nil)) (pg_name (i := 4) sc__law_mixed.nd rfl (Or.inl rfl))
      (pss_cons (ps_asg (pe_tup (pa_cons (pe_c (cl__law_any E) (hr.mono (by decide)) rfl (pa_cons (pv 0) (pa_cons (pv 2) pa_nil))) (pa_cons (pe_op op_add pe_int (pe_c (cl__law_draw E) (hr.mono (by decide)) rfl (pa_cons (pv 0) (pa_cons (pe_op op_sub (pv 1) pe_int) pa_nil)))) pa_nil))) (pg_tup rfl (pgs_cons (pg_name (i := 5) sc__law_mixed.nd rfl (Or.inl rfl)) (pgs_cons (pg_name (i := 6) sc__law_mixed.nd rfl (Or.inr rfl)) pgs_nil))))
      (pss_one (ps_setLc (i := 3) (own := [("_law_here", 7), ("_law_more", 8)]) (g := gTup K 2 (gCons (gName 7) (gCons (gName 8) gNil))) (tt := tYes) rfl sc__law_mixed.nd rfl rfl (sw_true rfl rfl rfl (by decide +kernel)) (pi_zipM (by rfl) (E.free 75) (pa_cons (pv 3) (pa_cons (pv 5) pa_nil))) (blkOk_by (own := [("_law_here", 7), ("_law_more", 8)]) (N := N__law_mixed) (sc := d__law_mixed.scope) (by decide +kernel)) (fun _ _ _ _ _ => (pg_tup rfl (pgs_cons (pg_name (i := 7) sc__law_mixed.nd rfl (Or.inl rfl)) (pgs_cons (pg_name (i := 8) sc__law_mixed.nd rfl (Or.inl rfl)) pgs_nil)))) (fun _ _ _ _ _ => pts_nil) (fun _ _ _ _ _ => (pe_op op_mod (pe_callTy call_int1 (by rfl) (E.free 68) (by decide +kernel) (pa_cons (pe_op op_add (pv 7) (pe_op op_mul (pv 6) (pv 8))) pa_nil)) (pv 1)))))))
    (pss_one (ps_ret (pe_ifExp (pt_val (pe_callB (cr_any rfl) (by rfl) (E.free 73) (by decide +kernel) (pa_cons (pe_lc (own := [("_law_value", 9)]) (g := gName 9) (tt := tYes) rfl sc__law_mixed.nd (pi_list (pv 3)) (blkOk_by (own := [("_law_value", 9)]) (N := N__law_mixed) (sc := d__law_mixed.scope) (by decide +kernel)) (fun _ _ _ _ _ => (pg_name (i := 9) sc__law_mixed.nd rfl (Or.inl rfl))) (fun _ _ _ _ _ => pts_nil) (fun _ _ _ _ _ => (pe_cmpR op_ne (pv 9) pe_int (nomark _)))) pa_nil))) (pe_tupleOf (by rfl) (E.free 70) (pv 3)) pe_non))))), ?_⟩
  obtain ⟨s0, ss', rfl⟩ : ∃ s0 r, ss = s0 :: r := match ss, hne with | s0 :: r, _ => ⟨s0, r, rfl⟩
  obtain ⟨a0, as', rfl⟩ : ∃ a0 r, as = a0 :: r := match as, hss with | a0 :: r, _ => ⟨a0, r, rfl⟩
  have hs0 : Tp H a0 (iv s0) := match hss with | .cons h _ => h
  have so0 := so s0 List.mem_cons_self
  have lg : l ≠ g := hd.ne_refs hl
  refine seq_by (fun σ' H' => ∃ f, σ' = [some (.ref g), some (.int p), some (.ref l), some (.ref f), none, none, none, none, none, none] ∧ Same H H' ∧ H' f = some (.lst (iv (List.replicate wd.toNat 0)))) (fun N k => ?_) ?_
  · refine ⟨(by show 1 ≤ sizeLine; decide), fun z0 hz0 => ?_⟩
    have s1 := same_new hz0 (.lst [.int 0])
    refine ⟨_, rfl, l, _, _, _, rfl, rfl, SqL.of (s1 _ _ hl), atI_nat (j := 0) rfl, a0, _, rfl, .inr (hs0.same s1).sq, z0, _, [.int 0], rfl, rfl, upd_same, by rw [iv_len]; omega, by rw [iv_len]; omega, Nat.le_trans (show 1 * ((iv s0).length : Int).toNat ≤ 100000 by rw [iv_len]; omega) (by decide), fun f0 hf0 => ?_⟩
    have e0 : (List.replicate ((iv s0).length : Int).toNat [V.int 0]).flatten = iv (List.replicate wd.toNat 0) := by
      rw [rep_iv, iv_len]
      congr 2
      omega
    rw [e0]
    exact k _ _ ⟨f0, rfl, s1.trans (same_new hf0 _), upd_same⟩
  rintro σ' H1 ⟨f, rfl, s1, ef⟩
  have hd1 := hd.same s1
  refine seq_by (fun σ' H' => ∃ f v4 v5 v6 row, σ' = [some (.ref g), some (.int p), some (.ref l), some (.ref f), v4, v5, v6, none, none, none] ∧ SB g H H' ∧ Hd H' g gl ∧ H' f = some (.lst (iv row)) ∧ Vec p wd.toNat row) (fun N k => ?_) ?_
  · refine ⟨_, rfl, g, gl, 3, rfl, hd1, by omega, by omega, fun r H2 r0 r1 sb2 hd2 => ⟨_, _, rfl, rfl, 1 + r, rfl, by omega, by omega, ?_⟩⟩
    refine for_by (1 + r).toNat (fun i σ H' => ∃ f v4 v5 v6 row, σ = [some (.ref g), some (.int p), some (.ref l), some (.ref f), v4, v5, v6, none, none, none] ∧ SB g H H' ∧ Hd H' g gl ∧ H' f = some (.lst (iv row)) ∧ Vec p wd.toNat row)
      ⟨f, none, none, none, List.replicate wd.toNat 0, rfl, (Same.sb s1).trans sb2, hd2, sb2 _ _ (hd1.ne_iv ef) ef, List.length_replicate, fun x hx => by rw [List.eq_of_mem_replicate hx]; omega⟩ (fun i σ H' hi _ => hi) (fun σ H' _ => Nat.le_refl _) ?_ fun σ H' h => k _ _ h
    rintro i x σ H3 H4 hi ⟨f, v4, v5, v6, row, rfl, sb3, hd3, e3, hv⟩ ⟨rfl, rfl⟩
    have hl3 := sb3 _ _ lg hl
    refine ⟨_, rfl, _, rfl, g, gl, l, _, rfl, hd3, lg, hl3, by simp, by rw [List.length_map, paired_len hss]; omega, fun x H5 hx sb5 hd5 => ?_⟩
    obtain ⟨b, hb, rfl⟩ := List.mem_map.mp hx
    obtain ⟨j, hj⟩ := List.mem_iff_getElem?.mp hb
    obtain ⟨s, hs, hbs⟩ := paired_get hss hj
    have sos := so s (List.mem_of_getElem? hs)
    refine ⟨_, rfl, _, rfl, _, _, rfl, rfl, g, gl, p - 1, rfl, hd5, by omega, by omega, fun t H6 t0 t1 sb6 hd6 => ⟨_, _, rfl, rfl, (by show 2 ≤ sizeLine; decide), fun T hT => ?_⟩⟩
    refine g_pair upd_same ?_
    have sb36 := (sb3.trans sb5).trans sb6
    have nf3 : f ≠ g := hd3.ne_iv e3
    have e6 := sb6 _ _ nf3 (sb5 _ _ nf3 e3)
    have s7 := same_new hT (.tup [.ref b, .int (1 + t)])
    have e7 := s7 _ _ e6
    have hb7 := (hd.tp sb36 hbs).same s7
    have hd7 := hd6.same s7
    have sb37 : SB g H (upd H6 T (.tup [.ref b, .int (1 + t)])) := sb36.trans (Same.sb s7)
    generalize upd H6 T (.tup [.ref b, .int (1 + t)]) = H7 at s7 e7 hb7 hd7 sb37 ⊢
    refine ⟨_, rfl, _, rfl, f, b, _, _, true, false, rfl, Sq.lo e7, Sq.t hb7.sq, fun D hD => ?_⟩
    have lrs : row.length = s.length := by have := hv.ln; omega
    refine lcZ (L := addT p row (1 + t) s) hD (by omega) lrs (addT_length lrs) (Sq.lo e7) (Sq.t hb7.sq) (fun _ _ => rfl) ?_ fun H8 s8 e8 => ?_
    · intro j x1 x2 x3 H8 hx1 hx2 hx3 s8 R k3
      rw [addT_get hx1 hx2] at hx3
      cases hx3
      exact ⟨_, rfl, _, rfl, _, rfl, _, _, rfl, rfl, .inl ⟨by omega, by omega⟩, _, _, rfl, rfl, .inl ⟨_, rfl, _, rfl, _, _, rfl, rfl, (by show (0 : Int) < p; omega), k3⟩⟩
    · exact ⟨D, _, _, _, _, rfl, sb37.trans (Same.sb s8), hd7.same s8, e8, by rw [addT_length lrs]; exact hv.ln, addT_bd (by omega)⟩
  rintro σ' H2 ⟨f, v4, v5, v6, row, rfl, sb2, hd2, e2, hv⟩
  have lrow := hv.ln
  refine ⟨_, rfl, f, rfl, ⟨_, SqL.of e2⟩, fun D2 hD2 => ?_⟩
  refine lcS (plain_l (SqL.of e2)) (fun i => .bl (row.getD i 0 != 0)) hD2 (by rw [iv_len]; omega) (fun _ => rfl) ?_ ?_
  · intro i x H3 hx s R k3
    obtain ⟨n, hn, rfl⟩ := iv_get hx
    refine ⟨_, rfl, rfl, ?_⟩
    have e3 : (!decide (V.int n = V.int 0)) = (row.getD i 0 != 0) := by rw [dec_vi, getD_of hn]; simp [bne, BEq.beq]
    rw [e3]
    exact k3 _ (Same.refl _)
  intro H3 s3 e3
  have sb3 : SB g H H3 := sb2.trans (Same.sb s3)
  rw [iv_len, range_bl (fun v => v != 0) row (fun i => row.getD i 0 != 0) fun i x hx => by rw [getD_of hx]] at e3
  refine ⟨D2, _, rfl, SqL.of e3, _, rfl, ?_⟩
  cases z : (row.map fun v => v != 0).any id with
  | false => exact iteF (q0 _ sb3 (hd2.same s3))
  | true =>
    refine iteT ⟨_, rfl, .inl ⟨f, _, rfl, SqL.of (s3 _ _ e2), fun t ht => ?_⟩⟩
    have s4 := same_new ht (.tup (iv row))
    rw [List.any_map] at z
    obtain ⟨v, hv1, hne⟩ := List.any_eq_true.mp z
    exact q t row _ ((hd2.same s3).back sb3 ht) (sb3.trans (Same.sb s4)) ((hd2.same s3).same s4) (.of upd_same) ⟨by omega, hv.bd, v, hv1, by simpa using hne⟩ (by omega)
def spSums : Sp := fun vs H Q _ => ∃ g gl p wd m, vs = [.ref g, .int p, .int wd, .int m] ∧ Hd H g gl ∧ PrimeOk p ∧ (1 ≤ wd ∧ wd ≤ 10) ∧ (0 ≤ m ∧ m ≤ 40) ∧ ∀ t as ss H', H t = none → SB g H H' → Hd H' g gl → Tp H' t (as.map V.ref) → TpsAt H' as ss → SumsOk p wd ss → (ss.length : Int) ≤ m → Q (.ref t) H'
abbrev N__law_sums : List Str := ["_law_hand_here", "_law_prime_here", "_law_width", "_law_most", "_law_found", "_law_turn", "_law_one"]
theorem sc__law_sums : FnScope N__law_sums ["_law_hand_here", "_law_prime_here", "_law_width", "_law_most"] d__law_sums.scope := ⟨rfl, rfl, rfl, by decide +kernel, rfl, by decide +kernel, by decide +kernel⟩
theorem cl__law_sums (E : Env K mg) : Cl P w K mg base 4 "_law_sums" ["_law_hand_here", "_law_prime_here", "_law_width", "_law_most"] (spSums) := by
  refine Cl.of (k := 3) E 33 27 (d := d__law_sums) rfl rfl rfl rfl rfl sc__law_sums (fun vs H Q E' h => by (repeat obtain ⟨_, h⟩ := h); subst_vars; rfl) (fun _ _ _ _ _ _ us hl => match us, hl with | [_, _, _, _], _ => rfl) (fun f cdv A outer s H vs Q E' hr h => ?_)
  obtain ⟨g, gl, p, wd, m, rfl, hd, hp, hw, hm, q⟩ := h
  have bd := hp.bd
  refine ⟨_, (pss_cons (ps_set (i := 4) sc__law_sums.nd rfl (Or.inl rfl) (pe_lst pa_nil))
    (pss_cons (ps_for PassesOwn.never rfl (pi_range1 (by rfl) (E.free 74) (pa_cons (pe_c (cl__law_draw E) (hr.mono (by decide)) rfl (pa_cons (pv 0) (pa_cons (pe_op op_add (pv 3) pe_int) pa_nil))) pa_nil)) (pg_name (i := 5) sc__law_sums.nd rfl (Or.inl rfl))
      (pss_cons (ps_set (i := 6) sc__law_sums.nd rfl (Or.inl rfl) (pe_ifExp (PW.pt (pw_and (pt_cmpR op_gt (pe_callB call_len_seq (by rfl) (E.free 71) PySem.boot_len (pa_cons (pv 4) pa_nil)) pe_int (nomark _)) (pw_and1 (pt_cmpR op_eq (pe_c (cl__law_draw E) (hr.mono (by decide)) rfl (pa_cons (pv 0) (pa_cons pe_int pa_nil))) pe_int (nomark _))))) (pe_c (cl__law_mixed E) (hr.mono (by decide)) rfl (pa_cons (pv 0) (pa_cons (pv 1) (pa_cons (pv 4) pa_nil)))) pe_non))
      (pss_one (ps_expr (pe_bm PySem.F.plainAttrs_list PySem.F.slot_list_append PySem.F.type_list_append mt_append (pv 4) (pa_cons (pe_ifExp (pt_cmpR op_isN (pv 6) pe_non (nomark _)) (pe_c (cl__law_sum E) (hr.mono (by decide)) rfl (pa_cons (pv 0) (pa_cons (pv 1) (pa_cons (pv 2) pa_nil)))) (pv 6)) pa_nil))))))
    (pss_one (ps_ret (pe_tupleOf (by rfl) (E.free 70) (pv 4)))))), ?_⟩
  refine seq_by (fun σ' H' => ∃ F, σ' = [some (.ref g), some (.int p), some (.int wd), some (.int m), some (.ref F), none, none] ∧ H F = none ∧ Same H H' ∧ H' F = some (.lst [])) (fun N k => ⟨(by show 0 ≤ sizeLine; decide), fun F hF => k _ _ ⟨F, rfl, hF, same_new hF _, upd_same⟩⟩) ?_
  rintro σ' H1 ⟨F, rfl, hF, s1, e1⟩
  have hd1 := hd.same s1
  have nF := hd.ne hF
  have nFl := hd.nl hF
  refine seq_by (fun σ' H' => ∃ v5 v6 as ss, σ' = [some (.ref g), some (.int p), some (.int wd), some (.int m), some (.ref F), v5, v6] ∧ SB g H H' ∧ Hd H' g gl ∧ H' F = some (.lst (as.map V.ref)) ∧ TpsAt H' as ss ∧ SumsOk p wd ss ∧ (ss.length : Int) ≤ m) (fun N k => ?_) ?_
  · refine ⟨_, rfl, _, rfl, _, _, rfl, rfl, g, gl, m + 1, rfl, hd1, by omega, by omega, fun r H2 r0 r1 sb2 hd2 => ⟨r, rfl, by omega, by omega, ?_⟩⟩
    refine for_by r.toNat (fun i σ H' => ∃ v5 v6 as ss, σ = [some (.ref g), some (.int p), some (.int wd), some (.int m), some (.ref F), v5, v6] ∧ SB g H H' ∧ Hd H' g gl ∧ H' F = some (.lst (as.map V.ref)) ∧ TpsAt H' as ss ∧ SumsOk p wd ss ∧ ss.length = i)
      ⟨none, none, [], [], rfl, (Same.sb s1).trans sb2, hd2, sb2 _ _ nF e1, .nil, fun s hs => (nomatch hs), rfl⟩ (fun i σ H' hi _ => hi) (fun σ H' _ => Nat.le_refl _) ?_ ?_
    · rintro i x σ H3 H4 hi ⟨v5, v6, as, ss, rfl, sb3, hd3, e3, tps, so, ln⟩ ⟨rfl, rfl⟩
      have la := paired_len tps
      refine seq_by (fun σ' H' => ∃ x, σ' = [some (.ref g), some (.int p), some (.int wd), some (.int m), some (.ref F), some (.int (0 + (i : Int))), some x] ∧ SB g H H' ∧ Hd H' g gl ∧ H' F = some (.lst (as.map V.ref)) ∧ TpsAt H' as ss ∧
        (x = .non ∨ ∃ t ns, x = .ref t ∧ Tp H' t (iv ns) ∧ SumOk p ns ∧ (ns.length : Int) = wd)) (fun N k2 => ?_) ?_
      · refine ⟨_, rfl, F, _, rfl, .inl (SqL.of e3), _, _, rfl, rfl, _, rfl, ?_⟩
        by_cases c1 : (0 : Int) < ((as.map V.ref).length : Int)
        · refine (if_pos (decide_eq_true c1)).mpr ?_
          refine ⟨_, rfl, g, gl, 2, rfl, hd3, by omega, by omega, fun d H5 d0 d1 sb5 hd5 => ⟨rfl, _, rfl, ?_⟩⟩
          have e5 := sb5 _ _ nF e3
          have tps5 := hd3.tps sb5 tps
          by_cases c2 : d = 0
          · refine (if_pos ?_).mpr ?_
            · rw [dec_vi]
              exact decide_eq_true c2
            rw [List.length_map] at c1
            exact ⟨_, rfl, _, rfl, _, rfl, g, gl, p, F, as, ss, wd, rfl, hd5, hp, e5, tps5, so, fun z => by rw [z] at la; simp at la; rw [la] at c1; simp at c1, by omega, hw,
              fun t ns H6 ht sb6 hd6 h1 h2 h3 => k2 _ _ ⟨_, rfl, (sb3.trans sb5).trans sb6, hd6, sb6 _ _ nF e5, hd5.tps sb6 tps5, .inr ⟨t, ns, rfl, h1, h2, h3⟩⟩,
              fun H6 sb6 hd6 => k2 _ _ ⟨_, rfl, (sb3.trans sb5).trans sb6, hd6, sb6 _ _ nF e5, hd5.tps sb6 tps5, .inl rfl⟩⟩
          · refine (if_neg ?_).mpr ?_
            · rw [dec_vi]
              exact fun z => c2 (of_decide_eq_true z)
            exact k2 _ _ ⟨_, rfl, sb3.trans sb5, hd5, e5, tps5, .inl rfl⟩
        · refine (if_neg (fun z => c1 (of_decide_eq_true z))).mpr ?_
          exact k2 _ _ ⟨_, rfl, sb3, hd3, e3, tps, .inl rfl⟩
      rintro σ' H5 ⟨x, rfl, sb5, hd5, e5, tps5, hx⟩
      have fin : ∀ t ns H6, SB g H5 H6 → Hd H6 g gl → Tp H6 t (iv ns) → SumOk p ns → (ns.length : Int) = wd → ∃ v5' v6' as' ss', [some (.ref g), some (.int p), some (.int wd), some (.int m), some (.ref F), some (.int (0 + (i : Int))), some x] = [some (.ref g), some (.int p), some (.int wd), some (.int m), some (.ref F), v5', v6'] ∧ SB g H (upd H6 F (.lst (as.map V.ref ++ [.ref t]))) ∧ Hd (upd H6 F (.lst (as.map V.ref ++ [.ref t]))) g gl ∧ (upd H6 F (.lst (as.map V.ref ++ [.ref t]))) F = some (.lst (as'.map V.ref)) ∧ TpsAt (upd H6 F (.lst (as.map V.ref ++ [.ref t]))) as' ss' ∧ SumsOk p wd ss' ∧ ss'.length = i + 1 := by
        intro t ns H6 sb6 hd6 h1 h2 h3
        have e6 := sb6 _ _ nF e5
        have sbF : SB F H6 (upd H6 F (.lst (as.map V.ref ++ [.ref t]))) := SB.upd
        refine ⟨_, _, as ++ [t], ss ++ [ns], rfl, ?_, hd6.upd nF nFl, by rw [upd_same, List.map_append]; rfl, paired_snoc (F := fun a s => Tp (upd H6 F (.lst (as.map V.ref ++ [.ref t]))) a (iv s)) (sbF.tp e6 h1) (paired_mono (F := fun a s => Tp H6 a (iv s)) (fun _ _ z => sbF.tp e6 z) (hd5.tps sb6 tps5)), ?_, by rw [List.length_append, ln]; rfl⟩
        · intro b o nb e
          rw [upd_ne (ne_of_none e hF)]
          exact sb6 _ _ nb (sb5 _ _ nb e)
        · intro s hs
          rcases List.mem_append.mp hs with z | z
          · exact so s z
          · rw [List.mem_singleton.mp z]
            exact ⟨h2, h3⟩
      have lz : (as.map V.ref).length < sizeLine := by
        rw [List.length_map]
        exact Nat.lt_of_le_of_lt (show as.length ≤ 1000 by omega) (by decide)
      rcases hx with rfl | ⟨t, ns, rfl, h1, h2, h3⟩
      · refine ⟨_, rfl, .inl ⟨rfl, _, SqL.of e5⟩, _, rfl, rfl, _, rfl, iteT ?_⟩
        refine ⟨_, rfl, _, rfl, _, rfl, g, gl, p, wd, rfl, hd5, hp, hw, fun t ns H6 ht sb6 hd6 h1 h2 h3 => ?_⟩
        exact ⟨F, _, _, rfl, rfl, sb6 _ _ nF e5, lz, fin t ns H6 sb6 hd6 h1 h2 h3⟩
      · refine ⟨_, rfl, .inl ⟨rfl, _, SqL.of e5⟩, _, rfl, rfl, _, rfl, iteF ?_⟩
        exact ⟨_, rfl, F, _, _, rfl, rfl, e5, lz, fin t ns H5 SB.refl hd5 h1 h2 h3⟩
    · rintro σ H3 ⟨v5, v6, as, ss, rfl, sb3, hd3, e3, tps, so, ln⟩
      exact k _ _ ⟨v5, v6, as, ss, rfl, sb3, hd3, e3, tps, so, by omega⟩
  rintro σ' H2 ⟨v5, v6, as, ss, rfl, sb2, hd2, e2, tps, so, ln⟩
  refine ⟨_, rfl, .inl ⟨F, _, rfl, SqL.of e2, fun t ht => ?_⟩⟩
  have s3 := same_new ht (.tup (as.map V.ref))
  exact q t as ss _ (hd2.back sb2 ht) (sb2.trans (Same.sb s3)) (hd2.same s3) (.of upd_same) (paired_mono (fun _ _ z => z.same s3) tps) so ln
end
end Lf
/-! Webs and lots that are drawn. -/
namespace Lf
open PySem PySem.Spec PyProof.Rows L2
theorem Hd.piece {H H' : Hp} {g gl a : Addr} {q : List Int × Int} (h : Hd H g gl) (sb : SB g H H') (t : PieceAt H a q) : PieceAt H' a q := by
  obtain ⟨s, h1, h2⟩ := t
  exact ⟨s, h.tp sb h1, h.tp sb h2⟩
theorem SB.piece {D a : Addr} {H H' : Hp} {q : List Int × Int} {ys : List V} (e : SB D H H') (hD : H D = some (.lst ys)) (t : PieceAt H a q) : PieceAt H' a q := by
  obtain ⟨s, h1, h2⟩ := t
  exact ⟨s, e.tp hD h1, e.tp hD h2⟩
theorem Hd.pieces {H H' : Hp} {g gl a : Addr} {ps : List (List Int × Int)} (h : Hd H g gl) (sb : SB g H H') (t : PiecesAt H a ps) : PiecesAt H' a ps := by
  obtain ⟨as, h1, h2⟩ := t
  exact ⟨as, h.tp sb h1, paired_mono (fun _ _ z => h.piece sb z) h2⟩
theorem unit_sum {p n v : Int} (hp : PrimeOk p) (hn : 1 ≤ n ∧ n ≤ 10) (h0 : 0 ≤ v) (h1 : v < n) : SumOk p (unitV n v) ∧ ((unitV n v).length : Int) = n := by
  have hl := unitV_len n v
  refine ⟨⟨by omega, (unit_vec hp).bd, 1, ?_, by decide⟩, by omega⟩
  have : (unitV n v).getD v.toNat 0 = 1 := by rw [unit_at (by omega), if_pos (by omega)]
  rw [← this]
  exact at_mem (by omega)
section
variable {P : Program} {w : World} {K : PySem.W.Frag} {mg : Str → Option Value} {base : Heap}
def spPieces : Sp := fun vs H Q _ => ∃ g gl p n m, vs = [.ref g, .int p, .int n, .int m] ∧ Hd H g gl ∧ PrimeOk p ∧ (1 ≤ n ∧ n ≤ 10) ∧ (0 ≤ m ∧ m ≤ 40) ∧ ∀ t ps H', H t = none → SB g H H' → Hd H' g gl → PiecesAt H' t ps → (∀ q ∈ ps, PieceOk p n q) → (ps.length : Int) ≤ m → Q (.ref t) H'
abbrev N__law_pieces : List Str := ["_law_hand_here", "_law_prime_here", "_law_many", "_law_most", "_law_found", "_law_one", "_law_size"]
theorem sc__law_pieces : FnScope N__law_pieces ["_law_hand_here", "_law_prime_here", "_law_many", "_law_most"] d__law_pieces.scope := ⟨rfl, rfl, rfl, by decide +kernel, rfl, by decide +kernel, by decide +kernel⟩
theorem cl__law_pieces (E : Env K mg) : Cl P w K mg base 5 "_law_pieces" ["_law_hand_here", "_law_prime_here", "_law_many", "_law_most"] (spPieces) := by
  refine Cl.of (k := 4) E 42 36 (d := d__law_pieces) rfl rfl rfl rfl rfl sc__law_pieces (fun vs H Q E' h => by (repeat obtain ⟨_, h⟩ := h); subst_vars; rfl) (fun _ _ _ _ _ _ us hl => match us, hl with | [_, _, _, _], _ => rfl) (fun f cdv A outer s H vs Q E' hr h => ?_)
  obtain ⟨g, gl, p, n, m, rfl, hd, hp, hn, hm, q⟩ := h
  have bd := hp.bd
  refine ⟨_, (pss_cons (ps_set (i := 4) sc__law_pieces.nd rfl (Or.inl rfl) (pe_lst pa_nil))
    (pss_cons (ps_for PassesOwn.never rfl (pi_tup (pe_c (cl__law_sums E) (hr.mono (by decide)) rfl (pa_cons (pv 0) (pa_cons (pv 1) (pa_cons (pv 2) (pa_cons (pv 3) pa_nil)))))) (pg_name (i := 5) sc__law_pieces.nd rfl (Or.inl rfl))
      (pss_cons (ps_if (pt_cmpR op_eq (pe_c (cl__law_draw E) (hr.mono (by decide)) rfl (pa_cons (pv 0) (pa_cons pe_int pa_nil))) pe_int (nomark _))
        (pss_one (ps_set (i := 5) sc__law_pieces.nd rfl (Or.inl rfl) (pe_c (cl__law_unit E) (hr.mono (by decide)) rfl (pa_cons (pv 2) (pa_cons (pe_c (cl__law_draw E) (hr.mono (by decide)) rfl (pa_cons (pv 0) (pa_cons (pv 2) pa_nil))) pa_nil)))))
        pss_nil)
      (pss_cons (ps_set (i := 6) sc__law_pieces.nd rfl (Or.inl rfl) (pe_c (cl__law_any E) (hr.mono (by decide)) rfl (pa_cons (pv 0) (pa_cons (pe_lst (pa_cons pe_int (pa_cons pe_int (pa_cons pe_int (pa_cons pe_int (pa_cons pe_int (pa_cons (pe_op op_pow pe_int pe_int) (pa_cons (pe_op op_add pe_int (pe_c (cl__law_draw E) (hr.mono (by decide)) rfl (pa_cons (pv 0) (pa_cons pe_int pa_nil)))) pa_nil)))))))) pa_nil))))
      (pss_one (ps_expr (pe_bm PySem.F.plainAttrs_list PySem.F.slot_list_append PySem.F.type_list_append mt_append (pv 4) (pa_cons (pe_tup (pa_cons (pv 5) (pa_cons (pv 6) pa_nil))) pa_nil)))))))
    (pss_one (ps_ret (pe_tupleOf (by rfl) (E.free 70) (pv 4)))))), ?_⟩
  refine seq_by (fun σ' H' => ∃ F, σ' = [some (.ref g), some (.int p), some (.int n), some (.int m), some (.ref F), none, none] ∧ H F = none ∧ Same H H' ∧ H' F = some (.lst [])) (fun N k => ⟨(by show 0 ≤ sizeLine; decide), fun F hF => k _ _ ⟨F, rfl, hF, same_new hF _, upd_same⟩⟩) ?_
  rintro σ' H1 ⟨F, rfl, hF, s1, e1⟩
  have hd1 := hd.same s1
  have nF := hd.ne hF
  have nFl := hd.nl hF
  refine seq_by (fun σ' H' => ∃ v5 v6 as ps, σ' = [some (.ref g), some (.int p), some (.int n), some (.int m), some (.ref F), v5, v6] ∧ SB g H H' ∧ Hd H' g gl ∧ H' F = some (.lst (as.map V.ref)) ∧ Paired (fun a q => PieceAt H' a q) as ps ∧ (∀ q ∈ ps, PieceOk p n q) ∧ (ps.length : Int) ≤ m) (fun N k => ?_) ?_
  · refine ⟨_, rfl, _, rfl, _, rfl, _, rfl, g, gl, p, n, m, rfl, hd1, hp, hn, hm, fun t as ss H2 ht sb2 hd2 ht2 tps so lm => ?_⟩
    have la := paired_len tps
    refine ⟨t, rfl, ⟨_, ht2.sq⟩, for_tup (K := K) (a := t) (xs := as.map V.ref) (fun i σ H' => ∃ v5 v6 bs ps, σ = [some (.ref g), some (.int p), some (.int n), some (.int m), some (.ref F), v5, v6] ∧ SB g H H' ∧ Hd H' g gl ∧ H' F = some (.lst (bs.map V.ref)) ∧ Paired (fun a q => PieceAt H' a q) bs ps ∧ (∀ q ∈ ps, PieceOk p n q) ∧ ps.length = i ∧
        Tp H' t (as.map V.ref) ∧ TpsAt H' as ss)
      ⟨none, none, [], [], rfl, (Same.sb s1).trans sb2, hd2, sb2 _ _ nF e1, .nil, fun s hs => (nomatch hs), rfl, ht2, tps⟩ (fun i σ H' _ h => ?_) ?_ ?_⟩
    · obtain ⟨_, _, _, _, _, _, _, _, _, _, _, h, _⟩ := h
      exact h.sq
    · rintro i x σ H3 hi ⟨v5, v6, bs, ps, rfl, sb3, hd3, e3, pps, po, ln, ht3, tps3⟩
      rw [List.getElem?_map] at hi
      obtain ⟨a, ha, rfl⟩ := Option.map_eq_some_iff.mp hi
      obtain ⟨ns, hns, hta⟩ := paired_get tps3 ha
      have son := so ns (List.mem_of_getElem? hns)
      have hil : i < as.length := (List.getElem?_eq_some_iff.mp ha).1
      refine seq_by (fun σ' H' => ∃ s ns, σ' = [some (.ref g), some (.int p), some (.int n), some (.int m), some (.ref F), some (.ref s), v6] ∧ SB g H H' ∧ Hd H' g gl ∧ H' F = some (.lst (bs.map V.ref)) ∧ Paired (fun a q => PieceAt H' a q) bs ps ∧ Tp H' t (as.map V.ref) ∧ TpsAt H' as ss ∧
        Tp H' s (iv ns) ∧ SumOk p ns ∧ (ns.length : Int) = n) (fun N k2 => ?_) ?_
      · refine ⟨_, rfl, g, gl, 4, rfl, hd3, by omega, by omega, fun d H5 d0 d1 sb5 hd5 => ⟨rfl, _, rfl, ?_⟩⟩
        have sb35 := sb3.trans sb5
        have e5 := sb5 _ _ nF e3
        have pps5 := paired_mono (fun _ _ z => hd3.piece sb5 z) pps
        have ht5 := hd3.tp sb5 ht3
        have tps5 := hd3.tps sb5 tps3
        by_cases c2 : d = 0
        · refine (if_pos ?_).mpr ?_
          · rw [dec_vi]
            exact decide_eq_true c2
          refine ⟨_, rfl, _, rfl, _, rfl, g, gl, n, rfl, hd5, by omega, by omega, fun v H6 v0 v1 sb6 hd6 => ⟨n, v, rfl, hn, fun u H7 hu s7 hut => ?_⟩⟩
          have us := unit_sum hp hn v0 v1
          have sb7 : SB g H5 H7 := sb6.trans (Same.sb s7)
          exact k2 _ _ ⟨u, unitV n v, rfl, sb35.trans sb7, hd6.same s7, sb7 _ _ nF e5, paired_mono (fun _ _ z => hd5.piece sb7 z) pps5, hd5.tp sb7 ht5, hd5.tps sb7 tps5, hut, us.1, us.2⟩
        · refine (if_neg ?_).mpr ?_
          · rw [dec_vi]
            exact fun z => c2 (of_decide_eq_true z)
          exact k2 _ _ ⟨a, ns, rfl, sb35, hd5, e5, pps5, ht5, tps5, hd3.tp sb5 hta, son.1, son.2⟩
      rintro σ' H5 ⟨s, ns, rfl, sb5, hd5, e5, pps5, ht5, tps5, hs5, son, lns⟩
      refine seq_by (fun σ' H' => ∃ z, σ' = [some (.ref g), some (.int p), some (.int n), some (.int m), some (.ref F), some (.ref s), some (.int z)] ∧ SB g H5 H' ∧ Hd H' g gl ∧ 1 ≤ z ∧ z ≤ 1000000) (fun N k2 => ?_) ?_
      · refine ⟨_, rfl, _, _, rfl, rfl, ⟨by omega, by omega, by decide⟩, _, rfl, g, gl, 20, rfl, hd5, by omega, by omega, fun d H6 d0 d1 sb6 hd6 => ⟨_, _, rfl, rfl, (by show 7 ≤ sizeLine; decide), fun L hL => ?_⟩⟩
        have s7 := same_new hL (.lst (iv [1, 2, 3, 3, 10, (10 : Int) ^ ((6 : Int).toNat), 1 + d]))
        refine ⟨g, gl, L, _, rfl, hd6.same s7, hd6.ne hL, upd_same, by simp, by show 7 ≤ 1000; omega, fun x H8 hx sb8 hd8 => ?_⟩
        obtain ⟨z, hz, rfl⟩ := List.mem_map.mp (show x ∈ iv [1, 2, 3, 3, 10, (10 : Int) ^ ((6 : Int).toNat), 1 + d] from hx)
        refine k2 _ _ ⟨z, rfl, (sb6.trans (Same.sb s7)).trans sb8, hd8, ?_⟩
        have e6 : (10 : Int) ^ ((6 : Int).toNat) = 1000000 := by decide
        rw [e6] at hz
        simp only [List.mem_cons, List.not_mem_nil, or_false] at hz
        omega
      rintro σ' H6 ⟨z, rfl, sb6, hd6, z0, z1⟩
      have e6 := sb6 _ _ nF e5
      have lz : (bs.map V.ref).length < sizeLine := by
        rw [List.length_map, paired_len pps5]
        exact Nat.lt_of_le_of_lt (show ps.length ≤ 1000 by omega) (by decide)
      refine ⟨_, rfl, .inl ⟨rfl, _, SqL.of e6⟩, _, rfl, _, rfl, (by show 2 ≤ sizeLine; decide), fun T hT => ?_⟩
      have s7 := same_new hT (.tup [.ref s, .int z])
      have eT : (upd H6 T (.tup [.ref s, .int z])) T = some (.tup [.ref s, .int z]) := upd_same
      have hd7 := hd6.same s7
      have sb7 : SB g H5 (upd H6 T (.tup [.ref s, .int z])) := sb6.trans (Same.sb s7)
      have e7 := s7 _ _ e6
      generalize upd H6 T (.tup [.ref s, .int z]) = H7 at s7 eT hd7 sb7 e7 ⊢
      have sbF : SB F H7 (upd H7 F (.lst (bs.map V.ref ++ [.ref T]))) := SB.upd
      refine ⟨F, _, _, rfl, rfl, e7, lz, ?_⟩
      have pT : PieceAt H7 T (ns, z) := ⟨s, .of eT, hd5.tp sb7 hs5⟩
      refine ⟨_, _, bs ++ [T], ps ++ [(ns, z)], rfl, ?_, hd7.upd nF nFl, by rw [upd_same, List.map_append]; rfl, ?_, ?_, by rw [List.length_append, ln]; rfl, sbF.tp e7 (hd5.tp sb7 ht5), ?_⟩
      · intro b o nb e
        rw [upd_ne (ne_of_none e hF)]
        exact sb7 _ _ nb (sb5 _ _ nb e)
      · exact paired_snoc (F := fun a q => PieceAt (upd H7 F (.lst (bs.map V.ref ++ [.ref T]))) a q) (sbF.piece e7 pT) (paired_mono (F := fun a q => PieceAt H7 a q) (fun _ _ z => sbF.piece e7 z) (paired_mono (fun _ _ z => hd5.piece sb7 z) pps5))
      · intro s hs
        rcases List.mem_append.mp hs with z' | z'
        · exact po s z'
        · rw [List.mem_singleton.mp z']
          exact ⟨son, lns, z0, z1⟩
      · exact paired_mono (F := fun a s => Tp H7 a (iv s)) (fun _ _ z => sbF.tp e7 z) (hd5.tps sb7 tps5)
    · rintro σ H3 ⟨v5, v6, bs, ps, rfl, sb3, hd3, e3, pps, po, ln, ht3, tps3⟩
      rw [List.length_map] at ln
      exact k _ _ ⟨v5, v6, bs, ps, rfl, sb3, hd3, e3, pps, po, by omega⟩
  rintro σ' H2 ⟨v5, v6, bs, ps, rfl, sb2, hd2, e2, pps, po, ln⟩
  refine ⟨_, rfl, .inl ⟨F, _, rfl, SqL.of e2, fun t ht => ?_⟩⟩
  have s3 := same_new ht (.tup (bs.map V.ref))
  exact q t ps _ (hd2.back sb2 ht) (sb2.trans (Same.sb s3)) (hd2.same s3) ⟨bs, .of upd_same, paired_mono (fun _ _ z => z.same s3) pps⟩ po ln
/-- (prime, many, pieces) at t -/
structure PtAt (H : Hp) (t : Addr) (p n : Int) (Pa : Addr) (ps : List (List Int × Int)) : Prop where
  tp : Tp H t [.int p, .int n, .ref Pa]
  pcs : PiecesAt H Pa ps
theorem PtAt.same {H H' : Hp} {t Pa : Addr} {p n : Int} {ps : List (List Int × Int)} (e : Same H H') (h : PtAt H t p n Pa ps) : PtAt H' t p n Pa ps := ⟨h.tp.same e, h.pcs.same e⟩
theorem Hd.pt {H H' : Hp} {g gl t Pa : Addr} {p n : Int} {ps : List (List Int × Int)} (h : Hd H g gl) (sb : SB g H H') (r : PtAt H t p n Pa ps) : PtAt H' t p n Pa ps := ⟨h.tp sb r.tp, h.pieces sb r.pcs⟩
def spWebParts : Sp := fun vs H Q _ => ∃ g gl, vs = [.ref g] ∧ Hd H g gl ∧ ∀ t p n Pa ps H', SB g H H' → Hd H' g gl → PtAt H' t p n Pa ps → WebOk p n ps → Q (.ref t) H'
abbrev N__law_web_parts : List Str := ["_law_hand_here", "_law_prime_here", "_law_many"]
theorem sc__law_web_parts : FnScope N__law_web_parts ["_law_hand_here"] d__law_web_parts.scope := ⟨rfl, rfl, rfl, by decide +kernel, rfl, by decide +kernel, by decide +kernel⟩
theorem cl__law_web_parts (E : Env K mg) : Cl P w K mg base 6 "_law_web_parts" ["_law_hand_here"] (spWebParts) := by
  refine Cl.of (k := 5) E 43 37 (d := d__law_web_parts) rfl rfl rfl rfl rfl sc__law_web_parts (fun vs H Q E' h => by (repeat obtain ⟨_, h⟩ := h); subst_vars; rfl) (fun _ _ _ _ _ _ us hl => match us, hl with | [_], _ => rfl) (fun f cdv A outer s H vs Q E' hr h => ?_)
  obtain ⟨g, gl, rfl, hd, q⟩ := h
  refine ⟨_, (pss_cons (ps_par (i := 1) (j := 2) (by rfl) sc__law_web_parts.nd rfl rfl (by decide) rfl rfl (pa_cons (pe_c (cl__law_prime E) (hr.mono (by decide)) rfl (pa_cons (pv 0) pa_nil)) (pa_cons (pe_c (cl__law_any E) (hr.mono (by decide)) rfl (pa_cons (pv 0) (pa_cons (pe_lst (pa_cons pe_int (pa_cons pe_int (pa_cons pe_int (pa_cons pe_int (pa_cons pe_int (pa_cons pe_int (pa_cons pe_int (pa_cons pe_int (pa_cons pe_int pa_nil)))))))))) pa_nil))) pa_nil)) (by rfl))
    (pss_one (ps_ret (pe_tup (pa_cons (pv 1) (pa_cons (pv 2) (pa_cons (pe_c (cl__law_pieces E) (hr.mono (by decide)) rfl (pa_cons (pv 0) (pa_cons (pv 1) (pa_cons (pv 2) (pa_cons (pe_c (cl__law_any E) (hr.mono (by decide)) rfl (pa_cons (pv 0) (pa_cons (pe_lst (pa_cons pe_int (pa_cons pe_int (pa_cons pe_int (pa_cons pe_int (pa_cons pe_int pa_nil)))))) pa_nil))) pa_nil))))) pa_nil))))))), ?_⟩
  refine ⟨_, rfl, g, gl, rfl, hd, fun p H1 hp sb1 hd1 => ?_⟩
  refine ⟨_, rfl, (by show 9 ≤ sizeLine; decide), fun L hL => ?_⟩
  have s2 := same_new hL (.lst (iv [1, 2, 2, 3, 3, 3, 4, 5, 10]))
  refine ⟨g, gl, L, _, rfl, hd1.same s2, hd1.ne hL, upd_same, by simp, by show 9 ≤ 1000; omega, fun x H3 hx sb3 hd3 => ?_⟩
  obtain ⟨n, hz, rfl⟩ := List.mem_map.mp (show x ∈ iv [1, 2, 2, 3, 3, 3, 4, 5, 10] from hx)
  have hn : 1 ≤ n ∧ n ≤ 10 := by
    simp only [List.mem_cons, List.not_mem_nil, or_false] at hz
    omega
  have sb13 := (sb1.trans (Same.sb s2)).trans sb3
  refine ⟨_, _, rfl, _, rfl, _, rfl, _, rfl, _, rfl, _, rfl, _, rfl, (by show 5 ≤ sizeLine; decide), fun L2 hL2 => ?_⟩
  have s4 := same_new hL2 (.lst (iv [6, 8, 10, 10, 40]))
  refine ⟨g, gl, L2, _, rfl, hd3.same s4, hd3.ne hL2, upd_same, by simp, by show 5 ≤ 1000; omega, fun x H5 hx sb5 hd5 => ?_⟩
  obtain ⟨m, hz, rfl⟩ := List.mem_map.mp (show x ∈ iv [6, 8, 10, 10, 40] from hx)
  have hm : 0 ≤ m ∧ m ≤ 40 := by
    simp only [List.mem_cons, List.not_mem_nil, or_false] at hz
    omega
  refine ⟨g, gl, p, n, m, rfl, hd5, hp, hn, hm, fun Pa ps H6 _ sb6 hd6 hpc hpo hpl => ⟨(by show 3 ≤ sizeLine; decide), fun t ht => ?_⟩⟩
  have s7 := same_new ht (.tup [.int p, .int n, .ref Pa])
  exact q t p n Pa ps _ ((((sb13.trans (Same.sb s4)).trans sb5).trans sb6).trans (Same.sb s7)) (hd6.same s7) ⟨.of upd_same, hpc.same s7⟩ ⟨hp, hn, by omega, hpo⟩
def spLot : Sp := fun vs H Q _ => ∃ g gl m, vs = [.ref g, .int m] ∧ Hd H g gl ∧ (0 ≤ m ∧ m ≤ 40) ∧ ∀ t N H', SB g H H' → Hd H' g gl → Tp H' t (iv N) → LotN m.toNat N → Q (.ref t) H'
abbrev N__law_lot : List Str := ["_law_hand_here", "_law_many", "_law_thick", "_law_number"]
theorem sc__law_lot : FnScope N__law_lot ["_law_hand_here", "_law_many"] d__law_lot.scope := ⟨rfl, rfl, rfl, by decide +kernel, rfl, by decide +kernel, by decide +kernel⟩
theorem cl__law_lot (E : Env K mg) : Cl P w K mg base 2 "_law_lot" ["_law_hand_here", "_law_many"] (spLot) := by
  refine Cl.of (k := 1) E 44 38 (d := d__law_lot) rfl rfl rfl rfl rfl sc__law_lot (fun vs H Q E' h => by (repeat obtain ⟨_, h⟩ := h); subst_vars; rfl) (fun _ _ _ _ _ _ us hl => match us, hl with | [_, _], _ => rfl) (fun f cdv A outer s H vs Q E' hr h => ?_)
  obtain ⟨g, gl, m, rfl, hd, hm, q⟩ := h
  refine ⟨_, (pss_cons (ps_set (i := 2) sc__law_lot.nd rfl (Or.inr rfl) (pe_op op_add pe_int (pe_c (cl__law_draw E) (hr.mono (by decide)) rfl (pa_cons (pv 0) (pa_cons pe_int pa_nil)))))
    (pss_one (ps_ret (pe_tupleOf (by rfl) (E.free 70) (pe_lc (own := [("_law_number", 3)]) (g := gName 3) rfl sc__law_lot.nd (pi_range1 (by rfl) (E.free 74) (pa_cons (pv 1) pa_nil)) (blkOk_by (own := [("_law_number", 3)]) (N := N__law_lot) (sc := d__law_lot.scope) (by decide +kernel)) (fun _ _ _ _ _ => (pg_name (i := 3) sc__law_lot.nd rfl (Or.inl rfl))) (fun _ _ _ _ _ => (pts_one (pt_cmpR op_lt (pe_c (cl__law_draw E) (hr.mono (by decide)) rfl (pa_cons (pv 0) (pa_cons pe_int pa_nil))) (pv 2) (nomark _)))) (fun _ _ _ _ _ => (pv 3))))))), ?_⟩
  refine ⟨_, rfl, g, gl, 4, rfl, hd, by omega, by omega, fun d H1 d0 d1 sb1 hd1 => ⟨_, _, rfl, rfl, ?_⟩⟩
  refine ⟨_, rfl, m, rfl, by omega, by omega, fun D hD => ?_⟩
  refine lcD hD hd1 (by omega) (fun _ => rfl) (fun i ys => ys.length ≤ i ∧ (∀ y ∈ ys, 0 ≤ y ∧ y < (i : Int)) ∧ ys.Pairwise (· < ·)) ⟨Nat.le_refl _, fun v hv => (nomatch hv), .nil⟩ (fun i ys r => r.1) ?_ ?_ fun H2 ys s2 hd2 e2 r => ?_
  · intro i H2 ys hi sb2 hd2 ⟨r1, r2, r3⟩ K k
    exact ⟨_, rfl, g, gl, 4, rfl, hd2, by omega, by omega, fun e H3 e0 e1 sb3 hd3 => ⟨_, rfl, _, _, rfl, rfl, _, rfl, k _ H3 sb3 hd3 fun _ => ⟨by omega, fun y hy => by have := r2 y hy; omega, r3⟩⟩⟩
  · intro i H2 ys hi sb2 hd2 ⟨r1, r2, r3⟩ R' k
    refine ⟨_, rfl, k _ H2 SB.refl hd2 ⟨by rw [List.length_append]; show ys.length + 1 ≤ i + 1; omega, fun y hy => ?_, ?_⟩⟩
    · rcases List.mem_append.mp hy with z | z
      · have := r2 y z
        omega
      · rw [List.mem_singleton.mp z]
        omega
    · rw [List.pairwise_append]
      refine ⟨r3, List.pairwise_singleton _ _, fun a ha b hb => ?_⟩
      rw [List.mem_singleton.mp hb]
      have := r2 a ha
      omega
  · refine .inl ⟨D, _, rfl, SqL.of e2, fun t ht => ?_⟩
    have s3 := same_new ht (.tup (iv ys))
    exact q t ys _ ((sb1.trans s2).trans (Same.sb s3)) (hd2.same s3) (.of upd_same) ⟨fun y hy => r.2.1 y hy, r.2.2⟩
end
end Lf
/-! Odd things. -/
namespace Lf
open PySem PySem.Spec PyProof.Rows L2
/-- what may stand in a tuple that is asked for -/
def It1 (g : Addr) (H : Hp) (y : V) : Prop := (Pr H y false ∧ y ≠ .ref g) ∨ ∃ q a b, y = .ref q ∧ Tp H q [a, b] ∧ (isI a).isSome = true ∧ (isI b).isSome = true
/-- what may be asked for -/
def ThI (g : Addr) (H : Hp) (x : V) : Prop := (NT H x ∧ x ≠ .ref g) ∨ ∃ t xs, x = .ref t ∧ Tp H t xs ∧ (∀ y ∈ xs, It1 g H y) ∧ xs.length ≤ 1000
def DpI (g : Addr) (H : Hp) (x : V) : Prop := (NT H x ∧ x ≠ .ref g) ∨ ∃ t xs, x = .ref t ∧ Tp H t xs ∧ xs.length ≤ 1 ∧ ∀ y ∈ xs, It1 g H y
section
variable {H H' : Hp} {g gl : Addr} {x y : V}
theorem It1.same (e : Same H H') (h : It1 g H y) : It1 g H' y := by
  rcases h with ⟨h, n⟩ | ⟨q, a, b, h1, h2, h3⟩
  · exact .inl ⟨h.same e, n⟩
  · exact .inr ⟨q, a, b, h1, h2.same e, h3⟩
theorem ThI.same (e : Same H H') (h : ThI g H x) : ThI g H' x := by
  rcases h with ⟨h, n⟩ | ⟨t, xs, h1, h2, h3, h4⟩
  · exact .inl ⟨h.same e, n⟩
  · exact .inr ⟨t, xs, h1, h2.same e, fun y hy => (h3 y hy).same e, h4⟩
theorem DpI.same (e : Same H H') (h : DpI g H x) : DpI g H' x := by
  rcases h with ⟨h, n⟩ | ⟨t, xs, h1, h2, h3, h4⟩
  · exact .inl ⟨h.same e, n⟩
  · exact .inr ⟨t, xs, h1, h2.same e, h3, fun y hy => (h4 y hy).same e⟩
theorem DpI.th (h : DpI g H x) : ThI g H x := by
  rcases h with h | ⟨t, xs, h1, h2, h3, h4⟩
  · exact .inl h
  · exact .inr ⟨t, xs, h1, h2, h4, by omega⟩
theorem NT.sb (sb : SB g H H') (h : NT H x) (n : x ≠ .ref g) : NT H' x := by
  rcases h with h | h | h | h | ⟨p, xs, h1, h2⟩ | ⟨p, kvs, h1, h2⟩
  · exact .inl h
  · exact .inr (.inl h)
  · exact .inr (.inr (.inl h))
  · exact .inr (.inr (.inr (.inl h)))
  · exact .inr (.inr (.inr (.inr (.inl ⟨p, xs, h1, sb _ _ (fun z => n (by rw [h1, z])) h2⟩))))
  · exact .inr (.inr (.inr (.inr (.inr ⟨p, kvs, h1, sb _ _ (fun z => n (by rw [h1, z])) h2⟩))))
theorem Hd.it1 (h : Hd H g gl) (sb : SB g H H') (r : It1 g H y) : It1 g H' y := by
  rcases r with ⟨r, n⟩ | ⟨q, a, b, h1, h2, h3⟩
  · refine .inl ⟨?_, n⟩
    rcases r with ⟨r, e⟩ | ⟨p, xs, h1, h2, h3⟩
    · exact .inl ⟨r.sb sb n, e⟩
    · exact .inr ⟨p, xs, h1, h.tp sb h2, h3⟩
  · exact .inr ⟨q, a, b, h1, h.tp sb h2, h3⟩
theorem Hd.thI (h : Hd H g gl) (sb : SB g H H') (r : ThI g H x) : ThI g H' x := by
  rcases r with ⟨r, n⟩ | ⟨t, xs, h1, h2, h3, h4⟩
  · exact .inl ⟨r.sb sb n, n⟩
  · exact .inr ⟨t, xs, h1, h.tp sb h2, fun y hy => h.it1 sb (h3 y hy), h4⟩
theorem Hd.dpI (h : Hd H g gl) (sb : SB g H H') (r : DpI g H x) : DpI g H' x := by
  rcases r with ⟨r, n⟩ | ⟨t, xs, h1, h2, h3, h4⟩
  · exact .inl ⟨r.sb sb n, n⟩
  · exact .inr ⟨t, xs, h1, h.tp sb h2, h3, fun y hy => h.it1 sb (h4 y hy)⟩
theorem Hd.not_tp {g gl t : Addr} {xs : List V} (h : Hd H g gl) (r : Tp H t xs) : t ≠ g := fun z => by
  obtain ⟨_, _, _, _, _, e, _⟩ := h
  rcases r with r | ⟨o, r⟩
  · rw [z, e] at r
    cases r
  · rw [z, e] at r
    cases r
theorem DpI.it (hd : Hd H g gl) (h : DpI g H x) : It1 g H x := by
  rcases h with ⟨h, n⟩ | ⟨t, xs, h1, h2, h3, h4⟩
  · exact .inl ⟨.inl ⟨h, rfl⟩, n⟩
  · refine .inl ⟨.inr ⟨t, xs, h1, h2, (decide_eq_false (by omega)).symm⟩, ?_⟩
    rw [h1]
    intro z
    exact hd.not_tp h2 (V.ref.inj z)
theorem nt_int (i : Int) : NT H (.int i) := .inr (.inr (.inl ⟨i, rfl⟩))
theorem nt_bl (i : Bool) : NT H (.bl i) := .inr (.inl ⟨i, rfl⟩)
theorem nt_str (i : Str) : NT H (.str i) := .inr (.inr (.inr (.inl ⟨i, rfl⟩)))
theorem nt_non : NT H .non := .inl rfl
theorem nt_lst {p : Addr} {xs : List V} (h : H p = some (.lst xs)) : NT H (.ref p) := .inr (.inr (.inr (.inr (.inl ⟨p, xs, rfl, h⟩))))
theorem nt_dk {p : Addr} {xs : List (Key × V)} (h : H p = some (.dK xs)) : NT H (.ref p) := .inr (.inr (.inr (.inr (.inr ⟨p, xs, rfl, h⟩))))
/-- all that may be asked for is told -/
theorem items_all : ∀ {xs : List V}, (∀ y ∈ xs, It1 g H y) → (∃ bs, Paired (fun y b => Pr H y b) xs bs ∧ bs.all id = false) ∨ ∃ as prs, xs = as.map V.ref ∧ Paired (fun a (e : V × V) => Tp H a [e.1, e.2]) as prs ∧ ∀ e ∈ prs, (isI e.1).isSome = true ∧ (isI e.2).isSome = true
  | [], _ => .inr ⟨[], [], rfl, .nil, fun e he => (nomatch he)⟩
  | y :: r, h => by
    have hy := h y List.mem_cons_self
    have ih := items_all (xs := r) fun z hz => h z (List.mem_cons_of_mem _ hz)
    have bsr : ∀ {zs : List V}, (∀ y ∈ zs, It1 g H y) → ∃ bs, Paired (fun y b => Pr H y b) zs bs := by
      intro zs
      induction zs with
      | nil => exact fun _ => ⟨[], .nil⟩
      | cons z t ih2 =>
        intro hz
        obtain ⟨bs, hb⟩ := ih2 fun w hw => hz w (List.mem_cons_of_mem _ hw)
        rcases hz z List.mem_cons_self with ⟨q, _⟩ | ⟨q, a, b, h1, h2, _⟩
        · exact ⟨_, .cons q hb⟩
        · exact ⟨true :: bs, .cons (.inr ⟨q, _, h1, h2, rfl⟩) hb⟩
    obtain ⟨bs0, hb0⟩ := bsr (zs := r) fun z hz => h z (List.mem_cons_of_mem _ hz)
    rcases hy with ⟨q, _⟩ | ⟨q, a, b, h1, h2, h3, h4⟩
    · exact .inl ⟨false :: bs0, .cons q hb0, rfl⟩
    · rcases ih with ⟨bs, hb, e⟩ | ⟨as, prs, e1, e2, e3⟩
      · exact .inl ⟨true :: bs, .cons (.inr ⟨q, _, h1, h2, rfl⟩) hb, by rw [List.all_cons, e]; rfl⟩
      · refine .inr ⟨q :: as, (a, b) :: prs, by rw [List.map_cons, ← e1, h1], .cons h2 e2, fun e he => ?_⟩
        rcases List.mem_cons.mp he with z | z
        · rw [z]
          exact ⟨h3, h4⟩
        · exact e3 e z
theorem ThI.at_ (h : ThI g H x) : ∃ th, ThingAt H x th := by
  rcases h with ⟨h, n⟩ | ⟨t, xs, h1, h2, h3, h4⟩
  · exact ⟨.no, h⟩
  · rcases items_all h3 with ⟨bs, hb, e⟩ | ⟨as, prs, e1, e2, e3⟩
    · exact ⟨.bad, t, xs, bs, h1, h2, hb, e, h4⟩
    · rw [e1] at h2 h4
      rw [List.length_map] at h4
      exact ⟨.ok prs, t, h1, ⟨as, h2, e2, e3⟩, by rw [← paired_len e2]; exact h4⟩
end
section
variable {P : Program} {w : World} {K : PySem.W.Frag} {mg : Str → Option Value} {base : Heap}
def spDeep : Sp := fun vs H Q _ => ∃ g gl, vs = [.ref g] ∧ Hd H g gl ∧ ∀ x H', SB g H H' → Hd H' g gl → DpI g H' x → Q x H'
abbrev N__law_deep : List Str := ["_law_hand_here", "_law_thing", "_law_turn"]
theorem sc__law_deep : FnScope N__law_deep ["_law_hand_here"] d__law_deep.scope := ⟨rfl, rfl, rfl, by decide +kernel, rfl, by decide +kernel, by decide +kernel⟩
theorem cl__law_deep (E : Env K mg) : Cl P w K mg base 3 "_law_deep" ["_law_hand_here"] (spDeep) := by
  refine Cl.of (k := 2) E 28 22 (d := d__law_deep) rfl rfl rfl rfl rfl sc__law_deep (fun vs H Q E' h => by (repeat obtain ⟨_, h⟩ := h); subst_vars; rfl) (fun _ _ _ _ _ _ us hl => match us, hl with | [_], _ => rfl) (fun f cdv A outer s H vs Q E' hr h => ?_)
  obtain ⟨g, gl, rfl, hd, q⟩ := h
  refine ⟨_, (pss_cons (ps_set (i := 1) sc__law_deep.nd rfl (Or.inl rfl) (pe_c (cl__law_any E) (hr.mono (by decide)) rfl (pa_cons (pv 0) (pa_cons (pe_lst (pa_cons pe_int (pa_cons (pe_tup pa_nil) (pa_cons pe_str pa_nil)))) pa_nil))))
    (pss_cons (ps_for PassesOwn.never rfl (pi_range1 (by rfl) (E.free 74) (pa_cons (pe_op op_add pe_int (pe_c (cl__law_draw E) (hr.mono (by decide)) rfl (pa_cons (pv 0) (pa_cons pe_int pa_nil)))) pa_nil)) (pg_name (i := 2) sc__law_deep.nd rfl (Or.inl rfl))
      (pss_one (ps_set (i := 1) sc__law_deep.nd rfl (Or.inl rfl) (pe_ifExp (pt_cmpR op_gt (pe_c (cl__law_draw E) (hr.mono (by decide)) rfl (pa_cons (pv 0) (pa_cons pe_int pa_nil))) pe_int (nomark _)) (pe_tup (pa_cons (pv 1) pa_nil)) (pe_lst (pa_cons (pv 1) pa_nil))))))
    (pss_one (ps_ret (pv 1))))), ?_⟩
  refine seq_by (fun σ' H' => ∃ x, σ' = [some (.ref g), some x, none] ∧ SB g H H' ∧ Hd H' g gl ∧ DpI g H' x) (fun N k => ?_) ?_
  · refine ⟨_, rfl, (by show 0 ≤ sizeLine; decide), fun p1 hp1 => ⟨(by show 3 ≤ sizeLine; decide), fun L hL => ?_⟩⟩
    have s1 := same_new hp1 (.tup [])
    have s2 := same_new hL (.lst [.int 0, .ref p1, .str (Str.ofString "a")])
    have s12 := s1.trans s2
    refine ⟨g, gl, L, _, rfl, hd.same s12, (hd.same s1).ne hL, upd_same, by simp, by show 3 ≤ 1000; omega, fun x H3 hx sb hd3 => k _ _ ⟨x, rfl, (Same.sb s12).trans sb, hd3, (hd.same s12).dpI sb ?_⟩⟩
    have hx' : x ∈ [V.int 0, .ref p1, .str (Str.ofString "a")] := hx
    simp only [List.mem_cons, List.not_mem_nil, or_false] at hx'
    rcases hx' with rfl | rfl | rfl
    · exact .inl ⟨nt_int _, fun z => nomatch z⟩
    · exact .inr ⟨p1, [], rfl, (Tp.of upd_same).same s2, by simp, fun y hy => nomatch hy⟩
    · exact .inl ⟨nt_str _, fun z => nomatch z⟩
  rintro σ' H1 ⟨x, rfl, sb1, hd1, hx1⟩
  refine seq_by (fun σ' H' => ∃ x v2, σ' = [some (.ref g), some x, v2] ∧ SB g H H' ∧ Hd H' g gl ∧ DpI g H' x) (fun N k => ?_) ?_
  · refine ⟨_, rfl, g, gl, 12, rfl, hd1, by omega, by omega, fun r H2 r0 r1 sb2 hd2 => ⟨_, _, rfl, rfl, 18 + r, rfl, by omega, by omega, ?_⟩⟩
    refine for_by (18 + r).toNat (fun i σ' H' => ∃ x v2, σ' = [some (.ref g), some x, v2] ∧ SB g H H' ∧ Hd H' g gl ∧ DpI g H' x)
      ⟨x, none, rfl, sb1.trans sb2, hd2, hd1.dpI sb2 hx1⟩ (fun i σ H' hi _ => hi) (fun σ H' _ => Nat.le_refl _) ?_ fun σ H' h => k _ _ h
    rintro i z σ H3 H4 hi ⟨x, v2, rfl, sb3, hd3, hx3⟩ ⟨rfl, rfl⟩
    refine ⟨_, rfl, g, gl, 3, rfl, hd3, by omega, by omega, fun d H5 d0 d1 sb5 hd5 => ⟨_, _, rfl, rfl, _, rfl, ?_⟩⟩
    have hx5 := hd3.dpI sb5 hx3
    by_cases c : 0 < d
    · refine (if_pos (decide_eq_true c)).mpr ?_
      refine ⟨_, rfl, (by show 1 ≤ sizeLine; decide), fun T hT => ?_⟩
      have s6 := same_new hT (.tup [x])
      exact ⟨.ref T, _, rfl, (sb3.trans sb5).trans (Same.sb s6), hd5.same s6, .inr ⟨T, [x], rfl, .of upd_same, by simp, fun y hy => by rw [List.mem_singleton.mp hy]; exact (hx5.it hd5).same s6⟩⟩
    · refine (if_neg (fun z => c (of_decide_eq_true z))).mpr ?_
      refine ⟨_, rfl, (by show 1 ≤ sizeLine; decide), fun T hT => ?_⟩
      have s6 := same_new hT (.lst [x])
      exact ⟨.ref T, _, rfl, (sb3.trans sb5).trans (Same.sb s6), hd5.same s6, .inl ⟨nt_lst upd_same, fun z => hd5.ne hT (V.ref.inj z)⟩⟩
  rintro σ' H2 ⟨x, v2, rfl, sb2, hd2, hx2⟩
  exact ⟨_, rfl, q x H2 sb2 hd2 hx2⟩
def spOdd : Sp := fun vs H Q _ => ∃ g gl o, vs = [.ref g, o] ∧ Hd H g gl ∧ ThI g H o ∧ ∀ x H', SB g H H' → Hd H' g gl → ThI g H' x → Q x H'
abbrev N__law_odd : List Str := ["_law_hand_here", "_law_other", "_law_some"]
theorem sc__law_odd : FnScope N__law_odd ["_law_hand_here", "_law_other"] d__law_odd.scope := ⟨rfl, rfl, rfl, by decide +kernel, rfl, by decide +kernel, by decide +kernel⟩
theorem cl__law_odd (E : Env K mg) : Cl P w K mg base 4 "_law_odd" ["_law_hand_here", "_law_other"] (spOdd) := by
  refine Cl.of (k := 3) E 29 23 (d := d__law_odd) rfl rfl rfl rfl rfl sc__law_odd (fun vs H Q E' h => by (repeat obtain ⟨_, h⟩ := h); subst_vars; rfl) (fun _ _ _ _ _ _ us hl => match us, hl with | [_, _], _ => rfl) (fun f cdv A outer s H vs Q E' hr h => ?_)
  obtain ⟨g, gl, o, rfl, hd, ho, q⟩ := h
  refine ⟨_, (pss_cons (ps_set (i := 2) sc__law_odd.nd rfl (Or.inl rfl) (pe_lst (pa_cons pe_non (pa_cons pe_bl (pa_cons pe_bl (pa_cons (by exact pe_un un_neg pe_int) (pa_cons pe_int (pa_cons pe_int (pa_cons (pe_op op_pow pe_int pe_int) (pa_cons pe_str (pa_cons pe_str (pa_cons (pe_tup pa_nil) (pa_cons (pe_lst pa_nil) (pa_cons pe_dnewK (pa_cons (pe_tup (pa_cons pe_int pa_nil)) (pa_cons (pe_lst (pa_cons pe_int pa_nil)) (pa_cons (pe_tup (pa_cons pe_bl pa_nil)) (pa_cons (pe_tup (pa_cons pe_str pa_nil)) (pa_cons (pe_tup (pa_cons pe_non (pa_cons pe_int pa_nil))) pa_nil)))))))))))))))))))
    (pss_one (ps_ret (pe_c (cl__law_any E) (hr.mono (by decide)) rfl (pa_cons (pv 0) (pa_cons (pe_op op_cat (pv 2) (pe_lst (pa_cons (pe_disp (pps_cons pe_int pe_int pps_nil) (by rfl) (by rfl) (fun z => by cases z) (by decide)) (pa_cons (pv 1) (pa_cons (pe_c (cl__law_deep E) (hr.mono (by decide)) rfl (pa_cons (pv 0) pa_nil)) pa_nil))))) pa_nil)))))), ?_⟩
  refine seq_by (fun σ' H' => ∃ L xs, σ' = [some (.ref g), some o, some (.ref L)] ∧ Same H H' ∧ H' L = some (.lst xs) ∧ xs.length ≤ 100 ∧ H L = none ∧ ∀ x ∈ xs, ThI g H' x) (fun N k => ?_) ?_
  · refine ⟨1, rfl, _, _, rfl, rfl, ⟨by omega, by omega, by decide⟩, (by show 0 ≤ sizeLine; decide), fun p1 h1 => ⟨(by show 0 ≤ sizeLine; decide), fun p2 h2 => fun p3 h3 => ⟨(by show 1 ≤ sizeLine; decide), fun p4 h4 => ⟨(by show 1 ≤ sizeLine; decide), fun p5 h5 => ⟨(by show 1 ≤ sizeLine; decide), fun p6 h6 => ⟨(by show 1 ≤ sizeLine; decide), fun p7 h7 => ⟨(by show 2 ≤ sizeLine; decide), fun p8 h8 => ⟨(by show 17 ≤ sizeLine; decide), fun L hL => ?_⟩⟩⟩⟩⟩⟩⟩⟩
    have s1 := same_new h1 (.tup [])
    have s2 := same_new h2 (.lst [])
    have s3 := same_new h3 (.dK [])
    have s4 := same_new h4 (.tup [.int 0])
    have s5 := same_new h5 (.lst [.int 0])
    have s6 := same_new h6 (.tup [.bl true])
    have s7 := same_new h7 (.tup [.str (Str.ofString "0")])
    have s8 := same_new h8 (.tup [.non, .int 0])
    have s9 := same_new hL (.lst [.non, .bl true, .bl false, .int (-1), .int 13, .int 252, .int (10 ^ (59 : Int).toNat), .str (Str.ofString "0"), .str (Str.ofString ""), .ref p1, .ref p2, .ref p3, .ref p4, .ref p5, .ref p6, .ref p7, .ref p8])
    have t3 := (s1.trans s2).trans s3
    have t6 := ((t3.trans s4).trans s5).trans s6
    have t8 := (t6.trans s7).trans s8
    have b8 := s9
    have b7 := s8.trans b8
    have b6 := s7.trans b7
    have b5 := s6.trans b6
    have b4 := s5.trans b5
    have b3 := s4.trans b4
    have b2 := s3.trans b3
    have b1 := s2.trans b2
    refine k _ _ ⟨L, _, rfl, t8.trans s9, upd_same, by show 17 ≤ 100; omega, t8.free hL, fun x hx => ?_⟩
    have hx' : x ∈ [V.non, .bl true, .bl false, .int (-1), .int 13, .int 252, .int (10 ^ (59 : Int).toNat), .str (Str.ofString "0"), .str (Str.ofString ""), .ref p1, .ref p2, .ref p3, .ref p4, .ref p5, .ref p6, .ref p7, .ref p8] := hx
    have ni : ∀ (H0 : Hp) i, ThI g H0 (.int i) := fun _ i => .inl ⟨nt_int i, fun z => nomatch z⟩
    have nb : ∀ (H0 : Hp) i, ThI g H0 (.bl i) := fun _ i => .inl ⟨nt_bl i, fun z => nomatch z⟩
    have ns : ∀ (H0 : Hp) i, ThI g H0 (.str i) := fun _ i => .inl ⟨nt_str i, fun z => nomatch z⟩
    have it : ∀ {H0 : Hp} {y : V}, NT H0 y → y ≠ .ref g → It1 g H0 y := fun h n => .inl ⟨.inl ⟨h, rfl⟩, n⟩
    simp only [List.mem_cons, List.not_mem_nil, or_false] at hx'
    rcases hx' with rfl | rfl | rfl | rfl | rfl | rfl | rfl | rfl | rfl | rfl | rfl | rfl | rfl | rfl | rfl | rfl | rfl
    · exact .inl ⟨nt_non, fun z => nomatch z⟩
    · exact nb _ _
    · exact nb _ _
    · exact ni _ _
    · exact ni _ _
    · exact ni _ _
    · exact ni _ _
    · exact ns _ _
    · exact ns _ _
    · exact .inr ⟨p1, [], rfl, (Tp.of upd_same).same b1, fun y hy => (nomatch hy), by simp⟩
    · exact .inl ⟨(nt_lst upd_same).same b2, fun z => hd.ne (s1.free h2) (V.ref.inj z)⟩
    · exact .inl ⟨(nt_dk upd_same).same b3, fun z => hd.ne ((s1.trans s2).free h3) (V.ref.inj z)⟩
    · exact .inr ⟨p4, [.int 0], rfl, (Tp.of upd_same).same b4, fun y hy => by rw [List.mem_singleton.mp hy]; exact it (nt_int _) (fun z => nomatch z), by simp⟩
    · exact .inl ⟨(nt_lst upd_same).same b5, fun z => hd.ne ((t3.trans s4).free h5) (V.ref.inj z)⟩
    · exact .inr ⟨p6, [.bl true], rfl, (Tp.of upd_same).same b6, fun y hy => by rw [List.mem_singleton.mp hy]; exact it (nt_bl _) (fun z => nomatch z), by simp⟩
    · exact .inr ⟨p7, [.str (Str.ofString "0")], rfl, (Tp.of upd_same).same b7, fun y hy => by rw [List.mem_singleton.mp hy]; exact it (nt_str _) (fun z => nomatch z), by simp⟩
    · refine .inr ⟨p8, [.non, .int 0], rfl, (Tp.of upd_same).same b8, fun y hy => ?_, by simp⟩
      simp only [List.mem_cons, List.not_mem_nil, or_false] at hy
      rcases hy with rfl | rfl
      · exact it nt_non (fun z => nomatch z)
      · exact it (nt_int _) (fun z => nomatch z)
  rintro σ' H1 ⟨L, xs, rfl, s1, e1, lx, hL, hxs⟩
  have hd1 := hd.same s1
  have nL := hd.ne hL
  refine ⟨_, rfl, _, rfl, fun m0 hm0 => ⟨upd_same, [(Sum.inl 0, .int 0)], rfl, by show 1 ≤ 15; decide, ?_⟩⟩
  have s2 : Same H1 (upd (upd H1 m0 (.dK [])) m0 (.dK (mergeK [] [(Sum.inl 0, .int 0)]))) := by
    rw [upd_upd]
    exact same_new hm0 _
  have em : (upd (upd H1 m0 (.dK [])) m0 (.dK (mergeK [] [(Sum.inl 0, .int 0)]))) m0 = some (.dK (mergeK [] [(Sum.inl 0, .int 0)])) := upd_same
  generalize upd (upd H1 m0 (.dK [])) m0 (.dK (mergeK [] [(Sum.inl 0, .int 0)])) = H2 at s2 em ⊢
  have hd2 := hd1.same s2
  refine ⟨_, rfl, _, rfl, g, gl, rfl, hd2, fun y H3 sb3 hd3 hy => ⟨(by show 3 ≤ sizeLine; decide), fun L2 hL2 => ?_⟩⟩
  have s4 := same_new hL2 (.lst [.ref m0, o, y])
  have eL := s4 _ _ (sb3 _ _ nL (s2 _ _ e1))
  refine ⟨L, L2, xs, [.ref m0, o, y], rfl, rfl, eL, upd_same, Nat.le_trans (show xs.length + 3 ≤ 100000 by omega) (by decide), fun L3 hL3 => ?_⟩
  have s5 := same_new hL3 (.lst (xs ++ [.ref m0, o, y]))
  have hd4 := hd3.same s4
  refine ⟨g, gl, L3, _, rfl, hd4.same s5, hd4.ne hL3, upd_same, by simp, by rw [List.length_append]; show xs.length + 3 ≤ 1000; omega, fun x H5 hx sb5 hd5 => ?_⟩
  have s45 := s4.trans s5
  have sb13 : SB g H1 H3 := (Same.sb s2).trans sb3
  have sb15 := (sb13.trans (Same.sb s45)).trans sb5
  refine q x H5 ((Same.sb s1).trans sb15) hd5 ?_
  have hx' : x ∈ xs ++ [.ref m0, o, y] := hx
  rcases List.mem_append.mp hx' with z | z
  · exact hd1.thI sb15 (hxs x z)
  · simp only [List.mem_cons, List.not_mem_nil, or_false] at z
    rcases z with rfl | rfl | rfl
    · have n0 : V.ref m0 ≠ .ref g := fun z => hd1.ne hm0 (V.ref.inj z)
      exact hd2.thI ((sb3.trans (Same.sb s45)).trans sb5) (.inl ⟨nt_dk em, n0⟩)
    · exact hd.thI ((Same.sb s1).trans sb15) ho
    · exact (hd3.same s45).thI sb5 (hy.th.same s45)
end
end Lf
/-! The law's own steps: which sums are taken. -/
namespace Lf
theorem addT_less {p t : Int} (row oth : List Int) : addT p row (p - t) oth = lessT p row t oth := by
  unfold addT lessT
  congr 1
  funext a b
  have : a + (p - t) * b = (a - t * b) + p * b := by grind
  rw [this, Int.add_mul_emod_self_left]
/-- the law's steps L after i sums, F those that were taken -/
structure LOk (p : Int) (n : Nat) (S : List (List Int)) (i : Nat) (L : List (Nat × List Int)) (F : List Nat) : Prop where
  pr : PrimeOk p
  pl : ∀ e ∈ L, e.1 < n
  vec : ∀ e ∈ L, Vec p n e.2
  one : ∀ e ∈ L, e.2.getD e.1 0 = 1
  low : ∀ e ∈ L, ∀ j < e.1, e.2.getD j 0 = 0
  nd : (L.map (·.1)).Nodup
  sa : ∀ e ∈ L, Span p n (S.take i) fun j => e.2.getD j 0
  sb : ∀ s ∈ S.take i, Span p n (L.map (·.2)) fun j => s.getD j 0
  fa : F.Pairwise (· < ·)
  fm : ∀ k, k ∈ F ↔ k < i ∧ Tk p n S k
section
variable {p : Int} {n i : Nat} {S : List (List Int)} {L srt : List (Nat × List Int)} {F : List Nat} {u : List Int}
theorem LOk.zero (hp : PrimeOk p) : LOk p n S 0 [] [] :=
  ⟨hp, fun _ h => (nomatch h), fun _ h => (nomatch h), fun _ h => (nomatch h), fun _ h => (nomatch h), List.nodup_nil, fun _ h => (nomatch h), fun _ h => (nomatch h), .nil, fun k => ⟨fun h => (nomatch h), fun h => absurd h.1 (Nat.not_lt_zero _)⟩⟩
theorem LOk.ech (h : LOk p n S i L F) (sp : srt.Perm L) (ss : srt.Pairwise fun a b => a.1 < b.1) : Ech p n srt where
  pl := fun e he => h.pl e (sp.mem_iff.mp he)
  vec := fun e he => h.vec e (sp.mem_iff.mp he)
  one := fun e he => h.one e (sp.mem_iff.mp he)
  asc := List.Pairwise.imp_of_mem (fun _ hb q => ⟨q, h.low _ (sp.mem_iff.mp hb) _ q⟩) ss
theorem LOk.span_iff (h : LOk p n S i L F) {v : Nat → Int} : Span p n (L.map (·.2)) v ↔ Span p n (S.take i) v := by
  constructor
  · refine Span.trans fun b hb => ?_
    obtain ⟨r, hr, rfl⟩ := List.mem_map.mp hb
    exact h.sa r hr
  · exact Span.trans h.sb
theorem perm_spanL (sp : srt.Perm L) {v : Nat → Int} (h : Span p n (srt.map (·.2)) v) : Span p n (L.map (·.2)) v := h.mono fun b hb => (sp.map _).mem_iff.mp hb
theorem firstP_nil {v : List Int} (h : ∀ j < v.length, v.getD j 0 = 0) : firstP v = none := by
  unfold firstP
  rw [List.findIdx?_eq_none_iff]
  intro x hx
  obtain ⟨j, hj, rfl⟩ := List.mem_iff_getElem.mp hx
  have c := h j hj
  rw [List.getD_eq_getElem?_getD, List.getElem?_eq_getElem hj] at c
  simpa using c
theorem LOk.left (h : LOk p n S i L F) (sp : srt.Perm L) (ss : srt.Pairwise fun a b => a.1 < b.1) (hv : Vec p n u) : firstP (red p srt u) = none ↔ Span p n (S.take i) fun j => u.getD j 0 := by
  have hp0 : 0 < p := by have := h.pr.bd; omega
  have hE := h.ech sp ss
  rw [← h.span_iff]
  have a := red_nil_iff hp0 hv hE
  constructor
  · intro z
    exact perm_spanL sp (a.mp fun j _ => firstP_none z j)
  · intro z
    have b := a.mpr (perm_spanL sp.symm z)
    exact firstP_nil fun j hj => b j (by rw [← (red_vec hp0 hv hE.vec).ln]; exact hj)
theorem LOk.next (h : LOk p n S i L F) (hu : S[i]? = some u) (hv : Vec p n u) (sp : srt.Perm L) (ss : srt.Pairwise fun a b => a.1 < b.1) :
    (firstP (red p srt u) = none → LOk p n S (i + 1) L F) ∧ ∀ pl, firstP (red p srt u) = some pl → LOk p n S (i + 1) (L ++ [(pl, scale p (inv p ((red p srt u).getD pl 0)) (red p srt u))]) (F ++ [i]) := by
  have hbd := h.pr.bd
  have hp0 : 0 < p := by omega
  have lf := h.left sp ss hv
  have tks := take_snoc hu
  have hg : S.getD i [] = u := by rw [List.getD_eq_getElem?_getD, hu]; rfl
  have old : ∀ {v : Nat → Int}, Span p n (S.take i) v → Span p n (S.take (i + 1)) v := fun z => z.mono fun b hb => by
    rw [tks]
    exact List.mem_append_left _ hb
  constructor
  · intro f0
    refine ⟨h.pr, h.pl, h.vec, h.one, h.low, h.nd, fun e he => old (h.sa e he), fun s hs => ?_, h.fa, fun k => ?_⟩
    · rw [tks] at hs
      rcases List.mem_append.mp hs with q | q
      · exact h.sb s q
      · rw [List.mem_singleton.mp q]
        exact h.span_iff.mpr (lf.mp f0)
    · rw [h.fm k]
      constructor
      · rintro ⟨h1, h2⟩
        exact ⟨by omega, h2⟩
      · rintro ⟨h1, h2⟩
        refine ⟨?_, h2⟩
        by_cases c : k = i
        · subst c
          unfold Tk at h2
          rw [hg] at h2
          exact absurd (lf.mp f0) h2
        · omega
  · intro pl f1
    have hE := h.ech sp ss
    have vr := red_vec hp0 hv hE.vec
    have rz := red_zero hp0 hv hE
    have rs := perm_spanL sp (red_span hp0 hv hE.vec)
    have isTk : Tk p n S i := by
      unfold Tk
      rw [hg]
      intro z
      rw [lf.mpr z] at f1
      cases f1
    generalize red p srt u = left at f1 vr rz rs ⊢
    have fs := firstP_some f1
    have hln := vr.ln
    have hpn : pl < n := by omega
    have lb := vr.at_ hpn
    have ib := (inv_spec h.pr (show 0 < left.getD pl 0 by have := fs.2.1; omega) lb.2).1
    generalize inv p (left.getD pl 0) = t at ib ⊢
    have sc : ∀ j < n, (scale p t left).getD j 0 = left.getD j 0 * t % p := fun j hj => scale_at (by omega)
    have s1 : Span p n (S.take (i + 1)) fun j => (scale p t left).getD j 0 := by
      have us : Span p n (S.take (i + 1)) fun j => u.getD j 0 := by
        refine .mem ?_
        rw [tks]
        exact List.mem_append_right _ List.mem_cons_self
      refine (Span.lin t (-t) us (old (h.span_iff.mp rs))).congr fun j hj => ?_
      rw [sc j hj]
      obtain ⟨a, ha⟩ := emod_dvd p (left.getD j 0 * t)
      refine ⟨a, ?_⟩
      show t * u.getD j 0 + -t * (u.getD j 0 - left.getD j 0) - left.getD j 0 * t % p = p * a
      grind
    refine ⟨h.pr, fun e he => ?_, fun e he => ?_, fun e he => ?_, fun e he => ?_, ?_, fun e he => ?_, fun s hs => ?_, ?_, fun k => ?_⟩
    · rcases List.mem_append.mp he with q | q
      · exact h.pl e q
      · rw [List.mem_singleton.mp q]
        exact hpn
    · rcases List.mem_append.mp he with q | q
      · exact h.vec e q
      · rw [List.mem_singleton.mp q]
        exact scale_vec hp0 hln
    · rcases List.mem_append.mp he with q | q
      · exact h.one e q
      · rw [List.mem_singleton.mp q]
        show (scale p t left).getD pl 0 = 1
        rw [sc pl hpn, Int.mul_comm]
        exact ib
    · rcases List.mem_append.mp he with q | q
      · exact h.low e q
      · rw [List.mem_singleton.mp q]
        intro j hj
        show (scale p t left).getD j 0 = 0
        rw [sc j (Nat.lt_trans hj hpn), fs.2.2 j hj]
        simp
    · rw [List.map_append, List.nodup_append]
      refine ⟨h.nd, List.nodup_cons.mpr ⟨List.not_mem_nil, List.nodup_nil⟩, fun a ha b hb => ?_⟩
      have hb' : b = pl := by simpa using hb
      rw [hb']
      intro z
      obtain ⟨e, he, rfl⟩ := List.mem_map.mp ha
      have := rz e (sp.mem_iff.mpr he)
      rw [show e.1 = pl from z] at this
      exact fs.2.1 this
    · rcases List.mem_append.mp he with q | q
      · exact old (h.sa e q)
      · rw [List.mem_singleton.mp q]
        exact s1
    · have oldm : ∀ {v : Nat → Int}, Span p n (L.map (·.2)) v → Span p n ((L ++ [(pl, scale p t left)]).map (·.2)) v := fun z => z.mono fun b hb => by
        rw [List.map_append]
        exact List.mem_append_left _ hb
      rw [tks] at hs
      rcases List.mem_append.mp hs with q | q
      · exact oldm (h.sb s q)
      · rw [List.mem_singleton.mp q]
        have newm : Span p n ((L ++ [(pl, scale p t left)]).map (·.2)) fun j => (scale p t left).getD j 0 := by
          refine .mem ?_
          rw [List.map_append]
          exact List.mem_append_right _ List.mem_cons_self
        refine (Span.lin 1 (left.getD pl 0) (oldm rs) newm).congr fun j hj => ?_
        rw [sc j hj]
        obtain ⟨a, ha⟩ := emod_dvd p (left.getD j 0 * t)
        obtain ⟨b, hb⟩ := emod_dvd p (t * left.getD pl 0)
        rw [ib] at hb
        refine ⟨b * left.getD j 0 - a * left.getD pl 0, ?_⟩
        show 1 * (u.getD j 0 - left.getD j 0) + left.getD pl 0 * (left.getD j 0 * t % p) - u.getD j 0 = _
        grind
    · rw [List.pairwise_append]
      refine ⟨h.fa, List.pairwise_singleton _ _, fun a ha b hb => ?_⟩
      rw [List.mem_singleton.mp hb]
      exact ((h.fm a).mp ha).1
    · rw [List.mem_append, List.mem_singleton, h.fm k]
      constructor
      · rintro (⟨h1, h2⟩ | rfl)
        · exact ⟨by omega, h2⟩
        · exact ⟨by omega, isTk⟩
      · rintro ⟨h1, h2⟩
        by_cases c : k = i
        · exact .inr c
        · exact .inl ⟨by omega, h2⟩
end
end Lf
/-! The law's sums, its adding, its steps. -/
namespace Lf
open PySem PySem.Spec PyProof.Rows L2
/-- the law's steps at l -/
def LsAt (H : Hp) (l z : Addr) (L : List (Nat × List Int)) : Prop := ∃ ts : List Addr, H l = some (.lst (ts.map V.ref)) ∧ Paired (fun t (e : Nat × List Int) => ∃ o, H t = some (.tup [.int ((e.1 : Nat) : Int), .ref o]) ∧ H o = some (.lst (iv e.2)) ∧ o ≠ z) ts L
theorem LsAt.same {H H' : Hp} {l z : Addr} {L : List (Nat × List Int)} (e : Same H H') (h : LsAt H l z L) : LsAt H' l z L := by
  obtain ⟨ts, h1, h2⟩ := h
  exact ⟨ts, e _ _ h1, paired_mono (fun _ _ ⟨o, q1, q2, q3⟩ => ⟨o, e _ _ q1, e _ _ q2, q3⟩) h2⟩
theorem paired_perm {α β : Type} {F : α → β → Prop} {ys ps : List α} (h : ys.Perm ps) : ∀ {L : List β}, Paired F ps L → ∃ srt : List β, srt.Perm L ∧ Paired F ys srt := by
  induction h with
  | nil => exact fun h => ⟨_, .refl _, h⟩
  | cons x _ ih =>
    intro L h
    cases h with
    | cons a r =>
      obtain ⟨s, h1, h2⟩ := ih r
      exact ⟨_, h1.cons _, .cons a h2⟩
  | swap x y l =>
    intro L h
    cases h with
    | cons a r =>
      cases r with
      | cons b r => exact ⟨_, .swap _ _ _, .cons b (.cons a r)⟩
  | trans _ _ ih1 ih2 =>
    intro L h
    obtain ⟨s, h1, h2⟩ := ih2 h
    obtain ⟨t, h3, h4⟩ := ih1 h2
    exact ⟨t, h3.trans h1, h4⟩
theorem paired_pw {α β : Type} {F : α → β → Prop} {R : α → α → Prop} {R' : β → β → Prop} (k : ∀ a b a' b', F a b → F a' b' → R a a' → R' b b') : ∀ {l : List α} {m : List β}, Paired F l m → l.Pairwise R → m.Pairwise R'
  | _, _, .nil, _ => .nil
  | _, _, .cons (a := a) (b := b) h t, pw => by
    have q := List.pairwise_cons.mp pw
    refine List.pairwise_cons.mpr ⟨fun b' hb' => ?_, paired_pw k t q.2⟩
    obtain ⟨i, hi⟩ := List.mem_iff_getElem?.mp hb'
    obtain ⟨a', ha', h'⟩ := paired_get' t hi
    exact k _ _ _ _ h h' (q.1 a' (List.mem_of_getElem? ha'))
/-- a step, by its tuple, its place, its row's list -/
def LsP (H : Hp) (y : Addr × Int × V) (e : Nat × List Int) : Prop := y.2.1 = ((e.1 : Nat) : Int) ∧ H y.1 = some (.tup [.int y.2.1, y.2.2]) ∧ ∃ o, y.2.2 = .ref o ∧ H o = some (.lst (iv e.2))
theorem LsP.same {H H' : Hp} {y : Addr × Int × V} {e : Nat × List Int} (s : Same H H') (h : LsP H y e) : LsP H' y e := by
  obtain ⟨h1, h2, o, h3, h4⟩ := h
  exact ⟨h1, s _ _ h2, o, h3, s _ _ h4⟩
theorem ls_ps {H : Hp} {z : Addr} : ∀ {ts : List Addr} {L : List (Nat × List Int)}, Paired (fun t (e : Nat × List Int) => ∃ o, H t = some (.tup [.int ((e.1 : Nat) : Int), .ref o]) ∧ H o = some (.lst (iv e.2)) ∧ o ≠ z) ts L → ∃ ps : List (Addr × Int × V), ps.map (fun y => V.ref y.1) = ts.map V.ref ∧ Paired (LsP H) ps L
  | _, _, .nil => ⟨[], rfl, .nil⟩
  | t :: _, e :: _, .cons ⟨o, h1, h2, _⟩ r => by
    obtain ⟨ps, e1, e2⟩ := ls_ps r
    exact ⟨(t, ((e.1 : Nat) : Int), .ref o) :: ps, by rw [List.map_cons, List.map_cons, e1], .cons ⟨rfl, h1, o, rfl, h2⟩ e2⟩
section
variable {P : Program} {w : World} {K : PySem.W.Frag} {mg : Str → Option Value} {base : Heap}
def spSumsOf : Sp := fun vs H Q _ => ∃ t a p n Pa ps N, vs = [.ref t, .ref a] ∧ PtAt H t p n Pa ps ∧ Tp H a (iv N) ∧ (∀ y ∈ N, 0 ≤ y ∧ y < (ps.length : Int)) ∧ N.length ≤ 1000 ∧ ∀ u as H', H u = none → Same H H' → Tp H' u (as.map V.ref) → TpsAt H' as (sumsOf ps N) → Q (.ref u) H'
abbrev N__law_sums_of : List Str := ["_law_parts", "_law_lot_here", "_law_piece"]
theorem sc__law_sums_of : FnScope N__law_sums_of ["_law_parts", "_law_lot_here"] d__law_sums_of.scope := ⟨rfl, rfl, rfl, by decide +kernel, rfl, by decide +kernel, by decide +kernel⟩
theorem cl__law_sums_of (E : Env K mg) : Cl P w K mg base 1 "_law_sums_of" ["_law_parts", "_law_lot_here"] (spSumsOf) := by
  refine Cl.of (k := 0) E 45 39 (d := d__law_sums_of) rfl rfl rfl rfl rfl sc__law_sums_of (fun vs H Q E' h => by (repeat obtain ⟨_, h⟩ := h); subst_vars; rfl) (fun _ _ _ _ _ _ us hl => match us, hl with | [_, _], _ => rfl) (fun f cdv A outer s H vs Q E' hr h => ?_)
  obtain ⟨t, a, p, n, Pa, ps, N, rfl, pt, ha, hN, hl, q⟩ := h
  refine ⟨_, (pss_one (ps_ret (pe_tupleOf (by rfl) (E.free 70) (pe_lc (own := [("_law_piece", 2)]) (g := gName 2) (tt := tYes) rfl sc__law_sums_of.nd (pi_tup (pv 1)) (blkOk_by (own := [("_law_piece", 2)]) (N := N__law_sums_of) (sc := d__law_sums_of.scope) (by decide +kernel)) (fun _ _ _ _ _ => (pg_name (i := 2) sc__law_sums_of.nd rfl (Or.inl rfl))) (fun _ _ _ _ _ => pts_nil) (fun _ _ _ _ _ => (pe_ix (ix_tupK (K := K) rfl) (pe_ix (ix_tupK (K := K) rfl) (pe_ix (ix_tupK (K := K) rfl) (pv 0) pe_int (fun _ _ => rfl)) (pv 2) (fun _ _ => rfl)) pe_int (fun _ _ => rfl))))))), ?_⟩
  obtain ⟨pas, g1, g2⟩ := pt.pcs
  refine ⟨_, rfl, a, rfl, ⟨_, ha.sq⟩, fun D hD => ?_⟩
  have pl := plain_t (K := K) ha.sq
  refine lcG (iv N).length (fun _ => true) (fun i v H => ∃ sa, v = .ref sa ∧ Tp H sa (iv ((sumsOf ps N).getD i []))) (fun i v Ha Hb zs e sb ⟨b, h1, h2⟩ => ⟨b, h1, sb.tp e h2⟩) hD (by rw [iv_len]; omega) pl.go pl.stop ?_ ?_
  · intro i z Ha Hb hi6 s6 _ yl R k
    obtain ⟨rfl, hz⟩ := pl.yld i z Ha Hb hi6 s6 yl
    obtain ⟨y, hy, rfl⟩ := iv_get hz
    refine k _ _ rfl (Same.refl _) (fun c k2 => k2 _ (Same.refl _)) fun _ H7 s7 R' k2 => ?_
    obtain ⟨j, rfl, hj⟩ : ∃ j : Nat, y = ((j : Nat) : Int) ∧ j < ps.length := by
      have := hN y (List.mem_of_getElem? hy)
      exact ⟨y.toNat, by omega, by omega⟩
    have s67 := s6.trans s7
    obtain ⟨pa, pq, f1, f2, sa, f3, f4⟩ := pieces_get (paired_mono (fun _ _ z => z.same s67) g2) hj
    have ea : (pas.map V.ref)[j]? = some (.ref pa) := by rw [List.getElem?_map, f1]; rfl
    refine ⟨_, rfl, t, _, _, _, rfl, rfl, (pt.tp.same s67).sq, atI_nat (j := 2) rfl, _, rfl, Pa, _, _, _, rfl, rfl, (g1.same s67).sq, atI_nat ea, pa, _, _, _, rfl, rfl, f3.sq, atI_nat (j := 0) rfl, k2 _ _ (Same.refl _) ⟨sa, rfl, ?_⟩⟩
    rw [List.getD_eq_getElem?_getD, sumsOf_get hy f2]
    exact f4
  · intro H6 zs s6 e6 pr6
    rw [iv_len, filter_yes] at pr6
    have lz : zs.length = N.length := by rw [← paired_len pr6, List.length_range]
    obtain ⟨sas, rfl⟩ : ∃ sas : List Addr, zs = sas.map V.ref := by
      refine all_refs fun z hz => ?_
      obtain ⟨i, hi⟩ := List.mem_iff_getElem?.mp hz
      obtain ⟨_, _, b, h1, _⟩ := paired_get' pr6 hi
      exact ⟨b, h1⟩
    rw [List.length_map] at lz
    have lS : (sumsOf ps N).length = N.length := sumsOf_len
    refine .inl ⟨D, _, rfl, SqL.of e6, fun u hu => ?_⟩
    have s7 := same_new hu (.tup (sas.map V.ref))
    refine q u sas _ (s6.free hu) (s6.trans s7) (.of upd_same) (paired_range (by rw [lz, lS]) fun i b e h1 h2 => ?_)
    have hi : i < N.length := by have := (List.getElem?_eq_some_iff.mp h1).1; omega
    obtain ⟨v, hv, b', h3, h4⟩ := paired_get pr6 (List.getElem?_range hi)
    rw [List.getElem?_map, h1] at hv
    cases hv
    cases h3
    rw [List.getD_eq_getElem?_getD, h2] at h4
    exact h4.same s7
def spLAdded (K : PySem.W.Frag) : Sp := fun vs H Q _ => ∃ p a c w as ss vals, vs = [.int p, .ref a, .ref c, .int w] ∧ 0 < p ∧ (0 ≤ w ∧ w ≤ 1000) ∧ Tp H a (as.map V.ref) ∧ TpsAt H as ss ∧ H c = some (.lst (iv vals)) ∧ ss.length = vals.length ∧ (∀ s ∈ ss, s.length = w.toNat) ∧ (∀ t ∈ vals, -(2 ^ 64) < t ∧ t < 2 ^ 64) ∧ NewTp H (iv (addAll p w.toNat (ss.zip vals))) Q
abbrev N__law_added : List Str := ["_law_prime_here", "_law_sums_here", "_law_values", "_law_width", "_law_found", "_law_one", "_law_times_here"]
theorem sc__law_added : FnScope N__law_added ["_law_prime_here", "_law_sums_here", "_law_values", "_law_width"] d__law_added.scope := ⟨rfl, rfl, rfl, by decide +kernel, rfl, by decide +kernel, by decide +kernel⟩
theorem cl__law_added (E : Env K mg) : Cl P w K mg base 2 "_law_added" ["_law_prime_here", "_law_sums_here", "_law_values", "_law_width"] (spLAdded K) := by
  refine Cl.of (k := 1) E 39 33 (d := d__law_added) rfl rfl rfl rfl rfl sc__law_added (fun vs H Q E' h => by (repeat obtain ⟨_, h⟩ := h); subst_vars; rfl) (fun _ _ _ _ _ _ us hl => match us, hl with | [_, _, _, _], _ => rfl) (fun f cdv A outer s H vs Q E' hr h => ?_)
  obtain ⟨p, a, c, w, as, ss, vals, rfl, hp, hw, ha, hss, hc, hl, hsl, htb, q⟩ := h
  refine ⟨_, (pss_cons (ps_set (i := 4) sc__law_added.nd rfl (Or.inl rfl) (pe_op op_rep (pe_lst (pa_cons pe_int pa_nil)) (pv 3)))
    (pss_cons (ps_for PassesOwn.never rfl (pi_zipM (by rfl) (E.free 75) (pa_cons (pv 1) (pa_cons (pv 2) pa_nil))) (pg_tup rfl (pgs_cons (pg_name (i := 5) sc__law_added.nd rfl (Or.inl rfl)) (pgs_cons (pg_name (i := 6) sc__law_added.nd rfl (Or.inl rfl)) pgs_nil)))
      (pss_one (ps_set (i := 4) sc__law_added.nd rfl (Or.inl rfl) (pe_c (cl__law_times E) (hr.mono (by decide)) rfl (pa_cons (pv 0) (pa_cons (pv 4) (pa_cons (pv 6) (pa_cons (pv 5) pa_nil))))))))
    (pss_one (ps_ret (pe_tupleOf (by rfl) (E.free 70) (pv 4)))))), ?_⟩
  have hal : as.length = ss.length := paired_len hss
  refine ⟨(by show 1 ≤ sizeLine; decide), fun z0 hz0 => ?_⟩
  refine ⟨_, rfl, z0, w, [.int 0], rfl, rfl, upd_same, by omega, by omega, Nat.le_trans (show 1 * w.toNat ≤ 100000 by omega) (by decide), fun f0 hf0 => ?_⟩
  rw [rep_iv]
  have s1 := (same_new hz0 (.lst [.int 0])).trans (same_new hf0 (.lst (iv (List.replicate w.toNat 0))))
  have ef : (upd (upd H z0 (.lst [.int 0])) f0 (.lst (iv (List.replicate w.toNat 0)))) f0 = some (.lst (iv (List.replicate w.toNat 0))) := upd_same
  generalize upd (upd H z0 (.lst [.int 0])) f0 (.lst (iv (List.replicate w.toNat 0))) = H1 at s1 ef ⊢
  have ha1 := ha.same s1
  have hc1 := s1 _ _ hc
  refine ⟨_, rfl, _, rfl, a, c, _, _, false, true, rfl, Sq.t ha1.sq, Sq.lo hc1, for_by as.length (fun i σ H' => ∃ f v5 v6, σ = [some (.int p), some (.ref a), some (.ref c), some (.int w), some (.ref f), v5, v6] ∧ Same H1 H' ∧ H' f = some (.lst (iv (addAll p w.toNat ((ss.zip vals).take i)))))
    ⟨f0, none, none, rfl, Same.refl _, ef⟩ ?_ ?_ ?_ ?_⟩
  · rintro i σ H' hi ⟨f, v5, v6, rfl, s2, e2⟩
    exact itm_go (Sq.t (ha1.same s2).sq) (Sq.lo (s2 _ _ hc1)) (by rw [List.length_map]; exact hi) (by rw [iv_len]; omega)
  · rintro σ H' ⟨f, v5, v6, rfl, s2, e2⟩
    exact itm_stop (Sq.t (ha1.same s2).sq) (Sq.lo (s2 _ _ hc1)) (by rw [List.length_map, iv_len]; omega) (List.length_map _).symm
  · rintro i v σ H' H'' hi ⟨f, v5, v6, rfl, s2, e2⟩ y
    obtain ⟨T, x, z, rfl, nT, rfl, e3, e4⟩ := itm_yld (Sq.t (ha1.same s2).sq) (Sq.lo (s2 _ _ hc1)) y
    rw [List.getElem?_map] at e3
    obtain ⟨b, eb, rfl⟩ := Option.map_eq_some_iff.mp e3
    obtain ⟨t, et, rfl⟩ := iv_get e4
    obtain ⟨s, es, hs⟩ := paired_get hss eb
    refine g_pair upd_same ?_
    have s3 : Same H' (upd H' T (.tup [.ref b, .int t])) := same_new nT _
    have e5 := s3 _ _ e2
    have hsT := (hs.same s1).same (s2.trans s3)
    have s23 := s2.trans s3
    generalize upd H' T (.tup [.ref b, .int t]) = H3 at s3 e5 hsT s23 ⊢
    have hz : (ss.zip vals)[i]? = some (s, t) := by
      rw [List.getElem?_zip_eq_some]
      exact ⟨es, et⟩
    have lacc : (addAll p w.toNat ((ss.zip vals).take i)).length = w.toNat := addAll_len (by rw [List.length_replicate]) fun e he => by
      have := List.mem_of_mem_take he
      exact hsl e.1 (List.of_mem_zip this).1
    have nxt : addAll p w.toNat ((ss.zip vals).take (i + 1)) = addT p (addAll p w.toNat ((ss.zip vals).take i)) t s := by
      unfold addAll
      rw [List.take_add_one, hz, List.foldl_append]
      rfl
    have lsw := hsl s (List.mem_of_getElem? es)
    have tb := htb t (List.mem_of_getElem? et)
    refine ⟨_, rfl, _, rfl, _, rfl, _, rfl, p, f, t, b, _, s, false, rfl, hp, tb, e5, Sq.t hsT.sq, by omega, by omega, fun D H4 hD s4 e6 => ⟨D, _, _, rfl, s23.trans s4, ?_⟩⟩
    rw [nxt]
    exact e6
  · rintro σ H' ⟨f, v5, v6, rfl, s2, e2⟩
    have el : (ss.zip vals).take as.length = ss.zip vals := List.take_of_length_le (by rw [List.length_zip]; omega)
    rw [el] at e2
    exact ⟨_, rfl, .inl ⟨f, _, rfl, SqL.of e2, q.lay (s1.trans s2)⟩⟩
def spLFallen (K : PySem.W.Frag) : Sp := fun vs H Q _ => ∃ p l z a n L row, vs = [.int p, .ref l, .ref a] ∧ PrimeOk p ∧ n ≤ 10 ∧ LsAt H l z L ∧ (∀ e ∈ L, e.1 < n ∧ Vec p n e.2) ∧ (L.map (·.1)).Nodup ∧ Tp H a (iv row) ∧ Vec p n row ∧
  ∀ srt q H', srt.Perm L → srt.Pairwise (fun a b => a.1 < b.1) → H q = none → Same H H' → H' q = some (.lst (iv (red p srt row))) → Q (.ref q) H'
abbrev N__law_fallen : List Str := ["_law_prime_here", "_law_steps", "_law_row", "_law_place", "_law_own"]
theorem sc__law_fallen : FnScope N__law_fallen ["_law_prime_here", "_law_steps", "_law_row"] d__law_fallen.scope := ⟨rfl, rfl, rfl, by decide +kernel, rfl, by decide +kernel, by decide +kernel⟩
theorem cl__law_fallen (E : Env K mg) : Cl P w K mg base 2 "_law_fallen" ["_law_prime_here", "_law_steps", "_law_row"] (spLFallen K) := by
  refine Cl.of (k := 1) E 36 30 (d := d__law_fallen) rfl rfl rfl rfl rfl sc__law_fallen (fun vs H Q E' h => by (repeat obtain ⟨_, h⟩ := h); subst_vars; rfl) (fun _ _ _ _ _ _ us hl => match us, hl with | [_, _, _], _ => rfl) (fun f cdv A outer s H vs Q E' hr h => ?_)
  obtain ⟨p, l, z, a, n, L, row, rfl, hp, n10, ⟨ts, hl, hts⟩, hL, hnd, ha, hv, q⟩ := h
  have bd := hp.bd
  refine ⟨_, (pss_cons (ps_set (i := 2) sc__law_fallen.nd rfl (Or.inl rfl) (pe_callTy call_list_of (by rfl) (E.free 77) (by decide +kernel) (pa_cons (pv 2) pa_nil)))
    (pss_cons (ps_for PassesOwn.never rfl (pi_list (pe_callB cr_sortedS1 (by rfl) (E.free 79) (by decide +kernel) (pa_cons (pv 1) pa_nil))) (pg_tup rfl (pgs_cons (pg_name (i := 3) sc__law_fallen.nd rfl (Or.inl rfl)) (pgs_cons (pg_name (i := 4) sc__law_fallen.nd rfl (Or.inl rfl)) pgs_nil)))
      (pss_one (ps_if (pt_cmpR op_ne (pe_ix ix_list (pv 2) (pv 3) (fun _ _ => rfl)) pe_int (nomark _))
        (pss_one (ps_set (i := 2) sc__law_fallen.nd rfl (Or.inl rfl) (pe_c (cl__law_times E) (hr.mono (by decide)) rfl (pa_cons (pv 0) (pa_cons (pv 2) (pa_cons (pe_op op_sub (pv 0) (pe_ix ix_list (pv 2) (pv 3) (fun _ _ => rfl))) (pa_cons (pv 4) pa_nil)))))))
        pss_nil)))
    (pss_one (ps_ret (pv 2))))), ?_⟩
  refine ⟨_, rfl, a, _, rfl, .inr ha.sq, fun l0 hl0 => ?_⟩
  have s1 : Same H (upd H l0 (.lst (iv row))) := same_new hl0 _
  have e1 : (upd H l0 (.lst (iv row))) l0 = some (.lst (iv row)) := upd_same
  generalize upd H l0 (.lst (iv row)) = H1 at s1 e1 ⊢
  obtain ⟨ps, ep, pp⟩ := ls_ps hts
  have hl1 := s1 _ _ hl
  rw [← ep] at hl1
  refine ⟨_, rfl, l, ps, rfl, SqL.of hl1, fun y hy => ?_, ?_, fun ys p' perm pw hn => ?_⟩
  · obtain ⟨i, hi⟩ := List.mem_iff_getElem?.mp hy
    obtain ⟨e, _, he⟩ := paired_get pp hi
    exact s1 _ _ he.2.1
  · have : (ps.map fun y => y.2.1) = (L.map (·.1)).map fun (k : Nat) => ((k : Nat) : Int) := by
      clear hl1 ep hnd hL hts q
      induction pp with
      | nil => rfl
      | cons h t ih => rw [List.map_cons, List.map_cons, List.map_cons, ih, h.1]
    rw [this]
    unfold List.Nodup at hnd ⊢
    rw [List.pairwise_map]
    exact hnd.imp fun h z => h (by omega)
  obtain ⟨srt, sp, pys⟩ := paired_perm perm pp
  have ss : srt.Pairwise fun a b => a.1 < b.1 := paired_pw (fun a b a' b' h h' r => by
    have h1 := h.1
    have h2 := h'.1
    omega) pys pw
  have s2 : Same H1 (upd H1 p' (.lst (ys.map fun p => V.ref p.1))) := same_new hn _
  have e2 : (upd H1 p' (.lst (ys.map fun p => V.ref p.1))) p' = some (.lst (ys.map fun p => V.ref p.1)) := upd_same
  generalize upd H1 p' (.lst (ys.map fun p => V.ref p.1)) = H2 at s2 e2 ⊢
  have s12 := s1.trans s2
  refine ⟨p', rfl, ⟨_, SqL.of e2⟩, for_list (K := K) (a := p') (xs := ys.map fun p => V.ref p.1) (fun i σ H' => ∃ v3 v4 ln, σ = [some (.int p), some (.ref l), some (.ref ln), v3, v4] ∧ Same H H' ∧ H ln = none ∧ H' p' = some (.lst (ys.map fun p => V.ref p.1)) ∧ H' ln = some (.lst (iv (red p (srt.take i) row))))
    ⟨none, none, l0, rfl, s12, hl0, e2, s2 _ _ e1⟩ ?_ ?_ ?_⟩
  · rintro i σ H' hi ⟨v3, v4, ln, rfl, sH, nl, eP, eL⟩
    exact SqL.of eP
  · rintro i y σ H' hi ⟨v3, v4, ln, rfl, sH, nl, eP, eL⟩
    rw [List.getElem?_map] at hi
    obtain ⟨yy, hyy, rfl⟩ := Option.map_eq_some_iff.mp hi
    obtain ⟨e, he, hle⟩ := paired_get pys hyy
    obtain ⟨f1, f2, o, f3, f4⟩ := hle.same sH
    rw [f3] at f2
    have hem : e ∈ L := sp.mem_iff.mp (List.mem_of_getElem? he)
    have hvt : Vec p n (red p (srt.take i) row) := red_vec (by omega) hv fun x hx => (hL x (sp.mem_iff.mp (List.mem_of_mem_take hx))).2
    have nxt : red p (srt.take (i + 1)) row = rstep p (red p (srt.take i) row) e := by
      unfold red
      rw [List.take_add_one, he, List.foldl_append]
      rfl
    generalize red p (srt.take i) row = lw at eL hvt nxt
    have hle1 := hL e hem
    have hgx : lw[e.1]? = some (lw.getD e.1 0) := getD_at (by rw [hvt.ln]; exact hle1.1)
    have bt := hvt.at_ hle1.1
    refine g_pairS (SqT.of f2) ?_
    have eix : (yy.2.1) = ((e.1 : Nat) : Int) := f1
    rw [eix]
    refine ⟨_, rfl, _, rfl, ln, _, _, _, rfl, rfl, SqL.of eL, atI_nat (iv_at hgx), rfl, _, rfl, ?_⟩
    by_cases c : lw.getD e.1 0 = 0
    · refine iteNS (by rw [c]) ?_
      have e5 : rstep p lw e = lw := by
        unfold rstep
        exact if_neg (fun z => z c)
      refine ⟨_, _, ln, rfl, sH, nl, eP, ?_⟩
      rw [nxt, e5]
      exact eL
    · refine (if_pos ?_).mpr ?_
      · rw [dec_vi]
        simpa using c
      have e5 : rstep p lw e = addT p lw (p - lw.getD e.1 0) e.2 := by
        rw [addT_less]
        unfold rstep
        exact if_pos c
      refine ⟨_, rfl, _, rfl, _, rfl, _, rfl, _, rfl, ln, _, _, _, rfl, rfl, SqL.of eL, atI_nat (iv_at hgx), _, _, rfl, rfl, _, rfl, p, ln, p - lw.getD e.1 0, o, lw, e.2, true, rfl, by omega, by omega, eL, Sq.lo f4, by rw [hvt.ln, hle1.2.ln], by rw [hvt.ln]; omega, fun D H4 hD s4 e6 => ?_⟩
      refine ⟨_, _, D, rfl, sH.trans s4, sH.free hD, s4 _ _ eP, ?_⟩
      rw [nxt, e5]
      exact e6
  · rintro σ H' ⟨v3, v4, ln, rfl, sH, nl, eP, eL⟩
    have lys : (ys.map fun p => V.ref p.1).length = srt.length := by rw [List.length_map, paired_len pys]
    rw [lys, List.take_length] at eL
    exact ⟨_, rfl, q srt ln H' sp ss nl sH eL⟩
def spTaken : Sp := fun vs H Q _ => ∃ p a n as S, vs = [.int p, .ref a] ∧ PrimeOk p ∧ n ≤ 10 ∧ Tp H a (as.map V.ref) ∧ TpsAt H as S ∧ (∀ s ∈ S, Vec p n s) ∧ S.length ≤ 100 ∧
  ∀ u fl sl F L H', Same H H' → Tp H' u [.ref fl, .ref sl] → H' fl = some (.lst (iv (F.map fun k => ((k : Nat) : Int)))) → LsAt H' sl fl L → LOk p n S S.length L F → Q (.ref u) H'
abbrev N__law_taken : List Str := ["_law_prime_here", "_law_sums_here", "_law_found", "_law_steps", "_law_number", "_law_one", "_law_left", "_law_places", "_law_times_here", "_law_place", "_law_value"]
theorem sc__law_taken : FnScope N__law_taken ["_law_prime_here", "_law_sums_here"] d__law_taken.scope := ⟨rfl, rfl, rfl, by decide +kernel, rfl, by decide +kernel, by decide +kernel⟩
theorem cl__law_taken (E : Env K mg) : Cl P w K mg base 3 "_law_taken" ["_law_prime_here", "_law_sums_here"] (spTaken) := by
  refine Cl.of (k := 2) E 37 31 (d := d__law_taken) rfl rfl rfl rfl rfl sc__law_taken (fun vs H Q E' h => by (repeat obtain ⟨_, h⟩ := h); subst_vars; rfl) (fun _ _ _ _ _ _ us hl => match us, hl with | [_, _], _ => rfl) (fun f cdv A outer s H vs Q E' hr h => ?_)
  obtain ⟨p, a, n, as, S, rfl, hp, n10, ha, hS, hv, hl, q⟩ := h
  have bd := hp.bd
  refine ⟨_, (pss_cons (ps_par (i := 2) (j := 3) (by rfl) sc__law_taken.nd rfl rfl (by decide) rfl rfl (pa_cons (pe_lst pa_nil) (pa_cons (pe_lst pa_nil) pa_nil)) (by rfl))
    (pss_cons (ps_for PassesOwn.never rfl (pi_enumM (by rfl) (E.free 76) (pa_cons (pv 1) pa_nil)) (pg_tup rfl (pgs_cons (pg_name (i := 4) sc__law_taken.nd rfl (Or.inl rfl)) (pgs_cons (pg_name (i := 5) sc__law_taken.nd rfl (Or.inl rfl)) pgs_nil)))
      (pss_cons (ps_set (i := 6) sc__law_taken.nd rfl (Or.inl rfl) (pe_c (cl__law_fallen E) (hr.mono (by decide)) rfl (pa_cons (pv 0) (pa_cons (pv 3) (pa_cons (pv 5) pa_nil)))))
      (pss_cons (ps_setLc (i := 7) (own := [("_law_place", 9), ("_law_value", 10)]) (g := gTup K 2 (gCons (gName 9) (gCons (gName 10) gNil))) rfl sc__law_taken.nd rfl rfl (sw_true rfl rfl rfl (by decide +kernel)) (pi_enumM (by rfl) (E.free 76) (pa_cons (pv 6) pa_nil)) (blkOk_by (own := [("_law_place", 9), ("_law_value", 10)]) (N := N__law_taken) (sc := d__law_taken.scope) (by decide +kernel)) (fun _ _ _ _ _ => (pg_tup rfl (pgs_cons (pg_name (i := 9) sc__law_taken.nd rfl (Or.inl rfl)) (pgs_cons (pg_name (i := 10) sc__law_taken.nd rfl (Or.inl rfl)) pgs_nil)))) (fun _ _ _ _ _ => (pts_one (pt_cmpR op_ne (pv 10) pe_int (nomark _)))) (fun _ _ _ _ _ => (pv 9)))
      (pss_one (ps_if (pt_cmpR op_gt (pe_callB call_len_seq (by rfl) (E.free 71) PySem.boot_len (pa_cons (pv 7) pa_nil)) pe_int (nomark _))
        (pss_cons (ps_set (i := 8) sc__law_taken.nd rfl (Or.inr rfl) (pe_c (cl__law_inverse E) (hr.mono (by decide)) rfl (pa_cons (pv 0) (pa_cons (pe_ix ix_list (pv 6) (pe_ix ix_list (pv 7) pe_int (fun _ _ => rfl)) (fun _ _ => rfl)) pa_nil))))
        (pss_cons (ps_expr (pe_bm PySem.F.plainAttrs_list PySem.F.slot_list_append PySem.F.type_list_append mt_append (pv 3) (pa_cons (pe_tup (pa_cons (pe_ix ix_list (pv 7) pe_int (fun _ _ => rfl)) (pa_cons (pe_lc (own := [("_law_value", 10)]) (g := gName 10) (tt := tYes) rfl sc__law_taken.nd (pi_list (pv 6)) (blkOk_by (own := [("_law_value", 10)]) (N := N__law_taken) (sc := d__law_taken.scope) (by decide +kernel)) (fun _ _ _ _ _ => (pg_name (i := 10) sc__law_taken.nd rfl (Or.inl rfl))) (fun _ _ _ _ _ => pts_nil) (fun _ _ _ _ _ => (pe_op op_mod (pe_callTy call_int1 (by rfl) (E.free 68) (by decide +kernel) (pa_cons (pe_op op_mul (pv 8) (pv 10)) pa_nil)) (pv 0)))) pa_nil))) pa_nil)))
        (pss_one (ps_expr (pe_bm PySem.F.plainAttrs_list PySem.F.slot_list_append PySem.F.type_list_append mt_append (pv 2) (pa_cons (pv 4) pa_nil))))))
        pss_nil)))))
    (pss_one (ps_ret (pe_tup (pa_cons (pv 2) (pa_cons (pv 3) pa_nil))))))), ?_⟩
  refine seq_by (fun σ' H' => ∃ fl sl, σ' = [some (.int p), some (.ref a), some (.ref fl), some (.ref sl), none, none, none, none, none, none, none] ∧ Same H H' ∧ H fl = none ∧ H sl = none ∧ fl ≠ sl ∧ H' fl = some (.lst []) ∧ H' sl = some (.lst [])) (fun N k => ?_) ?_
  · refine ⟨(by show 0 ≤ sizeLine; decide), fun fl hfl => ⟨(by show 0 ≤ sizeLine; decide), fun sl hsl => ⟨_, _, rfl, ?_⟩⟩⟩
    have s1 := same_new hfl (.lst [])
    have n1 : fl ≠ sl := fun z => by rw [← z, upd_same] at hsl; cases hsl
    exact k _ _ ⟨fl, sl, rfl, s1.trans (same_new hsl _), hfl, s1.free hsl, n1, by rw [upd_ne n1, upd_same], upd_same⟩
  rintro σ' H1 ⟨fl, sl, rfl, s1, hfl, hsl, nfs, ef, es⟩
  have la := paired_len hS
  refine seq_by (fun σ' H' => ∃ v4 v5 v6 v7 v8 L F, σ' = [some (.int p), some (.ref a), some (.ref fl), some (.ref sl), v4, v5, v6, v7, v8, none, none] ∧ Same H H' ∧ H' fl = some (.lst (iv (F.map fun k => ((k : Nat) : Int)))) ∧ LsAt H' sl fl L ∧ LOk p n S S.length L F) (fun N k => ?_) ?_
  · refine ⟨_, rfl, a, _, false, rfl, Sq.t (ha.same s1).sq, for_by as.length (fun i σ' H' => ∃ v4 v5 v6 v7 v8 L F, σ' = [some (.int p), some (.ref a), some (.ref fl), some (.ref sl), v4, v5, v6, v7, v8, none, none] ∧ Same H H' ∧ H' fl = some (.lst (iv (F.map fun k => ((k : Nat) : Int)))) ∧ LsAt H' sl fl L ∧ LOk p n S i L F)
      ⟨none, none, none, none, none, [], [], rfl, s1, (by exact ef), ⟨[], es, .nil⟩, .zero hp⟩ ?_ ?_ ?_ ?_⟩
    · rintro i σ H2 hi ⟨v4, v5, v6, v7, v8, L, F, rfl, s2, _⟩
      exact itn_go (Sq.t (ha.same s2).sq) (by rw [List.length_map]; exact hi)
    · rintro σ H2 ⟨v4, v5, v6, v7, v8, L, F, rfl, s2, _⟩
      exact itn_stop (Sq.t (ha.same s2).sq) (List.length_map _).symm
    · rintro i v σ H2 H3 hi ⟨v4, v5, v6, v7, v8, L, F, rfl, s2, ef2, hls2, lok⟩ y
      obtain ⟨T, x, rfl, nT, rfl, e1⟩ := itn_yld (Sq.t (ha.same s2).sq) y
      rw [List.getElem?_map] at e1
      obtain ⟨b, eb, rfl⟩ := Option.map_eq_some_iff.mp e1
      obtain ⟨s, hs, hbs⟩ := paired_get hS eb
      have hvs := hv s (List.mem_of_getElem? hs)
      refine g_pair upd_same ?_
      have s3 : Same H2 (upd H2 T (.tup [.int ((i : Nat) : Int), .ref b])) := same_new nT _
      have ef3 := s3 _ _ ef2
      have hls3 := hls2.same s3
      have s23 := s2.trans s3
      generalize upd H2 T (.tup [.int ((i : Nat) : Int), .ref b]) = H3 at s3 ef3 hls3 s23 ⊢
      refine ⟨_, rfl, _, rfl, _, rfl, p, sl, fl, b, n, L, s, rfl, hp, n10, hls3, fun e he => ⟨lok.pl e he, lok.vec e he⟩, lok.nd, hbs.same s23, hvs, fun srt ln H4 sp ss hln s4 e4 => ?_⟩
      have nx := lok.next hs hvs sp ss
      have vr : Vec p n (red p srt s) := red_vec (by omega) hvs fun e he => lok.vec e (sp.mem_iff.mp he)
      generalize red p srt s = left at e4 nx vr
      have hlen := vr.ln
      refine ⟨_, rfl, ln, _, true, rfl, Sq.lo e4, fun D hD => ?_⟩
      refine lcF left.length (fun i => left.getD i 0 != 0) (fun i => .int (i : Nat)) hD (by omega) (fun i H hi s => itn_go (Sq.lo (s _ _ e4)) (by rw [iv_len]; exact hi)) (fun H s => itn_stop (Sq.lo (s _ _ e4)) (iv_len _).symm) ?_ ?_
      · intro i v H1 H2 hi s y R k
        obtain ⟨T, x, rfl, nT, rfl, e1⟩ := itn_yld (Sq.lo (s _ _ e4)) y
        obtain ⟨x', f1, rfl⟩ := iv_get e1
        refine g_pair upd_same (k _ _ rfl (same_new nT _) (fun c k2 => ?_) fun _ H3 s3 R' k2 => ⟨_, rfl, k2 _ (Same.refl _)⟩)
        refine ⟨_, rfl, rfl, _, rfl, ?_⟩
        have e3 : (!decide (V.int x' = V.int 0)) = (left.getD i 0 != 0) := by rw [dec_vi, getD_of f1]; simp [bne, BEq.beq]
        rw [e3]
        exact k2 _ (Same.refl _)
      intro H5 s5 e5
      have e50 : ((List.range left.length).filter fun i => left.getD i 0 != 0) = nzP left := rfl
      rw [e50] at e5
      have s35 := s4.trans s5
      have s25 := s23.trans s35
      refine ⟨_, rfl, D, _, rfl, .inl (SqL.of e5), _, _, rfl, rfl, _, rfl, ?_⟩
      have hh := nzP_head left
      cases g : nzP left with
      | nil =>
        rw [g] at hh
        refine iteF ?_
        exact ⟨_, _, _, _, _, L, F, rfl, s25, s35 _ _ ef3, hls3.same s35, nx.1 hh.symm⟩
      | cons pl r =>
        rw [g] at hh e5
        have fs := firstP_some hh.symm
        have hpn : pl < n := by rw [← hlen]; exact fs.1
        have lb := vr.at_ hpn
        have nx2 := nx.2 pl hh.symm
        have egx : left[pl]? = some (left.getD pl 0) := getD_at fs.1
        have lpos : 0 < left.getD pl 0 := by have := fs.2.1; omega
        refine (if_pos ?_).mpr ?_
        · rw [List.length_map, List.length_cons]
          exact decide_eq_true (by omega)
        refine ⟨_, rfl, _, rfl, _, rfl, D, _, _, _, rfl, rfl, SqL.of e5, atI_nat (j := 0) rfl, ln, _, _, _, rfl, rfl, SqL.of (s5 _ _ e4), atI_nat (iv_at egx), p, left.getD pl 0, rfl, hp, lpos, lb.2, fun H6 s6 => ?_⟩
        have ib := inv_spec hp lpos lb.2
        generalize inv p (left.getD pl 0) = t at ib nx2 ⊢
        obtain ⟨ts, et6, hts6⟩ := hls3.same (s35.trans s6)
        have e6 := s6 _ _ e5
        have eln6 := s6 _ _ (s5 _ _ e4)
        refine ⟨_, rfl, .inl ⟨rfl, _, SqL.of et6⟩, _, rfl, D, _, _, _, rfl, rfl, SqL.of e6, atI_nat (j := 0) rfl, ?_⟩
        refine ⟨_, rfl, ln, rfl, ⟨_, SqL.of eln6⟩, fun D2 hD2 => ?_⟩
        refine lcS (plain_l (SqL.of eln6)) (fun i => .int ((scale p t left).getD i 0)) hD2 (by rw [iv_len]; omega) (fun _ => rfl) ?_ ?_
        · intro j x H7 hx s7 R k3
          obtain ⟨x', hx', rfl⟩ := iv_get hx
          have k4 := k3 _ (Same.refl _)
          rw [scale_at (List.getElem?_eq_some_iff.mp hx').1, getD_of hx', Int.mul_comm] at k4
          exact ⟨_, rfl, _, rfl, _, _, rfl, rfl, .inl ⟨by omega, by omega⟩, .inl ⟨_, rfl, _, rfl, _, _, rfl, rfl, (by show (0 : Int) < p; omega), k4⟩⟩
        intro H7 s7 e7
        have el7 : (List.range (iv left).length).map (fun i => V.int ((scale p t left).getD i 0)) = iv (scale p t left) := by
          rw [iv_len, ← (scale_vec (p := p) (t := t) (by omega) hlen).ln.trans hlen.symm, iv_range]
        rw [el7] at e7
        refine ⟨(by show 2 ≤ sizeLine; decide), fun T2 hT2 => ?_⟩
        have s8 := same_new hT2 (.tup [.int ((pl : Nat) : Int), .ref D2])
        have eT2 : (upd H7 T2 (.tup [.int ((pl : Nat) : Int), .ref D2])) T2 = some (.tup [.int ((pl : Nat) : Int), .ref D2]) := upd_same
        have s68 := s7.trans s8
        have e8 := s8 _ _ e7
        have s28 := (s25.trans s6).trans s68
        generalize upd H7 T2 (.tup [.int ((pl : Nat) : Int), .ref D2]) = H8 at s8 eT2 s68 e8 s28 ⊢
        have et8 := s68 _ _ et6
        have ef8 := s68 _ _ (s6 _ _ (s35 _ _ ef3))
        have lts := paired_len hts6
        have lL : L.length ≤ 10 := by
          have := nodup_below n (L.map (·.1)) lok.nd fun x hx => by
            obtain ⟨e, he, rfl⟩ := List.mem_map.mp hx
            exact lok.pl e he
          rw [List.length_map] at this
          omega
        refine ⟨sl, _, _, rfl, rfl, et8, Nat.lt_of_le_of_lt (show (ts.map V.ref).length ≤ 1000 by rw [List.length_map]; omega) (by decide), ?_⟩
        have ne1 : ∀ b o, b ≠ sl → H8 b = some o → (upd H8 sl (.lst (ts.map V.ref ++ [.ref T2]))) b = some o := fun b o nb e => by rw [upd_ne nb]; exact e
        refine ⟨_, rfl, .inl ⟨rfl, _, SqL.of (ne1 _ _ nfs ef8)⟩, _, rfl, fl, _, _, rfl, rfl, ne1 _ _ nfs ef8, ?_, ?_⟩
        · refine Nat.lt_of_le_of_lt (show (iv (F.map fun k => ((k : Nat) : Int))).length ≤ 1000 from ?_) (by decide)
          rw [iv_len, List.length_map]
          have := nodup_below i F (lok.fa.imp fun h => Nat.ne_of_lt h) fun x hx => ((lok.fm x).mp hx).1
          omega
        have ne2 : ∀ b o, b ≠ sl → b ≠ fl → H8 b = some o → (upd (upd H8 sl (.lst (ts.map V.ref ++ [.ref T2]))) fl (.lst (iv (F.map fun k => ((k : Nat) : Int)) ++ [.int ((i : Nat) : Int)]))) b = some o := fun b o nb nb2 e => by rw [upd_ne nb2]; exact ne1 b o nb e
        have hD2f : D2 ≠ fl := fun z => by
          have := s6 _ _ (s35 _ _ ef3)
          rw [← z, hD2] at this
          cases this
        have hD2s : D2 ≠ sl := fun z => by rw [← z, hD2] at et6; cases et6
        refine ⟨_, _, _, _, _, L ++ [(pl, scale p t left)], F ++ [i], rfl, fun b o e => ne2 b o (ne_of_none e hsl) (ne_of_none e hfl) (s28 _ _ e), ?_, ⟨ts ++ [T2], ?_, ?_⟩, nx2⟩
        · rw [upd_same, List.map_append]
          unfold iv
          rw [List.map_append]
          rfl
        · rw [upd_ne nfs.symm, upd_same, List.map_append]
          rfl
        · refine paired_snoc ⟨D2, ne2 _ _ (ne_of eT2 et8 (by intro q; cases q)) (ne_of eT2 ef8 (by intro q; cases q)) eT2, ne2 _ _ hD2s hD2f e8, hD2f⟩ ?_
          have hts8 := paired_mono (G := fun t (e : Nat × List Int) => ∃ o, H8 t = some (.tup [.int ((e.1 : Nat) : Int), .ref o]) ∧ H8 o = some (.lst (iv e.2)) ∧ o ≠ fl) (fun _ _ ⟨o, q1, q2, q3⟩ => ⟨o, s68 _ _ q1, s68 _ _ q2, q3⟩) hts6
          have tsne : ∀ e ∈ L, ∀ ns : List Int, ts.map V.ref ≠ iv ns := fun e he ns z => by
            cases ts with
            | nil =>
              rw [List.length_nil] at lts
              rw [List.eq_nil_of_length_eq_zero lts.symm] at he
              cases he
            | cons t0 tr => cases ns with
              | nil => cases z
              | cons => cases z
          have : ∀ (ts' : List Addr) (L' : List (Nat × List Int)), (∀ e ∈ L', e ∈ L) → Paired (fun t (e : Nat × List Int) => ∃ o, H8 t = some (.tup [.int ((e.1 : Nat) : Int), .ref o]) ∧ H8 o = some (.lst (iv e.2)) ∧ o ≠ fl) ts' L' →
              Paired (fun t (e : Nat × List Int) => ∃ o, (upd (upd H8 sl (.lst (ts.map V.ref ++ [.ref T2]))) fl (.lst (iv (F.map fun k => ((k : Nat) : Int)) ++ [.int ((i : Nat) : Int)]))) t = some (.tup [.int ((e.1 : Nat) : Int), .ref o]) ∧ (upd (upd H8 sl (.lst (ts.map V.ref ++ [.ref T2]))) fl (.lst (iv (F.map fun k => ((k : Nat) : Int)) ++ [.int ((i : Nat) : Int)]))) o = some (.lst (iv e.2)) ∧ o ≠ fl) ts' L' := by
            intro ts' L' hsub hp'
            induction hp' with
            | nil => exact .nil
            | cons hh tl ih =>
              obtain ⟨o, q1, q2, q3⟩ := hh
              refine .cons ⟨o, ne2 _ _ (ne_of q1 et8 (by intro q; cases q)) (ne_of q1 ef8 (by intro q; cases q)) q1, ne2 _ _ (fun z => ?_) q3 q2, q3⟩ (ih fun e he => hsub e (List.mem_cons_of_mem _ he))
              rw [z, et8] at q2
              exact tsne _ (hsub _ List.mem_cons_self) _ (HO.lst.inj (Option.some.inj q2))
          exact this ts L (fun _ h => h) hts8
    · rintro σ H2 ⟨v4, v5, v6, v7, v8, L, F, rfl, s2, ef2, hls2, lok⟩
      rw [la] at lok
      exact k _ _ ⟨v4, v5, v6, v7, v8, L, F, rfl, s2, ef2, hls2, lok⟩
  rintro σ' H2 ⟨v4, v5, v6, v7, v8, L, F, rfl, s2, ef2, hls2, lok⟩
  refine ⟨_, rfl, _, rfl, (by show 2 ≤ sizeLine; decide), fun u hu => ?_⟩
  have s3 := same_new hu (.tup [.ref fl, .ref sl])
  exact q u fl sl F L _ (s2.trans s3) (.of upd_same) (s3 _ _ ef2) (hls2.same s3) lok
end
end Lf
/-! The law's solving: rows that are changed so that what they make 0 stays. -/
namespace Lf
def dot : List Int → (Nat → Int) → Int
  | [], _ => 0
  | x :: r, y => x * y 0 + dot r fun i => y (i + 1)
theorem dot_less {p t : Int} : ∀ {a b : List Int} {y : Nat → Int}, a.length = b.length → p ∣ dot (lessT p a t b) y - (dot a y - t * dot b y)
  | [], [], _, _ => ⟨0, by simp [dot, lessT]⟩
  | x :: r, z :: s, y, h => by
    obtain ⟨k, hk⟩ := dot_less (p := p) (t := t) (a := r) (b := s) (y := fun i => y (i + 1)) (by simpa using h)
    obtain ⟨m, hm⟩ := emod_dvd p (x - t * z)
    refine ⟨k - m * y 0, ?_⟩
    show ((x - t * z) % p) * y 0 + dot (lessT p r t s) (fun i => y (i + 1)) - (x * y 0 + dot r (fun i => y (i + 1)) - t * (z * y 0 + dot s fun i => y (i + 1))) = _
    grind
theorem dot_scale {p t : Int} : ∀ {a : List Int} {y : Nat → Int}, p ∣ dot (scale p t a) y - t * dot a y
  | [], _ => ⟨0, by simp [dot, scale]⟩
  | x :: r, y => by
    obtain ⟨k, hk⟩ := dot_scale (p := p) (t := t) (a := r) (y := fun i => y (i + 1))
    obtain ⟨m, hm⟩ := emod_dvd p (x * t)
    refine ⟨k - m * y 0, ?_⟩
    show (x * t % p) * y 0 + dot (scale p t r) (fun i => y (i + 1)) - t * (x * y 0 + dot r fun i => y (i + 1)) = _
    grind
theorem dot_snoc (x : Int) : ∀ (a : List Int) (y : Nat → Int), dot (a ++ [x]) y = dot a y + x * y a.length
  | [], y => by simp [dot]
  | z :: r, y => by
    show z * y 0 + dot (r ++ [x]) (fun i => y (i + 1)) = z * y 0 + dot r (fun i => y (i + 1)) + x * y (r.length + 1)
    rw [dot_snoc x r]
    grind
theorem dot_lc (j : Nat) : ∀ (B : List (List Int)) (y : Nat → Int), dot (B.map fun b => b.getD j 0) y = lc y B j
  | [], _ => rfl
  | b :: r, y => by
    show b.getD j 0 * y 0 + dot (r.map fun b => b.getD j 0) (fun i => y (i + 1)) = y 0 * b.getD j 0 + lc (fun i => y (i + 1)) r j
    rw [dot_lc j r]
    grind
theorem dot_zero : ∀ {a : List Int} {y : Nat → Int}, (∀ q < a.length, a.getD q 0 * y q = 0) → dot a y = 0
  | [], _, _ => rfl
  | x :: r, y, h => by
    have h0 := h 0 (Nat.zero_lt_succ _)
    have ih := dot_zero (a := r) (y := fun i => y (i + 1)) fun q hq => h (q + 1) (Nat.succ_lt_succ hq)
    show x * y 0 + dot r (fun i => y (i + 1)) = 0
    have h0' : x * y 0 = 0 := h0
    omega
theorem dot_single : ∀ {a : List Int} {y : Nat → Int} {k : Nat}, (∀ q < a.length, q ≠ k → a.getD q 0 * y q = 0) → dot a y = a.getD k 0 * y k
  | [], _, _, _ => by simp [dot]
  | x :: r, y, 0, h => by
    have ih := dot_zero (a := r) (y := fun i => y (i + 1)) fun q hq => h (q + 1) (Nat.succ_lt_succ hq) (Nat.succ_ne_zero q)
    show x * y 0 + dot r (fun i => y (i + 1)) = x * y 0
    omega
  | x :: r, y, k + 1, h => by
    have h0 : x * y 0 = 0 := h 0 (Nat.zero_lt_succ _) (by omega)
    have ih := dot_single (a := r) (y := fun i => y (i + 1)) (k := k) fun q hq hne => h (q + 1) (Nat.succ_lt_succ hq) (by omega)
    show x * y 0 + dot r (fun i => y (i + 1)) = r.getD k 0 * y (k + 1)
    omega
theorem dot_two : ∀ {a : List Int} {y : Nat → Int} {k l : Nat}, k < l → (∀ q < a.length, q ≠ k → q ≠ l → a.getD q 0 * y q = 0) → dot a y = a.getD k 0 * y k + a.getD l 0 * y l
  | [], _, _, _, _, _ => by simp [dot]
  | x :: r, y, 0, l + 1, _, h => by
    have ih := dot_single (a := r) (y := fun i => y (i + 1)) (k := l) fun q hq hne => h (q + 1) (Nat.succ_lt_succ hq) (Nat.succ_ne_zero q) (by omega)
    show x * y 0 + dot r (fun i => y (i + 1)) = x * y 0 + r.getD l 0 * y (l + 1)
    omega
  | x :: r, y, k + 1, l + 1, hkl, h => by
    have h0 : x * y 0 = 0 := h 0 (Nat.zero_lt_succ _) (by omega) (by omega)
    have ih := dot_two (a := r) (y := fun i => y (i + 1)) (k := k) (l := l) (by omega) fun q hq h1 h2 => h (q + 1) (Nat.succ_lt_succ hq) (by omega) (by omega)
    show x * y 0 + dot r (fun i => y (i + 1)) = r.getD k 0 * y (k + 1) + r.getD l 0 * y (l + 1)
    omega
/-- the r-th row -/
def gr (M : List (List Int)) (r : Nat) : List Int := M.getD r []
theorem gr_set {M : List (List Int)} {i r : Nat} {x : List Int} (hi : i < M.length) : gr (M.set i x) r = if r = i then x else gr M r := by
  unfold gr
  rw [List.getD_eq_getElem?_getD, List.getElem?_set]
  by_cases c : i = r
  · rw [if_pos c, if_pos c.symm, if_pos hi]
    rfl
  · rw [if_neg c, if_neg (fun z => c z.symm), List.getD_eq_getElem?_getD]
structure G (p : Int) (n w c : Nat) (K0 : (Nat → Int) → Prop) (M : List (List Int)) : Prop where
  ln : M.length = n
  cn : c ≤ n
  cw : c < w
  vec : ∀ r < n, Vec p w (gr M r)
  ker : ∀ y, (∀ r < n, p ∣ dot (gr M r) y) ↔ K0 y
  col : ∀ q < c, ∀ r < n, (gr M r).getD q 0 = if r = q then 1 else 0
section
variable {p : Int} {n w c h : Nat} {K0 : (Nat → Int) → Prop} {M : List (List Int)}
def swapM (M : List (List Int)) (a h : Nat) : List (List Int) := (M.set a (gr M h)).set h (gr M a)
theorem gr_swap {r : Nat} (ha : c < M.length) (hh : h < M.length) : gr (swapM M c h) r = if r = h then gr M c else if r = c then gr M h else gr M r := by
  unfold swapM
  rw [gr_set (by rw [List.length_set]; exact hh), gr_set ha]
/-- two rows change places -/
theorem G.swap (g : G p n w c K0 M) (hc : c ≤ h) (hh : h < n) : G p n w c K0 (swapM M c h) := by
  have lc' : c < M.length := by rw [g.ln]; omega
  have lh : h < M.length := by rw [g.ln]; exact hh
  have sw : ∀ r, gr (swapM M c h) r = if r = h then gr M c else if r = c then gr M h else gr M r := fun r => gr_swap lc' lh
  refine ⟨by unfold swapM; rw [List.length_set, List.length_set, g.ln], g.cn, g.cw, fun r hr => ?_, fun y => ?_, fun q hq r hr => ?_⟩
  · rw [sw]
    split
    · exact g.vec c (by omega)
    · split
      · exact g.vec h hh
      · exact g.vec r hr
  · rw [← g.ker y]
    constructor
    · intro k r hr
      by_cases e1 : r = h
      · have := k c (by omega)
        rw [sw] at this
        by_cases e2 : c = h
        · rw [if_pos e2] at this
          rw [e1, ← e2]
          exact this
        · rw [if_neg e2, if_pos rfl] at this
          rw [e1]
          exact this
      · by_cases e2 : r = c
        · have := k h hh
          rw [sw, if_pos rfl] at this
          rw [e2]
          exact this
        · have := k r hr
          rw [sw, if_neg e1, if_neg e2] at this
          exact this
    · intro k r hr
      rw [sw]
      split
      · exact k c (by omega)
      · split
        · exact k h hh
        · exact k r hr
  · rw [sw]
    split
    · rename_i e
      rw [g.col q hq c (by omega), if_neg (by omega), if_neg (by omega)]
    · split
      · rename_i e e2
        rw [g.col q hq h hh, if_neg (by omega), if_neg (by omega)]
      · exact g.col q hq r hr
/-- a row so many times -/
theorem G.scale {t ti : Int} (g : G p n w c K0 M) (hp : 0 < p) (hc : c < n) (ht : p ∣ ti * t - 1) : G p n w c K0 (M.set c (scale p t (gr M c))) := by
  have lc' : c < M.length := by rw [g.ln]; omega
  have vc := g.vec c hc
  refine ⟨by rw [List.length_set, g.ln], g.cn, g.cw, fun r hr => ?_, fun y => ?_, fun q hq r hr => ?_⟩
  · rw [gr_set lc']
    split
    · exact scale_vec hp vc.ln
    · exact g.vec r hr
  · rw [← g.ker y]
    obtain ⟨a, ha⟩ := dot_scale (p := p) (t := t) (a := gr M c) (y := y)
    obtain ⟨b, hb⟩ := ht
    constructor
    · intro k r hr
      by_cases e : r = c
      · have := k c hc
        rw [gr_set lc', if_pos rfl] at this
        obtain ⟨d, hd⟩ := this
        rw [e]
        exact ⟨ti * d - ti * a - b * dot (gr M c) y, by grind⟩
      · have := k r hr
        rw [gr_set lc', if_neg e] at this
        exact this
    · intro k r hr
      rw [gr_set lc']
      split
      · obtain ⟨d, hd⟩ := k c hc
        exact ⟨a + t * d, by grind⟩
      · exact k r hr
  · rw [gr_set lc']
    split
    · rename_i e
      have := g.col q hq c hc
      rw [if_neg (by omega)] at this
      rw [scale_at (by rw [vc.ln]; have := g.cw; omega), this, if_neg (by omega)]
      simp
    · exact g.col q hq r hr
/-- the rows as a column is cleared -/
structure GE (p : Int) (n w c k : Nat) (K0 : (Nat → Int) → Prop) (M : List (List Int)) : Prop where
  g : G p n w c K0 M
  hc : c < n
  piv : (gr M c).getD c 0 = 1
  cl : ∀ r < k, r ≠ c → (gr M r).getD c 0 = 0
theorem GE.skip {k : Nat} (e : GE p n w c k K0 M) (h : k = c ∨ (gr M k).getD c 0 = 0) : GE p n w c (k + 1) K0 M :=
  ⟨e.g, e.hc, e.piv, fun r hr hne => by
    by_cases z : r = k
    · rcases h with h | h
      · exact absurd (z.trans h) hne
      · rw [z]
        exact h
    · exact e.cl r (by omega) hne⟩
theorem GE.clear {k : Nat} (e : GE p n w c k K0 M) (hp : 0 < p) (hk : k < n) (hne : k ≠ c) : GE p n w c (k + 1) K0 (M.set k (lessT p (gr M k) ((gr M k).getD c 0) (gr M c))) := by
  obtain ⟨g, hc, piv, cl⟩ := e
  have lk : k < M.length := by rw [g.ln]; exact hk
  have vk := g.vec k hk
  have vc := g.vec c hc
  have cw := g.cw
  refine ⟨⟨by rw [List.length_set, g.ln], g.cn, cw, fun r hr => ?_, fun y => ?_, fun q hq r hr => ?_⟩, hc, ?_, fun r hr hrc => ?_⟩
  · rw [gr_set lk]
    split
    · exact vk.less hp vc.ln
    · exact g.vec r hr
  · rw [← g.ker y]
    obtain ⟨a, ha⟩ := dot_less (p := p) (t := (gr M k).getD c 0) (a := gr M k) (b := gr M c) (y := y) (by rw [vk.ln, vc.ln])
    constructor
    · intro kk r hr
      have h1 := kk c hc
      rw [gr_set lk, if_neg (fun z => hne z.symm)] at h1
      by_cases z : r = k
      · have h2 := kk k hk
        rw [gr_set lk, if_pos rfl] at h2
        obtain ⟨x1, e1⟩ := h1
        obtain ⟨x2, e2⟩ := h2
        rw [z]
        exact ⟨x2 - a + (gr M k).getD c 0 * x1, by grind⟩
      · have h2 := kk r hr
        rw [gr_set lk, if_neg z] at h2
        exact h2
    · intro kk r hr
      rw [gr_set lk]
      split
      · obtain ⟨x1, e1⟩ := kk c hc
        obtain ⟨x2, e2⟩ := kk k hk
        exact ⟨a + x2 - (gr M k).getD c 0 * x1, by grind⟩
      · exact kk r hr
  · rw [gr_set lk]
    split
    · rename_i z
      have h1 := g.col q hq c hc
      rw [if_neg (by omega)] at h1
      rw [lessT_at vk.ln vc.ln (by omega), h1, g.col q hq k hk, z]
      simp
      split
      · exact Int.emod_eq_of_lt (by decide) (by
          have := vc.at_ (show c < w from cw)
          rw [piv] at this
          exact this.2)
      · rfl
    · exact g.col q hq r hr
  · rw [gr_set lk, if_neg (fun z => hne z.symm)]
    exact piv
  · rw [gr_set lk]
    split
    · rw [lessT_at vk.ln vc.ln cw, piv]
      simp
    · rename_i z
      exact cl r (by omega) hrc
theorem GE.done (e : GE p n w c n K0 M) (hw : c + 1 < w) : G p n w (c + 1) K0 M :=
  ⟨e.g.ln, e.hc, hw, e.g.vec, e.g.ker, fun q hq r hr => by
    by_cases z : q = c
    · rw [z]
      by_cases y : r = c
      · rw [if_pos y, y]
        exact e.piv
      · rw [if_neg y]
        exact e.cl r hr y
    · exact e.g.col q (by omega) r hr⟩
/-- there is a row with something in the next column -/
theorem G.pivot (g : G p n w c K0 M) (hp : 1 < p) (hK : ∀ y, K0 y → (∀ q, c < q → y q = 0) → p ∣ y c) : ∃ h, c ≤ h ∧ h < n ∧ (gr M h).getD c 0 ≠ 0 := by
  refine Classical.byContradiction fun no => ?_
  have z : ∀ r, c ≤ r → r < n → (gr M r).getD c 0 = 0 := fun r h1 h2 => Classical.byContradiction fun h3 => no ⟨r, h1, h2, h3⟩
  have k := (g.ker fun q => if q < c then -((gr M q).getD c 0) else if q = c then 1 else 0).mp fun r hr => by
    by_cases hrc : r < c
    · rw [dot_two (k := r) (l := c) hrc fun q hq h1 h2 => ?_]
      · rw [if_pos hrc, if_neg (Nat.lt_irrefl c), if_pos rfl, g.col r hrc r hr, if_pos rfl]
        exact ⟨0, by omega⟩
      · by_cases hqc : q < c
        · rw [g.col q hqc r hr, if_neg (fun z => h1 z.symm)]
          simp
        · rw [if_neg hqc, if_neg h2]
          simp
    · rw [dot_zero fun q hq => ?_]
      · exact ⟨0, by simp⟩
      · by_cases hqc : q < c
        · rw [g.col q hqc r hr, if_neg (by omega)]
          simp
        · rw [if_neg hqc]
          split
          · rename_i e
            rw [e, z r (by omega) hr]
            simp
          · simp
  have d := hK _ k fun q hq => by rw [if_neg (by omega), if_neg (by omega)]
  rw [if_neg (Nat.lt_irrefl c), if_pos rfl] at d
  obtain ⟨x, hx⟩ := d
  have : (1 : Int) % p = 1 := Int.emod_eq_of_lt (by decide) hp
  rw [hx, Int.mul_emod_right] at this
  omega
/-- the sums' last column tells that nothing makes it -/
theorem G.none {m r : Nat} (g : G p n (m + 1) m K0 M) (hr : r < n) (hm : m ≤ r) (hne : (gr M r).getD m 0 ≠ 0) (y : Nat → Int) (hy : y m = -1) : ¬ K0 y := by
  intro k
  have d := (g.ker y).mpr k r hr
  have vr := g.vec r hr
  rw [dot_single (k := m) fun q hq h1 => ?_] at d
  · have b := vr.at_ (show m < m + 1 by omega)
    rw [hy] at d
    obtain ⟨x, hx⟩ := d
    have := dvd_bd (p := p) (x := (gr M r).getD m 0) ⟨-x, by grind⟩ b.1 b.2
    exact hne this
  · rw [vr.ln] at hq
    rw [g.col q (by omega) r hr, if_neg (by omega)]
    simp
/-- how the sums make it -/
theorem G.some {m : Nat} (g : G p n (m + 1) m K0 M) (hz : ∀ r, m ≤ r → r < n → (gr M r).getD m 0 = 0) : K0 fun q => if q = m then -1 else (gr M q).getD m 0 := by
  refine (g.ker _).mp fun r hr => ?_
  have vr := g.vec r hr
  by_cases hrm : r < m
  · rw [dot_two (k := r) (l := m) hrm fun q hq h1 h2 => ?_]
    · rw [if_neg (by omega), if_pos rfl, g.col r hrm r hr, if_pos rfl]
      exact ⟨0, by omega⟩
    · rw [vr.ln] at hq
      rw [g.col q (by omega) r hr, if_neg (fun z => h1 z.symm)]
      simp
  · rw [dot_zero fun q hq => ?_]
    · exact ⟨0, by simp⟩
    · rw [vr.ln] at hq
      by_cases e : q = m
      · rw [e, hz r (by omega) hr]
        simp
      · rw [g.col q (by omega) r hr, if_neg (by omega)]
        simp
end
/-! ### the taken sums alone -/
/-- y at the numbers of F, 0 else -/
def scat : List Nat → (Nat → Int) → Nat → Int
  | [], _, _ => 0
  | f :: r, y, k => if k = f then y 0 else scat r (fun i => y (i + 1)) k
theorem scat_off : ∀ {F : List Nat} {y : Nat → Int} {k : Nat}, k ∉ F → scat F y k = 0
  | [], _, _, _ => rfl
  | f :: r, y, k, h => by
    unfold scat
    rw [if_neg fun z => h (by rw [z]; exact List.mem_cons_self)]
    exact scat_off fun z => h (List.mem_cons_of_mem _ z)
theorem scat_at : ∀ {F : List Nat} {y : Nat → Int} {q : Nat}, F.Nodup → q < F.length → scat F y (F.getD q 0) = y q
  | f :: r, y, 0, _, _ => by
    show (if f = f then y 0 else _) = y 0
    rw [if_pos rfl]
  | f :: r, y, q + 1, nd, h => by
    have nd' := List.nodup_cons.mp nd
    have hq : q < r.length := by simpa using h
    have hm : r.getD q 0 ∈ r := by
      rw [List.getD_eq_getElem?_getD, List.getElem?_eq_getElem hq]
      exact List.getElem_mem hq
    show (if r.getD q 0 = f then y 0 else scat r (fun i => y (i + 1)) (r.getD q 0)) = y (q + 1)
    rw [if_neg (fun z => nd'.1 (by rw [← z]; exact hm))]
    exact scat_at nd'.2 hq
theorem ascN_ext : ∀ {l m : List Nat}, l.Pairwise (· < ·) → m.Pairwise (· < ·) → (∀ x, x ∈ l ↔ x ∈ m) → l = m
  | [], [], _, _, _ => rfl
  | [], y :: r, _, _, h => nomatch (h y).mpr List.mem_cons_self
  | x :: r, [], _, _, h => nomatch (h x).mp List.mem_cons_self
  | x :: r, y :: s, hl, hm, h => by
    have a := List.pairwise_cons.mp hl
    have b := List.pairwise_cons.mp hm
    have e : x = y := by
      rcases List.mem_cons.mp ((h x).mp List.mem_cons_self) with q | q
      · exact q
      · rcases List.mem_cons.mp ((h y).mpr List.mem_cons_self) with q' | q'
        · exact q'.symm
        · have := b.1 x q
          have := a.1 y q'
          omega
    subst e
    rw [ascN_ext a.2 b.2 fun z => ?_]
    constructor
    · intro hz
      rcases List.mem_cons.mp ((h z).mp (List.mem_cons_of_mem _ hz)) with q | q
      · have := a.1 z hz
        omega
      · exact q
    · intro hz
      rcases List.mem_cons.mp ((h z).mpr (List.mem_cons_of_mem _ hz)) with q | q
      · have := b.1 z hz
        omega
      · exact q
/-- the sums of the numbers -/
def subS (S : List (List Int)) (F : List Nat) : List (List Int) := F.map fun t => S.getD t []
section
variable {p : Int} {n : Nat} {S : List (List Int)} {F : List Nat} {c : Nat → Int}
theorem lc_sub (fa : F.Pairwise (· < ·)) (hF : ∀ k ∈ F, k < S.length) (h0 : ∀ k < S.length, k ∉ F → c k = 0) (j : Nat) : lc c S j = lc (fun q => c (F.getD q 0)) (subS S F) j := by
  have key : ∀ i ≤ S.length, lc c (S.take i) j = lc (fun q => c ((F.filter fun k => decide (k < i)).getD q 0)) (subS S (F.filter fun k => decide (k < i))) j := by
    intro i
    induction i with
    | zero =>
      intro _
      have : (F.filter fun k => decide (k < 0)) = [] := List.filter_eq_nil_iff.mpr fun a _ => by simp
      rw [this, List.take_zero]
      rfl
    | succ i ih =>
      intro hi
      have hs := getD_at (d := ([] : List Int)) (show i < S.length by omega)
      have ln : (S.take i).length = i := by rw [List.length_take]; omega
      rw [take_snoc hs, lc_snoc, ln, ih (by omega)]
      by_cases m : i ∈ F
      · have e : (F.filter fun k => decide (k < i + 1)) = (F.filter fun k => decide (k < i)) ++ [i] := by
          refine ascN_ext (fa.sublist List.filter_sublist) ?_ fun x => ?_
          · rw [List.pairwise_append]
            refine ⟨fa.sublist List.filter_sublist, List.pairwise_singleton _ _, fun a ha b hb => ?_⟩
            rw [List.mem_singleton.mp hb]
            exact of_decide_eq_true (List.mem_filter.mp ha).2
          · rw [List.mem_append, List.mem_filter, List.mem_filter, List.mem_singleton]
            simp only [decide_eq_true_eq]
            constructor
            · rintro ⟨h1, h2⟩
              by_cases e : x = i
              · exact .inr e
              · exact .inl ⟨h1, by omega⟩
            · rintro (⟨h1, h2⟩ | rfl)
              · exact ⟨h1, by omega⟩
              · exact ⟨m, by omega⟩
        rw [e]
        unfold subS
        rw [List.map_append]
        show _ = lc _ ((F.filter fun k => decide (k < i)).map _ ++ [S.getD i []]) j
        rw [lc_snoc, List.length_map]
        have e2 : ((F.filter fun k => decide (k < i)) ++ [i]).getD (F.filter fun k => decide (k < i)).length 0 = i := by
          rw [List.getD_eq_getElem?_getD, List.getElem?_append_right (Nat.le_refl _), Nat.sub_self]
          rfl
        rw [e2]
        congr 1
        refine lc_congr fun q hq => ?_
        rw [List.length_map] at hq
        rw [List.getD_eq_getElem?_getD, List.getD_eq_getElem?_getD, List.getElem?_append_left hq]
      · have e : (F.filter fun k => decide (k < i + 1)) = F.filter fun k => decide (k < i) := by
          refine ascN_ext (fa.sublist List.filter_sublist) (fa.sublist List.filter_sublist) fun x => ?_
          rw [List.mem_filter, List.mem_filter]
          simp only [decide_eq_true_eq]
          constructor
          · rintro ⟨h1, h2⟩
            refine ⟨h1, ?_⟩
            by_cases e : x = i
            · exact absurd (e ▸ h1) m
            · omega
          · rintro ⟨h1, h2⟩
            exact ⟨h1, by omega⟩
        rw [e, h0 i (by omega) m]
        simp
  have e := key S.length (Nat.le_refl _)
  have ef : (F.filter fun k => decide (k < S.length)) = F := List.filter_eq_self.mpr fun a ha => decide_eq_true (hF a ha)
  rw [List.take_length, ef] at e
  exact e
theorem subS_get {q : Nat} (hq : q < F.length) : (subS S F)[q]? = some (S.getD (F.getD q 0) []) := by
  unfold subS
  rw [List.getElem?_map, getD_at (d := 0) hq]
  rfl
/-- what the numbers of the taken are -/
structure FOk (p : Int) (n : Nat) (S : List (List Int)) (F : List Nat) : Prop where
  fa : F.Pairwise (· < ·)
  fm : ∀ k, k ∈ F ↔ k < S.length ∧ Tk p n S k
theorem FOk.sub (f : FOk p n S F) {y : Nat → Int} (j : Nat) : lc (scat F y) S j = lc y (subS S F) j := by
  rw [lc_sub f.fa (fun k hk => ((f.fm k).mp hk).1) (fun k _ hk => scat_off hk)]
  refine lc_congr fun q hq => ?_
  have hq' : q < F.length := by unfold subS at hq; rwa [List.length_map] at hq
  exact scat_at (f.fa.imp fun h => Nat.ne_of_lt h) hq'
theorem FOk.indep (f : FOk p n S F) (hp : PrimeOk p) {y : Nat → Int} (h : ∀ j < n, p ∣ lc y (subS S F) j) : ∀ q < F.length, p ∣ y q := by
  intro q hq
  have hm : F.getD q 0 ∈ F := by
    rw [List.getD_eq_getElem?_getD, List.getElem?_eq_getElem hq]
    exact List.getElem_mem hq
  have := Lf.indep (S := S) (n := n) (c := scat F y) hp (fun k hk t => ⟨0, by
    rw [scat_off fun z => t ((f.fm k).mp z).2]
    simp⟩) S.length (Nat.le_refl _) (fun j hj => by
      rw [List.take_length, f.sub]
      exact h j hj) (F.getD q 0) ((f.fm _).mp hm).1
  rw [scat_at (f.fa.imp fun h => Nat.ne_of_lt h) hq] at this
  exact this
theorem FOk.span (f : FOk p n S F) {v : Nat → Int} (h : Span p n S v) : Span p n (subS S F) v := by
  have key : ∀ i ≤ S.length, ∀ s ∈ S.take i, Span p n (subS S F) fun j => s.getD j 0 := by
    intro i
    induction i with
    | zero =>
      intro _ s hs
      rw [List.take_zero] at hs
      cases hs
    | succ i ih =>
      intro hi s hs
      have hsi := getD_at (d := ([] : List Int)) (show i < S.length by omega)
      rw [take_snoc hsi] at hs
      rcases List.mem_append.mp hs with q | q
      · exact ih (by omega) s q
      · rw [List.mem_singleton.mp q]
        by_cases t : Tk p n S i
        · refine .mem ?_
          unfold subS
          exact List.mem_map.mpr ⟨i, (f.fm i).mpr ⟨by omega, t⟩, rfl⟩
        · unfold Tk at t
          exact Span.trans (ih (by omega)) (Classical.not_not.mp t)
  have := key S.length (Nat.le_refl _)
  rw [List.take_length] at this
  exact Span.trans this h
end
end Lf
/-! The law's solving. -/
namespace Lf
open PySem PySem.Spec PyProof.Rows L2
/-- rows at R, the lists elsewhere -/
def MatAt (H : Hp) (R : Addr) (M : List (List Int)) : Prop := ∃ as : List Addr, H R = some (.lst (as.map V.ref)) ∧ Paired (fun a v => H a = some (.lst (iv v)) ∧ a ≠ R) as M
theorem MatAt.same {H H' : Hp} {R : Addr} {M : List (List Int)} (e : Same H H') (h : MatAt H R M) : MatAt H' R M := by
  obtain ⟨as, h1, h2⟩ := h
  exact ⟨as, e _ _ h1, paired_mono (fun _ _ ⟨q1, q2⟩ => ⟨e _ _ q1, q2⟩) h2⟩
theorem paired_set {α β : Type} {F : α → β → Prop} {a : α} {b : β} (h : F a b) : ∀ {l : List α} {m : List β} {i : Nat}, Paired F l m → Paired F (l.set i a) (m.set i b)
  | _, _, _, .nil => .nil
  | _, _, 0, .cons _ r => .cons h r
  | _, _, _ + 1, .cons x r => .cons x (paired_set h r)
theorem MatAt.row {H : Hp} {as : List Addr} {R : Addr} {M : List (List Int)} (h : Paired (fun a v => H a = some (.lst (iv v)) ∧ a ≠ R) as M) {r : Nat} (hr : r < M.length) : ∃ a, (as.map V.ref)[r]? = some (.ref a) ∧ H a = some (.lst (iv (gr M r))) ∧ a ≠ R := by
  obtain ⟨a, h1, h2, h3⟩ := paired_get' h (getD_at (d := []) hr)
  exact ⟨a, by rw [List.getElem?_map, h1]; rfl, h2, h3⟩
theorem mat_upd {H : Hp} {R : Addr} {as : List Addr} {M : List (List Int)} {xs : List V} (h : Paired (fun a v => H a = some (.lst (iv v)) ∧ a ≠ R) as M) : Paired (fun a v => (upd H R (.lst xs)) a = some (.lst (iv v)) ∧ a ≠ R) as M :=
  paired_mono (fun _ _ ⟨q1, q2⟩ => ⟨by rw [upd_ne q2]; exact q1, q2⟩) h
theorem set_refs (as : List Addr) (r : Nat) (a : Addr) : (as.map V.ref).set r (.ref a) = (as.set r a).map V.ref := by rw [List.map_set]
theorem cutV_drop (xs : List V) {m : Nat} (h : m ≤ xs.length) : cutV xs (some (m : Int)) none = xs.drop m := by
  unfold cutV
  rw [HT.sIx_nat, HT.sIx_none, Nat.min_eq_left h]
  refine List.take_of_length_le ?_
  rw [List.length_drop]
  omega
theorem atI_m1 {ns : List Int} {m : Nat} (h : ns.length = m + 1) : atI (iv ns) (-1) = some (.int (ns.getD m 0)) := by
  unfold atI ixN
  rw [if_neg (by decide), iv_len, h, if_pos (by omega)]
  have e : ((-1 : Int) + ((m + 1 : Nat) : Int)).toNat = m := by omega
  rw [e]
  show (iv ns)[m]? = _
  exact iv_at (getD_at (d := 0) (by omega))
/-- what the law asks of its solving -/
def KS (p : Int) (n : Nat) (B : List (List Int)) (m : Nat) (u : List Int) (y : Nat → Int) : Prop := ∀ j < n, p ∣ lc y B j + u.getD j 0 * y m
def row0 (B : List (List Int)) (u : List Int) (j : Nat) : List Int := (B.map fun b => b.getD j 0) ++ [u.getD j 0]
theorem gr_row0 {B : List (List Int)} {u : List Int} {n r : Nat} (hr : r < n) : gr ((List.range n).map (row0 B u)) r = row0 B u r := by
  unfold gr
  rw [List.getD_eq_getElem?_getD, List.getElem?_map, List.getElem?_range hr]
  rfl
theorem G.zero {p : Int} {n : Nat} {B : List (List Int)} {u : List Int} (hB : ∀ b ∈ B, Vec p n b) (hu : Vec p n u) : G p n (B.length + 1) 0 (KS p n B B.length u) ((List.range n).map (row0 B u)) where
  ln := by rw [List.length_map, List.length_range]
  cn := Nat.zero_le _
  cw := Nat.zero_lt_succ _
  vec := fun r hr => by
    rw [gr_row0 hr]
    refine ⟨by unfold row0; rw [List.length_append, List.length_map]; rfl, fun x hx => ?_⟩
    unfold row0 at hx
    rcases List.mem_append.mp hx with z | z
    · obtain ⟨b, hb, rfl⟩ := List.mem_map.mp z
      exact (hB b hb).at_ hr
    · rw [List.mem_singleton.mp z]
      exact hu.at_ hr
  ker := fun y => by
    unfold KS
    constructor
    · intro h j hj
      have := h j hj
      rw [gr_row0 hj] at this
      unfold row0 at this
      rw [dot_snoc, dot_lc, List.length_map] at this
      exact this
    · intro h j hj
      rw [gr_row0 hj]
      unfold row0
      rw [dot_snoc, dot_lc, List.length_map]
      exact h j hj
  col := fun q hq => absurd hq (Nat.not_lt_zero _)
section
variable {P : Program} {w : World} {K : PySem.W.Frag} {mg : Str → Option Value} {base : Heap}
def spLMade : Sp := fun vs H Q _ => ∃ p a b n as S u, vs = [.int p, .ref a, .ref b] ∧ PrimeOk p ∧ n ≤ 10 ∧ Tp H a (as.map V.ref) ∧ TpsAt H as S ∧ (∀ s ∈ S, Vec p n s) ∧ S.length ≤ 100 ∧ Tp H b (iv u) ∧ Vec p n u ∧
  ∀ H', Same H H' → (¬ Span p n S (fun j => u.getD j 0) → Q .non H') ∧ ∀ X t, X.length = S.length → Sol p n S (fun j => u.getD j 0) (fun k => X.getD k 0) → H t = none → Tp H' t (iv X) → Q (.ref t) H'
abbrev N__law_made : List Str := ["_law_prime_here", "_law_sums_here", "_law_thing", "_law_some", "_law_rows", "_law_place", "_law_at", "_law_column", "_law_here", "_law_times_here", "_law_number", "_law_found", "_law_value", "_law_row"]
theorem sc__law_made : FnScope N__law_made ["_law_prime_here", "_law_sums_here", "_law_thing"] d__law_made.scope := ⟨rfl, rfl, rfl, by decide +kernel, rfl, by decide +kernel, by decide +kernel⟩
theorem cl__law_made (E : Env K mg) : Cl P w K mg base 4 "_law_made" ["_law_prime_here", "_law_sums_here", "_law_thing"] (spLMade) := by
  refine Cl.of (k := 3) E 38 32 (d := d__law_made) rfl rfl rfl rfl rfl sc__law_made (fun vs H Q E' h => by (repeat obtain ⟨_, h⟩ := h); subst_vars; rfl) (fun _ _ _ _ _ _ us hl => match us, hl with | [_, _, _], _ => rfl) (fun f cdv A outer s H vs Q E' hr h => ?_)
  obtain ⟨p, a, b, n, as, S, u, rfl, hp, n10, ha, hS, hv, hl, hb, hu, q⟩ := h
  have bd := hp.bd
  refine ⟨_, (pss_cons (ps_set (i := 3) sc__law_made.nd rfl (Or.inl rfl) (pe_ix ix_tup (pe_c (cl__law_taken E) (hr.mono (by decide)) rfl (pa_cons (pv 0) (pa_cons (pv 1) pa_nil))) pe_int (fun _ _ => rfl)))
    (pss_cons (ps_set (i := 4) sc__law_made.nd rfl (Or.inr rfl) (pe_lst pa_nil))
    (pss_cons (ps_for PassesOwn.never rfl (pi_range1 (by rfl) (E.free 74) (pa_cons (pe_callB call_len_seq (by rfl) (E.free 71) PySem.boot_len (pa_cons (pv 2) pa_nil)) pa_nil)) (pg_name (i := 5) sc__law_made.nd rfl (Or.inr rfl))
      (pss_one (ps_expr (pe_bm PySem.F.plainAttrs_list PySem.F.slot_list_append PySem.F.type_list_append mt_append (pv 4) (pa_cons (pe_op op_cat (pe_lc (own := [("_law_number", 10)]) (g := gName 10) (tt := tYes) rfl sc__law_made.nd (pi_list (pv 3)) (blkOk_by (own := [("_law_number", 10)]) (N := N__law_made) (sc := d__law_made.scope) (by decide +kernel)) (fun _ _ _ _ _ => (pg_name (i := 10) sc__law_made.nd rfl (Or.inl rfl))) (fun _ _ _ _ _ => pts_nil) (fun _ _ _ _ _ => (pe_ix (ix_tupK (K := K) rfl) (pe_ix (ix_tupK (K := K) rfl) (pv 1) (pv 10) (fun _ _ => rfl)) (pv 5) (fun _ _ => rfl)))) (pe_lst (pa_cons (pe_ix ix_tup (pv 2) (pv 5) (fun _ _ => rfl)) pa_nil))) pa_nil)))))
    (pss_cons (ps_set (i := 6) sc__law_made.nd rfl (Or.inl rfl) pe_int)
    (pss_cons (ps_for PassesOwn.never rfl (pi_range1 (by rfl) (E.free 74) (pa_cons (pe_callB call_len_seq (by rfl) (E.free 71) PySem.boot_len (pa_cons (pv 3) pa_nil)) pa_nil)) (pg_name (i := 7) sc__law_made.nd rfl (Or.inr rfl))
      (pss_cons (ps_set (i := 8) sc__law_made.nd rfl (Or.inl rfl) (pe_ix ix_list (pe_lc (own := [("_law_number", 10)]) (g := gName 10) rfl sc__law_made.nd (pi_range2 (by rfl) (E.free 74) (pa_cons (pv 6) (pa_cons (pe_callB call_len_seq (by rfl) (E.free 71) PySem.boot_len (pa_cons (pv 4) pa_nil)) pa_nil))) (blkOk_by (own := [("_law_number", 10)]) (N := N__law_made) (sc := d__law_made.scope) (by decide +kernel)) (fun _ _ _ _ _ => (pg_name (i := 10) sc__law_made.nd rfl (Or.inl rfl))) (fun _ _ _ _ _ => (pts_one (pt_cmpR op_ne (pe_ix (ix_listK (K := K) rfl) (pe_ix (ix_listK (K := K) rfl) (pv 4) (pv 10) (fun _ _ => rfl)) (pv 7) (fun _ _ => rfl)) pe_int (nomark _)))) (fun _ _ _ _ _ => (pv 10))) pe_int (fun _ _ => rfl)))
      (pss_cons (ps_asg (pe_tup (pa_cons (pe_ix ix_list (pv 4) (pv 8) (fun _ _ => rfl)) (pa_cons (pe_ix ix_list (pv 4) (pv 6) (fun _ _ => rfl)) pa_nil))) (pg_tup rfl (pgs_cons (pg_sub (pv 4) (pv 6) set_list) (pgs_cons (pg_sub (pv 4) (pv 8) set_list) pgs_nil))))
      (pss_cons (ps_set (i := 9) sc__law_made.nd rfl (Or.inr rfl) (pe_c (cl__law_inverse E) (hr.mono (by decide)) rfl (pa_cons (pv 0) (pa_cons (pe_ix ix_list (pe_ix ix_list (pv 4) (pv 6) (fun _ _ => rfl)) (pv 7) (fun _ _ => rfl)) pa_nil))))
      (pss_cons (ps_asg (pe_lc (own := [("_law_value", 12)]) (g := gName 12) (tt := tYes) rfl sc__law_made.nd (pi_list (pe_ix ix_list (pv 4) (pv 6) (fun _ _ => rfl))) (blkOk_by (own := [("_law_value", 12)]) (N := N__law_made) (sc := d__law_made.scope) (by decide +kernel)) (fun _ _ _ _ _ => (pg_name (i := 12) sc__law_made.nd rfl (Or.inl rfl))) (fun _ _ _ _ _ => pts_nil) (fun _ _ _ _ _ => (pe_op op_mod (pe_callTy call_int1 (by rfl) (E.free 68) (by decide +kernel) (pa_cons (pe_op op_mul (pv 9) (pv 12)) pa_nil)) (pv 0)))) (pg_sub (pv 4) (pv 6) set_list))
      (pss_cons (ps_for PassesOwn.never rfl (pi_range1 (by rfl) (E.free 74) (pa_cons (pe_callB call_len_seq (by rfl) (E.free 71) PySem.boot_len (pa_cons (pv 4) pa_nil)) pa_nil)) (pg_name (i := 10) sc__law_made.nd rfl (Or.inl rfl))
        (pss_one (ps_if (PW.pt (pw_and (pt_cmpR op_ne (pv 10) (pv 6) (nomark _)) (pw_and1 (pt_cmpR op_ne (pe_ix ix_list (pe_ix ix_list (pv 4) (pv 10) (fun _ _ => rfl)) (pv 7) (fun _ _ => rfl)) pe_int (nomark _)))))
          (pss_one (ps_asg (pe_c (cl__law_times E) (hr.mono (by decide)) rfl (pa_cons (pv 0) (pa_cons (pe_ix ix_list (pv 4) (pv 10) (fun _ _ => rfl)) (pa_cons (pe_op op_sub (pv 0) (pe_ix ix_list (pe_ix ix_list (pv 4) (pv 10) (fun _ _ => rfl)) (pv 7) (fun _ _ => rfl))) (pa_cons (pe_ix ix_list (pv 4) (pv 6) (fun _ _ => rfl)) pa_nil))))) (pg_sub (pv 4) (pv 10) set_list)))
          pss_nil)))
      (pss_one (ps_set (i := 6) sc__law_made.nd rfl (Or.inl rfl) (pe_op op_add (pv 6) pe_int)))))))))
    (pss_cons (ps_if (pt_val (pe_callB (cr_any rfl) (by rfl) (E.free 73) (by decide +kernel) (pa_cons (pe_lc (own := [("_law_row", 13)]) (g := gName 13) (tt := tYes) rfl sc__law_made.nd (pi_list (pe_slice sl_list (pv 4) (po_some (pv 6)) po_none)) (blkOk_by (own := [("_law_row", 13)]) (N := N__law_made) (sc := d__law_made.scope) (by decide +kernel)) (fun _ _ _ _ _ => (pg_name (i := 13) sc__law_made.nd rfl (Or.inl rfl))) (fun _ _ _ _ _ => pts_nil) (fun _ _ _ _ _ => (pe_cmpR op_ne (pe_ix (ix_listK (K := K) rfl) (pv 13) (by exact pe_un un_neg pe_int) (fun _ _ => rfl)) pe_int (nomark _)))) pa_nil)))
      (pss_one (ps_ret pe_non))
      pss_nil)
    (pss_cons (ps_set (i := 11) sc__law_made.nd rfl (Or.inl rfl) (pe_op op_rep (pe_lst (pa_cons pe_int pa_nil)) (pe_callB call_len_seq (by rfl) (E.free 71) PySem.boot_len (pa_cons (pv 1) pa_nil))))
    (pss_cons (ps_for PassesOwn.never rfl (pi_enumM (by rfl) (E.free 76) (pa_cons (pv 3) pa_nil)) (pg_tup rfl (pgs_cons (pg_name (i := 7) sc__law_made.nd rfl (Or.inr rfl)) (pgs_cons (pg_name (i := 10) sc__law_made.nd rfl (Or.inl rfl)) pgs_nil)))
      (pss_one (ps_asg (pe_ix ix_list (pe_ix ix_list (pv 4) (pv 7) (fun _ _ => rfl)) (by exact pe_un un_neg pe_int) (fun _ _ => rfl)) (pg_sub (pv 11) (pv 10) set_list))))
    (pss_one (ps_ret (pe_tupleOf (by rfl) (E.free 70) (pv 11)))))))))))), ?_⟩
  have la := paired_len hS
  refine seq_by (fun σ' H' => ∃ fl F, σ' = [some (.int p), some (.ref a), some (.ref b), some (.ref fl), none, none, none, none, none, none, none, none, none, none] ∧ Same H H' ∧ H' fl = some (.lst (iv (F.map fun k => ((k : Nat) : Int)))) ∧ FOk p n S F) (fun N k => ?_) ?_
  · exact ⟨_, rfl, _, rfl, p, a, n, as, S, rfl, hp, n10, ha, hS, hv, hl, fun tu fl sl F L H1 s1 ht hfl hls lok => ⟨tu, _, _, _, rfl, rfl, ht.sq, atI_nat (j := 0) rfl, k _ _ ⟨fl, F, rfl, s1, hfl, lok.fa, lok.fm⟩⟩⟩
  rintro σ' H1 ⟨fl, F, rfl, s1, efl, fok⟩
  have hFb : ∀ k ∈ F, k < S.length := fun k hk => ((fok.fm k).mp hk).1
  have lF : F.length ≤ S.length := nodup_below S.length F (fok.fa.imp fun h => Nat.ne_of_lt h) hFb
  have lB : (subS S F).length = F.length := List.length_map _
  have hB : ∀ v ∈ subS S F, Vec p n v := fun v hv' => by
    obtain ⟨t, ht, rfl⟩ := List.mem_map.mp hv'
    have := hFb t ht
    exact hv _ (List.mem_of_getElem? (getD_at this))
  generalize eB : subS S F = B at lB hB
  refine seq_by (fun σ' H' => ∃ R, σ' = [some (.int p), some (.ref a), some (.ref b), some (.ref fl), some (.ref R), none, none, none, none, none, none, none, none, none] ∧ Same H H' ∧ H R = none ∧ H' fl = some (.lst (iv (F.map fun k => ((k : Nat) : Int)))) ∧ fl ≠ R ∧ H' R = some (.lst [])) (fun N k => ?_) ?_
  · refine ⟨(by show 0 ≤ sizeLine; decide), fun R hR => k _ _ ⟨R, rfl, s1.trans (same_new hR _), s1.free hR, same_new hR _ _ _ efl, (fun z => by rw [z, hR] at efl; cases efl), upd_same⟩⟩
  rintro σ' H2 ⟨R, rfl, s2, hR, efl2, nfR, eR2⟩
  clear efl s1 H1
  -- the rows
  refine seq_by (fun σ' H' => ∃ v5, σ' = [some (.int p), some (.ref a), some (.ref b), some (.ref fl), some (.ref R), v5, none, none, none, none, none, none, none, none] ∧ Same H H' ∧ H' fl = some (.lst (iv (F.map fun k => ((k : Nat) : Int)))) ∧ MatAt H' R ((List.range n).map (row0 B u))) (fun N k => ?_) ?_
  · have hb2 := hb.same s2
    refine ⟨_, rfl, b, _, rfl, .inr hb2.sq, ((iv u).length : Int), rfl, by rw [iv_len, hu.ln]; omega, by rw [iv_len, hu.ln]; omega, ?_⟩
    have en : (((iv u).length : Int)).toNat = n := by rw [iv_len, hu.ln]; omega
    rw [en]
    refine for_by n (fun i σ' H' => ∃ v5, σ' = [some (.int p), some (.ref a), some (.ref b), some (.ref fl), some (.ref R), v5, none, none, none, none, none, none, none, none] ∧ Same H H' ∧ H' fl = some (.lst (iv (F.map fun k => ((k : Nat) : Int)))) ∧ MatAt H' R ((List.range i).map (row0 B u)))
      ⟨none, rfl, s2, efl2, [], eR2, .nil⟩ (fun i σ H' hi _ => hi) (fun σ H' _ => Nat.le_refl _) ?_ fun σ' H' h => k _ _ h
    rintro j x σ H3 H4 hj ⟨v5, rfl, s3, ef3, bs, eR3, hbs⟩ ⟨rfl, hx⟩
    rw [Int.zero_add] at hx
    subst hx
    refine ⟨_, rfl, .inl ⟨rfl, _, SqL.of eR3⟩, _, rfl, fl, rfl, ⟨_, SqL.of ef3⟩, fun D hD => ?_⟩
    refine lcS (plain_l (SqL.of ef3)) (fun q => .int ((B.map fun b => b.getD j 0).getD q 0)) hD (by rw [iv_len, List.length_map]; omega) (fun _ => rfl) ?_ ?_
    · intro q x H5 hx s5 R' k3
      obtain ⟨y, hy, rfl⟩ := iv_get hx
      rw [List.getElem?_map] at hy
      obtain ⟨f, hf, rfl⟩ := Option.map_eq_some_iff.mp hy
      have hfm := List.mem_of_getElem? hf
      have hfl := hFb f hfm
      have hq : q < F.length := (List.getElem?_eq_some_iff.mp hf).1
      obtain ⟨af, haf, hTf⟩ := paired_get' hS (getD_at (d := []) hfl)
      have s35 := s3.trans s5
      have eaf : (as.map V.ref)[f]? = some (.ref af) := by rw [List.getElem?_map, haf]; rfl
      have hvf := hB (S.getD f []) (by rw [← eB]; exact List.mem_map.mpr ⟨f, hfm, rfl⟩)
      have egx : (S.getD f [])[j]? = some ((S.getD f []).getD j 0) := getD_at (by rw [hvf.ln]; exact hj)
      have ev : (B.map fun b => b.getD j 0).getD q 0 = (S.getD f []).getD j 0 := by
        rw [← eB, List.getD_eq_getElem?_getD, List.getElem?_map, subS_get hq]
        have : F.getD q 0 = f := by rw [List.getD_eq_getElem?_getD, hf]; rfl
        rw [this]
        rfl
      have k4 := k3 _ (Same.refl _)
      rw [ev] at k4
      exact ⟨_, rfl, _, rfl, a, _, _, _, rfl, rfl, (ha.same s35).sq, atI_nat eaf, _, rfl, af, _, _, _, rfl, rfl, (Tp.same s35 hTf).sq, atI_nat (iv_at egx), k4⟩
    intro H5 s5 e5
    have el5 : (List.range (iv (F.map fun k => ((k : Nat) : Int))).length).map (fun q => V.int ((B.map fun b => b.getD j 0).getD q 0)) = iv (B.map fun b => b.getD j 0) := by
      rw [iv_len, List.length_map, ← lB, ← List.length_map (f := fun b : List Int => b.getD j 0), iv_range]
    rw [el5] at e5
    have s35 := s3.trans s5
    have egu : u[j]? = some (u.getD j 0) := getD_at (by rw [hu.ln]; exact hj)
    refine ⟨_, rfl, _, rfl, b, _, _, _, rfl, rfl, (hb.same s35).sq, atI_nat (iv_at egu), (by show 1 ≤ sizeLine; decide), fun D2 hD2 => ?_⟩
    have s6 := same_new hD2 (.lst [.int (u.getD j 0)])
    refine ⟨D, D2, iv (B.map fun b => b.getD j 0), [.int (u.getD j 0)], rfl, rfl, s6 _ _ e5, upd_same, ?_, fun D3 hD3 => ?_⟩
    · rw [iv_len, List.length_map]
      exact Nat.le_trans (show B.length + 1 ≤ 1000 by omega) (by decide)
    have e7 : (upd (upd H5 D2 (.lst [.int (u.getD j 0)])) D3 (.lst (iv (B.map fun b => b.getD j 0) ++ [.int (u.getD j 0)]))) D3 = some (.lst (iv (row0 B u j))) := by
      rw [upd_same]
      unfold row0 iv
      rw [List.map_append]
      rfl
    have s7 := same_new hD3 (.lst (iv (B.map fun b => b.getD j 0) ++ [.int (u.getD j 0)]))
    have s57 := s6.trans s7
    have hD3R : D3 ≠ R := fun z => by
      have := s6 _ _ (s5 _ _ eR3)
      rw [← z, hD3] at this
      cases this
    generalize upd (upd H5 D2 (.lst [.int (u.getD j 0)])) D3 (.lst (iv (B.map fun b => b.getD j 0) ++ [.int (u.getD j 0)])) = H7 at e7 s7 s57
    have s37 := s5.trans s57
    have eR7 := s37 _ _ eR3
    have lbs := paired_len hbs
    rw [List.length_map, List.length_range] at lbs
    refine ⟨R, _, _, rfl, rfl, eR7, Nat.lt_of_le_of_lt (show (bs.map V.ref).length ≤ 1000 by rw [List.length_map]; omega) (by decide), ?_⟩
    have hbs7 : Paired (fun a v => H7 a = some (.lst (iv v)) ∧ a ≠ R) bs ((List.range j).map (row0 B u)) := paired_mono (fun _ _ ⟨q1, q2⟩ => ⟨s37 _ _ q1, q2⟩) hbs
    refine ⟨_, rfl, fun c o e => ?_, by rw [upd_ne nfR]; exact s37 _ _ ef3, bs ++ [D3], by rw [upd_same, List.map_append]; rfl, ?_⟩
    · rw [upd_ne (ne_of_none e hR)]
      exact s37 _ _ (s3 _ _ e)
    · rw [List.range_succ, List.map_append]
      exact paired_snoc (F := fun a v => (upd H7 R (.lst (bs.map V.ref ++ [.ref D3]))) a = some (.lst (iv v)) ∧ a ≠ R) ⟨by rw [upd_ne hD3R]; exact e7, hD3R⟩ (mat_upd hbs7)
  rintro σ' H3 ⟨v5, rfl, s3, ef3, hm3⟩
  -- at = 0
  refine seq_by (fun σ' H' => ∃ v5, σ' = [some (.int p), some (.ref a), some (.ref b), some (.ref fl), some (.ref R), v5, some (.int ((0 : Nat) : Int)), none, none, none, none, none, none, none] ∧ Same H H' ∧ H' fl = some (.lst (iv (F.map fun k => ((k : Nat) : Int)))) ∧ MatAt H' R ((List.range n).map (row0 B u))) (fun N k => k _ _ ⟨v5, rfl, s3, ef3, hm3⟩) ?_
  clear s2 efl2 eR2 s3 ef3 hm3
  rintro σ' H3 ⟨v5, rfl, s3, ef3, hm3⟩
  have g0 : G p n (B.length + 1) 0 (KS p n B B.length u) ((List.range n).map (row0 B u)) := G.zero hB hu
  have hKc : ∀ c < B.length, ∀ y, KS p n B B.length u y → (∀ q, c < q → y q = 0) → p ∣ y c := fun c hc y hy h0 => by
    refine fok.indep hp (fun j hj => ?_) c (by omega)
    have := hy j hj
    rw [h0 _ hc] at this
    rw [eB]
    simpa using this
  -- the columns
  refine seq_by (fun σ' H' => ∃ v5 v7 v8 v9 v10 M, σ' = [some (.int p), some (.ref a), some (.ref b), some (.ref fl), some (.ref R), v5, some (.int ((F.length : Nat) : Int)), v7, v8, v9, v10, none, none, none] ∧ Same H H' ∧ H' fl = some (.lst (iv (F.map fun k => ((k : Nat) : Int)))) ∧ MatAt H' R M ∧ G p n (B.length + 1) F.length (KS p n B B.length u) M) (fun N k => ?_) ?_
  · refine ⟨_, rfl, fl, _, rfl, .inl (SqL.of ef3), ((iv (F.map fun k => ((k : Nat) : Int))).length : Int), rfl, by rw [iv_len, List.length_map]; omega, by rw [iv_len, List.length_map]; omega, ?_⟩
    have en : (((iv (F.map fun k => ((k : Nat) : Int))).length : Int)).toNat = F.length := by rw [iv_len, List.length_map]; omega
    rw [en]
    refine for_by F.length (fun c σ' H' => ∃ v5 v7 v8 v9 v10 M, σ' = [some (.int p), some (.ref a), some (.ref b), some (.ref fl), some (.ref R), v5, some (.int ((c : Nat) : Int)), v7, v8, v9, v10, none, none, none] ∧ Same H H' ∧ H' fl = some (.lst (iv (F.map fun k => ((k : Nat) : Int)))) ∧ MatAt H' R M ∧ G p n (B.length + 1) c (KS p n B B.length u) M)
      ⟨v5, none, none, none, none, _, rfl, s3, ef3, hm3, g0⟩ (fun i σ H' hi _ => hi) (fun σ H' _ => Nat.le_refl _) ?_ fun σ' H' h => k _ _ h
    rintro c x σ H4 H5 hc ⟨v5, v7, v8, v9, v10, M, rfl, s4, ef4, hm4, g⟩ ⟨rfl, hx⟩
    rw [Int.zero_add] at hx
    subst hx
    have cw := g.cw
    -- here
    refine seq_by (fun σ' H' => ∃ h : Nat, σ' = [some (.int p), some (.ref a), some (.ref b), some (.ref fl), some (.ref R), v5, some (.int ((c : Nat) : Int)), some (.int ((c : Nat) : Int)), some (.int ((h : Nat) : Int)), v9, v10, none, none, none] ∧ Same H H' ∧ H' fl = some (.lst (iv (F.map fun k => ((k : Nat) : Int)))) ∧ MatAt H' R M ∧ c ≤ h ∧ h < n ∧ (gr M h).getD c 0 ≠ 0) (fun N k2 => ?_) ?_
    · obtain ⟨bs, eR, hbs⟩ := id hm4
      have lbs := paired_len hbs
      rw [g.ln] at lbs
      refine ⟨_, rfl, _, rfl, R, _, rfl, .inl (SqL.of eR), ((c : Nat) : Int), ((bs.map V.ref).length : Int), rfl, by rw [List.length_map]; have := g.cn; omega, ?_⟩
      have en2 : (((bs.map V.ref).length : Int) - ((c : Nat) : Int)).toNat = n - c := by rw [List.length_map]; omega
      rw [en2]
      refine fun D hD => ?_
      refine lcSF (plain_r ((c : Nat) : Int) (n - c)) (fun i => (gr M (c + i)).getD c 0 != 0) (fun i => .int (((c : Nat) : Int) + (i : Int))) hD (by rw [rgI_len]; omega) (fun _ => rfl) ?_ ?_ ?_
      · intro i x H6 hx s6 R' k3
        obtain ⟨hi, rfl⟩ := rgI_get hx
        have ecast : ((c : Nat) : Int) + (i : Int) = ((c + i : Nat) : Int) := by omega
        rw [ecast]
        obtain ⟨a', q1, q2, q3⟩ := MatAt.row hbs (r := c + i) (by rw [g.ln]; omega)
        have vr := g.vec (c + i) (by omega)
        refine ⟨_, rfl, _, rfl, R, _, _, _, rfl, rfl, SqL.of (s6 _ _ eR), atI_nat q1, _, rfl, a', _, _, _, rfl, rfl, SqL.of (s6 _ _ q2), atI_nat (iv_at (getD_at (d := 0) (by rw [vr.ln]; exact cw))), rfl, _, rfl, ?_⟩
        have e3 : (!decide (V.int ((gr M (c + i)).getD c 0) = V.int 0)) = ((gr M (c + i)).getD c 0 != 0) := by rw [dec_vi]; simp [bne, BEq.beq]
        rw [e3]
        exact k3 _ (Same.refl _)
      · intro i x H6 hx hk s6 R' k3
        obtain ⟨hi, rfl⟩ := rgI_get hx
        exact ⟨_, rfl, k3 _ (Same.refl _)⟩
      intro H6 s6 e6
      rw [rgI_len] at e6
      obtain ⟨i0, r0, ef, hi0, hk0⟩ : ∃ i0 r0, (List.range (n - c)).filter (fun i => (gr M (c + i)).getD c 0 != 0) = i0 :: r0 ∧ i0 < n - c ∧ (gr M (c + i0)).getD c 0 ≠ 0 := by
        obtain ⟨h, h1, h2, h3⟩ := g.pivot (by omega) (hKc c (by omega))
        cases ef : (List.range (n - c)).filter (fun i => (gr M (c + i)).getD c 0 != 0) with
        | nil =>
          have : h - c ∈ (List.range (n - c)).filter (fun i => (gr M (c + i)).getD c 0 != 0) := List.mem_filter.mpr ⟨List.mem_range.mpr (by omega), by
            rw [show c + (h - c) = h by omega]
            simpa using h3⟩
          rw [ef] at this
          cases this
        | cons i0 r0 =>
          have : i0 ∈ (List.range (n - c)).filter (fun i => (gr M (c + i)).getD c 0 != 0) := by rw [ef]; exact List.mem_cons_self
          have h4 := List.mem_filter.mp this
          exact ⟨i0, r0, rfl, List.mem_range.mp h4.1, by simpa using h4.2⟩
      rw [ef] at e6
      refine ⟨D, _, _, _, rfl, rfl, SqL.of e6, atI_nat (j := 0) rfl, k2 _ _ ⟨c + i0, ?_, s4.trans s6, s6 _ _ ef4, hm4.same s6, by omega, by omega, hk0⟩⟩
      rw [show ((c + i0 : Nat) : Int) = ((c : Nat) : Int) + (i0 : Int) by omega]
      rfl
    rintro σ' H6 ⟨h, rfl, s6, ef6, hm6, hch, hhn, hne⟩
    clear s4 ef4 hm4
    have hcn : c < n := by omega
    -- two rows change places
    have g1 := g.swap hch hhn
    have lcM : c < M.length := by rw [g.ln]; exact hcn
    have lhM : h < M.length := by rw [g.ln]; exact hhn
    have pv1 : (gr (swapM M c h) c).getD c 0 ≠ 0 := by
      rw [gr_swap lcM lhM]
      by_cases z : c = h
      · rw [if_pos z, z]
        rw [z] at hne
        exact hne
      · rw [if_neg z, if_pos rfl]
        exact hne
    refine seq_by (fun σ' H' => σ' = [some (.int p), some (.ref a), some (.ref b), some (.ref fl), some (.ref R), v5, some (.int ((c : Nat) : Int)), some (.int ((c : Nat) : Int)), some (.int ((h : Nat) : Int)), v9, v10, none, none, none] ∧ Same H H' ∧ H' fl = some (.lst (iv (F.map fun k => ((k : Nat) : Int)))) ∧ MatAt H' R (swapM M c h)) (fun N k2 => ?_) ?_
    · obtain ⟨bs, eR, hbs⟩ := hm6
      have lbs := paired_len hbs
      rw [g.ln] at lbs
      obtain ⟨ah, q1, q2, q3⟩ := MatAt.row hbs lhM
      obtain ⟨ac, r1, r2, r3⟩ := MatAt.row hbs lcM
      refine ⟨_, rfl, _, rfl, R, _, _, _, rfl, rfl, SqL.of eR, atI_nat q1, _, rfl, _, rfl, R, _, _, _, rfl, rfl, SqL.of eR, atI_nat r1, (by show 2 ≤ sizeLine; decide), fun T hT => ?_⟩
      have s7 := same_new hT (.tup [.ref ah, .ref ac])
      have eT : (upd H6 T (.tup [.ref ah, .ref ac])) T = some (.tup [.ref ah, .ref ac]) := upd_same
      have s67 := s6.trans s7
      have eR7 := s7 _ _ eR
      have ef7 := s7 _ _ ef6
      have q27 := s7 _ _ q2
      have r27 := s7 _ _ r2
      have hbs7 := paired_mono (G := fun a v => (upd H6 T (.tup [.ref ah, .ref ac])) a = some (.lst (iv v)) ∧ a ≠ R) (fun _ _ ⟨z1, z2⟩ => ⟨s7 _ _ z1, z2⟩) hbs
      generalize upd H6 T (.tup [.ref ah, .ref ac]) = H7 at s7 eT s67 eR7 ef7 q27 r27 hbs7 ⊢
      refine ⟨T, [.ref ah, .ref ac], rfl, SqT.of eT, rfl, .ref ah, [.ref ac], rfl, ?_⟩
      refine ⟨_, rfl, _, rfl, R, _, _, c, rfl, rfl, eR7, ixN_nat (by rw [List.length_map]; omega), ?_⟩
      refine ⟨.ref ac, [], rfl, ?_⟩
      refine ⟨_, rfl, _, rfl, R, _, _, h, rfl, rfl, upd_same, ixN_nat (by rw [List.length_set, List.length_map]; omega), rfl, k2 _ _ ⟨rfl, ?_, ?_, (bs.set c ah).set h ac, ?_, ?_⟩⟩
      · intro d o e
        rw [upd_ne (ne_of_none e hR), upd_ne (ne_of_none e hR)]
        exact s67 _ _ e
      · rw [upd_ne nfR, upd_ne nfR]
        exact ef7
      · rw [upd_same, set_refs, set_refs]
      · unfold swapM
        exact mat_upd (mat_upd (paired_set (F := fun a v => H7 a = some (.lst (iv v)) ∧ a ≠ R) ⟨r27, r3⟩ (paired_set (F := fun a v => H7 a = some (.lst (iv v)) ∧ a ≠ R) ⟨q27, q3⟩ hbs7)))
    rintro σ' H7 ⟨rfl, s7, ef7, hm7⟩
    clear s6 ef6 hm6 g hne lcM lhM
    generalize swapM M c h = M1 at g1 pv1 hm7
    have lcM1 : c < M1.length := by rw [g1.ln]; exact hcn
    have vc1 := g1.vec c hcn
    have bc1 := vc1.at_ cw
    have pos1 : 0 < (gr M1 c).getD c 0 := by omega
    have ib := inv_spec hp pos1 bc1.2
    -- times
    refine seq_by (fun σ' H' => σ' = [some (.int p), some (.ref a), some (.ref b), some (.ref fl), some (.ref R), v5, some (.int ((c : Nat) : Int)), some (.int ((c : Nat) : Int)), some (.int ((h : Nat) : Int)), some (.int (inv p ((gr M1 c).getD c 0))), v10, none, none, none] ∧ Same H H' ∧ H' fl = some (.lst (iv (F.map fun k => ((k : Nat) : Int)))) ∧ MatAt H' R M1) (fun N k2 => ?_) ?_
    · obtain ⟨bs, eR, hbs⟩ := id hm7
      obtain ⟨ac, r1, r2, r3⟩ := MatAt.row hbs lcM1
      exact ⟨_, rfl, _, rfl, _, rfl, R, _, _, _, rfl, rfl, SqL.of eR, atI_nat r1, _, rfl, ac, _, _, _, rfl, rfl, SqL.of r2, atI_nat (iv_at (getD_at (d := 0) (by rw [vc1.ln]; exact cw))), p, _, rfl, hp, pos1, bc1.2, fun H8 s8 => k2 _ _ ⟨rfl, s7.trans s8, s8 _ _ ef7, hm7.same s8⟩⟩
    rintro σ' H8 ⟨rfl, s8, ef8, hm8⟩
    clear s7 ef7 hm7
    have sdv : p ∣ (gr M1 c).getD c 0 * inv p ((gr M1 c).getD c 0) - 1 := by
      obtain ⟨z, hz⟩ := emod_dvd p (inv p ((gr M1 c).getD c 0) * (gr M1 c).getD c 0)
      rw [ib.1] at hz
      exact ⟨z, by grind⟩
    have g2 := g1.scale (by omega) hcn sdv
    have lsc : (scale p (inv p ((gr M1 c).getD c 0)) (gr M1 c)).length = (gr M1 c).length := by unfold scale; rw [List.length_map]
    have pv2 : (gr (M1.set c (scale p (inv p ((gr M1 c).getD c 0)) (gr M1 c))) c).getD c 0 = 1 := by
      rw [gr_set lcM1, if_pos rfl, scale_at (by rw [vc1.ln]; exact cw), Int.mul_comm]
      exact ib.1
    have tb : -(2 ^ 64) < inv p ((gr M1 c).getD c 0) ∧ inv p ((gr M1 c).getD c 0) < 2 ^ 64 := ⟨by omega, by omega⟩
    generalize inv p ((gr M1 c).getD c 0) = t at g2 lsc pv2 tb
    -- the row so many times
    refine seq_by (fun σ' H' => σ' = [some (.int p), some (.ref a), some (.ref b), some (.ref fl), some (.ref R), v5, some (.int ((c : Nat) : Int)), some (.int ((c : Nat) : Int)), some (.int ((h : Nat) : Int)), some (.int t), v10, none, none, none] ∧ Same H H' ∧ H' fl = some (.lst (iv (F.map fun k => ((k : Nat) : Int)))) ∧ MatAt H' R (M1.set c (scale p t (gr M1 c)))) (fun N k2 => ?_) ?_
    · obtain ⟨bs, eR, hbs⟩ := id hm8
      obtain ⟨ac, r1, r2, r3⟩ := MatAt.row hbs lcM1
      have lbs := paired_len hbs
      rw [g1.ln] at lbs
      refine ⟨_, rfl, _, rfl, R, _, _, _, rfl, rfl, SqL.of eR, atI_nat r1, ac, rfl, ⟨_, SqL.of r2⟩, fun D hD => ?_⟩
      refine lcS (plain_l (SqL.of r2)) (fun i => .int ((scale p t (gr M1 c)).getD i 0)) hD (by rw [iv_len, vc1.ln]; omega) (fun _ => rfl) ?_ ?_
      · intro j x H9 hx s9 R' k3
        obtain ⟨x', hx', rfl⟩ := iv_get hx
        have k4 := k3 _ (Same.refl _)
        rw [scale_at (List.getElem?_eq_some_iff.mp hx').1, getD_of hx', Int.mul_comm] at k4
        exact ⟨_, rfl, _, rfl, _, _, rfl, rfl, .inl tb, .inl ⟨_, rfl, _, rfl, _, _, rfl, rfl, (by show (0 : Int) < p; omega), k4⟩⟩
      intro H9 s9 e9
      rw [iv_len, ← lsc, iv_range] at e9
      have hDR : D ≠ R := fun z => by rw [z, eR] at hD; cases hD
      have eR9 := s9 _ _ eR
      refine ⟨_, rfl, _, rfl, R, _, _, c, rfl, rfl, eR9, ixN_nat (by rw [List.length_map]; omega), k2 _ _ ⟨rfl, ?_, ?_, bs.set c D, ?_, ?_⟩⟩
      · intro d o e
        rw [upd_ne (ne_of_none e hR)]
        exact s9 _ _ (s8 _ _ e)
      · rw [upd_ne nfR]
        exact s9 _ _ ef8
      · rw [upd_same, set_refs]
      · exact mat_upd (paired_set (F := fun a v => H9 a = some (.lst (iv v)) ∧ a ≠ R) ⟨e9, hDR⟩ (paired_mono (fun _ _ ⟨z1, z2⟩ => ⟨s9 _ _ z1, z2⟩) hbs))
    rintro σ' H9 ⟨rfl, s9, ef9, hm9⟩
    clear s8 ef8 hm8
    have ge0 : GE p n (B.length + 1) c 0 (KS p n B B.length u) (M1.set c (scale p t (gr M1 c))) := ⟨g2, hcn, pv2, fun r hr => absurd hr (Nat.not_lt_zero _)⟩
    generalize M1.set c (scale p t (gr M1 c)) = M2 at hm9 ge0
    -- the column is cleared
    refine seq_by (fun σ' H' => ∃ v10 M, σ' = [some (.int p), some (.ref a), some (.ref b), some (.ref fl), some (.ref R), v5, some (.int ((c : Nat) : Int)), some (.int ((c : Nat) : Int)), some (.int ((h : Nat) : Int)), some (.int t), v10, none, none, none] ∧ Same H H' ∧ H' fl = some (.lst (iv (F.map fun k => ((k : Nat) : Int)))) ∧ MatAt H' R M ∧ GE p n (B.length + 1) c n (KS p n B B.length u) M) (fun N k2 => ?_) ?_
    · obtain ⟨bs0, eR0, hbs0⟩ := id hm9
      have lbs0 := paired_len hbs0
      rw [ge0.g.ln] at lbs0
      refine ⟨_, rfl, R, _, rfl, .inl (SqL.of eR0), ((bs0.map V.ref).length : Int), rfl, by rw [List.length_map]; omega, by rw [List.length_map]; omega, ?_⟩
      have en3 : (((bs0.map V.ref).length : Int)).toNat = n := by rw [List.length_map]; omega
      rw [en3]
      refine for_by n (fun r σ' H' => ∃ v10 M, σ' = [some (.int p), some (.ref a), some (.ref b), some (.ref fl), some (.ref R), v5, some (.int ((c : Nat) : Int)), some (.int ((c : Nat) : Int)), some (.int ((h : Nat) : Int)), some (.int t), v10, none, none, none] ∧ Same H H' ∧ H' fl = some (.lst (iv (F.map fun k => ((k : Nat) : Int)))) ∧ MatAt H' R M ∧ GE p n (B.length + 1) c r (KS p n B B.length u) M)
        ⟨v10, M2, rfl, s9, ef9, hm9, ge0⟩ (fun i σ H' hi _ => hi) (fun σ H' _ => Nat.le_refl _) ?_ fun σ' H' h => k2 _ _ h
      rintro r x σ H10 H11 hr ⟨v10, M3, rfl, s10, ef10, hm10, ge⟩ ⟨rfl, hx⟩
      rw [Int.zero_add] at hx
      subst hx
      refine ⟨_, rfl, _, rfl, rfl, _, rfl, ?_⟩
      by_cases c1 : r = c
      · refine (if_neg ?_).mpr ?_
        · rw [dec_vi, c1]
          simp
        refine iteF ?_
        exact ⟨_, M3, rfl, s10, ef10, hm10, ge.skip (.inl c1)⟩
      · refine (if_pos ?_).mpr ?_
        · rw [dec_vi]
          have : ¬ ((r : Nat) : Int) = ((c : Nat) : Int) := by omega
          simpa using this
        obtain ⟨bs, eR, hbs⟩ := id hm10
        have lbs := paired_len hbs
        rw [ge.g.ln] at lbs
        obtain ⟨ar, q1, q2, q3⟩ := MatAt.row hbs (r := r) (by rw [ge.g.ln]; exact hr)
        obtain ⟨ac, r1, r2, r3⟩ := MatAt.row hbs (r := c) (by rw [ge.g.ln]; exact hcn)
        have vr := ge.g.vec r hr
        have vc := ge.g.vec c hcn
        have eix : (gr M3 r)[c]? = some ((gr M3 r).getD c 0) := getD_at (by rw [vr.ln]; exact cw)
        refine ⟨_, rfl, _, rfl, R, _, _, _, rfl, rfl, SqL.of eR, atI_nat q1, _, rfl, ar, _, _, _, rfl, rfl, SqL.of q2, atI_nat (iv_at eix), rfl, _, rfl, ?_⟩
        by_cases c2 : (gr M3 r).getD c 0 = 0
        · refine (if_neg ?_).mpr ?_
          · rw [dec_vi, c2]
            simp
          exact ⟨_, M3, rfl, s10, ef10, hm10, ge.skip (.inr c2)⟩
        · refine (if_pos ?_).mpr ?_
          · rw [dec_vi]
            simpa using c2
          have br := vr.at_ cw
          refine ⟨_, rfl, _, rfl, _, rfl, R, _, _, _, rfl, rfl, SqL.of eR, atI_nat q1, _, rfl, _, rfl, _, rfl, R, _, _, _, rfl, rfl, SqL.of eR, atI_nat q1, _, rfl, ar, _, _, _, rfl, rfl, SqL.of q2, atI_nat (iv_at eix), _, _, rfl, rfl, _, rfl, _, rfl, R, _, _, _, rfl, rfl, SqL.of eR, atI_nat r1, ?_⟩
          refine ⟨p, ar, p - (gr M3 r).getD c 0, ac, gr M3 r, gr M3 c, true, rfl, by omega, by omega, q2, Sq.lo r2, by rw [vr.ln, vc.ln], by rw [vr.ln]; omega, fun D H11 hD s11 e11 => ?_⟩
          rw [addT_less] at e11
          have hDR : D ≠ R := fun z => by rw [z, eR] at hD; cases hD
          refine ⟨_, rfl, _, rfl, R, _, _, r, rfl, rfl, s11 _ _ eR, ixN_nat (by rw [List.length_map]; omega), ?_⟩
          refine ⟨_, M3.set r (lessT p (gr M3 r) ((gr M3 r).getD c 0) (gr M3 c)), rfl, ?_, ?_, ⟨bs.set r D, ?_, ?_⟩, ge.clear (by omega) hr c1⟩
          · intro d o e
            rw [upd_ne (ne_of_none e hR)]
            exact s11 _ _ (s10 _ _ e)
          · rw [upd_ne nfR]
            exact s11 _ _ ef10
          · rw [upd_same, set_refs]
          · exact mat_upd (paired_set (F := fun a v => H11 a = some (.lst (iv v)) ∧ a ≠ R) ⟨e11, hDR⟩ (paired_mono (fun _ _ ⟨z1, z2⟩ => ⟨s11 _ _ z1, z2⟩) hbs))
    rintro σ' H10 ⟨v10', M3, rfl, s10, ef10, hm10, ge⟩
    exact ⟨_, rfl, _, _, rfl, rfl, v5, _, _, _, _, M3, rfl, s10, ef10, hm10, ge.done (by omega)⟩
  rintro σ' H4 ⟨v5, v7, v8, v9, v10, M, rfl, s4, ef4, hm4, g⟩
  clear s3 ef3 hm3 g0 hKc
  rw [lB] at g
  have cw := g.cw
  -- whether anything is left
  refine seq_by (fun σ' H' => σ' = [some (.int p), some (.ref a), some (.ref b), some (.ref fl), some (.ref R), v5, some (.int ((F.length : Nat) : Int)), v7, v8, v9, v10, none, none, none] ∧ Same H H' ∧ H' fl = some (.lst (iv (F.map fun k => ((k : Nat) : Int)))) ∧ MatAt H' R M ∧ ∀ r, F.length ≤ r → r < n → (gr M r).getD F.length 0 = 0) (fun N k => ?_) ?_
  · obtain ⟨bs, eR, hbs⟩ := id hm4
    have lbs := paired_len hbs
    rw [g.ln] at lbs
    refine ⟨_, rfl, _, rfl, ((F.length : Nat) : Int), rfl, R, _, rfl, SqL.of eR, fun p0 hp0 => ?_⟩
    have ecut : cutV (bs.map V.ref) (some ((F.length : Nat) : Int)) none = (bs.map V.ref).drop F.length := cutV_drop _ (by rw [List.length_map]; have := g.cn; omega)
    rw [ecut]
    have s5 : Same H4 (upd H4 p0 (.lst ((bs.map V.ref).drop F.length))) := same_new hp0 _
    have e5 : (upd H4 p0 (.lst ((bs.map V.ref).drop F.length))) p0 = some (.lst ((bs.map V.ref).drop F.length)) := upd_same
    generalize upd H4 p0 (.lst ((bs.map V.ref).drop F.length)) = H5 at s5 e5 ⊢
    refine ⟨p0, rfl, ⟨_, SqL.of e5⟩, fun D hD => ?_⟩
    have ld : ((bs.map V.ref).drop F.length).length = n - F.length := by rw [List.length_drop, List.length_map]; omega
    refine lcS (plain_l (SqL.of e5)) (fun i => .bl ((gr M (F.length + i)).getD F.length 0 != 0)) hD (by omega) (fun _ => rfl) ?_ ?_
    · intro i x H6 hx s6 R' k3
      rw [List.getElem?_drop] at hx
      have hi : F.length + i < n := by
        have := (List.getElem?_eq_some_iff.mp hx).1
        rw [List.length_map] at this
        omega
      obtain ⟨a', q1, q2, q3⟩ := MatAt.row hbs (r := F.length + i) (by rw [g.ln]; exact hi)
      rw [q1] at hx
      cases hx
      have vr := g.vec _ hi
      refine ⟨_, rfl, 1, rfl, a', _, _, _, rfl, rfl, SqL.of (s6 _ _ (s5 _ _ q2)), atI_m1 vr.ln, rfl, ?_⟩
      have e3 : (!decide (V.int ((gr M (F.length + i)).getD F.length 0) = V.int 0)) = ((gr M (F.length + i)).getD F.length 0 != 0) := by rw [dec_vi]; simp [bne, BEq.beq]
      rw [e3]
      exact k3 _ (Same.refl _)
    intro H6 s6 e6
    have s46 := s5.trans s6
    rw [ld] at e6
    refine ⟨D, (List.range (n - F.length)).map fun i => ((gr M (F.length + i)).getD F.length 0 != 0), rfl, SqL.of (by rw [e6, List.map_map]; rfl), _, rfl, ?_⟩
    cases z : ((List.range (n - F.length)).map fun i => ((gr M (F.length + i)).getD F.length 0 != 0)).any id with
    | true =>
      rw [List.any_map] at z
      obtain ⟨i, hi, hz⟩ := List.any_eq_true.mp z
      have hi' := List.mem_range.mp hi
      refine iteT ((q _ (s4.trans s46)).1 fun sp => ?_)
      have sp2 := fok.span sp
      rw [eB] at sp2
      obtain ⟨x, hx⟩ := sp2
      refine g.none (r := F.length + i) (by omega) (by omega) (by simpa using hz) (fun q => if q = F.length then -1 else x q) (if_pos rfl) fun j hj => ?_
      have e1 : lc (fun q => if q = F.length then -1 else x q) B j = lc x B j := lc_congr fun q hq => if_neg (by omega)
      rw [e1]
      show p ∣ lc x B j + u.getD j 0 * (if F.length = F.length then -1 else x F.length)
      rw [if_pos rfl]
      obtain ⟨y, hy⟩ := hx j hj
      exact ⟨-y, by grind⟩
    | false =>
      refine iteF (k _ _ ⟨rfl, s4.trans s46, s46 _ _ ef4, hm4.same s46, fun r h1 h2 => ?_⟩)
      rw [List.any_map, List.any_eq_false] at z
      have := z (r - F.length) (List.mem_range.mpr (by omega))
      have e1 : F.length + (r - F.length) = r := by omega
      simp only [Function.comp, id, e1] at this
      simpa using this
  rintro σ' H5 ⟨rfl, s5, ef5, hm5, hz⟩
  clear s4 ef4 hm4
  have hK := g.some hz
  have cn := g.cn
  -- what is found
  refine seq_by (fun σ' H' => ∃ f, σ' = [some (.int p), some (.ref a), some (.ref b), some (.ref fl), some (.ref R), v5, some (.int ((F.length : Nat) : Int)), v7, v8, v9, v10, some (.ref f), none, none] ∧ Same H H' ∧ H' fl = some (.lst (iv (F.map fun k => ((k : Nat) : Int)))) ∧ MatAt H' R M ∧ H f = none ∧ f ≠ fl ∧ f ≠ R ∧ (∀ bs, H' R = some (.lst (bs.map V.ref)) → Paired (fun a v => H' a = some (.lst (iv v)) ∧ a ≠ R) bs M → ∀ a' ∈ bs, a' ≠ f) ∧ H' f = some (.lst (iv (List.replicate S.length 0)))) (fun N k => ?_) ?_
  · refine ⟨(by show 1 ≤ sizeLine; decide), fun z0 hz0 => ?_⟩
    have s6 := same_new hz0 (.lst [.int 0])
    refine ⟨_, rfl, a, _, rfl, .inr (ha.same (s5.trans s6)).sq, z0, _, [.int 0], rfl, rfl, upd_same, by rw [List.length_map]; omega, by rw [List.length_map]; omega, Nat.le_trans (show 1 * ((as.map V.ref).length : Int).toNat ≤ 100000 by rw [List.length_map]; omega) (by decide), fun f0 hf0 => ?_⟩
    have e0 : (List.replicate ((as.map V.ref).length : Int).toNat [V.int 0]).flatten = iv (List.replicate S.length 0) := by
      rw [rep_iv, List.length_map, show ((as.length : Int)).toNat = S.length by omega]
    rw [e0]
    have s7 := same_new hf0 (.lst (iv (List.replicate S.length 0)))
    have s57 := s6.trans s7
    have hf5 : H5 f0 = none := s6.free hf0
    refine k _ _ ⟨f0, rfl, s5.trans s57, s57 _ _ ef5, hm5.same s57, s5.free hf5, (fun z => by rw [z, ef5] at hf5; cases hf5), (fun z => by
      obtain ⟨bs, eR, _⟩ := hm5
      rw [z, eR] at hf5
      cases hf5), fun bs eR hbs a' ha' z => ?_, upd_same⟩
    obtain ⟨bs5, eR5, hbs5⟩ := hm5
    have eR7 := s57 _ _ eR5
    rw [eR] at eR7
    have ebs : bs.map V.ref = bs5.map V.ref := HO.lst.inj (Option.some.inj eR7)
    have hmem : V.ref a' ∈ bs5.map V.ref := by rw [← ebs]; exact List.mem_map.mpr ⟨a', ha', rfl⟩
    obtain ⟨a2, ha2, e2⟩ := List.mem_map.mp hmem
    cases e2
    obtain ⟨i, hi⟩ := List.mem_iff_getElem?.mp ha2
    obtain ⟨v, _, hv2, _⟩ := paired_get hbs5 hi
    rw [z, hf5] at hv2
    cases hv2
  rintro σ' H6 ⟨f, rfl, s6, ef6, hm6, hf, nfl, nfR2, nbs, e6⟩
  clear s5 ef5 hm5
  obtain ⟨bs, eR6, hbs6⟩ := hm6
  have nb := nbs bs eR6 hbs6
  have lbs := paired_len hbs6
  rw [g.ln] at lbs
  have ndF : F.Nodup := fok.fa.imp fun h => Nat.ne_of_lt h
  have nR : R ≠ f := fun z => nfR2 z.symm
  refine seq_by (fun σ' H' => ∃ v7 v10 X, σ' = [some (.int p), some (.ref a), some (.ref b), some (.ref fl), some (.ref R), v5, some (.int ((F.length : Nat) : Int)), v7, v8, v9, v10, some (.ref f), none, none] ∧ Same H H' ∧ H' f = some (.lst (iv X)) ∧ X.length = S.length ∧ (∀ x ∈ X, 0 ≤ x ∧ x < p) ∧ (∀ q < F.length, X.getD (F.getD q 0) 0 = (gr M q).getD F.length 0) ∧ ∀ k, k ∉ F → X.getD k 0 = 0) (fun N k => ?_) ?_
  · refine ⟨_, rfl, fl, _, true, rfl, Sq.lo ef6, for_by F.length (fun i σ' H' => ∃ v7 v10 X, σ' = [some (.int p), some (.ref a), some (.ref b), some (.ref fl), some (.ref R), v5, some (.int ((F.length : Nat) : Int)), v7, v8, v9, v10, some (.ref f), none, none] ∧ SB f H6 H' ∧ H' f = some (.lst (iv X)) ∧ X.length = S.length ∧ (∀ x ∈ X, 0 ≤ x ∧ x < p) ∧ (∀ q < i, X.getD (F.getD q 0) 0 = (gr M q).getD F.length 0) ∧ ∀ k, k ∉ F.take i → X.getD k 0 = 0)
      ⟨v7, v10, List.replicate S.length 0, rfl, SB.refl, e6, List.length_replicate, fun x hx => by rw [List.eq_of_mem_replicate hx]; omega, fun q hq => absurd hq (Nat.not_lt_zero _), fun k _ => ?_⟩ ?_ ?_ ?_ ?_⟩
    · rw [List.getD_eq_getElem?_getD, List.getElem?_replicate]
      split <;> rfl
    · rintro i σ H7 hi ⟨v7, v10, X, rfl, s7, _⟩
      exact itn_go (Sq.lo (s7 _ _ nfl.symm ef6)) (by rw [iv_len, List.length_map]; exact hi)
    · rintro σ H7 ⟨v7, v10, X, rfl, s7, _⟩
      exact itn_stop (Sq.lo (s7 _ _ nfl.symm ef6)) (by rw [iv_len, List.length_map])
    · rintro i v σ H7 H8 hi ⟨v7, v10, X, rfl, s7, e7, lX, bX, dX, oX⟩ y
      obtain ⟨T, x, rfl, nT, rfl, e1⟩ := itn_yld (Sq.lo (s7 _ _ nfl.symm ef6)) y
      obtain ⟨y', hy', rfl⟩ := iv_get e1
      rw [List.getElem?_map] at hy'
      obtain ⟨f', hf', rfl⟩ := Option.map_eq_some_iff.mp hy'
      have hfm := List.mem_of_getElem? hf'
      have hfS := hFb f' hfm
      refine g_pair upd_same ?_
      have s8 : Same H7 (upd H7 T (.tup [.int ((i : Nat) : Int), .int ((f' : Nat) : Int)])) := same_new nT _
      have e8 := s8 _ _ e7
      have s68 : SB f H6 (upd H7 T (.tup [.int ((i : Nat) : Int), .int ((f' : Nat) : Int)])) := s7.trans (Same.sb s8)
      generalize upd H7 T (.tup [.int ((i : Nat) : Int), .int ((f' : Nat) : Int)]) = H8 at s8 e8 s68 ⊢
      have hin : i < n := by omega
      obtain ⟨ai, q1, q2, q3⟩ := MatAt.row hbs6 (r := i) (by rw [g.ln]; exact hin)
      have nai : ai ≠ f := by
        obtain ⟨a2, h1, h2⟩ := Option.map_eq_some_iff.mp (by rw [← List.getElem?_map]; exact q1)
        cases h2
        exact nb _ (List.mem_of_getElem? h1)
      have vi := g.vec i hin
      have bi := vi.at_ (show F.length < F.length + 1 by omega)
      refine ⟨_, rfl, _, rfl, R, _, _, _, rfl, rfl, SqL.of (s68 _ _ nR eR6), atI_nat q1, 1, rfl, ai, _, _, _, rfl, rfl, SqL.of (s68 _ _ nai q2), atI_m1 vi.ln, ?_⟩
      refine ⟨_, rfl, _, rfl, f, _, _, f', rfl, rfl, e8, ixN_nat (by rw [iv_len, lX]; exact hfS), _, _, X.set f' ((gr M i).getD F.length 0), rfl, s68.trans SB.upd, ?_, by rw [List.length_set, lX], ?_, ?_, ?_⟩
      · rw [upd_same]
        unfold iv
        rw [List.map_set]
      · intro x hx
        rcases List.mem_or_eq_of_mem_set hx with z | z
        · exact bX x z
        · rw [z]
          exact bi
      · intro q hq
        rw [List.getD_eq_getElem?_getD, List.getElem?_set]
        by_cases z : q = i
        · have : F.getD q 0 = f' := by rw [z, List.getD_eq_getElem?_getD, hf']; rfl
          rw [this, if_pos rfl, if_pos (by omega), z]
          rfl
        · have : f' ≠ F.getD q 0 := fun zz => by
            have hq1 : q < F.length := by omega
            have h1 : F[q]? = some f' := by rw [zz]; exact getD_at hq1
            have := nd_ix ndF h1 hf'
            omega
          rw [if_neg this, ← List.getD_eq_getElem?_getD]
          exact dX q (by omega)
      · intro k hk
        rw [take_snoc hf', List.mem_append, List.mem_singleton] at hk
        rw [List.getD_eq_getElem?_getD, List.getElem?_set]
        rw [if_neg (fun z => hk (.inr z.symm)), ← List.getD_eq_getElem?_getD]
        exact oX k fun z => hk (.inl z)
    · rintro σ H7 ⟨v7, v10, X, rfl, s7, e7, lX, bX, dX, oX⟩
      rw [List.take_length] at oX
      exact k _ _ ⟨v7, v10, X, rfl, fun c o e => s7 _ _ (ne_of_none e hf) (s6 _ _ e), e7, lX, bX, dX, oX⟩
  rintro σ' H7 ⟨v7', v10', X, rfl, s7, e7, lX, bX, dX, oX⟩
  refine ⟨_, rfl, .inl ⟨f, _, rfl, SqL.of e7, fun t ht => ?_⟩⟩
  have s8 := same_new ht (.tup (iv X))
  refine (q _ (s7.trans s8)).2 X t lX ⟨fun k hk => bX _ (at_mem (by omega)), fun k hk ntk => oX k fun z => ntk ((fok.fm k).mp z).2, fun j hj => ?_⟩ (s7.free ht) (.of upd_same)
  rw [lc_sub fok.fa hFb (fun k hk hk2 => oX k hk2) j, eB]
  have e1 : lc (fun q => X.getD (F.getD q 0) 0) B j = lc (fun q => if q = F.length then -1 else (gr M q).getD F.length 0) B j := lc_congr fun q hq => by
    rw [if_neg (by omega)]
    exact dX q (by omega)
  rw [e1]
  have h1 := hK j hj
  have h2 : p ∣ lc (fun q => if q = F.length then -1 else (gr M q).getD F.length 0) B j + u.getD j 0 * (if F.length = F.length then -1 else (gr M F.length).getD F.length 0) := h1
  rw [if_pos rfl] at h2
  obtain ⟨z, hz2⟩ := h2
  exact ⟨-z, by grind⟩
end
end Lf
/-! The law's own answers. -/
namespace Lf
open PySem PySem.Spec PyProof.Rows L2
theorem lotB_chain {m : Int} : ∀ {r : List Int} {x : Int}, (∀ y ∈ r, y ≤ m - 1) → lotB m x (iv r) = (List.range r.length).all fun i => decide ((x :: r).getD i 0 < (x :: r).getD (i + 1) 0)
  | [], _, _ => rfl
  | y :: s, x, h => by
    have hy := h y List.mem_cons_self
    have ih := lotB_chain (r := s) (x := y) fun z hz => h z (List.mem_cons_of_mem _ hz)
    show (decide (x + 1 ≤ y) && decide (y ≤ m - 1) && lotB m y (iv s)) = _
    rw [ih, List.length_cons, List.range_succ_eq_map, List.all_cons, List.all_map, decide_eq_true hy, Bool.and_true]
    have e : decide (x + 1 ≤ y) = decide ((x :: y :: s).getD 0 0 < (x :: y :: s).getD (0 + 1) 0) := by
      show decide (x + 1 ≤ y) = decide (x < y)
      by_cases c : x < y
      · rw [decide_eq_true c, decide_eq_true (by omega)]
      · rw [decide_eq_false c, decide_eq_false (by omega)]
    rw [e]
    rfl
/-- the law's way to tell a lot -/
theorem lotB_all {m : Int} {ns : List Int} (h : ∀ y ∈ ns, 0 ≤ y ∧ y ≤ m - 1) : lotB m (-1) (iv ns) = (List.range (ns.length - 1)).all fun i => decide (ns.getD i 0 < ns.getD (i + 1) 0) := by
  cases ns with
  | nil => rfl
  | cons x r =>
    have hx := h x List.mem_cons_self
    show (decide (-1 + 1 ≤ x) && decide (x ≤ m - 1) && lotB m x (iv r)) = _
    rw [decide_eq_true (by omega), decide_eq_true hx.2, lotB_chain fun y hy => (h y (List.mem_cons_of_mem _ hy)).2]
    rfl
section
variable {P : Program} {w : World} {K : PySem.W.Frag} {mg : Str → Option Value} {base : Heap}
def spLIsLot : Sp := fun vs H Q _ => ∃ p xs m, vs = [.ref p, .int m] ∧ Tp H p xs ∧ (∀ x ∈ xs, (isI x).isSome = true) ∧ xs.length ≤ 1000 ∧ ∀ H', Same H H' → Q (.bl (lotB m (-1) xs)) H'
abbrev N__law_is_lot : List Str := ["_law_thing", "_law_many", "_law_one", "_law_other", "_law_item"]
theorem sc__law_is_lot : FnScope N__law_is_lot ["_law_thing", "_law_many"] d__law_is_lot.scope := ⟨rfl, rfl, rfl, by decide +kernel, rfl, by decide +kernel, by decide +kernel⟩
theorem cl__law_is_lot (E : Env K mg) : Cl P w K mg base 2 "_law_is_lot" ["_law_thing", "_law_many"] (spLIsLot) := by
  refine Cl.of (k := 1) E 40 34 (d := d__law_is_lot) rfl rfl rfl rfl rfl sc__law_is_lot (fun vs H Q E' h => by (repeat obtain ⟨_, h⟩ := h); subst_vars; rfl) (fun _ _ _ _ _ _ us hl => match us, hl with | [_, _], _ => rfl) (fun f cdv A outer s H vs Q E' hr h => ?_)
  obtain ⟨p, xs, m, rfl, ht, hx, hl, q⟩ := h
  refine ⟨_, (pss_cons (ps_if (PW.pt (pw_or (pt_not (pt_val (pe_callB call_isi (by rfl) (E.free 67) (by decide +kernel) (pa_cons (pv 0) (pa_cons (pe_bltn (v := .ty "tuple") (by rfl) (E.free 70) (by decide +kernel) rfl) pa_nil))))) (pw_or1 (pt_not (pt_val (pe_callB (cr_all rfl) (by rfl) (E.free 72) (by decide +kernel) (pa_cons (pe_lc (own := [("_law_item", 4)]) (g := gName 4) (tt := tYes) rfl sc__law_is_lot.nd (pi_tup (pv 0)) (blkOk_by (own := [("_law_item", 4)]) (N := N__law_is_lot) (sc := d__law_is_lot.scope) (by decide +kernel)) (fun _ _ _ _ _ => (pg_name (i := 4) sc__law_is_lot.nd rfl (Or.inl rfl))) (fun _ _ _ _ _ => pts_nil) (fun _ _ _ _ _ => (pe_c (cl__law_is_int E) (hr.mono (by decide)) rfl (pa_cons (pv 4) (pa_cons pe_int (pa_cons (pe_op op_sub (pv 1) pe_int) pa_nil)))))) pa_nil)))))))
      (pss_one (ps_ret pe_bl))
      pss_nil)
    (pss_one (ps_ret (pe_callB (cr_all rfl) (by rfl) (E.free 72) (by decide +kernel) (pa_cons (pe_lc (own := [("_law_one", 2), ("_law_other", 3)]) (g := gTup K 2 (gCons (gName 2) (gCons (gName 3) gNil))) (tt := tYes) rfl sc__law_is_lot.nd (pi_zipM (by rfl) (E.free 75) (pa_cons (pv 0) (pa_cons (pe_slice sl_tupA (pv 0) (po_some pe_int) po_none) pa_nil))) (blkOk_by (own := [("_law_one", 2), ("_law_other", 3)]) (N := N__law_is_lot) (sc := d__law_is_lot.scope) (by decide +kernel)) (fun _ _ _ _ _ => (pg_tup rfl (pgs_cons (pg_name (i := 2) sc__law_is_lot.nd rfl (Or.inl rfl)) (pgs_cons (pg_name (i := 3) sc__law_is_lot.nd rfl (Or.inl rfl)) pgs_nil)))) (fun _ _ _ _ _ => pts_nil) (fun _ _ _ _ _ => (pe_cmpR op_lt (pv 2) (pv 3) (nomark _)))) pa_nil))))), ?_⟩
  refine ⟨_, rfl, _, _, _, _, true, rfl, .ty _, ht.ty, kit_ty kit_tt, true, rfl, iteF ?_⟩
  refine ⟨_, rfl, p, rfl, ⟨_, ht.sq⟩, fun D hD => ?_⟩
  refine lcS (plain_t ht.sq) (fun i => .bl (wit (xs.getD i .non) 0 (m - 1) == some true)) hD (by omega) (fun _ => rfl) ?_ ?_
  · intro i x H2 hx2 s R k
    obtain ⟨c, hc⟩ := wit_some (hx x (List.mem_of_getElem? hx2)) 0 (m - 1)
    have k1 := k _ (Same.refl _)
    have ex : xs.getD i .non = x := by rw [List.getD_eq_getElem?_getD, hx2]; rfl
    have ec : (wit x 0 (m - 1) == some true) = c := by rw [hc]; cases c <;> rfl
    rw [ex, ec] at k1
    exact ⟨_, rfl, _, rfl, _, _, rfl, rfl, x, 0, m - 1, c, rfl, hc, k1⟩
  intro H1 s1 e1
  rw [range_bl (fun x => wit x 0 (m - 1) == some true) xs (fun i => wit (xs.getD i .non) 0 (m - 1) == some true) fun i x h => by rw [show xs.getD i .non = x by rw [List.getD_eq_getElem?_getD, h]; rfl]] at e1
  refine ⟨D, _, rfl, SqL.of e1, _, rfl, ?_⟩
  rw [List.all_map]
  show (if (!(xs.all fun x => wit x 0 (m - 1) == some true)) = true then _ else _)
  cases hA : xs.all fun x => wit x 0 (m - 1) == some true with
  | false =>
    refine iteT ?_
    have e : lotB m (-1) xs = false := by
      cases c : lotB m (-1) xs with
      | false => rfl
      | true =>
        have : xs.all (fun x => wit x 0 (m - 1) == some true) = true := List.all_eq_true.mpr fun x hx => by
          obtain ⟨j, rfl, h1, h2⟩ := lotB_mem c x hx
          show (some (decide (0 ≤ j) && decide (j ≤ m - 1)) == some true) = true
          rw [decide_eq_true (by omega), decide_eq_true (by omega)]
          rfl
        rw [hA] at this
        cases this
    have q1 := q _ s1
    rw [e] at q1
    exact q1
  | true =>
    refine iteF ?_
    have hw : ∀ x ∈ xs, x = .int (toI x) ∧ 0 ≤ toI x ∧ toI x ≤ m - 1 := fun x hx => wit_tI (eq_of_beq (List.all_eq_true.mp hA x hx))
    have exs : xs = iv (xs.map toI) := by
      unfold iv
      rw [List.map_map]
      refine (List.map_id xs).symm.trans (List.map_congr_left fun x hx => (hw x hx).1)
    have eL := lotB_all (m := m) (ns := xs.map toI) fun y hy => by
      obtain ⟨x, hx, rfl⟩ := List.mem_map.mp hy
      exact (hw x hx).2
    rw [← exs, List.length_map] at eL
    have ht1 := ht.same s1
    have item : ∀ {i : Nat} {x : V}, xs[i]? = some x → x = .int ((xs.map toI).getD i 0) := fun {i x} h => by
      rw [List.getD_eq_getElem?_getD, List.getElem?_map, h]
      exact (hw x (List.mem_of_getElem? h)).1
    have fin : ∀ H3 D3, Same H1 H3 → H3 D3 = some (.lst ((List.range (xs.length - 1)).map fun i => .bl (decide ((xs.map toI).getD i 0 < (xs.map toI).getD (i + 1) 0)))) → ∃ (a : Addr) (bs : List Bool), [V.ref D3] = [V.ref a] ∧ SqL K H3 a (bs.map V.bl) ∧ Q (.bl (bs.all id)) H3 := fun H3 D3 s3 e3 => by
      refine ⟨D3, (List.range (xs.length - 1)).map fun i => decide ((xs.map toI).getD i 0 < (xs.map toI).getD (i + 1) 0), rfl, SqL.of (by rw [e3, List.map_map]; rfl), ?_⟩
      have q1 := q _ (s1.trans s3)
      rw [eL] at q1
      rw [List.all_map]
      exact q1
    by_cases c0 : xs = []
    · subst c0
      refine ⟨_, rfl, _, rfl, 1, rfl, p, [], rfl, ht1.sq, fun _ => ?_, fun z => absurd ⟨rfl, rfl⟩ z⟩
      refine ⟨p, p, [], [], false, false, rfl, Sq.t ht1.sq, Sq.t ht1.sq, fun D3 hD3 => ?_⟩
      refine lcM 0 (fun _ => .bl true) hD3 (by omega) (fun i H hi _ => absurd hi (Nat.not_lt_zero _)) (fun H s => itm_stop (Sq.t (ht1.same s).sq) (Sq.t (ht1.same s).sq) rfl rfl) (fun i x H H' hi => absurd hi (Nat.not_lt_zero _)) fun H3 s3 e3 => fin H3 D3 s3 e3
    · have lpos : 0 < xs.length := List.length_pos_iff.mpr c0
      have hmin : HT.sIx xs.length 0 (some 1) = 1 := by
        have := HT.sIx_nat xs.length 0 1
        rw [Nat.min_eq_left (by omega)] at this
        exact this
      have ecut : cutV xs (some 1) none = xs.drop 1 := cutV_drop (m := 1) xs (by omega)
      refine ⟨_, rfl, _, rfl, 1, rfl, p, xs, rfl, ht1.sq, fun z => ?_, fun _ c hc => ?_⟩
      · rw [hmin] at z
        exact absurd z.1 (by decide)
      rw [ecut]
      have s2 := same_new hc (.tup (xs.drop 1))
      have htc : Tp (upd H1 c (.tup (xs.drop 1))) c (xs.drop 1) := .of upd_same
      have ht2 := ht1.same s2
      generalize upd H1 c (.tup (xs.drop 1)) = H2 at s2 htc ht2 ⊢
      have ld : (xs.drop 1).length = xs.length - 1 := List.length_drop
      refine ⟨p, c, xs, xs.drop 1, false, false, rfl, Sq.t ht2.sq, Sq.t htc.sq, fun D3 hD3 => ?_⟩
      refine lcM (xs.length - 1) (fun i => .bl (decide ((xs.map toI).getD i 0 < (xs.map toI).getD (i + 1) 0))) hD3 (by omega) (fun i H hi s => itm_go (Sq.t (ht2.same s).sq) (Sq.t (htc.same s).sq) (by omega) (by omega))
        (fun H s => ⟨xs, xs.drop 1, Sq.t (ht2.same s).sq, Sq.t (htc.same s).sq, by omega, by omega, .inr ld.symm⟩) ?_ fun H3 s3 e3 => fin H3 D3 (s2.trans s3) e3
      intro i v Ha Hb hi s y R k
      obtain ⟨T, x, z, rfl, nT, rfl, f1, f2⟩ := itm_yld (Sq.t (ht2.same s).sq) (Sq.t (htc.same s).sq) y
      rw [List.getElem?_drop] at f2
      rw [item f1, show z = .int ((xs.map toI).getD (i + 1) 0) from item (by rw [Nat.add_comm]; exact f2)]
      exact g_pair upd_same (k _ _ rfl (same_new nT _) fun R' k2 => ⟨_, rfl, _, rfl, _, _, rfl, rfl, k2 _ (Same.refl _)⟩)
def spRead (K : PySem.W.Frag) : Sp := fun vs H Q _ => ∃ t a p n Pa ps N, vs = [.ref t, .ref a] ∧ PtAt H t p n Pa ps ∧ WebOk p n ps ∧ Tp H a (iv N) ∧ LotN ps.length N ∧ ∀ u V' H', Same H H' → Tp H' u (iv V') → (∀ v, 0 ≤ v → v < n → (v ∈ V' ↔ Span p n.toNat (sumsOf ps N) fun j => (unitV n v).getD j 0)) → Q (.ref u) H'
abbrev N__law_read : List Str := ["_law_parts", "_law_lot_here", "_law_steps", "_law_units", "_law_version", "_law_one"]
theorem sc__law_read : FnScope N__law_read ["_law_parts", "_law_lot_here"] d__law_read.scope := ⟨rfl, rfl, rfl, by decide +kernel, rfl, by decide +kernel, by decide +kernel⟩
theorem cl__law_read (E : Env K mg) : Cl P w K mg base 4 "_law_read" ["_law_parts", "_law_lot_here"] (spRead K) := by
  refine Cl.of (k := 3) E 46 40 (d := d__law_read) rfl rfl rfl rfl rfl sc__law_read (fun vs H Q E' h => by (repeat obtain ⟨_, h⟩ := h); subst_vars; rfl) (fun _ _ _ _ _ _ us hl => match us, hl with | [_, _], _ => rfl) (fun f cdv A outer s H vs Q E' hr h => ?_)
  obtain ⟨t, a, p, n, Pa, ps, N, rfl, pt, wo, ha, hN, q⟩ := h
  refine ⟨_, (pss_cons (ps_set (i := 2) sc__law_read.nd rfl (Or.inr rfl) (pe_ix ix_tup (pe_c (cl__law_taken E) (hr.mono (by decide)) rfl (pa_cons (pe_ix ix_tup (pv 0) pe_int (fun _ _ => rfl)) (pa_cons (pe_c (cl__law_sums_of E) (hr.mono (by decide)) rfl (pa_cons (pv 0) (pa_cons (pv 1) pa_nil))) pa_nil))) pe_int (fun _ _ => rfl)))
    (pss_cons (ps_setLc (i := 3) (own := [("_law_version", 4)]) (g := gName 4) (tt := tYes) rfl sc__law_read.nd rfl rfl (sw_true rfl rfl rfl (by decide +kernel)) (pi_range1 (by rfl) (E.free 74) (pa_cons (pe_ix ix_tup (pv 0) pe_int (fun _ _ => rfl)) pa_nil)) (blkOk_by (own := [("_law_version", 4)]) (N := N__law_read) (sc := d__law_read.scope) (by decide +kernel)) (fun _ _ _ _ _ => (pg_name (i := 4) sc__law_read.nd rfl (Or.inl rfl))) (fun _ _ _ _ _ => pts_nil) (fun _ _ _ _ _ => (pe_c (cl__law_unit E) (hr.mono (by decide)) rfl (pa_cons (pe_ix (ix_tupK (K := K) rfl) (pv 0) pe_int (fun _ _ => rfl)) (pa_cons (pv 4) pa_nil)))))
    (pss_one (ps_ret (pe_tupleOf (by rfl) (E.free 70) (pe_lc (own := [("_law_version", 4), ("_law_one", 5)]) (g := gTup K 2 (gCons (gName 4) (gCons (gName 5) gNil))) rfl sc__law_read.nd (pi_enumM (by rfl) (E.free 76) (pa_cons (pv 3) pa_nil)) (blkOk_by (own := [("_law_version", 4), ("_law_one", 5)]) (N := N__law_read) (sc := d__law_read.scope) (by decide +kernel)) (fun _ _ _ _ _ => (pg_tup rfl (pgs_cons (pg_name (i := 4) sc__law_read.nd rfl (Or.inl rfl)) (pgs_cons (pg_name (i := 5) sc__law_read.nd rfl (Or.inl rfl)) pgs_nil)))) (fun _ _ _ _ _ => (pts_one (pt_not (pt_val (pe_callB (cr_anyIK (K := K) rfl rfl) (by rfl) (E.free 73) (by decide +kernel) (pa_cons (pe_c (cl__law_fallen E) (hr.mono (by decide)) rfl (pa_cons (pe_ix (ix_tupK (K := K) rfl) (pv 0) pe_int (fun _ _ => rfl)) (pa_cons (pv 2) (pa_cons (pv 5) pa_nil)))) pa_nil)))))) (fun _ _ _ _ _ => (pv 4)))))))), ?_⟩
  have n10 : n.toNat ≤ 10 := by have := wo.n1; omega
  have hp := wo.pr
  have bd := hp.bd
  have lN := hN.len
  have lps := wo.len
  refine seq_by (fun σ' H' => ∃ sl fl L F, σ' = [some (.ref t), some (.ref a), some (.ref sl), none, none, none] ∧ Same H H' ∧ LsAt H' sl fl L ∧ LOk p n.toNat (sumsOf ps N) (sumsOf ps N).length L F) (fun N' k => ?_) ?_
  · refine ⟨_, rfl, t, _, _, _, rfl, rfl, pt.tp.sq, atI_nat (j := 0) rfl, _, rfl, _, rfl, t, a, p, n, Pa, ps, N, rfl, pt, ha, hN.bd, by omega, fun u as H1 hu s1 hut tps => ?_⟩
    exact ⟨p, u, n.toNat, as, sumsOf ps N, rfl, hp, n10, hut, tps, wo.vec hN, by rw [sumsOf_len]; omega, fun tu fl sl F L H2 s2 htu _ hls lok => ⟨tu, _, _, _, rfl, rfl, htu.sq, atI_nat (j := 1) rfl, k _ _ ⟨sl, fl, L, F, rfl, s1.trans s2, hls, lok⟩⟩⟩
  rintro σ' H1 ⟨sl, fl, L, F, rfl, s1, hls, lok⟩
  refine seq_by (fun σ' H' => ∃ U us, σ' = [some (.ref t), some (.ref a), some (.ref sl), some (.ref U), none, none] ∧ Same H H' ∧ LsAt H' sl fl L ∧ H' U = some (.lst (us.map V.ref)) ∧ TpsAt H' us ((List.range n.toNat).map fun (i : Nat) => unitV n (i : Int))) (fun N' k => ?_) ?_
  · have pt1 := pt.same s1
    refine ⟨_, rfl, t, _, _, _, rfl, rfl, pt1.tp.sq, atI_nat (j := 1) rfl, n, rfl, by have := wo.n1; omega, by have := wo.n1; omega, fun D hD => ?_⟩
    refine lcG n.toNat (fun _ => true) (fun i v H => ∃ b, v = .ref b ∧ Tp H b (iv (unitV n (i : Int)))) (fun i v Ha Hb zs e sb ⟨b, h1, h2⟩ => ⟨b, h1, sb.tp e h2⟩) hD (by omega) (fun i H hi _ => hi) (fun H _ => Nat.le_refl _) ?_ ?_
    · rintro i z Ha Hb hi s _ ⟨rfl, rfl⟩ R k2
      rw [Int.zero_add]
      refine k2 _ _ rfl (Same.refl _) (fun c k3 => k3 _ (Same.refl _)) fun _ H3 s3 R' k3 => ?_
      exact ⟨_, rfl, t, _, _, _, rfl, rfl, (pt1.tp.same (s.trans s3)).sq, atI_nat (j := 1) rfl, _, rfl, n, _, rfl, wo.n1, fun u H4 hu s4 hut => k3 _ _ s4 ⟨u, rfl, hut⟩⟩
    · intro H2 zs s2 e2 pr
      rw [filter_yes] at pr
      have lz : zs.length = n.toNat := by rw [← paired_len pr, List.length_range]
      obtain ⟨us, rfl⟩ : ∃ us : List Addr, zs = us.map V.ref := by
        refine all_refs fun z hz => ?_
        obtain ⟨i, hi⟩ := List.mem_iff_getElem?.mp hz
        obtain ⟨_, _, b, h1, _⟩ := paired_get' pr hi
        exact ⟨b, h1⟩
      rw [List.length_map] at lz
      refine k _ _ ⟨D, us, rfl, s1.trans s2, hls.same s2, e2, paired_range (by rw [List.length_map, List.length_range, lz]) fun i b e h1 h2 => ?_⟩
      have hi : i < n.toNat := by have := (List.getElem?_eq_some_iff.mp h1).1; omega
      obtain ⟨v, hv, b', h3, h4⟩ := paired_get pr (List.getElem?_range hi)
      rw [List.getElem?_map, h1] at hv
      cases hv
      cases h3
      rw [List.getElem?_map, List.getElem?_range hi] at h2
      cases h2
      exact h4
  rintro σ' H2 ⟨U, us, rfl, s2, hls2, eU, tus⟩
  clear hls s1 H1
  have lus : us.length = n.toNat := by rw [paired_len tus, List.length_map, List.length_range]
  have pt2 := pt.same s2
  have unitsp : ∀ i < n.toNat, ∀ srt, srt.Perm L → srt.Pairwise (fun a b => a.1 < b.1) → ((red p srt (unitV n (i : Int))).any (fun x => x != 0) = false ↔ Span p n.toNat (sumsOf ps N) fun j => (unitV n (i : Int)).getD j 0) := fun i hi srt sp ss => by
    have h1 := lok.left sp ss (unit_vec (n := n) (v := (i : Int)) hp)
    rw [List.take_length] at h1
    rw [← h1]
    unfold firstP
    rw [List.findIdx?_eq_none_iff, List.any_eq_false]
    constructor
    · intro h x hx
      simpa using h x hx
    · intro h x hx
      simpa using h x hx
  refine ⟨_, rfl, U, _, true, rfl, Sq.lo eU, fun D hD => ?_⟩
  let kp : Nat → Bool := fun i => @decide (Span p n.toNat (sumsOf ps N) fun j => (unitV n (i : Int)).getD j 0) (Classical.propDecidable _)
  refine lcF n.toNat kp (fun i => .int (i : Nat)) hD (by omega) (fun i H hi s => itn_go (Sq.lo (s _ _ eU)) (by rw [List.length_map]; omega)) (fun H s => itn_stop (Sq.lo (s _ _ eU)) (by rw [List.length_map]; omega)) ?_ ?_
  · intro i v Ha Hb hi s y R k
    obtain ⟨T, x, rfl, nT, rfl, e1⟩ := itn_yld (Sq.lo (s _ _ eU)) y
    rw [List.getElem?_map] at e1
    obtain ⟨b, eb, rfl⟩ := Option.map_eq_some_iff.mp e1
    obtain ⟨s', hs', hbs⟩ := paired_get tus eb
    rw [List.getElem?_map, List.getElem?_range hi] at hs'
    cases hs'
    refine g_pair upd_same (k _ _ rfl (same_new nT _) (fun c k2 => ?_) fun _ H3 s3 R' k2 => ⟨_, rfl, k2 _ (Same.refl _)⟩)
    have s3 := s.trans (same_new nT (.tup [.int ((i : Nat) : Int), .ref b]))
    refine ⟨_, rfl, t, _, _, _, rfl, rfl, (pt2.tp.same s3).sq, atI_nat (j := 0) rfl, _, rfl, _, rfl, p, sl, fl, b, n.toNat, L, unitV n (i : Int), rfl, hp, n10, hls2.same s3, fun e he => ⟨lok.pl e he, lok.vec e he⟩, lok.nd, Tp.same s3 hbs, unit_vec hp, fun srt q H4 sp ss hq s4 e4 => ⟨q, _, rfl, SqL.of e4, _, rfl, ?_⟩⟩
    have us := unitsp i hi srt sp ss
    have ek : (!((red p srt (unitV n (i : Int))).any fun x => x != 0)) = kp i := by
      by_cases c : Span p n.toNat (sumsOf ps N) fun j => (unitV n (i : Int)).getD j 0
      · rw [us.mpr c]
        exact (@decide_eq_true _ (Classical.propDecidable _) c).symm
      · have e0 : ((red p srt (unitV n (i : Int))).any fun x => x != 0) = true := by
          cases z : (red p srt (unitV n (i : Int))).any fun x => x != 0 with
          | true => rfl
          | false => exact absurd (us.mp z) c
        rw [e0]
        exact (@decide_eq_false _ (Classical.propDecidable _) c).symm
    show c (!((red p srt (unitV n (i : Int))).any fun x => x != 0)) H4
    rw [ek]
    exact k2 _ s4
  · intro H3 s3 e3
    refine .inl ⟨D, _, rfl, SqL.of e3, fun u hu => ?_⟩
    have s4 := same_new hu (.tup (((List.range n.toNat).filter kp).map fun i => V.int (i : Nat)))
    refine q u (((List.range n.toNat).filter kp).map fun (i : Nat) => (i : Int)) _ ((s2.trans s3).trans s4) (.of ?_) fun v h0 h1 => ?_
    · rw [upd_same]
      unfold iv
      rw [List.map_map]
      rfl
    · constructor
      · intro hv
        obtain ⟨i, hi, rfl⟩ := List.mem_map.mp hv
        exact @of_decide_eq_true _ (Classical.propDecidable _) (List.mem_filter.mp hi).2
      · intro hv
        refine List.mem_map.mpr ⟨v.toNat, List.mem_filter.mpr ⟨List.mem_range.mpr (by omega), ?_⟩, by omega⟩
        have e5 : ((v.toNat : Nat) : Int) = v := by omega
        refine @decide_eq_true _ (Classical.propDecidable _) ?_
        rw [e5]
        exact hv
end
end Lf
/-! The law's reading, its is_reading. -/
namespace Lf
open PySem PySem.Spec PyProof.Rows L2
/-- pairs of ints in a tuple that is locked -/
def PairsF (H : Hp) (t : Addr) (prs : List (Int × Int)) : Prop := ∃ as : List Addr, TF H t (as.map V.ref) ∧ Paired (fun a (e : Int × Int) => Tp H a [.int e.1, .int e.2]) as prs
theorem PairsF.at_ {H : Hp} {t : Addr} {prs : List (Int × Int)} (h : PairsF H t prs) : PairsAt H t prs := by
  obtain ⟨as, h1, h2⟩ := h
  exact ⟨as, h1.tp, h2⟩
theorem PairsF.same {H H' : Hp} {t : Addr} {prs : List (Int × Int)} (e : Same H H') (h : PairsF H t prs) : PairsF H' t prs := by
  obtain ⟨as, h1, h2⟩ := h
  exact ⟨as, h1.same e, paired_mono (fun _ _ x => x.same e) h2⟩
theorem zip_range : ∀ {N X : List Int}, X.length = N.length → N.zip X = (List.range N.length).map fun i => (N.getD i 0, X.getD i 0)
  | [], [], _ => rfl
  | n :: N, x :: X, h => by
    rw [List.zip_cons_cons, List.length_cons, List.range_succ_eq_map, List.map_cons, List.map_map, zip_range (N := N) (X := X) (by simpa using h)]
    rfl
theorem prsOf_range {N X : List Int} (h : X.length = N.length) : prsOf N X = ((List.range N.length).filter fun i => decide (X.getD i 0 ≠ 0)).map fun i => (N.getD i 0, X.getD i 0) := by
  unfold prsOf
  rw [zip_range h, List.filter_map]
  rfl
section
variable {P : Program} {w : World} {K : PySem.W.Frag} {mg : Str → Option Value} {base : Heap}
def spLReading : Sp := fun vs H Q _ => ∃ t a p n Pa ps N v, vs = [.ref t, .ref a, .int v] ∧ PtAt H t p n Pa ps ∧ WebOk p n ps ∧ Tp H a (iv N) ∧ LotN ps.length N ∧ 0 ≤ v ∧ v < n ∧
  ∀ H', Same H H' → (¬ Span p n.toNat (sumsOf ps N) (fun j => (unitV n v).getD j 0) → Q .non H') ∧ ∀ X u, X.length = N.length → Sol p n.toNat (sumsOf ps N) (fun j => (unitV n v).getD j 0) (fun k => X.getD k 0) → PairsF H' u (prsOf N X) → Q (.ref u) H'
abbrev N__law_reading : List Str := ["_law_parts", "_law_lot_here", "_law_version", "_law_made_here", "_law_pair"]
theorem sc__law_reading : FnScope N__law_reading ["_law_parts", "_law_lot_here", "_law_version"] d__law_reading.scope := ⟨rfl, rfl, rfl, by decide +kernel, rfl, by decide +kernel, by decide +kernel⟩
theorem cl__law_reading (E : Env K mg) : Cl P w K mg base 5 "_law_reading" ["_law_parts", "_law_lot_here", "_law_version"] (spLReading) := by
  refine Cl.of (k := 4) E 47 41 (d := d__law_reading) rfl rfl rfl rfl rfl sc__law_reading (fun vs H Q E' h => by (repeat obtain ⟨_, h⟩ := h); subst_vars; rfl) (fun _ _ _ _ _ _ us hl => match us, hl with | [_, _, _], _ => rfl) (fun f cdv A outer s H vs Q E' hr h => ?_)
  obtain ⟨t, a, p, n, Pa, ps, N, v, rfl, pt, wo, ha, hN, hv0, hv1, q⟩ := h
  refine ⟨_, (pss_cons (ps_set (i := 3) sc__law_reading.nd rfl (Or.inl rfl) (pe_c (cl__law_made E) (hr.mono (by decide)) rfl (pa_cons (pe_ix ix_tup (pv 0) pe_int (fun _ _ => rfl)) (pa_cons (pe_c (cl__law_sums_of E) (hr.mono (by decide)) rfl (pa_cons (pv 0) (pa_cons (pv 1) pa_nil))) (pa_cons (pe_c (cl__law_unit E) (hr.mono (by decide)) rfl (pa_cons (pe_ix ix_tup (pv 0) pe_int (fun _ _ => rfl)) (pa_cons (pv 2) pa_nil))) pa_nil)))))
    (pss_one (ps_ret (pe_ifExp (pt_cmpR op_isN (pv 3) pe_non (nomark _)) pe_non (pe_tupleOfF (by rfl) (E.free 70) (pe_lc (own := [("_law_pair", 4)]) (g := gName 4) rfl sc__law_reading.nd (pi_zipM (by rfl) (E.free 75) (pa_cons (pv 1) (pa_cons (pv 3) pa_nil))) (blkOk_by (own := [("_law_pair", 4)]) (N := N__law_reading) (sc := d__law_reading.scope) (by decide +kernel)) (fun _ _ _ _ _ => (pg_name (i := 4) sc__law_reading.nd rfl (Or.inl rfl))) (fun _ _ _ _ _ => (pts_one (pt_cmpR op_ne (pe_ix (ix_tupK (K := K) rfl) (pv 4) pe_int (fun _ _ => rfl)) pe_int (nomark _)))) (fun _ _ _ _ _ => (pv 4)))))))), ?_⟩
  have n10 : n.toNat ≤ 10 := by have := wo.n1; omega
  have lN := hN.len
  have lps := wo.len
  refine ⟨_, rfl, t, _, _, _, rfl, rfl, pt.tp.sq, atI_nat (j := 0) rfl, _, rfl, _, rfl, t, a, p, n, Pa, ps, N, rfl, pt, ha, hN.bd, by omega, fun u as H1 hu s1 hut tps => ?_⟩
  refine ⟨_, rfl, t, _, _, _, rfl, rfl, (pt.tp.same s1).sq, atI_nat (j := 1) rfl, _, rfl, n, v, rfl, wo.n1, fun w H2 hw s2 hwt => ?_⟩
  refine ⟨p, u, w, n.toNat, as, sumsOf ps N, unitV n v, rfl, wo.pr, n10, hut.same s2, paired_mono (fun _ _ z => z.same s2) tps, wo.vec hN, by rw [sumsOf_len]; omega, hwt, unit_vec wo.pr, fun H3 s3 => ?_⟩
  have s13 := (s1.trans s2).trans s3
  refine ⟨fun ns => ⟨_, rfl, rfl, _, rfl, iteT ((q H3 s13).1 ns)⟩, fun X t' lX sol _ htt => ⟨_, rfl, rfl, _, rfl, iteF ?_⟩⟩
  rw [sumsOf_len] at lX
  have ha3 := ha.same s13
  refine ⟨_, rfl, _, rfl, a, t', _, _, false, false, rfl, Sq.t ha3.sq, Sq.t htt.sq, fun D hD => ?_⟩
  refine lcG N.length (fun i => decide (X.getD i 0 ≠ 0)) (fun i v H => ∃ b, v = .ref b ∧ Tp H b [.int (N.getD i 0), .int (X.getD i 0)]) (fun i v Ha Hb zs e sb ⟨b, h1, h2⟩ => ⟨b, h1, sb.tp e h2⟩) hD (by omega)
    (fun i H hi s => itm_go (Sq.t (ha3.same s).sq) (Sq.t (htt.same s).sq) (by rw [iv_len]; exact hi) (by rw [iv_len]; omega)) (fun H s => itm_stop (Sq.t (ha3.same s).sq) (Sq.t (htt.same s).sq) (by rw [iv_len, iv_len, lX]) (iv_len _).symm) ?_ ?_
  · intro i z Ha Hb hi s _ yl R k
    obtain ⟨T, x, y, rfl, nT, rfl, f1, f2⟩ := itm_yld (Sq.t (ha3.same s).sq) (Sq.t (htt.same s).sq) yl
    obtain ⟨x', g1, rfl⟩ := iv_get f1
    obtain ⟨y', g2, rfl⟩ := iv_get f2
    rw [getD_of g1, getD_of g2] at k
    have eT : (upd Ha T (.tup [.int x', .int y'])) T = some (.tup [.int x', .int y']) := upd_same
    refine k _ _ rfl (same_new nT _) (fun c k2 => ?_) fun _ H5 s5 R' k2 => ⟨_, rfl, k2 _ _ (Same.refl _) ⟨T, rfl, .of (s5 _ _ eT)⟩⟩
    refine ⟨_, rfl, T, _, _, _, rfl, rfl, SqT.of eT, atI_nat (j := 1) rfl, rfl, _, rfl, ?_⟩
    have e3 : (!decide (V.int y' = V.int 0)) = decide (y' ≠ 0) := by rw [dec_vi]; simp
    rw [e3]
    exact k2 _ (Same.refl _)
  · intro H4 zs s4 e4 pr
    obtain ⟨bs, rfl⟩ : ∃ bs : List Addr, zs = bs.map V.ref := by
      refine all_refs fun z hz => ?_
      obtain ⟨i, hi⟩ := List.mem_iff_getElem?.mp hz
      obtain ⟨_, _, b, h1, _⟩ := paired_get' pr hi
      exact ⟨b, h1⟩
    have lz := paired_len pr
    rw [List.length_map] at lz
    refine ⟨D, _, rfl, SqL.of e4, fun t2 H5 ht2 s5 tf => ?_⟩
    refine (q H5 ((s13.trans s4).trans s5)).2 X t2 lX sol ⟨bs, tf, ?_⟩
    rw [prsOf_range lX]
    refine paired_range (by rw [List.length_map, ← lz]) fun i b e h1 h2 => ?_
    rw [List.getElem?_map] at h2
    obtain ⟨j, hj, rfl⟩ := Option.map_eq_some_iff.mp h2
    obtain ⟨v', hv', b', h3, h4⟩ := paired_get pr hj
    rw [List.getElem?_map, h1] at hv'
    cases hv'
    cases h3
    exact h4.same s5
def spLIsReading : Sp := fun vs H Q _ => ∃ t p n Pa ps a N v y th, vs = [.ref t, .ref a, .int v, y] ∧ PtAt H t p n Pa ps ∧ WebOk p n ps ∧ Tp H a (iv N) ∧ LotN ps.length N ∧ 0 ≤ v ∧ v < n ∧ ThingAt H y th ∧
  ∀ H', Same H H' → Q (.bl (thB p n ps N v th)) H'
abbrev N__law_is_reading : List Str := ["_law_parts", "_law_lot_here", "_law_version", "_law_thing", "_law_some", "_law_row", "_law_pair", "_law_piece"]
theorem sc__law_is_reading : FnScope N__law_is_reading ["_law_parts", "_law_lot_here", "_law_version", "_law_thing"] d__law_is_reading.scope := ⟨rfl, rfl, rfl, by decide +kernel, rfl, by decide +kernel, by decide +kernel⟩
theorem cl__law_is_reading (E : Env K mg) : Cl P w K mg base 3 "_law_is_reading" ["_law_parts", "_law_lot_here", "_law_version", "_law_thing"] (spLIsReading) := by
  refine Cl.of (k := 2) E 48 42 (d := d__law_is_reading) rfl rfl rfl rfl rfl sc__law_is_reading (fun vs H Q E' h => by (repeat obtain ⟨_, h⟩ := h); subst_vars; rfl) (fun _ _ _ _ _ _ us hl => match us, hl with | [_, _, _, _], _ => rfl) (fun f cdv A outer s H vs Q E' hr h => ?_)
  obtain ⟨x, p, n, Pa, ps, a, N, v, y, th, rfl, pt, wo, ha, hN, hv0, hv1, hth, q⟩ := h
  refine ⟨_, (pss_cons (ps_if (PW.pt (pw_or (pt_not (pt_val (pe_callB call_isi (by rfl) (E.free 67) (by decide +kernel) (pa_cons (pv 3) (pa_cons (pe_bltn (v := .ty "tuple") (by rfl) (E.free 70) (by decide +kernel) rfl) pa_nil))))) (pw_or1 (pt_not (pt_val (pe_callB (cr_all rfl) (by rfl) (E.free 72) (by decide +kernel) (pa_cons (pe_lc (own := [("_law_pair", 6)]) (g := gName 6) (tt := tYes) rfl sc__law_is_reading.nd (pi_tup (pv 3)) (blkOk_by (own := [("_law_pair", 6)]) (N := N__law_is_reading) (sc := d__law_is_reading.scope) (by decide +kernel)) (fun _ _ _ _ _ => (pg_name (i := 6) sc__law_is_reading.nd rfl (Or.inl rfl))) (fun _ _ _ _ _ => pts_nil) (fun _ _ _ _ _ => (pe_and (pe_callB (call_isiKK (K := K) rfl) (by rfl) (E.free 67) (by decide +kernel) (pa_cons (pv 6) (pa_cons (pe_bltn (v := .ty "tuple") (by rfl) (E.free 70) (by decide +kernel) rfl) pa_nil))) (pe_one (pe_cmpR op_eq (pe_callB (call_len_seqK (K := K) rfl) (by rfl) (E.free 71) PySem.boot_len (pa_cons (pv 6) pa_nil)) pe_int (nomark _)))))) pa_nil)))))))
      (pss_one (ps_ret pe_bl))
      pss_nil)
    (pss_cons (ps_set (i := 4) sc__law_is_reading.nd rfl (Or.inl rfl) (pe_tupleOf (by rfl) (E.free 70) (pe_lc (own := [("_law_pair", 6)]) (g := gName 6) (tt := tYes) rfl sc__law_is_reading.nd (pi_tup (pv 3)) (blkOk_by (own := [("_law_pair", 6)]) (N := N__law_is_reading) (sc := d__law_is_reading.scope) (by decide +kernel)) (fun _ _ _ _ _ => (pg_name (i := 6) sc__law_is_reading.nd rfl (Or.inl rfl))) (fun _ _ _ _ _ => pts_nil) (fun _ _ _ _ _ => (pe_ix (ix_tupK (K := K) rfl) (pv 6) pe_int (fun _ _ => rfl))))))
    (pss_cons (ps_if (PW.pt (pw_or (pt_not (pt_val (pe_c (cl__law_is_lot E) (hr.mono (by decide)) rfl (pa_cons (pv 4) (pa_cons (pe_callB call_len_seq (by rfl) (E.free 71) PySem.boot_len (pa_cons (pe_ix ix_tup (pv 0) pe_int (fun _ _ => rfl)) pa_nil)) pa_nil))))) (pw_or1 (pt_not (pt_val (pe_callB (cr_all rfl) (by rfl) (E.free 72) (by decide +kernel) (pa_cons (pe_lc (own := [("_law_piece", 7)]) (g := gName 7) (tt := tYes) rfl sc__law_is_reading.nd (pi_tup (pv 4)) (blkOk_by (own := [("_law_piece", 7)]) (N := N__law_is_reading) (sc := d__law_is_reading.scope) (by decide +kernel)) (fun _ _ _ _ _ => (pg_name (i := 7) sc__law_is_reading.nd rfl (Or.inl rfl))) (fun _ _ _ _ _ => pts_nil) (fun _ _ _ _ _ => (pe_cmpR (op_in_seqK (K := K) rfl) (pv 7) (pv 1) (by rfl)))) pa_nil)))))))
      (pss_one (ps_ret pe_bl))
      pss_nil)
    (pss_cons (ps_if (pt_not (pt_val (pe_callB (cr_all rfl) (by rfl) (E.free 72) (by decide +kernel) (pa_cons (pe_lc (own := [("_law_pair", 6)]) (g := gName 6) (tt := tYes) rfl sc__law_is_reading.nd (pi_tup (pv 3)) (blkOk_by (own := [("_law_pair", 6)]) (N := N__law_is_reading) (sc := d__law_is_reading.scope) (by decide +kernel)) (fun _ _ _ _ _ => (pg_name (i := 6) sc__law_is_reading.nd rfl (Or.inl rfl))) (fun _ _ _ _ _ => pts_nil) (fun _ _ _ _ _ => (pe_c (cl__law_is_int E) (hr.mono (by decide)) rfl (pa_cons (pe_ix (ix_tupK (K := K) rfl) (pv 6) pe_int (fun _ _ => rfl)) (pa_cons pe_int (pa_cons (pe_op op_sub (pe_ix (ix_tupK (K := K) rfl) (pv 0) pe_int (fun _ _ => rfl)) pe_int) pa_nil)))))) pa_nil))))
      (pss_one (ps_ret pe_bl))
      pss_nil)
    (pss_cons (ps_set (i := 5) sc__law_is_reading.nd rfl (Or.inl rfl) (pe_c (cl__law_added E) (hr.mono (by decide)) rfl (pa_cons (pe_ix ix_tup (pv 0) pe_int (fun _ _ => rfl)) (pa_cons (pe_c (cl__law_sums_of E) (hr.mono (by decide)) rfl (pa_cons (pv 0) (pa_cons (pv 4) pa_nil))) (pa_cons (pe_lc (own := [("_law_pair", 6)]) (g := gName 6) (tt := tYes) rfl sc__law_is_reading.nd (pi_tup (pv 3)) (blkOk_by (own := [("_law_pair", 6)]) (N := N__law_is_reading) (sc := d__law_is_reading.scope) (by decide +kernel)) (fun _ _ _ _ _ => (pg_name (i := 6) sc__law_is_reading.nd rfl (Or.inl rfl))) (fun _ _ _ _ _ => pts_nil) (fun _ _ _ _ _ => (pe_ix (ix_tupK (K := K) rfl) (pv 6) pe_int (fun _ _ => rfl)))) (pa_cons (pe_ix ix_tup (pv 0) pe_int (fun _ _ => rfl)) pa_nil))))))
    (pss_one (ps_ret (pe_cmpR (op_eqD hr.units) (pv 5) (pe_c (cl__law_unit E) (hr.mono (by decide)) rfl (pa_cons (pe_ix ix_tup (pv 0) pe_int (fun _ _ => rfl)) (pa_cons (pv 2) pa_nil))) (nomark _))))))))), ?_⟩
  have n10 : n.toNat ≤ 10 := by have := wo.n1; omega
  have lN := hN.len
  have lps := wo.len
  have bd := wo.pr.bd
  cases th with
  | no =>
    obtain ⟨t, ty, kt⟩ := NT.ty (K := K) hth
    exact ⟨_, rfl, _, _, _, _, false, rfl, .ty _, ty, kit_ty kt, false, rfl, iteT (q _ (Same.refl _))⟩
  | bad =>
    obtain ⟨t, xs, bs, rfl, ht, hp, hb, hl⟩ := hth
    refine ⟨_, rfl, _, _, _, _, true, rfl, .ty _, ht.ty, kit_ty kit_tt, true, rfl, iteF ?_⟩
    refine ⟨_, rfl, t, rfl, ⟨_, ht.sq⟩, fun D hD => ?_⟩
    have lb := paired_len hp
    refine lcS (plain_t ht.sq) (fun i => .bl (bs.getD i false)) hD (by omega) (fun _ => rfl) ?_ ?_
    · intro i z H2 hz s R k
      obtain ⟨b, hb, hpr⟩ := paired_get hp hz
      have hpr2 := hpr.same s
      have e : bs.getD i false = b := by rw [List.getD_eq_getElem?_getD, hb]; rfl
      have k1 := k _ (Same.refl _)
      rw [e] at k1
      rcases hpr2 with ⟨hn, rfl⟩ | ⟨q', ys, rfl, htq, rfl⟩
      · obtain ⟨t', ty, kt⟩ := hn.ty (K := K)
        exact ⟨_, rfl, _, _, _, _, false, rfl, .ty _, ty, kit_ty kt, false, rfl, iteF k1⟩
      · refine ⟨_, rfl, _, _, _, _, true, rfl, .ty _, htq.ty, kit_ty kit_tt, true, rfl, iteT ?_⟩
        refine ⟨_, rfl, q', ys, rfl, .inr htq.sq, rfl, ?_⟩
        have e : decide (V.int (ys.length : Int) = V.int 2) = decide (ys.length = 2) := by
          rw [dec_vi]
          by_cases c : ys.length = 2
          · rw [decide_eq_true c, decide_eq_true (by omega)]
          · rw [decide_eq_false c, decide_eq_false (by omega)]
        rw [e]
        exact k1
    · intro H1 s1 e1
      rw [lb, range_bl id bs (fun i => bs.getD i false) fun i x hx => by rw [List.getD_eq_getElem?_getD, hx]; rfl] at e1
      refine ⟨D, bs.map id, rfl, SqL.of e1, false, ?_, iteT (q _ s1)⟩
      rw [List.map_id, hb]
  | ok prs =>
    obtain ⟨t, rfl, ⟨as, ht, hp, hi⟩, hl⟩ := hth
    have q' : ∀ H', Same H H' → Q (.bl ((lotB (ps.length : Int) (-1) (prs.map (·.1)) && prs.all fun e => inV e.1 (iv N)) && ((prs.all fun e => wit e.2 1 (p - 1) == some true) &&
      decide (addAll p n.toNat ((sumsOf ps (prs.map fun e => toI e.1)).zip (prs.map fun e => toI e.2)) = unitV n v)))) H' := q
    clear q
    have la : as.length = prs.length := paired_len hp
    have item : ∀ {i : Nat} {z : V}, (as.map V.ref)[i]? = some z → ∃ b e, z = .ref b ∧ prs[i]? = some e ∧ Tp H b [e.1, e.2] := fun {i z} h => by
      rw [List.getElem?_map] at h
      obtain ⟨b, eb, rfl⟩ := Option.map_eq_some_iff.mp h
      obtain ⟨e, he, ht⟩ := paired_get hp eb
      exact ⟨b, e, rfl, he, ht⟩
    have lm : (as.map V.ref).length = prs.length := by rw [List.length_map, la]
    have geD : ∀ {i : Nat} {e : V × V}, prs[i]? = some e → prs.getD i (.non, .non) = e := fun h => by rw [List.getD_eq_getElem?_getD, h]; rfl
    refine ⟨_, rfl, _, _, _, _, true, rfl, .ty _, ht.ty, kit_ty kit_tt, true, rfl, iteF ?_⟩
    refine ⟨_, rfl, t, rfl, ⟨_, ht.sq⟩, fun D1 hD1 => ?_⟩
    refine lcS (plain_t ht.sq) (fun i => .bl true) hD1 (by omega) (fun _ => rfl) ?_ ?_
    · intro i z H2 hz s R k
      obtain ⟨b, e, rfl, he, htp⟩ := item hz
      have htp2 := htp.same s
      exact ⟨_, rfl, _, _, _, _, true, rfl, .ty _, htp2.ty, kit_ty kit_tt, true, rfl, iteT ⟨_, rfl, b, _, rfl, .inr htp2.sq, rfl, k _ (Same.refl _)⟩⟩
    intro H1 s1 e1
    rw [lm, range_bl (fun _ => true) prs (fun _ => true) fun i x hx => rfl] at e1
    refine ⟨D1, _, rfl, SqL.of e1, true, by rw [List.all_map]; exact congrArg V.bl (List.all_eq_true.mpr fun _ _ => rfl), iteF ?_⟩
    have ht1 := ht.same s1
    -- some
    refine ⟨_, rfl, t, rfl, ⟨_, ht1.sq⟩, fun D2 hD2 => ?_⟩
    refine lcS (plain_t ht1.sq) (fun i => (prs.getD i (.non, .non)).1) hD2 (by omega) (fun _ => rfl) ?_ ?_
    · intro i z H2 hz s R k
      obtain ⟨b, e, rfl, he, htp⟩ := item hz
      have k1 := k _ (Same.refl _)
      rw [geD he] at k1
      exact ⟨_, rfl, b, _, _, _, rfl, rfl, (htp.same (s1.trans s)).sq, atI_nat (j := 0) rfl, k1⟩
    intro H2 s2 e2
    have m1 : (List.range (as.map V.ref).length).map (fun i => (prs.getD i (.non, .non)).1) = prs.map (·.1) := map_range_get lm.symm fun i y hy => by rw [geD hy]
    rw [m1] at e2
    refine .inl ⟨D2, _, rfl, SqL.of e2, fun t2 ht2 => ?_⟩
    have s3 : Same H2 (upd H2 t2 (.tup (prs.map (·.1)))) := same_new ht2 _
    have et2 : Tp (upd H2 t2 (.tup (prs.map (·.1)))) t2 (prs.map (·.1)) := .of upd_same
    generalize upd H2 t2 (.tup (prs.map (·.1))) = H3 at s3 et2 ⊢
    have s13 := (s1.trans s2).trans s3
    have pt3 := pt.same s13
    obtain ⟨pas, g1, g2⟩ := pt3.pcs
    have lpas := paired_len g2
    refine ⟨_, rfl, _, rfl, x, _, _, _, rfl, rfl, pt3.tp.sq, atI_nat (j := 2) rfl, Pa, _, rfl, .inr g1.sq, t2, _, _, rfl, et2, fun z hz => ?_, by rw [List.length_map]; exact hl, fun H3' s3' => ?_⟩
    · obtain ⟨e, he, rfl⟩ := List.mem_map.mp hz
      exact (hi e he).1
    rw [List.length_map, lpas]
    have et3 := et2.same s3'
    have s13' := s13.trans s3'
    refine ⟨_, rfl, ?_⟩
    cases hA : lotB (ps.length : Int) (-1) (prs.map (·.1)) with
    | false =>
      rw [hA] at q'
      exact iteT (q' _ s13')
    | true =>
      rw [hA] at q'
      refine iteF ?_
      refine ⟨_, rfl, t2, rfl, ⟨_, et3.sq⟩, fun D4 hD4 => ?_⟩
      refine lcS (plain_t et3.sq) (fun i => .bl (inV (prs.getD i (.non, .non)).1 (iv N))) hD4 (by rw [List.length_map]; omega) (fun _ => rfl) ?_ ?_
      · intro i z H4 hz s R k
        rw [List.getElem?_map] at hz
        obtain ⟨e, he, rfl⟩ := Option.map_eq_some_iff.mp hz
        have k1 := k _ (Same.refl _)
        rw [geD he] at k1
        exact ⟨_, rfl, _, rfl, a, _, rfl, .inr (ha.same (s13'.trans s)).sq, isI_flat (hi e (List.mem_of_getElem? he)).1, flat_iv N, k1⟩
      intro H4 s4 e4
      have s14 := s13'.trans s4
      rw [List.length_map, range_bl (fun e => inV e.1 (iv N)) prs (fun i => inV (prs.getD i (.non, .non)).1 (iv N)) fun i x hx => by rw [geD hx]] at e4
      refine ⟨D4, _, rfl, SqL.of e4, _, rfl, ?_⟩
      rw [List.all_map]
      show (if (!(prs.all fun e => inV e.1 (iv N))) = true then _ else _)
      cases hB : prs.all fun e => inV e.1 (iv N) with
      | false =>
        rw [hB] at q'
        exact iteT (q' _ s14)
      | true =>
        rw [hB] at q'
        refine iteF ?_
        have ht4 := ht.same s14
        have pt4 := pt.same s14
        refine ⟨_, rfl, t, rfl, ⟨_, ht4.sq⟩, fun D5 hD5 => ?_⟩
        refine lcS (plain_t ht4.sq) (fun i => .bl (wit (prs.getD i (.non, .non)).2 1 (p - 1) == some true)) hD5 (by omega) (fun _ => rfl) ?_ ?_
        · intro i z H5 hz s5 R k
          obtain ⟨b, e, rfl, he, htp⟩ := item hz
          obtain ⟨c, hc⟩ := wit_some (hi e (List.mem_of_getElem? he)).2 1 (p - 1)
          have k1 := k _ (Same.refl _)
          have ec : (wit e.2 1 (p - 1) == some true) = c := by rw [hc]; cases c <;> rfl
          rw [geD he, ec] at k1
          exact ⟨_, rfl, b, _, _, _, rfl, rfl, (htp.same (s14.trans s5)).sq, atI_nat (j := 1) rfl, _, rfl, x, _, _, _, rfl, rfl, (pt4.tp.same s5).sq, atI_nat (j := 0) rfl, _, _, rfl, rfl, _, 1, p - 1, c, rfl, hc, k1⟩
        intro H5 s5 e5
        have s15 := s14.trans s5
        rw [lm, range_bl (fun e => wit e.2 1 (p - 1) == some true) prs (fun i => wit (prs.getD i (.non, .non)).2 1 (p - 1) == some true) fun i x hx => by rw [geD hx]] at e5
        refine ⟨D5, _, rfl, SqL.of e5, _, rfl, ?_⟩
        rw [List.all_map]
        show (if (!(prs.all fun e => wit e.2 1 (p - 1) == some true)) = true then _ else _)
        cases hC : prs.all fun e => wit e.2 1 (p - 1) == some true with
        | false =>
          rw [hC] at q'
          exact iteT (q' _ s15)
        | true =>
          rw [hC] at q'
          refine iteF ?_
          have ht5 := ht.same s15
          have pt5 := pt.same s15
          have et5 := (et3.same s4).same s5
          have hw : ∀ e ∈ prs, ∃ j : Nat, e.1 = .int ((j : Nat) : Int) ∧ j < ps.length := fun e he => by
            obtain ⟨j, e1, h1, h2⟩ := lotB_mem hA _ (List.mem_map.mpr ⟨_, he, rfl⟩)
            exact ⟨j.toNat, by rw [e1]; exact congrArg V.int (by omega), by omega⟩
          have snds : ∀ {i : Nat} {e : V × V}, prs[i]? = some e → e.2 = .int (toI e.2) ∧ 1 ≤ toI e.2 ∧ toI e.2 ≤ p - 1 := fun h => wit_tI (by
            have := List.all_eq_true.mp hC _ (List.mem_of_getElem? h)
            exact eq_of_beq this)
          have e1st : prs.map (·.1) = iv (prs.map fun e => toI e.1) := by
            unfold iv
            rw [List.map_map]
            refine List.map_congr_left fun e he => ?_
            obtain ⟨j, ej, _⟩ := hw e he
            show e.1 = .int (toI e.1)
            rw [ej]
            rfl
          rw [e1st] at et5
          refine ⟨_, rfl, x, _, _, _, rfl, rfl, pt5.tp.sq, atI_nat (j := 0) rfl, _, rfl, _, rfl, x, t2, p, n, Pa, ps, _, rfl, pt5, et5, fun y hy => ?_, by rw [List.length_map]; exact hl, fun u2 sas H6 hu2 s6 hut tps => ?_⟩
          · obtain ⟨e, he, rfl⟩ := List.mem_map.mp hy
            obtain ⟨j, ej, hj⟩ := hw e he
            rw [ej]
            show 0 ≤ ((j : Nat) : Int) ∧ ((j : Nat) : Int) < (ps.length : Int)
            omega
          have s16 := s15.trans s6
          have ht6 := ht.same s16
          refine ⟨_, rfl, t, rfl, ⟨_, ht6.sq⟩, fun D7 hD7 => ?_⟩
          refine lcS (plain_t ht6.sq) (fun i => .int ((prs.map fun e => toI e.2).getD i 0)) hD7 (by omega) (fun _ => rfl) ?_ ?_
          · intro i z H7 hz s7 R k
            obtain ⟨b, e, rfl, he, htp⟩ := item hz
            have k3 := k _ (Same.refl _)
            have : (prs.map fun e => toI e.2).getD i 0 = toI e.2 := by
              rw [List.getD_eq_getElem?_getD, List.getElem?_map, he]
              rfl
            rw [this, ← (snds he).1] at k3
            exact ⟨_, rfl, b, _, _, _, rfl, rfl, (htp.same (s16.trans s7)).sq, atI_nat (j := 1) rfl, k3⟩
          intro H7 s7 e7
          have ev : (List.range (as.map V.ref).length).map (fun i => V.int ((prs.map fun e => toI e.2).getD i 0)) = iv (prs.map fun e => toI e.2) := by
            rw [← iv_range, List.length_map, List.length_map, la]
          rw [ev] at e7
          have s17 := s16.trans s7
          have pt7 := pt.same s17
          have lS : (sumsOf ps (prs.map fun e => toI e.1)).length = prs.length := by rw [sumsOf_len, List.length_map]
          refine ⟨_, rfl, x, _, _, _, rfl, rfl, pt7.tp.sq, atI_nat (j := 1) rfl, p, u2, D7, n, sas, _, prs.map fun e => toI e.2, rfl, by omega, by have := wo.n1; omega, hut.same s7, paired_mono (fun _ _ z => z.same s7) tps, e7, by rw [lS, List.length_map], ?_, ?_, fun u3 H8 hu3 s8 hut3 => ?_⟩
          · intro sm hsm
            obtain ⟨y, hy, rfl⟩ := List.mem_map.mp hsm
            obtain ⟨e, he, rfl⟩ := List.mem_map.mp hy
            obtain ⟨j, ej, hj⟩ := hw e he
            rw [ej]
            show (ps.getD (((j : Nat) : Int)).toNat ([], 0)).1.length = n.toNat
            rw [Int.toNat_natCast, List.getD_eq_getElem?_getD, List.getElem?_eq_getElem hj]
            exact (wo.all _ (List.getElem_mem hj)).vec.ln
          · intro tt htt
            obtain ⟨e, he, rfl⟩ := List.mem_map.mp htt
            obtain ⟨i, hi⟩ := List.mem_iff_getElem?.mp he
            have := snds hi
            omega
          have s18 := s17.trans s8
          refine ⟨_, rfl, _, rfl, x, _, _, _, rfl, rfl, (pt.tp.same s18).sq, atI_nat (j := 1) rfl, _, rfl, n, v, rfl, wo.n1, fun u4 H9 hu4 s9 hut4 => ?_⟩
          exact eqT (hut3.same s9) hut4 (q' _ (s18.trans s9))
end
end Lf
/-! Another way that is right. -/
namespace Lf
open PySem PySem.Spec PyProof.Rows L2
theorem Hd.tf {H H' : Hp} {g gl p : Addr} {xs : List V} (h : Hd H g gl) (sb : SB g H H') (t : TF H p xs) : TF H' p xs := by
  obtain ⟨_, _, _, _, _, e, _⟩ := h
  obtain ⟨o, e1, e2⟩ := t
  exact ⟨o, sb _ _ (ne_of e1 e (by intro q; cases q)) e1, e2⟩
theorem Hd.pairsF {H H' : Hp} {g gl t : Addr} {prs : List (Int × Int)} (h : Hd H g gl) (sb : SB g H H') (r : PairsF H t prs) : PairsF H' t prs := by
  obtain ⟨as, h1, h2⟩ := r
  exact ⟨as, h.tf sb h1, paired_mono (fun _ _ z => h.tp sb z) h2⟩
theorem pairs_items {g : Addr} {H : Hp} : ∀ {as : List Addr} {prs : List (Int × Int)}, Paired (fun a (e : Int × Int) => Tp H a [.int e.1, .int e.2]) as prs → ∀ y ∈ as.map V.ref, It1 g H y := by
  intro as prs h y hy
  obtain ⟨a, ha, rfl⟩ := List.mem_map.mp hy
  obtain ⟨i, hi⟩ := List.mem_iff_getElem?.mp ha
  obtain ⟨e, _, he⟩ := paired_get h hi
  exact .inr ⟨a, _, _, rfl, he, rfl, rfl⟩
theorem PairsAt.th {g : Addr} {H : Hp} {t : Addr} {prs : List (Int × Int)} (h : PairsAt H t prs) (hl : prs.length ≤ 1000) : ThI g H (.ref t) := by
  obtain ⟨as, h1, h2⟩ := h
  exact .inr ⟨t, _, rfl, h1, pairs_items h2, by rw [List.length_map, paired_len h2]; exact hl⟩
theorem merge_dk : ∀ (prs acc : List (Int × Int)), mergeK (dk acc) (dk prs) = dk (prs.foldl (fun m e => gput m e.1 e.2) acc)
  | [], _ => rfl
  | e :: r, acc => by
    show mergeK (putK (dk acc) (Sum.inl e.1 : Key) (V.int e.2)) (dk r) = dk (r.foldl (fun m e => gput m e.1 e.2) (gput acc e.1 e.2))
    rw [putK_dk]
    exact merge_dk r _
theorem pairs_kvs {K : PySem.W.Frag} {H : Hp} : ∀ {as : List Addr} {prs : List (Int × Int)}, Paired (fun a (e : Int × Int) => Tp H a [.int e.1, .int e.2]) as prs → Paired (fun p (kv : Key × V) => SqT K H p [kV kv.1, kv.2]) as (dk prs)
  | _, _, .nil => .nil
  | _, _, .cons h t => .cons h.sq (pairs_kvs t)
theorem slA {K : PySem.W.Frag} {H : Hp} {a : Addr} {xs : List V} {lo hi : Option Int} {Q : VK} (h : Tp H a xs) (k : ∀ c H', Same H H' → Tp H' c (cutV xs lo hi) → Q (.ref c) H') : rSlA K (.ref a) lo hi H Q := by
  refine ⟨a, xs, rfl, h.sq, fun z => k a H (Same.refl _) ?_, fun _ p hp => k p _ (same_new hp _) (.of upd_same)⟩
  have e : cutV xs lo hi = xs := by
    unfold cutV
    rw [z.1, z.2]
    exact List.take_length
  rw [e]
  exact h
theorem cutV_take (xs : List V) {m : Nat} (h : m ≤ xs.length) : cutV xs none (some (m : Int)) = xs.take m := by
  unfold cutV
  rw [HT.sIx_nat, HT.sIx_none, Nat.min_eq_left h]
  rfl
section
variable {P : Program} {w : World} {K : PySem.W.Frag} {mg : Str → Option Value} {base : Heap}
def spAnother : Sp := fun vs H Q _ => ∃ g gl t p n Pa ps a N u prs, vs = [.ref g, .ref t, .ref a, .ref u] ∧ Hd H g gl ∧ PtAt H t p n Pa ps ∧ WebOk p n ps ∧ Tp H a (iv N) ∧ LotN ps.length N ∧ PairsF H u prs ∧ prs.length ≤ 100 ∧
  ∀ x H', SB g H H' → Hd H' g gl → ThI g H' x → Q x H'
abbrev N__law_another : List Str := ["_law_hand_here", "_law_parts", "_law_lot_here", "_law_pairs", "_law_sums_here", "_law_some", "_law_behind", "_law_number", "_law_times_here", "_law_more", "_law_own", "_law_row", "_law_piece", "_law_pair"]
theorem sc__law_another : FnScope N__law_another ["_law_hand_here", "_law_parts", "_law_lot_here", "_law_pairs"] d__law_another.scope := ⟨rfl, rfl, rfl, by decide +kernel, rfl, by decide +kernel, by decide +kernel⟩
theorem cl__law_another (E : Env K mg) : Cl P w K mg base 5 "_law_another" ["_law_hand_here", "_law_parts", "_law_lot_here", "_law_pairs"] (spAnother) := by
  refine Cl.of (k := 4) E 49 43 (d := d__law_another) rfl rfl rfl rfl rfl sc__law_another (fun vs H Q E' h => by (repeat obtain ⟨_, h⟩ := h); subst_vars; rfl) (fun _ _ _ _ _ _ us hl => match us, hl with | [_, _, _, _], _ => rfl) (fun f cdv A outer s H vs Q E' hr h => ?_)
  obtain ⟨g, gl, t, p, n, Pa, ps, a, N, u, prs, rfl, hd, pt, wo, ha, hN, hu, hl, q⟩ := h
  refine ⟨_, (pss_cons (ps_set (i := 4) sc__law_another.nd rfl (Or.inl rfl) (pe_c (cl__law_sums_of E) (hr.mono (by decide)) rfl (pa_cons (pv 1) (pa_cons (pv 2) pa_nil))))
    (pss_cons (ps_set (i := 5) sc__law_another.nd rfl (Or.inr rfl) (pe_ix ix_tup (pe_c (cl__law_taken E) (hr.mono (by decide)) rfl (pa_cons (pe_ix ix_tup (pv 1) pe_int (fun _ _ => rfl)) (pa_cons (pv 4) pa_nil))) pe_int (fun _ _ => rfl)))
    (pss_cons (ps_setLc (i := 6) (own := [("_law_number", 7)]) (g := gName 7) rfl sc__law_another.nd rfl rfl (sw_true rfl rfl rfl (by decide +kernel)) (pi_range1 (by rfl) (E.free 74) (pa_cons (pe_callB call_len_seq (by rfl) (E.free 71) PySem.boot_len (pa_cons (pv 2) pa_nil)) pa_nil)) (blkOk_by (own := [("_law_number", 7)]) (N := N__law_another) (sc := d__law_another.scope) (by decide +kernel)) (fun _ _ _ _ _ => (pg_name (i := 7) sc__law_another.nd rfl (Or.inl rfl))) (fun _ _ _ _ _ => (pts_one (pt_cmpR (op_notIn_seqK (K := K) rfl) (pv 7) (pv 5) (by rfl)))) (fun _ _ _ _ _ => (pv 7)))
    (pss_cons (ps_if (pt_cmpR op_eq (pe_callB call_len_seq (by rfl) (E.free 71) PySem.boot_len (pa_cons (pv 6) pa_nil)) pe_int (nomark _))
      (pss_one (ps_ret (pv 3)))
      pss_nil)
    (pss_cons (ps_par (i := 7) (j := 8) (by rfl) sc__law_another.nd rfl rfl (by decide) rfl rfl (pa_cons (pe_c (cl__law_any E) (hr.mono (by decide)) rfl (pa_cons (pv 0) (pa_cons (pv 6) pa_nil))) (pa_cons (pe_op op_add pe_int (pe_c (cl__law_draw E) (hr.mono (by decide)) rfl (pa_cons (pv 0) (pa_cons (pe_op op_sub (pe_ix ix_tup (pv 1) pe_int (fun _ _ => rfl)) pe_int) pa_nil)))) pa_nil)) (by rfl))
    (pss_cons (ps_set (i := 9) sc__law_another.nd rfl (Or.inl rfl) (pe_op op_cat (pe_op op_cat (pe_callTy call_list_of (by rfl) (E.free 77) (by decide +kernel) (pa_cons (pe_c (cl__law_made E) (hr.mono (by decide)) rfl (pa_cons (pe_ix ix_tup (pv 1) pe_int (fun _ _ => rfl)) (pa_cons (pe_slice sl_tupA (pv 4) po_none (po_some (pv 7))) (pa_cons (pe_ix ix_tup (pv 4) (pv 7) (fun _ _ => rfl)) pa_nil)))) pa_nil)) (pe_lst (pa_cons (pe_op op_sub (pe_ix ix_tup (pv 1) pe_int (fun _ _ => rfl)) pe_int) pa_nil))) (pe_op op_rep (pe_lst (pa_cons pe_int pa_nil)) (pe_op op_sub (pe_op op_sub (pe_callB call_len_seq (by rfl) (E.free 71) PySem.boot_len (pa_cons (pv 2) pa_nil)) (pv 7)) pe_int))))
    (pss_cons (ps_setLc (i := 10) (own := [("_law_piece", 12)]) (g := gName 12) (tt := tYes) rfl sc__law_another.nd rfl rfl (sw_true rfl rfl rfl (by decide +kernel)) (pi_tup (pv 2)) (blkOk_by (own := [("_law_piece", 12)]) (N := N__law_another) (sc := d__law_another.scope) (by decide +kernel)) (fun _ _ _ _ _ => (pg_name (i := 12) sc__law_another.nd rfl (Or.inl rfl))) (fun _ _ _ _ _ => pts_nil) (fun _ _ _ _ _ => (pe_dget2 (hu_of hr) (pe_callTy (call_dictTK (K := K) rfl rfl) (by rfl) (E.free 78) (by decide +kernel) (pa_cons (pv 3) pa_nil)) (pv 12) pe_int ⟨rfl, rfl, rfl, rfl⟩)))
    (pss_cons (ps_set (i := 11) sc__law_another.nd rfl (Or.inl rfl) (pe_c (cl__law_times E) (hr.mono (by decide)) rfl (pa_cons (pe_ix ix_tup (pv 1) pe_int (fun _ _ => rfl)) (pa_cons (pv 10) (pa_cons (pv 8) (pa_cons (pv 9) pa_nil))))))
    (pss_one (ps_ret (pe_tupleOf (by rfl) (E.free 70) (pe_lc (own := [("_law_pair", 13)]) (g := gName 13) rfl sc__law_another.nd (pi_zipM (by rfl) (E.free 75) (pa_cons (pv 2) (pa_cons (pv 11) pa_nil))) (blkOk_by (own := [("_law_pair", 13)]) (N := N__law_another) (sc := d__law_another.scope) (by decide +kernel)) (fun _ _ _ _ _ => (pg_name (i := 13) sc__law_another.nd rfl (Or.inl rfl))) (fun _ _ _ _ _ => (pts_one (pt_cmpR op_ne (pe_ix (ix_tupK (K := K) rfl) (pv 13) pe_int (fun _ _ => rfl)) pe_int (nomark _)))) (fun _ _ _ _ _ => (pv 13)))))))))))))), ?_⟩
  have n10 : n.toNat ≤ 10 := by have := wo.n1; omega
  have lN := hN.len
  have lps := wo.len
  have bd := wo.pr.bd
  have hp := wo.pr
  have hvS := wo.vec hN
  have lS : (sumsOf ps N).length = N.length := sumsOf_len
  refine seq_by (fun σ' H' => ∃ us as, σ' = [some (.ref g), some (.ref t), some (.ref a), some (.ref u), some (.ref us), none, none, none, none, none, none, none, none, none] ∧ Same H H' ∧ Tp H' us (as.map V.ref) ∧ TpsAt H' as (sumsOf ps N)) (fun N' k => ?_) ?_
  · exact ⟨_, rfl, _, rfl, t, a, p, n, Pa, ps, N, rfl, pt, ha, hN.bd, by omega, fun us as H1 _ s1 hut tps => k _ _ ⟨us, as, rfl, s1, hut, tps⟩⟩
  rintro σ' H1 ⟨us, as, rfl, s1, hus, tps⟩
  generalize sumsOf ps N = S at tps hvS lS
  have lS' := lS
  refine seq_by (fun σ' H' => ∃ fl F, σ' = [some (.ref g), some (.ref t), some (.ref a), some (.ref u), some (.ref us), some (.ref fl), none, none, none, none, none, none, none, none] ∧ Same H1 H' ∧ H' fl = some (.lst (iv (F.map fun k => ((k : Nat) : Int)))) ∧ FOk p n.toNat S F) (fun N' k => ?_) ?_
  · exact ⟨_, rfl, t, _, _, _, rfl, rfl, (pt.tp.same s1).sq, atI_nat (j := 0) rfl, _, rfl, p, us, n.toNat, as, S, rfl, hp, n10, hus, tps, hvS, by omega, fun tu fl sl F L H2 s2 htu hfl hls lok => ⟨tu, _, _, _, rfl, rfl, htu.sq, atI_nat (j := 0) rfl, k _ _ ⟨fl, F, rfl, s2, hfl, lok.fa, lok.fm⟩⟩⟩
  rintro σ' H2 ⟨fl, F, rfl, s2, efl, fok⟩
  have s12 := s1.trans s2
  refine seq_by (fun σ' H' => ∃ D Bh, σ' = [some (.ref g), some (.ref t), some (.ref a), some (.ref u), some (.ref us), some (.ref fl), some (.ref D), none, none, none, none, none, none, none] ∧ Same H2 H' ∧ H' D = some (.lst (iv Bh)) ∧ Bh.length ≤ 100 ∧ ∀ y ∈ Bh, ∃ i : Nat, y = ((i : Nat) : Int) ∧ i < N.length ∧ i ∉ F) (fun N' k => ?_) ?_
  · have ha2 := ha.same s12
    refine ⟨_, rfl, a, _, rfl, .inr ha2.sq, ((iv N).length : Int), rfl, by rw [iv_len]; omega, by rw [iv_len]; omega, fun D hD => ?_⟩
    have en : (((iv N).length : Int)).toNat = N.length := by rw [iv_len]; omega
    rw [en]
    refine lcSF (plain_r 0 N.length) (fun i => !decide ((i : Int) ∈ F.map fun k => ((k : Nat) : Int))) (fun i => .int (0 + (i : Int))) hD (by rw [rgI_len]; omega) (fun _ => rfl) ?_ ?_ ?_
    · intro i x H3 hx s3 R' k3
      obtain ⟨hi, rfl⟩ := rgI_get hx
      refine ⟨_, rfl, _, rfl, fl, _, rfl, .inl (SqL.of (s3 _ _ efl)), rfl, flat_iv _, _, rfl, ?_⟩
      have e3 : inV (.int (0 + (i : Int))) (iv (F.map fun k => ((k : Nat) : Int))) = decide ((i : Int) ∈ F.map fun k => ((k : Nat) : Int)) := by rw [inV_iv, Int.zero_add]
      show R' (!inV (.int (0 + (i : Int))) (iv (F.map fun k => ((k : Nat) : Int)))) H3
      rw [e3]
      exact k3 _ (Same.refl _)
    · intro i x H3 hx hk s3 R' k3
      obtain ⟨hi, rfl⟩ := rgI_get hx
      exact ⟨_, rfl, k3 _ (Same.refl _)⟩
    intro H3 s3 e3
    rw [rgI_len] at e3
    refine k _ _ ⟨D, (((List.range N.length).filter fun (i : Nat) => !decide ((i : Int) ∈ F.map fun k => ((k : Nat) : Int))).map fun (i : Nat) => (0 + (i : Int))), rfl, s3, by rw [e3]; unfold iv; rw [List.map_map]; rfl, ?_, fun y hy => ?_⟩
    · rw [List.length_map]
      have := List.length_filter_le (fun i : Nat => !decide ((i : Int) ∈ F.map fun k => ((k : Nat) : Int))) (List.range N.length)
      rw [List.length_range] at this
      omega
    · obtain ⟨i, hi, rfl⟩ := List.mem_map.mp hy
      obtain ⟨h1, h2⟩ := List.mem_filter.mp hi
      refine ⟨i, Int.zero_add _, List.mem_range.mp h1, fun z => ?_⟩
      have h3 : ¬ ((i : Int) ∈ F.map fun k => ((k : Nat) : Int)) := by simpa using h2
      exact h3 (List.mem_map.mpr ⟨i, z, rfl⟩)
  rintro σ' H3 ⟨D, Bh, rfl, s3, eD, lBh, hBh⟩
  have s13 := s12.trans s3
  have hd3 := hd.same s13
  refine seq_by (fun σ' H' => σ' = [some (.ref g), some (.ref t), some (.ref a), some (.ref u), some (.ref us), some (.ref fl), some (.ref D), none, none, none, none, none, none, none] ∧ H3 = H' ∧ Bh ≠ []) (fun N' k => ?_) ?_
  · refine ⟨_, rfl, D, _, rfl, .inl (SqL.of eD), rfl, _, rfl, ?_⟩
    by_cases c : Bh = []
    · refine (if_pos ?_).mpr ?_
      · rw [dec_vi, c]
        rfl
      · exact ⟨_, rfl, q _ _ (Same.sb s13) hd3 ((hu.same s13).at_.th (by omega))⟩
    · refine (if_neg ?_).mpr ?_
      · rw [dec_vi, iv_len]
        intro z
        have z' := of_decide_eq_true z
        have := List.length_pos_iff.mpr c
        omega
      · exact k _ _ ⟨rfl, rfl, c⟩
  rintro σ' H' ⟨rfl, rfl, hBne⟩
  refine seq_by (fun σ' H' => ∃ (k : Nat) (tm : Int), σ' = [some (.ref g), some (.ref t), some (.ref a), some (.ref u), some (.ref us), some (.ref fl), some (.ref D), some (.int ((k : Nat) : Int)), some (.int tm), none, none, none, none, none] ∧ SB g H H' ∧ SB g H3 H' ∧ Hd H' g gl ∧ k < N.length ∧ k ∉ F ∧ 0 < tm ∧ tm < 1000) (fun N' kk => ?_) ?_
  · refine ⟨_, rfl, _, rfl, g, gl, D, _, rfl, hd3, hd3.ne_iv eD, eD, by unfold iv; simpa using hBne, by rw [iv_len]; omega, fun x H4 hx sb4 hd4 => ?_⟩
    obtain ⟨y, hy, rfl⟩ := List.mem_map.mp hx
    obtain ⟨i, rfl, hi, hiF⟩ := hBh y hy
    refine ⟨_, rfl, _, rfl, t, _, _, _, rfl, rfl, (hd3.tp sb4 (pt.tp.same s13)).sq, atI_nat (j := 0) rfl, _, _, rfl, rfl, g, gl, p - 1, rfl, hd4, by omega, by omega, fun d H5 d0 d1 sb5 hd5 => ⟨_, _, rfl, rfl, _, _, rfl, ?_⟩⟩
    exact kk _ _ ⟨i, 1 + d, rfl, ((Same.sb s13).trans sb4).trans sb5, sb4.trans sb5, hd5, hi, hiF, by omega, by omega⟩
  rintro σ' H4 ⟨k, tm, rfl, sb4, sb34, hd4, hk, hkF, tm0, tm1⟩
  have pt4 := hd.pt sb4 pt
  have ha4 := hd.tp sb4 ha
  have hu4 := hd.pairsF sb4 hu
  have hus4 : Tp H4 us (as.map V.ref) := hd3.tp sb34 (hus.same (s2.trans s3))
  have tps4 : TpsAt H4 as S := hd3.tps sb34 (paired_mono (fun _ _ z => z.same (s2.trans s3)) tps)
  clear hus tps efl eD hd3 s13 s12 s1 s2 s3
  have las := paired_len tps4
  have hkS : k < S.length := by omega
  have spk : Span p n.toNat (S.take k) fun j => (S.getD k []).getD j 0 := Classical.byContradiction fun no => hkF ((fok.fm k).mpr ⟨hkS, no⟩)
  have vk := hvS _ (List.mem_of_getElem? (getD_at (d := []) hkS))
  obtain ⟨ak, hak, hTk⟩ := paired_get' tps4 (getD_at (d := []) hkS)
  have eak : (as.map V.ref)[k]? = some (.ref ak) := by rw [List.getElem?_map, hak]; rfl
  refine seq_by (fun σ' H' => ∃ M X, σ' = [some (.ref g), some (.ref t), some (.ref a), some (.ref u), some (.ref us), some (.ref fl), some (.ref D), some (.int ((k : Nat) : Int)), some (.int tm), some (.ref M), none, none, none, none] ∧ Same H4 H' ∧ H' M = some (.lst (iv X)) ∧ X.length = N.length) (fun N' kk => ?_) ?_
  · refine ⟨_, rfl, t, _, _, _, rfl, rfl, pt4.tp.sq, atI_nat (j := 0) rfl, _, rfl, _, rfl, ((k : Nat) : Int), rfl, slA hus4 fun c H5 s5 hc => ?_⟩
    rw [cutV_take _ (by rw [List.length_map]; omega), ← List.map_take] at hc
    refine ⟨_, rfl, _, rfl, us, _, _, _, rfl, rfl, (hus4.same s5).sq, atI_nat eak, ?_⟩
    refine ⟨p, c, ak, n.toNat, as.take k, S.take k, S.getD k [], rfl, hp, n10, hc, paired_range (by rw [List.length_take, List.length_take]; omega) fun i b e h1 h2 => ?_, fun s hs => hvS s (List.mem_of_mem_take hs), by rw [List.length_take]; omega, hTk.same s5, vk, fun H6 s6 => ⟨fun no => absurd spk no, fun X c2 lX sol _ htX => ?_⟩⟩
    · rw [List.getElem?_take] at h1 h2
      split at h1
      · rename_i hi
        rw [if_pos hi] at h2
        obtain ⟨e', he', hb'⟩ := paired_get tps4 h1
        rw [h2] at he'
        cases he'
        exact Tp.same s5 hb'
      · cases h1
    rw [List.length_take, Nat.min_eq_left (Nat.le_of_lt hkS)] at lX
    have s46 := s5.trans s6
    refine ⟨c2, _, rfl, .inr htX.sq, fun l1 hl1 => ?_⟩
    have s7 := same_new hl1 (.lst (iv X))
    have e7 : (upd H6 l1 (.lst (iv X))) l1 = some (.lst (iv X)) := upd_same
    have s47 := s46.trans s7
    generalize upd H6 l1 (.lst (iv X)) = H7 at s7 e7 s47 ⊢
    refine ⟨_, rfl, t, _, _, _, rfl, rfl, (pt4.tp.same s47).sq, atI_nat (j := 0) rfl, _, _, rfl, rfl, (by show 1 ≤ sizeLine; decide), fun l2 hl2 => ?_⟩
    have s8 := same_new hl2 (.lst [.int (p - 1)])
    refine ⟨l1, l2, iv X, [.int (p - 1)], rfl, rfl, s8 _ _ e7, upd_same, Nat.le_trans (show (iv X).length + 1 ≤ 1000 by rw [iv_len]; omega) (by decide), fun l3 hl3 => ?_⟩
    have s9 := same_new hl3 (.lst (iv X ++ [.int (p - 1)]))
    have e9 : (upd (upd H7 l2 (.lst [.int (p - 1)])) l3 (.lst (iv X ++ [.int (p - 1)]))) l3 = some (.lst (iv X ++ [.int (p - 1)])) := upd_same
    have s49 := (s47.trans s8).trans s9
    generalize upd (upd H7 l2 (.lst [.int (p - 1)])) l3 (.lst (iv X ++ [.int (p - 1)])) = H9 at e9 s49 ⊢
    refine ⟨(by show 1 ≤ sizeLine; decide), fun z0 hz0 => ?_⟩
    have s10 := same_new hz0 (.lst [.int 0])
    have ha9 := (ha4.same s49).same s10
    refine ⟨_, rfl, a, _, rfl, .inr ha9.sq, _, rfl, _, _, rfl, rfl, _, _, rfl, rfl, z0, _, [.int 0], rfl, rfl, upd_same, by rw [iv_len]; omega, by rw [iv_len]; omega, Nat.le_trans (show 1 * (((iv N).length : Int) - ((k : Nat) : Int) - 1).toNat ≤ 100000 by rw [iv_len]; omega) (by decide), fun f0 hf0 => ?_⟩
    rw [rep_iv]
    have en : (((iv N).length : Int) - ((k : Nat) : Int) - 1).toNat = N.length - k - 1 := by rw [iv_len]; omega
    rw [en]
    have s11 := same_new hf0 (.lst (iv (List.replicate (N.length - k - 1) 0)))
    refine ⟨l3, f0, iv X ++ [.int (p - 1)], iv (List.replicate (N.length - k - 1) 0), rfl, rfl, s11 _ _ (s10 _ _ e9), upd_same, Nat.le_trans (show (iv X ++ [V.int (p - 1)]).length + (iv (List.replicate (N.length - k - 1) 0)).length ≤ 1000 by rw [List.length_append, iv_len, iv_len, List.length_replicate]; show X.length + 1 + _ ≤ 1000; omega) (by decide), fun M hM => ?_⟩
    have s12 := same_new hM (.lst ((iv X ++ [.int (p - 1)]) ++ iv (List.replicate (N.length - k - 1) 0)))
    refine kk _ _ ⟨M, X ++ [p - 1] ++ List.replicate (N.length - k - 1) 0, rfl, ((s49.trans s10).trans s11).trans s12, ?_, ?_⟩
    · rw [upd_same]
      unfold iv
      rw [List.map_append, List.map_append]
      rfl
    · rw [List.length_append, List.length_append, List.length_replicate]
      show X.length + 1 + _ = _
      omega
  rintro σ' H5 ⟨M, X, rfl, s5, eM, lX⟩
  -- own
  have ha5 := ha4.same s5
  have pt5 := pt4.same s5
  have hu5 := hu4.same s5
  refine seq_by (fun σ' H' => ∃ O W, σ' = [some (.ref g), some (.ref t), some (.ref a), some (.ref u), some (.ref us), some (.ref fl), some (.ref D), some (.int ((k : Nat) : Int)), some (.int tm), some (.ref M), some (.ref O), none, none, none] ∧ Same H5 H' ∧ H' O = some (.lst (iv W)) ∧ W.length = N.length) (fun N' kk => ?_) ?_
  · refine ⟨_, rfl, a, rfl, ⟨_, ha5.sq⟩, fun O hO => ?_⟩
    refine lcS (plain_t ha5.sq) (fun i => .int (dval (prs.foldl (fun m e => gput m e.1 e.2) []) (N.getD i 0))) hO (by rw [iv_len]; omega) (fun _ => rfl) ?_ ?_
    · intro i x H6 hx s6 R' k3
      obtain ⟨y, hy, rfl⟩ := iv_get hx
      obtain ⟨bs, hb1, hb2⟩ := hu5.same s6
      refine ⟨_, rfl, u, bs, dk prs, rfl, hb1, pairs_kvs hb2, fun d hdd => ?_⟩
      have em : mergeK [] (dk prs) = dk (prs.foldl (fun m e => gput m e.1 e.2) []) := merge_dk prs []
      rw [em]
      have ed : (upd H6 d (.dK (dk (prs.foldl (fun m e => gput m e.1 e.2) [])))) d = some (.dK (dk (prs.foldl (fun m e => gput m e.1 e.2) []))) := upd_same
      have k4 := k3 _ (same_new hdd (.dK (dk (prs.foldl (fun m e => gput m e.1 e.2) []))))
      generalize upd H6 d (.dK (dk (prs.foldl (fun m e => gput m e.1 e.2) []))) = H7 at ed k4 ⊢
      rw [getD_of hy, ← getD_dk] at k4
      exact ⟨d, rfl, .inl ⟨_, .inl ed⟩, _, rfl, _, DGet.k (k := Sum.inl y) ed, k4⟩
    · intro H6 s6 e6
      refine kk _ _ ⟨O, (List.range N.length).map fun i => dval (prs.foldl (fun m e => gput m e.1 e.2) []) (N.getD i 0), rfl, s6, ?_, by rw [List.length_map, List.length_range]⟩
      rw [e6, iv_len]
      unfold iv
      rw [List.map_map]
      rfl
  rintro σ' H6 ⟨O, W, rfl, s6, eO, lW⟩
  have pt6 := pt5.same s6
  have eM6 := s6 _ _ eM
  refine ⟨_, rfl, t, _, _, _, rfl, rfl, pt6.tp.sq, atI_nat (j := 0) rfl, _, rfl, _, rfl, _, rfl, p, O, tm, M, W, X, true, rfl, by omega, by omega, eO, Sq.lo eM6, by omega, by omega, fun Rw H7 hRw s7 e7 => ?_⟩
  have s47 := (s5.trans s6).trans s7
  have ha7 := ha4.same s47
  have lY : (addT p W tm X).length = N.length := by rw [addT_length (by omega)]; exact lW
  generalize addT p W tm X = Y at e7 lY
  refine ⟨_, rfl, _, rfl, a, Rw, _, _, false, true, rfl, Sq.t ha7.sq, Sq.lo e7, fun D8 hD8 => ?_⟩
  refine lcG N.length (fun i => decide (Y.getD i 0 ≠ 0)) (fun i v H => ∃ b, v = .ref b ∧ Tp H b [.int (N.getD i 0), .int (Y.getD i 0)]) (fun i v Ha Hb zs e sb ⟨b, h1, h2⟩ => ⟨b, h1, sb.tp e h2⟩) hD8 (by omega)
    (fun i H hi s => itm_go (Sq.t (ha7.same s).sq) (Sq.lo (s _ _ e7)) (by rw [iv_len]; exact hi) (by rw [iv_len]; omega)) (fun H s => itm_stop (Sq.t (ha7.same s).sq) (Sq.lo (s _ _ e7)) (by rw [iv_len, iv_len, lY]) (iv_len _).symm) ?_ ?_
  · intro i z Ha Hb hi s _ yl R k
    obtain ⟨T, x, y, rfl, nT, rfl, f1, f2⟩ := itm_yld (Sq.t (ha7.same s).sq) (Sq.lo (s _ _ e7)) yl
    obtain ⟨x', g1, rfl⟩ := iv_get f1
    obtain ⟨y', g2, rfl⟩ := iv_get f2
    rw [getD_of g1, getD_of g2] at k
    have eT : (upd Ha T (.tup [.int x', .int y'])) T = some (.tup [.int x', .int y']) := upd_same
    refine k _ _ rfl (same_new nT _) (fun c k2 => ?_) fun _ H5 s5 R' k2 => ⟨_, rfl, k2 _ _ (Same.refl _) ⟨T, rfl, .of (s5 _ _ eT)⟩⟩
    refine ⟨_, rfl, T, _, _, _, rfl, rfl, SqT.of eT, atI_nat (j := 1) rfl, rfl, _, rfl, ?_⟩
    have e3 : (!decide (V.int y' = V.int 0)) = decide (y' ≠ 0) := by rw [dec_vi]; simp
    rw [e3]
    exact k2 _ (Same.refl _)
  · intro H8 zs s8 e8 pr
    refine .inl ⟨D8, _, rfl, SqL.of e8, fun t2 ht2 => ?_⟩
    have s9 := same_new ht2 (.tup zs)
    have s49 := (s47.trans s8).trans s9
    refine q _ _ (sb4.trans (Same.sb s49)) (hd4.same s49) (.inr ⟨t2, zs, rfl, .of upd_same, fun z hz => ?_, ?_⟩)
    · obtain ⟨i, hi⟩ := List.mem_iff_getElem?.mp hz
      obtain ⟨_, _, b, h1, h2⟩ := paired_get' pr hi
      exact .inr ⟨b, _, _, h1, h2.same s9, rfl, rfl⟩
    · have := paired_len pr
      have h2 := List.length_filter_le (fun i => decide (Y.getD i 0 ≠ 0)) (List.range N.length)
      rw [List.length_range] at h2
      omega
end
end Lf
/-! What is bent. -/
namespace Lf
open PySem PySem.Spec PyProof.Rows L2
theorem catA {K : PySem.W.Frag} {H : Hp} {a b : Addr} {xs ys : List V} {Q : VK} (ha : Tp H a xs) (hb : Tp H b ys) (hz : xs.length + ys.length ≤ 100000) (k : ∀ c H', Same H H' → Tp H' c (xs ++ ys) → Q (.ref c) H') : rCatA K (.ref a) (.ref b) H Q := by
  refine ⟨a, b, xs, ys, rfl, rfl, ha.sq, hb.sq, Nat.le_trans hz (by decide), fun e => k b H (Same.refl _) ?_, fun _ e => k a H (Same.refl _) ?_, fun _ _ p hp => k p _ (same_new hp _) (.of upd_same)⟩
  · rw [e]
    exact hb
  · rw [e, List.append_nil]
    exact ha
theorem slA2 {K : PySem.W.Frag} {H : Hp} {a : Addr} {xs : List V} {lo : Option Int} {Q : VK} {σ : L2.St} (h : Tp H a xs) (k : ∀ c H', Same H H' → Tp H' c (cutV xs lo none) → Q (.ref c) H') : tNoPart σ H fun u H3 => rSlA K (.ref a) lo u H3 Q := slA h k
theorem it_pair {g : Addr} {H : Hp} {q : Addr} {x y : V} (h : Tp H q [x, y]) (hx : (isI x).isSome = true) (hy : (isI y).isSome = true) : It1 g H (.ref q) := .inr ⟨q, x, y, rfl, h, hx, hy⟩
theorem th_tup {g : Addr} {H : Hp} {t : Addr} {xs : List V} (h : Tp H t xs) (hi : ∀ y ∈ xs, It1 g H y) (hl : xs.length ≤ 1000) : ThI g H (.ref t) := .inr ⟨t, xs, rfl, h, hi, hl⟩
section
variable {P : Program} {w : World} {K : PySem.W.Frag} {mg : Str → Option Value} {base : Heap}
def spBent : Sp := fun vs H Q _ => ∃ g gl t p n Pa ps a N u prs, vs = [.ref g, .ref t, .ref a, .ref u] ∧ Hd H g gl ∧ PtAt H t p n Pa ps ∧ WebOk p n ps ∧ Tp H a (iv N) ∧ LotN ps.length N ∧ PairsF H u prs ∧ prs.length ≤ 100 ∧ (prs ≠ [] → 0 < ps.length) ∧
  ∀ x H', SB g H H' → Hd H' g gl → ThI g H' x → Q x H'
abbrev N__law_bent : List Str := ["_law_hand_here", "_law_parts", "_law_lot_here", "_law_pairs", "_law_kind", "_law_at", "_law_piece", "_law_times_here", "_law_some", "_law_other", "_law_one"]
theorem sc__law_bent : FnScope N__law_bent ["_law_hand_here", "_law_parts", "_law_lot_here", "_law_pairs"] d__law_bent.scope := ⟨rfl, rfl, rfl, by decide +kernel, rfl, by decide +kernel, by decide +kernel⟩
theorem cl__law_bent (E : Env K mg) : Cl P w K mg base 6 "_law_bent" ["_law_hand_here", "_law_parts", "_law_lot_here", "_law_pairs"] (spBent) := by
  refine Cl.of (k := 5) E 50 44 (d := d__law_bent) rfl rfl rfl rfl rfl sc__law_bent (fun vs H Q E' h => by (repeat obtain ⟨_, h⟩ := h); subst_vars; rfl) (fun _ _ _ _ _ _ us hl => match us, hl with | [_, _, _, _], _ => rfl) (fun f cdv A outer s H vs Q E' hr h => ?_)
  obtain ⟨g, gl, t, p, n, Pa, ps, a, N, u, prs, rfl, hd, pt, wo, ha, hN, hu, hl, hne, q⟩ := h
  refine ⟨_, (pss_cons (ps_set (i := 4) sc__law_bent.nd rfl (Or.inl rfl) (pe_c (cl__law_draw E) (hr.mono (by decide)) rfl (pa_cons (pv 0) (pa_cons pe_int pa_nil))))
    (pss_cons (ps_if (PW.pt (pw_or (pt_cmpR op_lt (pv 4) pe_int (nomark _)) (pw_or1 (pt_cmpR op_eq (pe_callB call_len_seq (by rfl) (E.free 71) PySem.boot_len (pa_cons (pv 3) pa_nil)) pe_int (nomark _)))))
      (pss_one (ps_ret (pe_c (cl__law_another E) (hr.mono (by decide)) rfl (pa_cons (pv 0) (pa_cons (pv 1) (pa_cons (pv 2) (pa_cons (pv 3) pa_nil)))))))
      pss_nil)
    (pss_cons (ps_set (i := 5) sc__law_bent.nd rfl (Or.inl rfl) (pe_c (cl__law_draw E) (hr.mono (by decide)) rfl (pa_cons (pv 0) (pa_cons (pe_callB call_len_seq (by rfl) (E.free 71) PySem.boot_len (pa_cons (pv 3) pa_nil)) pa_nil))))
    (pss_cons (ps_asg (pe_ix ix_tup (pv 3) (pv 5) (fun _ _ => rfl)) (pg_tup rfl (pgs_cons (pg_name (i := 6) sc__law_bent.nd rfl (Or.inl rfl)) (pgs_cons (pg_name (i := 7) sc__law_bent.nd rfl (Or.inl rfl)) pgs_nil))))
    (pss_cons (ps_set (i := 8) sc__law_bent.nd rfl (Or.inl rfl) (pe_lst (pa_cons (pe_tup (pa_cons (pv 6) (pa_cons pe_int pa_nil))) (pa_cons (pe_tup (pa_cons (pv 6) (pa_cons (pe_ix ix_tup (pv 1) pe_int (fun _ _ => rfl)) pa_nil))) (pa_cons (pe_tup (pa_cons (pv 6) (pa_cons (by exact pe_un un_neg pe_int) pa_nil))) (pa_cons (pe_tup (pa_cons (pv 6) (pa_cons pe_bl pa_nil))) (pa_cons (pe_tup (pa_cons (pv 6) pa_nil)) (pa_cons (pe_lst (pa_cons (pv 6) (pa_cons (pv 7) pa_nil))) (pa_cons (pe_tup (pa_cons pe_bl (pa_cons (pv 7) pa_nil))) (pa_cons pe_non pa_nil))))))))))
    (pss_cons (ps_set (i := 9) sc__law_bent.nd rfl (Or.inl rfl) (pe_c (cl__law_draw E) (hr.mono (by decide)) rfl (pa_cons (pv 0) (pa_cons (pe_callB call_len_seq (by rfl) (E.free 71) PySem.boot_len (pa_cons (pe_ix ix_tup (pv 1) pe_int (fun _ _ => rfl)) pa_nil)) pa_nil))))
    (pss_cons (ps_set (i := 10) sc__law_bent.nd rfl (Or.inl rfl) (pe_c (cl__law_any E) (hr.mono (by decide)) rfl (pa_cons (pv 0) (pa_cons (pe_lst (pa_cons (pe_c (cl__law_any E) (hr.mono (by decide)) rfl (pa_cons (pv 0) (pa_cons (pv 8) pa_nil))) (pa_cons (pe_tup (pa_cons (pv 6) (pa_cons (pe_op op_add pe_int (pe_c (cl__law_draw E) (hr.mono (by decide)) rfl (pa_cons (pv 0) (pa_cons (pe_op op_sub (pe_ix ix_tup (pv 1) pe_int (fun _ _ => rfl)) pe_int) pa_nil)))) pa_nil))) (pa_cons (pe_tup (pa_cons (pv 9) (pa_cons (pv 7) pa_nil))) pa_nil)))) pa_nil))))
    (pss_cons (ps_if (pt_cmpR op_lt (pv 4) pe_int (nomark _))
      (pss_one (ps_ret (pe_op op_catA (pe_op op_catA (pe_slice sl_tupA (pv 3) po_none (po_some (pv 5))) (pe_tup (pa_cons (pv 10) pa_nil))) (pe_slice sl_tupA (pv 3) (po_some (pe_op op_add (pv 5) pe_int)) po_none))))
      pss_nil)
    (pss_cons (ps_set (i := 8) sc__law_bent.nd rfl (Or.inl rfl) (pe_lst (pa_cons (pe_op op_catA (pe_slice sl_tupA (pv 3) po_none (po_some (pv 5))) (pe_slice sl_tupA (pv 3) (po_some (pe_op op_add (pv 5) pe_int)) po_none)) (pa_cons (pe_revT (pv 3)) (pa_cons (pe_callTy call_list_of (by rfl) (E.free 77) (by decide +kernel) (pa_cons (pv 3) pa_nil)) (pa_cons (pe_op op_catA (pv 3) (pe_slice sl_tupA (pv 3) (po_some (by exact pe_un un_neg pe_int)) po_none)) (pa_cons (pe_c (cl__law_odd E) (hr.mono (by decide)) rfl (pa_cons (pv 0) (pa_cons (pv 3) pa_nil))) pa_nil)))))))
    (pss_one (ps_ret (pe_c (cl__law_any E) (hr.mono (by decide)) rfl (pa_cons (pv 0) (pa_cons (pv 8) pa_nil)))))))))))))), ?_⟩
  have bd := wo.pr.bd
  have lps := wo.len
  refine seq_by (fun σ' H' => ∃ kd, σ' = [some (.ref g), some (.ref t), some (.ref a), some (.ref u), some (.int kd), none, none, none, none, none, none] ∧ SB g H H' ∧ Hd H' g gl) (fun N' k => ⟨_, rfl, g, gl, 10, rfl, hd, by omega, by omega, fun kd H1 k0 k1 sb1 hd1 => k _ _ ⟨kd, rfl, sb1, hd1⟩⟩) ?_
  rintro σ' H1 ⟨kd, rfl, sb1, hd1⟩
  have hu1 := hd.pairsF sb1 hu
  have pt1 := hd.pt sb1 pt
  have ha1 := hd.tp sb1 ha
  obtain ⟨as, tf1, tp1⟩ := id hu1
  have las := paired_len tp1
  refine seq_by (fun σ' H' => σ' = [some (.ref g), some (.ref t), some (.ref a), some (.ref u), some (.int kd), none, none, none, none, none, none] ∧ H1 = H' ∧ prs ≠ []) (fun N' k => ?_) ?_
  · have fin : spAnother [.ref g, .ref t, .ref a, .ref u] H1 Q E' := ⟨g, gl, t, p, n, Pa, ps, a, N, u, prs, rfl, hd1, pt1, wo, ha1, hN, hu1, hl, fun x H2 sb2 hd2 hx => q x H2 (sb1.trans sb2) hd2 hx⟩
    refine ⟨_, rfl, _, _, rfl, rfl, _, rfl, ?_⟩
    by_cases c1 : kd < 3
    · exact (if_pos (decide_eq_true c1)).mpr (iteT ⟨_, rfl, _, rfl, _, rfl, _, rfl, fin⟩)
    · refine (if_neg (fun z => c1 (of_decide_eq_true z))).mpr ?_
      refine ⟨_, rfl, u, _, rfl, .inr tf1.tp.sq, rfl, _, rfl, ?_⟩
      by_cases c2 : prs = []
      · refine (if_pos ?_).mpr ⟨_, rfl, _, rfl, _, rfl, _, rfl, fin⟩
        rw [dec_vi, List.length_map, las, c2]
        rfl
      · refine (if_neg ?_).mpr (k _ _ ⟨rfl, rfl, c2⟩)
        rw [dec_vi, List.length_map, las]
        intro z
        have := of_decide_eq_true z
        have := List.length_pos_iff.mpr c2
        omega
  rintro σ' H' ⟨rfl, rfl, hpne⟩
  have lpos := List.length_pos_iff.mpr hpne
  have hps := hne hpne
  refine seq_by (fun σ' H' => ∃ at_ : Nat, σ' = [some (.ref g), some (.ref t), some (.ref a), some (.ref u), some (.int kd), some (.int ((at_ : Nat) : Int)), none, none, none, none, none] ∧ SB g H H' ∧ Hd H' g gl ∧ at_ < prs.length) (fun N' k => ?_) ?_
  · refine ⟨_, rfl, _, rfl, u, _, rfl, .inr tf1.tp.sq, g, gl, _, rfl, hd1, by rw [List.length_map]; omega, by rw [List.length_map]; omega, fun r H2 r0 r1 sb2 hd2 => ?_⟩
    rw [List.length_map] at r1
    exact k _ _ ⟨r.toNat, by rw [show ((r.toNat : Nat) : Int) = r by omega]; rfl, sb1.trans sb2, hd2, by omega⟩
  rintro σ' H2 ⟨at_, rfl, sb2, hd2, hat⟩
  clear tf1 tp1 hu1 pt1 ha1 sb1 las as
  have hu2 := hd.pairsF sb2 hu
  have pt2 := hd.pt sb2 pt
  obtain ⟨as, tf2, tp2⟩ := id hu2
  have las := paired_len tp2
  refine seq_by (fun σ' H' => ∃ pc tm : Int, σ' = [some (.ref g), some (.ref t), some (.ref a), some (.ref u), some (.int kd), some (.int ((at_ : Nat) : Int)), some (.int pc), some (.int tm), none, none, none] ∧ H2 = H') (fun N' k => ?_) ?_
  · obtain ⟨b, hb1, hb2⟩ := paired_get' tp2 (getD_at (d := ((0 : Int), (0 : Int))) hat)
    have eb : (as.map V.ref)[at_]? = some (.ref b) := by rw [List.getElem?_map, hb1]; rfl
    exact ⟨_, rfl, _, rfl, u, _, _, _, rfl, rfl, tf2.tp.sq, atI_nat eb, g_pairS hb2.sq (k _ _ ⟨_, _, rfl, rfl⟩)⟩
  rintro σ' H' ⟨pc, tm, rfl, rfl⟩
  -- some
  refine seq_by (fun σ' H' => ∃ L xs, σ' = [some (.ref g), some (.ref t), some (.ref a), some (.ref u), some (.int kd), some (.int ((at_ : Nat) : Int)), some (.int pc), some (.int tm), some (.ref L), none, none] ∧ Same H2 H' ∧ H2 L = none ∧ H' L = some (.lst xs) ∧ xs ≠ [] ∧ xs.length ≤ 100 ∧ ∀ x ∈ xs, It1 g H' x) (fun N' k => ?_) ?_
  · refine ⟨_, rfl, (by show 2 ≤ sizeLine; decide), fun p1 h1 => ?_⟩
    have s1 := same_new h1 (.tup [.int pc, .int 0])
    refine ⟨_, rfl, _, rfl, t, _, _, _, rfl, rfl, (pt2.tp.same s1).sq, atI_nat (j := 0) rfl, (by show 2 ≤ sizeLine; decide), fun p2 h2 => ⟨_, rfl, 1, rfl, (by show 2 ≤ sizeLine; decide), fun p3 h3 => ⟨_, rfl, (by show 2 ≤ sizeLine; decide), fun p4 h4 => ⟨_, rfl, (by show 1 ≤ sizeLine; decide), fun p5 h5 => ⟨_, rfl, _, rfl, (by show 2 ≤ sizeLine; decide), fun p6 h6 => ⟨_, rfl, (by show 2 ≤ sizeLine; decide), fun p7 h7 => ⟨(by show 8 ≤ sizeLine; decide), fun L hL => ?_⟩⟩⟩⟩⟩⟩⟩
    have s2 := same_new h2 (.tup [.int pc, .int p])
    have s3 := same_new h3 (.tup [.int pc, .int (-1)])
    have s4 := same_new h4 (.tup [.int pc, .bl true])
    have s5 := same_new h5 (.tup [.int pc])
    have s6 := same_new h6 (.lst [.int pc, .int tm])
    have s7 := same_new h7 (.tup [.bl true, .int tm])
    have s8 := same_new hL (.lst [.ref p1, .ref p2, .ref p3, .ref p4, .ref p5, .ref p6, .ref p7, .non])
    have b7 := s8
    have b6 := s7.trans b7
    have b5 := s6.trans b6
    have b4 := s5.trans b5
    have b3 := s4.trans b4
    have b2 := s3.trans b3
    have b1 := s2.trans b2
    have t5 := (((s1.trans s2).trans s3).trans s4).trans s5
    have t7 := (t5.trans s6).trans s7
    refine k _ _ ⟨L, _, rfl, t7.trans s8, t7.free hL, upd_same, by simp, by show 8 ≤ 100; omega, fun x hx => ?_⟩
    have hx' : x ∈ [V.ref p1, .ref p2, .ref p3, .ref p4, .ref p5, .ref p6, .ref p7, .non] := hx
    simp only [List.mem_cons, List.not_mem_nil, or_false] at hx'
    rcases hx' with rfl | rfl | rfl | rfl | rfl | rfl | rfl | rfl
    · exact it_pair ((Tp.of upd_same).same b1) rfl rfl
    · exact it_pair ((Tp.of upd_same).same b2) rfl rfl
    · exact it_pair ((Tp.of upd_same).same b3) rfl rfl
    · exact it_pair ((Tp.of upd_same).same b4) rfl rfl
    · exact .inl ⟨.inr ⟨p5, [.int pc], rfl, (Tp.of upd_same).same b5, rfl⟩, fun z => hd2.ne ((((s1.trans s2).trans s3).trans s4).free h5) (V.ref.inj z)⟩
    · exact .inl ⟨.inl ⟨(nt_lst upd_same).same b6, rfl⟩, fun z => hd2.ne (t5.free h6) (V.ref.inj z)⟩
    · exact it_pair ((Tp.of upd_same).same b7) rfl rfl
    · exact .inl ⟨.inl ⟨nt_non, rfl⟩, fun z => nomatch z⟩
  rintro σ' H3 ⟨L, xs, rfl, s3, hL, eL, xne, lx, hxs⟩
  have hd3 := hd2.same s3
  have nL := hd2.ne hL
  have pt3 := pt2.same s3
  -- other
  refine seq_by (fun σ' H' => ∃ ot, σ' = [some (.ref g), some (.ref t), some (.ref a), some (.ref u), some (.int kd), some (.int ((at_ : Nat) : Int)), some (.int pc), some (.int tm), some (.ref L), some (.int ot), none] ∧ SB g H3 H' ∧ Hd H' g gl) (fun N' k => ?_) ?_
  · obtain ⟨pas, g1, g2⟩ := pt3.pcs
    have lpas := paired_len g2
    exact ⟨_, rfl, _, rfl, t, _, _, _, rfl, rfl, pt3.tp.sq, atI_nat (j := 2) rfl, Pa, _, rfl, .inr g1.sq, g, gl, _, rfl, hd3, by rw [List.length_map]; omega, by rw [List.length_map]; omega, fun r H4 r0 r1 sb4 hd4 => k _ _ ⟨r, rfl, sb4, hd4⟩⟩
  rintro σ' H4 ⟨ot, rfl, sb4, hd4⟩
  have eL4 := sb4 _ _ nL eL
  have pt4 := hd3.pt sb4 pt3
  -- one
  refine seq_by (fun σ' H' => ∃ one, σ' = [some (.ref g), some (.ref t), some (.ref a), some (.ref u), some (.int kd), some (.int ((at_ : Nat) : Int)), some (.int pc), some (.int tm), some (.ref L), some (.int ot), some one] ∧ SB g H4 H' ∧ Hd H' g gl ∧ It1 g H' one) (fun N' k => ?_) ?_
  · refine ⟨_, rfl, _, rfl, _, rfl, g, gl, L, xs, rfl, hd4, nL, eL4, xne, by omega, fun x H5 hx sb5 hd5 => ?_⟩
    have ix5 := hd3.it1 (sb4.trans sb5) (hxs x hx)
    refine ⟨_, rfl, _, rfl, _, rfl, t, _, _, _, rfl, rfl, (hd4.pt sb5 pt4).tp.sq, atI_nat (j := 0) rfl, _, _, rfl, rfl, g, gl, p - 1, rfl, hd5, by omega, by omega, fun d H6 d0 d1 sb6 hd6 => ⟨_, _, rfl, rfl, (by show 2 ≤ sizeLine; decide), fun q1 hq1 => ⟨_, rfl, _, rfl, (by show 2 ≤ sizeLine; decide), fun q2 hq2 => ⟨(by show 3 ≤ sizeLine; decide), fun L2 hL2 => ?_⟩⟩⟩⟩
    have s7 := same_new hq1 (.tup [.int pc, .int (1 + d)])
    have s8 := same_new hq2 (.tup [.int ot, .int tm])
    have s9 := same_new hL2 (.lst [x, .ref q1, .ref q2])
    have ix9 : It1 g _ x := (((hd5.it1 sb6 ix5).same s7).same s8).same s9
    have i1 : It1 g _ (.ref q1) := it_pair (((Tp.of upd_same).same s8).same s9) rfl rfl
    have i2 : It1 g _ (.ref q2) := it_pair ((Tp.of upd_same).same s9) rfl rfl
    have hd8 := (hd6.same s7).same s8
    refine ⟨g, gl, L2, _, rfl, hd8.same s9, hd8.ne hL2, upd_same, by simp, by show 3 ≤ 1000; omega, fun y H10 hy sb10 hd10 => ?_⟩
    have hy' : y ∈ [x, .ref q1, .ref q2] := hy
    refine k _ _ ⟨y, rfl, ((((sb5.trans sb6).trans (Same.sb s7)).trans (Same.sb s8)).trans (Same.sb s9)).trans sb10, hd10, (hd8.same s9).it1 sb10 ?_⟩
    simp only [List.mem_cons, List.not_mem_nil, or_false] at hy'
    rcases hy' with rfl | rfl | rfl
    · exact ix9
    · exact i1
    · exact i2
  rintro σ' H5 ⟨one, rfl, sb5, hd5, hone⟩
  have sb25 : SB g H2 H5 := ((Same.sb s3).trans sb4).trans sb5
  have sbA : SB g H H5 := sb2.trans sb25
  have hu5 := hd2.pairsF sb25 hu2
  clear tf2 tp2 las as hu2 pt2 eL eL4 hxs s3 sb4 sb5
  obtain ⟨as, tf5, tp5⟩ := id hu5
  have las := paired_len tp5
  have lm : (as.map V.ref).length = prs.length := by rw [List.length_map, las]
  have its : ∀ y ∈ as.map V.ref, It1 g H5 y := pairs_items tp5
  have ecut1 : cutV (as.map V.ref) none (some ((at_ : Nat) : Int)) = (as.map V.ref).take at_ := cutV_take _ (by omega)
  have ecut2 : cutV (as.map V.ref) (some (((at_ : Nat) : Int) + 1)) none = (as.map V.ref).drop (at_ + 1) := cutV_drop (m := at_ + 1) _ (by omega)
  refine seq_by (fun σ' H' => σ' = [some (.ref g), some (.ref t), some (.ref a), some (.ref u), some (.int kd), some (.int ((at_ : Nat) : Int)), some (.int pc), some (.int tm), some (.ref L), some (.int ot), some one] ∧ H5 = H') (fun N' k => ?_) ?_
  · refine ⟨_, rfl, _, _, rfl, rfl, _, rfl, ?_⟩
    by_cases c1 : kd < 7
    · refine (if_pos (decide_eq_true c1)).mpr ?_
      refine ⟨_, rfl, _, rfl, ((at_ : Nat) : Int), rfl, slA tf5.tp fun c1 H6 s6 hc1 => ?_⟩
      rw [ecut1] at hc1
      refine ⟨_, rfl, (by show 1 ≤ sizeLine; decide), fun T hT => ?_⟩
      have s7 := same_new hT (.tup [one])
      refine catA (hc1.same s7) (.of upd_same) (by rw [List.length_take]; show _ + 1 ≤ 100000; omega) fun c2 H8 s8 hc2 => ?_
      have s58 := (s6.trans s7).trans s8
      refine ⟨_, rfl, _, rfl, _, _, rfl, rfl, _, rfl, slA2 (tf5.tp.same s58) fun c3 H9 s9 hc3 => ?_⟩
      rw [ecut2] at hc3
      refine catA (hc2.same s9) hc3 (by rw [List.length_append, List.length_take, List.length_drop]; show _ + 1 + _ ≤ 100000; omega) fun c4 H10 s10 hc4 => ?_
      have s5A := (s58.trans s9).trans s10
      refine q _ _ (sbA.trans (Same.sb s5A)) (hd5.same s5A) (th_tup hc4 (fun y hy => ?_) ?_)
      · rcases List.mem_append.mp hy with z | z
        · rcases List.mem_append.mp z with z | z
          · exact (its y (List.mem_of_mem_take z)).same s5A
          · rw [List.mem_singleton.mp z]
            exact hone.same s5A
        · exact (its y (List.mem_of_mem_drop z)).same s5A
      · rw [List.length_append, List.length_append, List.length_take, List.length_drop]
        show _ + 1 + _ ≤ 1000
        omega
    · exact (if_neg (fun z => c1 (of_decide_eq_true z))).mpr (k _ _ ⟨rfl, rfl⟩)
  rintro σ' H' ⟨rfl, rfl⟩
  refine seq_by (fun σ' H' => ∃ L2 ys, σ' = [some (.ref g), some (.ref t), some (.ref a), some (.ref u), some (.int kd), some (.int ((at_ : Nat) : Int)), some (.int pc), some (.int tm), some (.ref L2), some (.int ot), some one] ∧ SB g H5 H' ∧ Hd H' g gl ∧ L2 ≠ g ∧ H' L2 = some (.lst ys) ∧ ys ≠ [] ∧ ys.length ≤ 100 ∧ ∀ y ∈ ys, ThI g H' y) (fun N' k => ?_) ?_
  · refine ⟨_, rfl, _, rfl, ((at_ : Nat) : Int), rfl, slA tf5.tp fun c1 H6 s6 hc1 => ?_⟩
    rw [ecut1] at hc1
    refine ⟨_, rfl, _, rfl, _, _, rfl, rfl, _, rfl, slA2 (tf5.tp.same s6) fun c2 H7 s7 hc2 => ?_⟩
    rw [ecut2] at hc2
    refine catA (hc1.same s7) hc2 (by rw [List.length_take, List.length_drop]; omega) fun c3 H8 s8 hc3 => ?_
    have s58 := (s6.trans s7).trans s8
    have x1 : ThI g H8 (.ref c3) := th_tup hc3 (fun y hy => by
      rcases List.mem_append.mp hy with z | z
      · exact (its y (List.mem_of_mem_take z)).same s58
      · exact (its y (List.mem_of_mem_drop z)).same s58) (by rw [List.length_append, List.length_take, List.length_drop]; omega)
    refine ⟨_, rfl, u, _, rfl, (tf5.tp.same s58).sq, fun c4 h4 => ?_⟩
    have s9 := same_new h4 (.tup (as.map V.ref).reverse)
    have x2 : ThI g _ (.ref c4) := th_tup (.of upd_same) (fun y hy => ((its y (List.mem_reverse.mp hy)).same s58).same s9) (by rw [List.length_reverse]; omega)
    have s59 := s58.trans s9
    refine ⟨_, rfl, u, _, rfl, .inr (tf5.tp.same s59).sq, fun l5 h5 => ?_⟩
    have s10 := same_new h5 (.lst (as.map V.ref))
    have hd9 := hd5.same s59
    have x3 : ThI g (upd (upd H8 c4 (.tup (as.map V.ref).reverse)) l5 (.lst (as.map V.ref))) (.ref l5) := .inl ⟨nt_lst upd_same, fun z => hd9.ne h5 (V.ref.inj z)⟩
    have s5A := s59.trans s10
    have y1 := (x1.same s9).same s10
    have y2 := x2.same s10
    generalize upd (upd H8 c4 (.tup (as.map V.ref).reverse)) l5 (.lst (as.map V.ref)) = HA at s10 x3 s5A y1 y2 ⊢
    clear x1 x2
    refine ⟨_, rfl, _, rfl, 1, rfl, _, rfl, slA2 (tf5.tp.same s5A) fun c6 HB sB hc6 => ?_⟩
    have s5B := s5A.trans sB
    refine catA (tf5.tp.same s5B) hc6 (by have := cutV_length (as.map V.ref) (some (-1)) none; omega) fun c7 HC sC hc7 => ?_
    have s5C := s5B.trans sC
    have mem_cut : ∀ y ∈ cutV (as.map V.ref) (some (-1)) none, y ∈ as.map V.ref := fun y hy => by
      unfold cutV at hy
      exact List.mem_of_mem_drop (List.mem_of_mem_take hy)
    have y4 : ThI g HC (.ref c7) := th_tup hc7 (fun y hy => by
      rcases List.mem_append.mp hy with z | z
      · exact (its y z).same s5C
      · exact (its y (mem_cut y z)).same s5C) (by rw [List.length_append]; have := cutV_length (as.map V.ref) (some (-1)) none; omega)
    have sAC := sB.trans sC
    have hdC := hd5.same s5C
    refine ⟨_, rfl, _, rfl, g, gl, .ref u, rfl, hdC, (hu5.same s5C).at_.th (by omega), fun z HD sbD hdD hz => ⟨(by show 5 ≤ sizeLine; decide), fun L2 hL2 => ?_⟩⟩
    have sE := same_new hL2 (.lst [.ref c3, .ref c4, .ref l5, .ref c7, z])
    refine k _ _ ⟨L2, _, rfl, ((Same.sb s5C).trans sbD).trans (Same.sb sE), hdD.same sE, hdD.ne hL2, upd_same, by simp, by show 5 ≤ 100; omega, fun y hy => ?_⟩
    have hy' : y ∈ [V.ref c3, .ref c4, .ref l5, .ref c7, z] := hy
    simp only [List.mem_cons, List.not_mem_nil, or_false] at hy'
    rcases hy' with rfl | rfl | rfl | rfl | rfl
    · exact (hdC.thI sbD (y1.same sAC)).same sE
    · exact (hdC.thI sbD (y2.same sAC)).same sE
    · exact (hdC.thI sbD (x3.same sAC)).same sE
    · exact (hdC.thI sbD y4).same sE
    · exact hz.same sE
  rintro σ' H6 ⟨L2, ys, rfl, sb6, hd6, nL2, eL2, yne, ly, hys⟩
  exact ⟨_, rfl, _, rfl, g, gl, L2, ys, rfl, hd6, nL2, eL2, yne, by omega, fun x H7 hx sb7 hd7 => q x H7 ((sbA.trans sb6).trans sb7) hd7 (hd6.thI sb7 (hys x hx))⟩
end
end Lf
/-! A told reading is a reading. -/
namespace Lf
open PySem PySem.Spec PyProof.Rows L2
def sumL (L : List (List Int × Int)) (j : Nat) : Int := match L with
  | [] => 0
  | e :: r => e.2 * e.1.getD j 0 + sumL r j
theorem addT_at {p t : Int} {row oth : List Int} {n j : Nat} (h1 : row.length = n) (h2 : oth.length = n) (hj : j < n) : (addT p row t oth).getD j 0 = (row.getD j 0 + t * oth.getD j 0) % p := by
  have c := addT_get (p := p) (t := t) (getD_at (d := 0) (show j < row.length by omega)) (getD_at (d := 0) (show j < oth.length by omega))
  rw [List.getD_eq_getElem?_getD, c]
  rfl
theorem fold_at {p : Int} {w : Nat} (hp : 0 < p) : ∀ {L : List (List Int × Int)} {acc : List Int}, Vec p w acc → (∀ e ∈ L, e.1.length = w) → Vec p w (L.foldl (fun acc e => addT p acc e.2 e.1) acc) ∧ ∀ j < w, p ∣ (L.foldl (fun acc e => addT p acc e.2 e.1) acc).getD j 0 - (acc.getD j 0 + sumL L j)
  | [], acc, h, _ => ⟨h, fun j _ => ⟨0, by show acc.getD j 0 - (acc.getD j 0 + 0) = p * 0; omega⟩⟩
  | e :: r, acc, h, hl => by
    have le := hl e List.mem_cons_self
    have hv : Vec p w (addT p acc e.2 e.1) := ⟨by rw [addT_length (by rw [h.ln, le]), h.ln], addT_bd hp⟩
    have ih := fold_at hp (L := r) hv fun x hx => hl x (List.mem_cons_of_mem _ hx)
    refine ⟨ih.1, fun j hj => ?_⟩
    obtain ⟨a, ha⟩ := ih.2 j hj
    rw [addT_at h.ln le hj] at ha
    obtain ⟨b, hb⟩ := emod_dvd p (acc.getD j 0 + e.2 * e.1.getD j 0)
    refine ⟨a - b, ?_⟩
    show (r.foldl (fun acc e => addT p acc e.2 e.1) (addT p acc e.2 e.1)).getD j 0 - (acc.getD j 0 + (e.2 * e.1.getD j 0 + sumL r j)) = p * (a - b)
    grind
theorem vec_ext {p : Int} {n : Nat} {v w : List Int} (hv : Vec p n v) (hw : Vec p n w) (h : ∀ j < n, p ∣ v.getD j 0 - w.getD j 0) : v = w := by
  refine List.ext_getElem? fun j => ?_
  by_cases c : j < n
  · rw [getD_at (d := 0) (by rw [hv.ln]; exact c), getD_at (d := 0) (by rw [hw.ln]; exact c)]
    have a := hv.at_ c
    have b := hw.at_ c
    obtain ⟨k, hk⟩ := h j c
    by_cases d : w.getD j 0 ≤ v.getD j 0
    · have := dvd_bd (p := p) (x := v.getD j 0 - w.getD j 0) ⟨k, hk⟩ (by omega) (by omega)
      rw [show v.getD j 0 = w.getD j 0 by omega]
    · have := dvd_bd (p := p) (x := w.getD j 0 - v.getD j 0) ⟨-k, by grind⟩ (by omega) (by omega)
      rw [show v.getD j 0 = w.getD j 0 by omega]
  · rw [List.getElem?_eq_none (by rw [hv.ln]; omega), List.getElem?_eq_none (by rw [hw.ln]; omega)]
theorem sum_prs {ps : List (List Int × Int)} (j : Nat) : ∀ {N X : List Int}, X.length = N.length → sumL ((sumsOf ps ((prsOf N X).map (·.1))).zip ((prsOf N X).map (·.2))) j = lc (fun k => X.getD k 0) (sumsOf ps N) j
  | [], [], _ => rfl
  | n :: N, x :: X, h => by
    have ih := sum_prs (ps := ps) j (N := N) (X := X) (by simpa using h)
    have e : lc (fun k => (x :: X).getD k 0) (sumsOf ps (n :: N)) j = x * ((ps.getD n.toNat ([], 0)).1).getD j 0 + lc (fun k => X.getD k 0) (sumsOf ps N) j := rfl
    rw [e]
    by_cases c : x = 0
    · have e2 : prsOf (n :: N) (x :: X) = prsOf N X := by
        unfold prsOf
        rw [List.zip_cons_cons, List.filter_cons_of_neg (by simpa using c)]
      rw [e2, ih, c]
      simp
    · have e2 : prsOf (n :: N) (x :: X) = (n, x) :: prsOf N X := by
        unfold prsOf
        rw [List.zip_cons_cons, List.filter_cons_of_pos (by simpa using c)]
      rw [e2, ← ih]
      rfl
theorem prs_fst {N X : List Int} (h : X.length = N.length) : ((prsOf N X).map (·.1)).Sublist N := by
  have e : (N.zip X).map (·.1) = N := by
    rw [List.map_fst_zip (by omega)]
  have := (List.filter_sublist (p := fun e : Int × Int => decide (e.2 ≠ 0)) (l := N.zip X)).map (·.1)
  rw [e] at this
  exact this
theorem prs_mem {N X : List Int} {e : Int × Int} (h : e ∈ prsOf N X) : e.1 ∈ N ∧ e.2 ∈ X ∧ e.2 ≠ 0 := by
  unfold prsOf at h
  obtain ⟨h1, h2⟩ := List.mem_filter.mp h
  have := List.of_mem_zip (a := e.1) (b := e.2) h1
  exact ⟨this.1, this.2, by simpa using h2⟩
def vP (e : Int × Int) : V × V := (.int e.1, .int e.2)
theorem rd2_true {p n v : Int} {ps : List (List Int × Int)} {N X : List Int} (wo : WebOk p n ps) (hN : LotN ps.length N) (lX : X.length = N.length) (sol : Sol p n.toNat (sumsOf ps N) (fun j => (unitV n v).getD j 0) fun k => X.getD k 0) :
    rd2 p n ps N v ((prsOf N X).map vP) = true := by
  have bd := wo.pr.bd
  have sub := prs_fst lX
  have e1 : ((prsOf N X).map vP).map (·.1) = iv ((prsOf N X).map (·.1)) := by
    unfold iv
    rw [List.map_map, List.map_map]
    rfl
  have e2 : (((prsOf N X).map vP).map fun e => toI e.1) = (prsOf N X).map (·.1) := by
    rw [List.map_map]
    rfl
  have e3 : (((prsOf N X).map vP).map fun e => toI e.2) = (prsOf N X).map (·.2) := by
    rw [List.map_map]
    rfl
  have lot : LotN ps.length ((prsOf N X).map (·.1)) := ⟨fun y hy => hN.bd y (sub.subset hy), hN.asc.sublist sub⟩
  have bX : ∀ x ∈ X, 0 ≤ x ∧ x < p := fun x hx => by
    obtain ⟨k, hk, rfl⟩ := List.mem_iff_getElem.mp hx
    have := sol.bd k (by rw [sumsOf_len]; omega)
    rw [List.getD_eq_getElem?_getD, List.getElem?_eq_getElem hk] at this
    exact this
  unfold rd2
  rw [e1, e2, e3, lot.lotB, Bool.true_and, Bool.and_eq_true, Bool.and_eq_true]
  refine ⟨List.all_eq_true.mpr fun e he => ?_, List.all_eq_true.mpr fun e he => ?_, ?_⟩
  · obtain ⟨e', h1, rfl⟩ := List.mem_map.mp he
    show inV (.int e'.1) (iv N) = true
    rw [inV_iv]
    exact decide_eq_true (prs_mem h1).1
  · obtain ⟨e', h1, rfl⟩ := List.mem_map.mp he
    have h2 := prs_mem h1
    have h3 := bX _ h2.2.1
    show (some (decide (1 ≤ e'.2) && decide (e'.2 ≤ p - 1)) == some true) = true
    rw [decide_eq_true (by omega), decide_eq_true (by omega)]
    rfl
  · refine decide_eq_true ?_
    have hl : ∀ e ∈ (sumsOf ps ((prsOf N X).map (·.1))).zip ((prsOf N X).map (·.2)), e.1.length = n.toNat := fun e he => by
      exact (wo.vec lot e.1 (List.of_mem_zip (a := e.1) (b := e.2) he).1).ln
    have h0 : Vec p n.toNat (List.replicate n.toNat 0) := ⟨List.length_replicate, fun x hx => by rw [List.eq_of_mem_replicate hx]; omega⟩
    have f := fold_at (p := p) (by omega) (L := (sumsOf ps ((prsOf N X).map (·.1))).zip ((prsOf N X).map (·.2))) h0 hl
    refine vec_ext f.1 (unit_vec wo.pr) fun j hj => ?_
    obtain ⟨a, ha⟩ := f.2 j hj
    have hz : (List.replicate n.toNat (0 : Int)).getD j 0 = 0 := by
      rw [List.getD_eq_getElem?_getD, List.getElem?_replicate]
      split <;> rfl
    rw [hz, sum_prs j lX] at ha
    obtain ⟨b, hb⟩ := sol.eq j hj
    refine ⟨a - b, ?_⟩
    show ((_ : List Int)).getD j 0 - (unitV n v).getD j 0 = _
    have hb' : (unitV n v).getD j 0 - lc (fun k => X.getD k 0) (sumsOf ps N) j = p * b := hb
    unfold addAll
    grind
end Lf
/-! The law. -/
namespace Lf
open PySem PySem.Spec PyProof.Rows L2
theorem Hd.wb {K : PySem.W.Frag} {H H' : Hp} {g gl x Pa : Addr} {p n : Int} {ps : List (List Int × Int)} (h : Hd H g gl) (sb : SB g H H') (r : Wb K H x p n Pa ps) : Wb K H' x p n Pa ps := by
  obtain ⟨_, _, _, _, _, e, _⟩ := id h
  obtain ⟨⟨dx, hx⟩, hp⟩ := r
  exact ⟨⟨dx, sb _ _ (ne_of hx e (by intro q; cases q)) hx⟩, h.pieces sb hp⟩
theorem vpairs_of {H : Hp} {t : Addr} {prs : List (Int × Int)} (h : PairsAt H t prs) (hl : prs.length ≤ 1000) : ThingAt H (.ref t) (.ok (prs.map vP)) := by
  obtain ⟨as, h1, h2⟩ := h
  refine ⟨t, rfl, ⟨as, h1, ?_, fun e he => ?_⟩, by rw [List.length_map]; exact hl⟩
  · clear h1 hl
    induction h2 with
    | nil => exact .nil
    | cons a r ih => exact .cons a ih
  · obtain ⟨e', _, rfl⟩ := List.mem_map.mp he
    exact ⟨rfl, rfl⟩
/-- what is due and told: none, or the same pairs -/
def DueAt (p n : Int) (ps : List (List Int × Int)) (N : List Int) (v : Int) (H : Hp) (due told : V) : Prop :=
  (¬ Span p n.toNat (sumsOf ps N) (fun j => (unitV n v).getD j 0) ∧ due = .non ∧ told = .non) ∨
  (Span p n.toNat (sumsOf ps N) (fun j => (unitV n v).getD j 0) ∧ ∃ X u1 u2, due = .ref u1 ∧ told = .ref u2 ∧ X.length = N.length ∧ Sol p n.toNat (sumsOf ps N) (fun j => (unitV n v).getD j 0) (fun k => X.getD k 0) ∧ PairsF H u1 (prsOf N X) ∧ PairsAt H u2 (prsOf N X))
theorem DueAt.same {p n v : Int} {ps : List (List Int × Int)} {N : List Int} {H H' : Hp} {due told : V} (e : Same H H') (h : DueAt p n ps N v H due told) : DueAt p n ps N v H' due told := by
  rcases h with h | ⟨h, X, u1, u2, h1, h2, h3, h4, h5, h6⟩
  · exact .inl h
  · exact .inr ⟨h, X, u1, u2, h1, h2, h3, h4, h5.same e, h6.same e⟩
theorem Hd.due {p n v : Int} {ps : List (List Int × Int)} {N : List Int} {H H' : Hp} {g gl : Addr} {due told : V} (hd : Hd H g gl) (sb : SB g H H') (h : DueAt p n ps N v H due told) : DueAt p n ps N v H' due told := by
  rcases h with h | ⟨h, X, u1, u2, h1, h2, h3, h4, h5, ⟨as, h6, h7⟩⟩
  · exact .inl h
  · exact .inr ⟨h, X, u1, u2, h1, h2, h3, h4, hd.pairsF sb h5, as, hd.tp sb h6, paired_mono (fun _ _ z => hd.tp sb z) h7⟩
theorem prs_len {N X : List Int} (h : X.length = N.length) : (prsOf N X).length ≤ N.length := by
  have := (prs_fst h).length_le
  rwa [List.length_map] at this
theorem Cl.facts {P : Program} {w : World} {K : PySem.W.Frag} {mg : Str → Option Value} {k : Nat} {ps N : List Str} {sp : Sp} (E : Env K mg) (i j : Nat) {d : He.DefD} (hi : fn[i]? = some d) (hj : fa[j]? = some (.glo d.at_.1)) (h0 : d.at_.2 = none) (h1 : d.dfl = []) (h2 : d.kwd = [])
    (S : FnScope N ps d.scope) (len : ∀ vs H Q E, sp vs H Q E → vs.length = ps.length)
    (hb : ∀ (kV doc pm : Value) (an : Option Addr) (cdv ct : Value) (us : List Value), us.length = ps.length → bindArgs (PySem.W.fnOf d.name d.qual d.params d.body d.scope .none kV doc pm an cdv ct) ⟨us, []⟩ = pure (ps.zip us))
    (hbody : ∀ (base : Heap) (f : Addr) (cdv : Value) (A : Around) (outer : List PySem.Env) (s : Shared) (H : Hp) (vs : List V) (Q : VK) (E : XK), Room k (A.deeper (envOfC d.qual d.scope s.heap.objs.size f cdv)) → sp vs H Q E →
      ∃ t, PSs (cxOf CX0 P w K mg base N d.qual d.scope f cdv A outer s H E).nox d.body t ∧ t { nx := fun _ H' => Q .non H', rt := Q } (start N vs) H) :
    ∃ f fd, mg d.at_.1 = some (.ref f) ∧ (∀ (s : Shared) (us : List Value), us.length = ps.length → BindsTo s fd ⟨us, []⟩ (ps.zip us)) ∧ ∀ base, FnOk P w K mg base CX0 (k + 1) f fd ps sp := by
  obtain ⟨fd, F⟩ := E.says.def_ i hi
  have e1 : d.dvs K = [] := by unfold He.DefD.dvs; rw [h1]; rfl
  have e2 : d.kws K = [] := by unfold He.DefD.kws; rw [h2]; rfl
  rw [e1, e2] at F
  have e3 : He.fAd K d.at_ = He.ga K d.at_.1 := by unfold He.fAd; rw [h0]
  rw [e3] at F
  exact ⟨_, fd, E.glo j hj, FunD.bindsA F hb, fun base => F.ok S len fun cdv A outer s H vs Q E r h => let ⟨t, h1, h2⟩ := hbody base _ cdv A outer s H vs Q E r h; ⟨t, PSs.nox h1, h2⟩⟩
section
variable {P : Program} {w : World} {K : PySem.W.Frag} {mg : Str → Option Value}
def spLaw (K : PySem.W.Frag) : Sp := fun vs H Q _ => ∃ a ns, vs = [.ref a] ∧ SqL K H a (iv ns) ∧ ns.length ≤ 63 ∧ ∀ H', Q (.bl true) H'
abbrev N_law : List Str := ["_law_script", "_law_hand_here", "_law_turn", "_law_parts", "_law_web", "_law_many", "_law_lot_here", "_law_version", "_law_due", "_law_told", "_law_change", "_law_thing", "_law_flag"]
theorem sc_law : FnScope N_law ["_law_script"] d_law.scope := ⟨rfl, rfl, rfl, by decide +kernel, rfl, by decide +kernel, by decide +kernel⟩
theorem facts_law (E : Env K mg) : ∃ f fd, mg "law" = some (.ref f) ∧ (∀ (s : Shared) (us : List Value), us.length = 1 → BindsTo s fd ⟨us, []⟩ ((["_law_script"] : List Str).zip us)) ∧ ∀ base, FnOk P w K mg base CX0 7 f fd ["_law_script"] (spLaw K) := by
  refine Cl.facts (ps := ["_law_script"]) (sp := (spLaw K)) (k := 6) E 51 45 (d := d_law) rfl rfl rfl rfl rfl sc_law (fun vs H Q E' h => by (repeat obtain ⟨_, h⟩ := h); subst_vars; rfl) (fun _ _ _ _ _ _ us hl => match us, hl with | [_], _ => rfl) (fun base f cdv A outer s H vs Q E' hr h => ?_)
  obtain ⟨a, ns, rfl, ha, hl, q⟩ := h
  refine ⟨_, (pss_cons (ps_set (i := 1) sc_law.nd rfl (Or.inl rfl) (pe_c (cl__law_hand E) (hr.mono (by decide)) rfl (pa_cons (pv 0) pa_nil)))
    (pss_cons (ps_for PassesOwn.never rfl (pi_range1 (by rfl) (E.free 74) (pa_cons pe_int pa_nil)) (pg_name (i := 2) sc_law.nd rfl (Or.inl rfl))
      (pss_cons (ps_set (i := 3) sc_law.nd rfl (Or.inl rfl) (pe_c (cl__law_web_parts E) (hr.mono (by decide)) rfl (pa_cons (pv 1) pa_nil)))
      (pss_cons (ps_par (i := 4) (j := 5) (by rfl) sc_law.nd rfl rfl (by decide) rfl rfl (pa_cons (pe_mk (mk_Web E) (hr.mono (by decide)) rfl (pa_cons (pe_ix ix_tup (pv 3) pe_int (fun _ _ => rfl)) (pa_cons (pe_ix ix_tup (pv 3) pe_int (fun _ _ => rfl)) (pa_cons (pe_ix ix_tup (pv 3) pe_int (fun _ _ => rfl)) pa_nil)))) (pa_cons (pe_callB call_len_seq (by rfl) (E.free 71) PySem.boot_len (pa_cons (pe_ix ix_tup (pv 3) pe_int (fun _ _ => rfl)) pa_nil)) pa_nil)) (by rfl))
      (pss_cons (ps_set (i := 6) sc_law.nd rfl (Or.inl rfl) (pe_c (cl__law_any E) (hr.mono (by decide)) rfl (pa_cons (pv 1) (pa_cons (pe_lst (pa_cons (pe_c (cl__law_lot E) (hr.mono (by decide)) rfl (pa_cons (pv 1) (pa_cons (pv 5) pa_nil))) (pa_cons (pe_tupRg rfl (by rfl) (E.free 70) (prg_1 (by rfl) (E.free 74) (pv 5))) (pa_cons (pe_tupRg rfl (by rfl) (E.free 70) (prg_1 (by rfl) (E.free 74) (pv 5))) (pa_cons pe_tup0 pa_nil))))) pa_nil))))
      (pss_cons (ps_set (i := 7) sc_law.nd rfl (Or.inl rfl) (pe_c (cl__law_draw E) (hr.mono (by decide)) rfl (pa_cons (pv 1) (pa_cons (pe_ix ix_tup (pv 3) pe_int (fun _ _ => rfl)) pa_nil))))
      (pss_cons (ps_par (i := 8) (j := 9) (by rfl) sc_law.nd rfl rfl (by decide) rfl rfl (pa_cons (pe_c (cl__law_reading E) (hr.mono (by decide)) rfl (pa_cons (pv 3) (pa_cons (pv 6) (pa_cons (pv 7) pa_nil)))) (pa_cons (pe_c (cl_reading E) (hr.mono (by decide)) rfl (pa_cons (pv 4) (pa_cons (pv 6) (pa_cons (pv 7) pa_nil)))) pa_nil)) (by rfl))
      (pss_cons (ps_if (PW.pt (pw_or (pt_cmpR (op_neD hr.units) (pv 9) (pv 8) (nomark _)) (pw_or1 (PW.pt (pw_and (pt_cmpR op_notN (pv 8) pe_non (nomark _)) (pw_and1 (pt_cmpR op_notBl (pe_c (cl_is_reading E) (hr.mono (by decide)) rfl (pa_cons (pv 4) (pa_cons (pv 6) (pa_cons (pv 7) (pa_cons (pv 9) pa_nil))))) pe_bl (nomark _))))))))
        (pss_one (ps_ret pe_bl))
        pss_nil)
      (pss_cons (ps_if (pt_cmpR op_ne (pe_cmpR op_notN (pv 8) pe_non (nomark _)) (pe_cmpR op_in_seq (pv 7) (pe_c (cl__law_read E) (hr.mono (by decide)) rfl (pa_cons (pv 3) (pa_cons (pv 6) pa_nil))) (by rfl)) (nomark _))
        (pss_one (ps_ret pe_bl))
        pss_nil)
      (pss_one (ps_for PassesOwn.never rfl (pi_range1 (by rfl) (E.free 74) (pa_cons pe_int pa_nil)) (pg_name (i := 10) sc_law.nd rfl (Or.inl rfl))
        (pss_cons (ps_set (i := 11) sc_law.nd rfl (Or.inl rfl) (pe_c (cl__law_bent E) (hr.mono (by decide)) rfl (pa_cons (pv 1) (pa_cons (pv 3) (pa_cons (pv 6) (pa_cons (pe_ifExp (pt_cmpR op_notN (pv 8) pe_non (nomark _)) (pv 8) pe_tup0) pa_nil))))))
        (pss_cons (ps_if (pt_cmpR op_eq (pe_c (cl__law_draw E) (hr.mono (by decide)) rfl (pa_cons (pv 1) (pa_cons pe_int pa_nil))) pe_int (nomark _))
          (pss_one (ps_set (i := 11) sc_law.nd rfl (Or.inl rfl) (pe_c (cl__law_another E) (hr.mono (by decide)) rfl (pa_cons (pv 1) (pa_cons (pv 3) (pa_cons (pv 6) (pa_cons (pe_ifExp (pt_cmpR op_notN (pv 8) pe_non (nomark _)) (pv 8) pe_tup0) pa_nil)))))))
          pss_nil)
        (pss_cons (ps_set (i := 12) sc_law.nd rfl (Or.inl rfl) (pe_c (cl_is_reading E) (hr.mono (by decide)) rfl (pa_cons (pv 4) (pa_cons (pv 6) (pa_cons (pv 7) (pa_cons (pv 11) pa_nil))))))
        (pss_one (ps_if (PW.pt (pw_or (pt_not (pt_val (pe_callB call_isi (by rfl) (E.free 67) (by decide +kernel) (pa_cons (pv 12) (pa_cons (pe_bltn (v := .ty "bool") (by rfl) (E.free 69) (by decide +kernel) rfl) pa_nil))))) (pw_or1 (pt_cmpR op_ne (pv 12) (pe_c (cl__law_is_reading E) (hr.mono (by decide)) rfl (pa_cons (pv 3) (pa_cons (pv 6) (pa_cons (pv 7) (pa_cons (pv 11) pa_nil))))) (nomark _)))))
          (pss_one (ps_ret pe_bl))
          pss_nil)))))))))))))))
    (pss_one (ps_ret pe_bl)))), ?_⟩
  refine seq_by (fun σ' H' => ∃ g gl, σ' = [some (.ref a), some (.ref g), none, none, none, none, none, none, none, none, none, none, none] ∧ Hd H' g gl) (fun N' k => ⟨_, rfl, a, ns, rfl, ha, hl, fun g gl H1 _ _ hd => k _ _ ⟨g, gl, rfl, hd⟩⟩) ?_
  rintro σ' H1 ⟨g, gl, rfl, hd1⟩
  refine seq_by (fun σ' H' => True) (fun N' k => ?_) fun σ' H' _ => q H'
  refine ⟨4, rfl, by omega, by omega, ?_⟩
  refine for_by 4 (fun i σ' H' => ∃ v2 v3 v4 v5 v6 v7 v8 v9 v10 v11 v12, σ' = [some (.ref a), some (.ref g), v2, v3, v4, v5, v6, v7, v8, v9, v10, v11, v12] ∧ Hd H' g gl)
    ⟨_, _, _, _, _, _, _, _, _, _, _, rfl, hd1⟩ (fun i σ H' hi _ => hi) (fun σ H' _ => Nat.le_refl _) ?_ fun σ' H' _ => k _ _ trivial
  rintro i x σ H2 H3 hi ⟨v2, v3, v4, v5, v6, v7, v8, v9, v10, v11, v12, rfl, hd2⟩ ⟨rfl, rfl⟩
  -- parts
  refine seq_by (fun σ' H' => ∃ t p n Pa ps, σ' = [some (.ref a), some (.ref g), some (.int (0 + (i : Int))), some (.ref t), v4, v5, v6, v7, v8, v9, v10, v11, v12] ∧ Hd H' g gl ∧ PtAt H' t p n Pa ps ∧ WebOk p n ps) (fun N' k => ⟨_, rfl, g, gl, rfl, hd2, fun t p n Pa ps H4 sb4 hd4 pt wo => k _ _ ⟨t, p, n, Pa, ps, rfl, hd4, pt, wo⟩⟩) ?_
  rintro σ' H4 ⟨t, p, n, Pa, ps, rfl, hd4, pt4, wo⟩
  have bd := wo.pr.bd
  have lps := wo.len
  have n10 : n.toNat ≤ 10 := by have := wo.n1; omega
  -- the web
  refine seq_by (fun σ' H' => ∃ x, σ' = [some (.ref a), some (.ref g), some (.int (0 + (i : Int))), some (.ref t), some (.ref x), some (.int (ps.length : Int)), v6, v7, v8, v9, v10, v11, v12] ∧ Hd H' g gl ∧ PtAt H' t p n Pa ps ∧ Wb K H' x p n Pa ps) (fun N' k => ?_) ?_
  · refine ⟨_, rfl, t, _, _, _, rfl, rfl, pt4.tp.sq, atI_nat (j := 0) rfl, _, rfl, t, _, _, _, rfl, rfl, pt4.tp.sq, atI_nat (j := 1) rfl, _, rfl, t, _, _, _, rfl, rfl, pt4.tp.sq, atI_nat (j := 2) rfl, fun x dx hx hdx ndx => ?_⟩
    have sx : Same H4 (upd (upd H4 dx (.own x)) x (.ins (He.ga K "Web") dx [])) := fun b o e => by
      rw [upd_ne (ne_of_none e hx), upd_ne (ne_of_none e hdx)]
      exact e
    refine ⟨x, dx, p, n, Pa, ps, rfl, upd_same, pt4.pcs.same sx, wo, fun H5 wat keep => ⟨rfl, ?_⟩⟩
    have s5 : Same H4 H5 := fun b o e => keep b o (ne_of_none e hx) (sx _ _ e)
    have pt5 := pt4.same s5
    obtain ⟨pas, g1, g2⟩ := pt5.pcs
    refine ⟨_, rfl, t, _, _, _, rfl, rfl, pt5.tp.sq, atI_nat (j := 2) rfl, Pa, _, rfl, .inr g1.sq, _, _, rfl, ?_⟩
    rw [List.length_map, paired_len g2]
    exact k _ _ ⟨x, rfl, hd4.same s5, pt5, wat, pt5.pcs⟩
  rintro σ' H5 ⟨x, rfl, hd5, pt5, wb5⟩
  -- the lot
  refine seq_by (fun σ' H' => ∃ lt N, σ' = [some (.ref a), some (.ref g), some (.int (0 + (i : Int))), some (.ref t), some (.ref x), some (.int (ps.length : Int)), some (.ref lt), v7, v8, v9, v10, v11, v12] ∧ SB g H5 H' ∧ Hd H' g gl ∧ Tp H' lt (iv N) ∧ LotN ps.length N) (fun N' k => ?_) ?_
  · refine ⟨_, rfl, _, rfl, _, rfl, g, gl, (ps.length : Int), rfl, hd5, ⟨by omega, by omega⟩, fun c1 N1 H6 sb6 hd6 hc1 hN1 => ?_⟩
    rw [Int.toNat_natCast] at hN1
    have rg : rgV 0 (ps.length : Int) = iv ((List.range ps.length).map fun (k : Nat) => (k : Int)) := by
      unfold rgV iv
      rw [List.map_map]
      have : ((ps.length : Int) - 0).toNat = ps.length := by omega
      rw [this]
      refine List.map_congr_left fun k _ => ?_
      show V.int (0 + (k : Int)) = V.int (k : Int)
      rw [Int.zero_add]
    have lotR : LotN ps.length ((List.range ps.length).map fun (k : Nat) => (k : Int)) := ⟨fun y hy => by
      obtain ⟨k, hk, rfl⟩ := List.mem_map.mp hy
      have := List.mem_range.mp hk
      omega, by
      rw [List.pairwise_map]
      exact List.pairwise_lt_range.imp fun h => by omega⟩
    refine ⟨_, rfl, _, rfl, RgOk.of_le (by omega) (by omega) (by omega) (by omega), fun c2 h2 => ⟨_, rfl, _, rfl, RgOk.of_le (by omega) (by omega) (by omega) (by omega), fun c3 h3 => fun c4 H9 h4 s9 tf4 => ⟨(by show 4 ≤ sizeLine; decide), fun L hL => ?_⟩⟩⟩
    rw [rg] at s9 h3 h4
    have s7 := same_new h2 (.tup (iv ((List.range ps.length).map fun (k : Nat) => (k : Int))))
    have s8 := same_new h3 (.tup (iv ((List.range ps.length).map fun (k : Nat) => (k : Int))))
    have sA := same_new hL (.lst [.ref c1, .ref c2, .ref c3, .ref c4])
    have s6A := ((s7.trans s8).trans s9).trans sA
    have hd9 := hd6.same ((s7.trans s8).trans s9)
    have k1 := hc1.same s6A
    have k2 := (((Tp.of (H := upd H6 c2 (.tup (iv ((List.range ps.length).map fun (k : Nat) => (k : Int))))) upd_same).same s8).same s9).same sA
    have k3 := ((Tp.of (H := upd (upd H6 c2 (.tup (iv ((List.range ps.length).map fun (k : Nat) => (k : Int))))) c3 (.tup (iv ((List.range ps.length).map fun (k : Nat) => (k : Int))))) upd_same).same s9).same sA
    have k4 := tf4.tp.same sA
    refine ⟨g, gl, L, _, rfl, hd9.same sA, hd9.ne hL, upd_same, by simp, by show 4 ≤ 1000; omega, fun y HB hy sbB hdB => ?_⟩
    have hy' : y ∈ [V.ref c1, .ref c2, .ref c3, .ref c4] := hy
    have sb5B := (sb6.trans (Same.sb s6A)).trans sbB
    have hdA := hd9.same sA
    simp only [List.mem_cons, List.not_mem_nil, or_false] at hy'
    rcases hy' with rfl | rfl | rfl | rfl
    · exact k _ _ ⟨c1, N1, rfl, sb5B, hdB, hdA.tp sbB k1, hN1⟩
    · exact k _ _ ⟨c2, _, rfl, sb5B, hdB, hdA.tp sbB k2, lotR⟩
    · exact k _ _ ⟨c3, _, rfl, sb5B, hdB, hdA.tp sbB k3, lotR⟩
    · exact k _ _ ⟨c4, [], rfl, sb5B, hdB, hdA.tp sbB k4, fun y hy => (nomatch hy), .nil⟩
  rintro σ' H6 ⟨lt, N, rfl, sb6, hd6, ht6, hN⟩
  have pt6 := hd5.pt sb6 pt5
  have wb6 := hd5.wb sb6 wb5
  have lN := hN.len
  -- the version
  refine seq_by (fun σ' H' => ∃ v, σ' = [some (.ref a), some (.ref g), some (.int (0 + (i : Int))), some (.ref t), some (.ref x), some (.int (ps.length : Int)), some (.ref lt), some (.int v), v8, v9, v10, v11, v12] ∧ SB g H6 H' ∧ Hd H' g gl ∧ 0 ≤ v ∧ v < n) (fun N' k => ?_) ?_
  · exact ⟨_, rfl, _, rfl, t, _, _, _, rfl, rfl, pt6.tp.sq, atI_nat (j := 1) rfl, g, gl, n, rfl, hd6, by have := wo.n1; omega, by have := wo.n1; omega, fun v H7 h0 h1 sb7 hd7 => k _ _ ⟨v, rfl, sb7, hd7, h0, h1⟩⟩
  rintro σ' H7 ⟨v, rfl, sb7, hd7, hv0, hv1⟩
  have pt7 := hd6.pt sb7 pt6
  have wb7 := hd6.wb sb7 wb6
  have ht7 := hd6.tp sb7 ht6
  -- due and told
  refine seq_by (fun σ' H' => ∃ due told, σ' = [some (.ref a), some (.ref g), some (.int (0 + (i : Int))), some (.ref t), some (.ref x), some (.int (ps.length : Int)), some (.ref lt), some (.int v), some due, some told, v10, v11, v12] ∧ Same H7 H' ∧ DueAt p n ps N v H' due told) (fun N' k => ?_) ?_
  · refine ⟨_, rfl, _, rfl, _, rfl, t, lt, p, n, Pa, ps, N, v, rfl, pt7, wo, ht7, hN, hv0, hv1, fun H8 s8 => ⟨fun ns => ?_, fun X u1 lX sol hu1 => ?_⟩⟩
    · exact ⟨_, rfl, _, rfl, _, rfl, x, p, n, Pa, ps, lt, N, v, rfl, wb7.same s8, wo, ht7.same s8, hN, hv0, hv1, fun H9 s9 => ⟨fun _ => ⟨_, _, rfl, k _ _ ⟨_, _, rfl, s8.trans s9, .inl ⟨ns, rfl, rfl⟩⟩⟩, fun X u lX sol _ => absurd sol.span ns⟩⟩
    · refine ⟨_, rfl, _, rfl, _, rfl, x, p, n, Pa, ps, lt, N, v, rfl, wb7.same s8, wo, ht7.same s8, hN, hv0, hv1, fun H9 s9 => ⟨fun ns => absurd sol.span ns, fun X2 u2 lX2 sol2 hu2 => ⟨_, _, rfl, k _ _ ⟨_, _, rfl, s8.trans s9, .inr ⟨sol.span, X, u1, u2, rfl, rfl, lX, sol, hu1.same s9, ?_⟩⟩⟩⟩⟩
      have eX : X2 = X := by
        refine List.ext_getElem? fun j => ?_
        by_cases c : j < N.length
        · have := sol2.uniq wo.pr sol j (by rw [sumsOf_len]; exact c)
          rw [getD_at (d := 0) (by omega), getD_at (d := 0) (by omega)]
          exact congrArg some this
        · rw [List.getElem?_eq_none (by omega), List.getElem?_eq_none (by omega)]
      rw [← eX]
      exact hu2
  rintro σ' H8 ⟨due, told, rfl, s8, hdue⟩
  have hd8 := hd7.same s8
  have pt8 := pt7.same s8
  have wb8 := wb7.same s8
  have ht8 := ht7.same s8
  -- the first question
  refine seq_by (fun σ' H' => σ' = [some (.ref a), some (.ref g), some (.int (0 + (i : Int))), some (.ref t), some (.ref x), some (.int (ps.length : Int)), some (.ref lt), some (.int v), some due, some told, v10, v11, v12] ∧ Same H8 H') (fun N' k => ?_) ?_
  · rcases id hdue with ⟨ns, rfl, rfl⟩ | ⟨sp, X, u1, u2, rfl, rfl, lX, sol, hu1, hu2⟩
    · refine ⟨_, rfl, _, rfl, .none, .none, .non, .non, rfl, rfl, _, rfl, iteF ?_⟩
      exact ⟨_, rfl, rfl, _, rfl, iteF (k _ _ ⟨rfl, Same.refl _⟩)⟩
    · have lp := prs_len lX
      refine ⟨_, rfl, _, rfl, neT hu2 hu1.at_ ⟨_, rfl, ?_⟩⟩
      rw [decide_eq_true rfl]
      refine iteF ⟨_, rfl, rfl, _, rfl, iteT ?_⟩
      refine ⟨_, rfl, _, rfl, _, rfl, _, rfl, x, p, n, Pa, ps, lt, N, v, _, _, rfl, wb8, wo, ht8, hN, hv0, hv1, vpairs_of hu2 (by omega), fun H9 s9 => ⟨_, _, rfl, rfl, _, rfl, ?_⟩⟩
      have e1 : thB p n ps N v (.ok ((prsOf N X).map vP)) = true := rd2_true wo hN lX sol
      rw [e1]
      exact iteF (k _ _ ⟨rfl, s9⟩)
  rintro σ' H9 ⟨rfl, s9⟩
  have hd9 := hd8.same s9
  have pt9 := pt8.same s9
  have wb9 := wb8.same s9
  have ht9 := ht8.same s9
  have hdue9 := hdue.same s9
  -- the second
  refine seq_by (fun σ' H' => σ' = [some (.ref a), some (.ref g), some (.int (0 + (i : Int))), some (.ref t), some (.ref x), some (.int (ps.length : Int)), some (.ref lt), some (.int v), some due, some told, v10, v11, v12] ∧ Same H9 H') (fun N' k => ?_) ?_
  · have fin : ∀ (b : Bool), (b = true ↔ Span p n.toNat (sumsOf ps N) fun j => (unitV n v).getD j 0) → ∀ (V' : List Int), (∀ v, 0 ≤ v → v < n → (v ∈ V' ↔ Span p n.toNat (sumsOf ps N) fun j => (unitV n v).getD j 0)) → decide (V.bl b = V.bl (inV (.int v) (iv V'))) = true := fun b hb V' hV => by
      rw [inV_iv]
      refine decide_eq_true (congrArg V.bl ?_)
      have h1 := hV v hv0 hv1
      by_cases c : v ∈ V'
      · rw [decide_eq_true c]
        exact hb.mpr (h1.mp c)
      · rw [decide_eq_false c]
        cases b with
        | false => rfl
        | true => exact absurd (h1.mpr (hb.mp rfl)) c
    rcases id hdue9 with ⟨ns, rfl, rfl⟩ | ⟨sp, X, u1, u2, rfl, rfl, lX, sol, hu1, hu2⟩
    · refine ⟨_, rfl, rfl, _, rfl, _, rfl, _, rfl, t, lt, p, n, Pa, ps, N, rfl, pt9, wo, ht9, hN, fun u V' H10 s10 hut hV => ⟨u, _, rfl, .inr hut.sq, rfl, flat_iv V', rfl, _, rfl, ?_⟩⟩
      have := fin false ⟨(fun z => nomatch z), fun z => absurd z ns⟩ V' hV
      show (if (!decide (V.bl false = V.bl (inV (.int v) (iv V')))) = true then _ else _)
      rw [this]
      exact iteF (k _ _ ⟨rfl, s10⟩)
    · refine ⟨_, rfl, rfl, _, rfl, _, rfl, _, rfl, t, lt, p, n, Pa, ps, N, rfl, pt9, wo, ht9, hN, fun u V' H10 s10 hut hV => ⟨u, _, rfl, .inr hut.sq, rfl, flat_iv V', rfl, _, rfl, ?_⟩⟩
      have := fin true ⟨fun _ => sp, fun _ => rfl⟩ V' hV
      show (if (!decide (V.bl true = V.bl (inV (.int v) (iv V')))) = true then _ else _)
      rw [this]
      exact iteF (k _ _ ⟨rfl, s10⟩)
  rintro σ' H10 ⟨rfl, s10⟩
  have hdA := hd9.same s10
  have ptA := pt9.same s10
  have wbA := wb9.same s10
  have htA := ht9.same s10
  have hdueA := hdue9.same s10
  -- the changes
  refine ⟨5, rfl, by omega, by omega, ?_⟩
  refine for_by 5 (fun i2 σ' H' => ∃ v10 v11 v12, σ' = [some (.ref a), some (.ref g), some (.int (0 + (i : Int))), some (.ref t), some (.ref x), some (.int (ps.length : Int)), some (.ref lt), some (.int v), some due, some told, v10, v11, v12] ∧ SB g H10 H' ∧ Hd H' g gl)
    ⟨_, _, _, rfl, SB.refl, hdA⟩ (fun i σ H' hi _ => hi) (fun σ H' _ => Nat.le_refl _) ?_ fun σ' H' h => ?_
  · rintro i2 xx σ HB0 HB hi2 ⟨v10, v11, v12, rfl, sbB, hdB⟩ ⟨rfl, rfl⟩
    have ptB := hdA.pt sbB ptA
    have wbB := hdA.wb sbB wbA
    have htB := hdA.tp sbB htA
    have hdueB := hdA.due sbB hdueA
    refine seq_by (fun σ' H' => ∃ th, σ' = [some (.ref a), some (.ref g), some (.int (0 + (i : Int))), some (.ref t), some (.ref x), some (.int (ps.length : Int)), some (.ref lt), some (.int v), some due, some told, some (.int (0 + (i2 : Int))), some th, v12] ∧ SB g HB H' ∧ Hd H' g gl ∧ ThI g H' th) (fun N' k => ?_) ?_
    · refine ⟨_, rfl, _, rfl, _, rfl, ?_⟩
      rcases id hdueB with ⟨ns, rfl, rfl⟩ | ⟨sp, X, u1, u2, rfl, rfl, lX, sol, hu1, hu2⟩
      · refine ⟨_, rfl, rfl, _, rfl, iteF fun q0 HQ hq0 sQ tf => ?_⟩
        exact ⟨g, gl, t, p, n, Pa, ps, lt, N, q0, [], rfl, hdB.same sQ, ptB.same sQ, wo, htB.same sQ, hN, ⟨[], tf, .nil⟩, Nat.zero_le _, fun z => absurd rfl z, fun th HD sbD hdD hth => k _ _ ⟨th, rfl, (Same.sb sQ).trans sbD, hdD, hth⟩⟩
      · have lp := prs_len lX
        exact ⟨_, rfl, rfl, _, rfl, iteT ⟨_, rfl, g, gl, t, p, n, Pa, ps, lt, N, u1, prsOf N X, rfl, hdB, ptB, wo, htB, hN, hu1, by omega, fun z => by have := List.length_pos_iff.mpr z; omega, fun th HD sbD hdD hth => k _ _ ⟨th, rfl, sbD, hdD, hth⟩⟩⟩
    rintro σ' HD ⟨th, rfl, sbD, hdD, hth⟩
    have ptD := hdB.pt sbD ptB
    have wbD := hdB.wb sbD wbB
    have htD := hdB.tp sbD htB
    have hdueD := hdB.due sbD hdueB
    refine seq_by (fun σ' H' => ∃ th, σ' = [some (.ref a), some (.ref g), some (.int (0 + (i : Int))), some (.ref t), some (.ref x), some (.int (ps.length : Int)), some (.ref lt), some (.int v), some due, some told, some (.int (0 + (i2 : Int))), some th, v12] ∧ SB g HD H' ∧ Hd H' g gl ∧ ThI g H' th) (fun N' k => ?_) ?_
    · refine ⟨_, rfl, g, gl, 3, rfl, hdD, by omega, by omega, fun d HE0 d0 d1 sbE0 hdE0 => ⟨rfl, _, rfl, ?_⟩⟩
      by_cases c : d = 0
      · refine (if_pos ?_).mpr ?_
        · rw [dec_vi]
          exact decide_eq_true c
        have ptE0 := hdD.pt sbE0 ptD
        have htE0 := hdD.tp sbE0 htD
        have hdueE0 := hdD.due sbE0 hdueD
        refine ⟨_, rfl, _, rfl, _, rfl, ?_⟩
        rcases id hdueE0 with ⟨ns, rfl, rfl⟩ | ⟨sp, X, u1, u2, rfl, rfl, lX, sol, hu1, hu2⟩
        · refine ⟨_, rfl, rfl, _, rfl, iteF fun q0 HQ hq0 sQ tf => ?_⟩
          exact ⟨g, gl, t, p, n, Pa, ps, lt, N, q0, [], rfl, hdE0.same sQ, ptE0.same sQ, wo, htE0.same sQ, hN, ⟨[], tf, .nil⟩, Nat.zero_le _, fun th HD sbD hdD hth => k _ _ ⟨th, rfl, (sbE0.trans (Same.sb sQ)).trans sbD, hdD, hth⟩⟩
        · have lp := prs_len lX
          exact ⟨_, rfl, rfl, _, rfl, iteT ⟨_, rfl, g, gl, t, p, n, Pa, ps, lt, N, u1, prsOf N X, rfl, hdE0, ptE0, wo, htE0, hN, hu1, by omega, fun th HD sbD hdD hth => k _ _ ⟨th, rfl, sbE0.trans sbD, hdD, hth⟩⟩⟩
      · refine (if_neg ?_).mpr ?_
        · rw [dec_vi]
          exact fun z => c (of_decide_eq_true z)
        exact k _ _ ⟨th, rfl, sbE0, hdE0, hdD.thI sbE0 hth⟩
    rintro σ' HE ⟨th2, rfl, sbE, hdE, hth2⟩
    have ptE := hdD.pt sbE ptD
    have wbE := hdD.wb sbE wbD
    have htE := hdD.tp sbE htD
    obtain ⟨thg, hthg⟩ := hth2.at_
    refine seq_by (fun σ' H' => σ' = [some (.ref a), some (.ref g), some (.int (0 + (i : Int))), some (.ref t), some (.ref x), some (.int (ps.length : Int)), some (.ref lt), some (.int v), some due, some told, some (.int (0 + (i2 : Int))), some th2, some (.bl (thB p n ps N v thg))] ∧ Same HE H') (fun N' k => ?_) ?_
    · exact ⟨_, rfl, _, rfl, _, rfl, _, rfl, x, p, n, Pa, ps, lt, N, v, th2, thg, rfl, wbE, wo, htE, hN, hv0, hv1, hthg, fun HF sF => k _ _ ⟨rfl, sF⟩⟩
    rintro σ' HF ⟨rfl, sF⟩
    refine ⟨_, rfl, _, _, _, _, true, rfl, .ty _, .base (.bl _), kit_ty (by decide +kernel), true, rfl, iteF ?_⟩
    refine ⟨_, rfl, _, rfl, _, rfl, _, rfl, _, rfl, t, p, n, Pa, ps, lt, N, v, th2, thg, rfl, ptE.same sF, wo, htE.same sF, hN, hv0, hv1, hthg.same sF, fun HG sG => ⟨rfl, _, rfl, ?_⟩⟩
    have e0 : (!decide (V.bl (thB p n ps N v thg) = V.bl (thB p n ps N v thg))) = false := by rw [decide_eq_true rfl]; rfl
    rw [e0]
    exact iteF ⟨_, _, _, rfl, ((sbB.trans sbD).trans sbE).trans ((Same.sb sF).trans (Same.sb sG)), (hdE.same sF).same sG⟩
  · obtain ⟨v10, v11, v12, rfl, _, hdH⟩ := h
    exact ⟨_, _, _, _, _, _, _, _, _, _, _, rfl, hdH⟩
end
end Lf
set_option maxHeartbeats 0
open PySem PySem.W PySem.Calls PyProof.Rows
theorem PySem.Challenge.cw_lightfirst_k07_whole_readings_holds : PySem.Challenge.rw_lightfirst_k07_whole_readings.Holds := by
  w_on; o_law
  refine HandSHeadRun.head_any (r := Lf.R) (q := view Lf.R.prog [63]) (H := Lf.hk) (ob := Lf.ob) (M := 4000) (loose := Lf.names) (d := HandSHeadRun.topDef Lf.R.prog 63) (kwd := []) Lf.ob_eq
    (by kernel_rfl) (fun s => by kernel_rfl) Lf.run (by kernel_rfl) (by kernel_rfl) (by kernel_rfl) (by rfl) (by first | assumption | decide +kernel) (by decide +kernel) ⟨rfl, rfl, rfl, rfl, rfl, by decide +kernel⟩ ?hw ?hc
  case hw => w_witness2
  case hc =>
    refine L2.walk_ofE (l := PySem.Challenge.rw_lightfirst_k07_whole_readings) (n := 63) (k := 7) (x := "_law_script") (CX := L2.CX0) rfl (by decide) (by kernel_rfl) ⟨rfl, by decide, by decide⟩ ?F (fun _ _ _ _ z => z)
    intro w mg fa h Y G hmg0
    obtain ⟨K, KX, c⟩ := Y
    have hmg : mg ("law" : PySem.Str) = some (.ref fa) := by
      have e : (HandSHeadRun.topDef Lf.R.prog 63).name = ("law" : PySem.Str) := by kernel_rfl
      rw [← e]
      exact hmg0
    obtain ⟨f', fd, hf, hb, hF⟩ := Lf.facts_law (P := (PySem.Challenge.rw_lightfirst_k07_whole_readings).prog) (w := w) (K := K) (mg := mg) ⟨⟨h, KX, G⟩, c⟩
    have ef := hmg.symm.trans hf
    cases ef
    exact ⟨K, fd, Lf.spLaw K, KX, fun s v => hb s [v] rfl, fun H a ns hl _ hS => ⟨a, ns, rfl, hS, hl, fun _ => rfl⟩, fun base _ _ => hF base⟩
