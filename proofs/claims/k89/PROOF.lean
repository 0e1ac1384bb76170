import PyProof.Rows.All
import Wide.All
import OpenK.AllK
import Wide.FinOn
import KE.KStateDown
import KE.KTryMore
import KE.KIsAll
import KE.KSuper
import HandS.Base
import HandS.Call
import HandS.Codes
import HandS.Words
import HandS.Defaults
import HandS.More
import HandS.ClsMeth
import HandS.Head0
import HandS.Head1
import HandS.Head2
import HandS.Head3
import HandS.HeadEnd
import HandS.HeadHook1
import HandS.HeadHook2
import HandS.HeadWalk
import PySem.Challenge.RW_sumsproved_k89_no_such_number_divided
import HandS.ForMost
import HandS.ForExc
import HandS.Wide
import HandS.WideBits
import HandS.Gcd
import HandS.CallSlots
import HandS.IsInst
import HandS.TupAny
import KE.KMathG
import HandS.TryOnly
import HandS.Style
import HandS.ExcSuper
import KE.KExcSuper
import KE.GoesComp
import KE.GoesRaise
import KE.KAsSuite
import HandS.Property
import HandS.OwnEq
import HandS.DictTup
import HandS.ForDict
import HandS.DictComp
import HandS.NamedTupSort
import HandS.Deep
import HandS.SetFor
import KE.KMathGC
import KE.DataFind
import HandS.TryMany
section
set_option Elab.async false
set_option linter.all false
set_option maxRecDepth 100000
set_option maxHeartbeats 4000000
/-! The facts of the top by one kernel run: a Hook of Bools and of functions; the definitions (library alone). -/
namespace Py
open PySem PySem.W PySem.Spec PyProof.Rows L2
abbrev errTl (D : Addr) : List Value := [.ref D, .type "Exception", .type "BaseException", .type "object"]
def refsQ (o : Obj) : List Addr := match o.data with
  | .func fd => He.refV fd.code ++ fd.closure.map (·.2)
  | .cls cd => [cd.ns]
  | .dict es _ => es.toList.flatMap fun e => He.refV e.val
  | .seq its _ => its.toList.flatMap He.refV
  | .fields vs => (match o.cls with
    | .type n => if n == "property" then vs.toList.flatMap He.refV else []
    | _ => [])
  | _ => []
def nxQ (g : Addr → Option Obj) (as : List Addr) : List Addr := as.flatMap fun a => match g a with
  | some o => refsQ o
  | none => []
def asQ1 (g : Addr → Option Obj) (l1 : List Addr) : List Addr := l1 ++ (nxQ g l1 ++ (nxQ g (nxQ g l1) ++ (nxQ g (nxQ g (nxQ g l1)) ++ nxQ g (nxQ g (nxQ g (nxQ g l1))))))
def asQ (g : Addr → Option Obj) : List Addr := [mainGlobals, cStatics] ++ asQ1 g (nxQ g [mainGlobals])
def frQ (g : Addr → Option Obj) : Frag := He.frG g (asQ g)
abbrev VwT := Option (Str × Str × Arguments × FuncBody × Scope × Addr × Addr)
def vw (K : Frag) (a : Addr) : VwT := match K.lookup a with
  | some ⟨_, _, .func fd, _⟩ => some (fd.name, fd.qualname, fd.params, fd.body, fd.scope, fd.globals, fd.builtins)
  | _ => none
structure Fq where
  at_ : Frag → Addr
  name : Str
  qual : Str
  st : Stmt
def Fq.val (d : Fq) : VwT := some (d.name, d.qual, L2.defArgs d.st, .stmts (L2.defBody d.st), L2.defScope d.st, mainGlobals, builtinsNs)
def noV : Value → Bool
  | .none => true
  | _ => false
def plB (K : Frag) (a : Addr) (q : Str) : Bool := match K.lookup a with
  | some ⟨_, _, .func fd, _⟩ => fd.closure.isEmpty && (noV fd.defaults && codeIn K fd.code q)
  | _ => false
def fileB (P : Program) (o : Option Obj) : Bool := match o with
  | some ⟨_, _, .fields vs, _⟩ => (match (vs[2]? : Option Value) with
    | some (.str file _) => (P.main.file : Str) == file
    | _ => false)
  | _ => false
def cellB (o : Option Obj) (C : Addr) : Bool := match o with
  | some ⟨_, _, .cell (some (.ref D)), _⟩ => D == C
  | _ => false
def celB (P : Program) (K : Frag) (a : Addr) (q : Str) (C : Addr) : Bool := match K.lookup a with
  | some ⟨_, _, .func fd, _⟩ => (match fd.closure, fd.code with
    | [(x, cc)], .ref cda => (x == ("__class__" : Str)) && (noV fd.defaults && (noV fd.kwdefaults && (codeIn K (.ref cda) q && (fileB P (K.lookup cda) && cellB (K.lookup cc) C))))
    | _, _ => false)
  | _ => false
def clsB (K : Frag) (C D : Addr) : Bool := match K.lookup C with
  | some ⟨.type t, _, .cls cd, sl⟩ => (t == "type") && (decide (cd.mro = .ref C :: errTl D) && (cd.hasDict && (!cd.hasDel && (match sl.toList with
    | [_, _, _, _, some (.builtin n), _] => n == "Exception.__new__"
    | _ => false))))
  | _ => false
def errB (P : Program) (K : Frag) (C D fI : Addr) (q : Str) : Bool :=
  He.eqO (findIn K (.ref C) "__init__") (some (some (.ref fI))) && (clsB K C D && (He.eqO (alongIn K "__init__" (errTl D)) (some (some (.builtin "Exception.__init__"))) && (He.eqO (nsIn K cStatics "thirdparty.any") (some none) &&
  (decide (subIn K (.ref C) (.type "Exception") = some true) && (decide (mroIn K C (.ref C) = some true) && (He.eqO (findIn K (.ref C) "__setattr__") (some (some (.builtin "object.__setattr__"))) && (decide (typeIn K (.ref fI) = some (.type "function")) &&
  (keepIn K (.ref C) && (decide (subIn K (.ref C) (.type "BaseException") = some true) && (decide (typeIn K (.ref C) = some (.type "type")) && (He.eqO (findIn K (.ref C) "__getattribute__") (some (some (.builtin "BaseException.__getattribute__"))) &&
  (He.eqO (findIn K (.ref C) "__getattr__") (some none) && (hasDictIn K C && (celB P K fI q C && He.eqO (nsIn K mainGlobals "super") (some none)))))))))))))))
def mroB (K : Frag) (C D : Addr) : Bool := match K.lookup C, K.lookup D with
  | some ⟨_, _, .cls c, _⟩, some ⟨_, _, .cls d, _⟩ => decide (c.mro = .ref C :: d.mro)
  | _, _ => false
def supB (P : Program) (K : Frag) (C D fI fD : Addr) (q : Str) : Bool :=
  makesIn K C && (He.eqO (findIn K (.ref C) "__init__") (some (some (.ref fI))) && (isFn K (.ref fI) && (keepIn K (.ref C) && (celB P K fI q C && (mroB K C D && (He.eqO (findIn K (.ref D) "__init__") (some (some (.ref fD))) &&
  (decide (typeIn K (.ref fD) = some (.type "function")) && (fnIn K fD && (He.eqO (nsIn K cStatics "thirdparty.any") (some none) && (decide (mroIn K C (.ref C) = some true) && He.eqO (nsIn K mainGlobals "super") (some none)))))))))))
def gloB (K : Frag) (x : Str) : Bool := He.eqO (nsIn K mainGlobals x) (some (some (.ref (He.ga K x))))
def pfA (K : Frag) (C : Addr) (m : Str) : Addr := match recIn K (He.ma K C m) "property" with
  | some (.ref f :: _) => f
  | _ => 0
def proB (K : Frag) (C : Addr) (m : Str) : Bool := He.eqO (findIn K (.ref C) m) (some (some (.ref (He.ma K C m)))) && (He.eqO (specialIn K (.ref (He.ma K C m)) "__get__") (some (some (.builtin "property.__get__"))) && (decide (takesIn K (.ref (He.ma K C m)) = some true) && (match recIn K (He.ma K C m) "property" with
  | some (.ref _ :: _) => true
  | _ => false)))
def polB (K : Frag) (x : Str) (i j k l : Int) : Bool := gloB K x && (match K.lookup (He.ga K x) with
  | some ⟨.type t1, _, .seq a1 _, _⟩ => (t1 == "tuple") && (match a1.toList with
    | [.ref b] => (match K.lookup b with
      | some ⟨.type t2, _, .seq a2 _, _⟩ => (t2 == "tuple") && (match a2.toList with
        | [.int i' _, .int j' _, .ref c] => decide (i' = i) && (decide (j' = j) && (match K.lookup c with
          | some ⟨.type t3, _, .seq a3 _, _⟩ => (t3 == "tuple") && (match a3.toList with
            | [.int k' _, .int l' _] => decide (k' = k) && decide (l' = l)
            | _ => false)
          | _ => false))
        | _ => false)
      | _ => false)
    | _ => false)
  | _ => false)
def ownB (K : Frag) (C : Addr) : Bool := plainGet K C Str.empty && (hasDictIn K C && (plainOver K C && (He.eqO (findIn K (.ref C) "__setattr__") (some (some (.builtin "object.__setattr__"))) && (He.eqO (findIn K (.ref C) "__class__") (some (some (.builtin "object.__class__"))) &&
  (He.eqO (specialIn K (.builtin "object.__class__") "__get__") (some (some (.builtin "getset_descriptor.__get__"))) && (decide (takesIn K (.builtin "object.__class__") = some true) && decide (mroIn K C (.type "object") = some true)))))))
abbrev AlQ : Type := Bool × List VwT
def obsQ (bs : List (Frag → Bool)) (fs : List Fq) (K : Frag) : AlQ := (bs.all fun b => b K, fs.map fun d => vw K (d.at_ K))
def valQ (fs : List Fq) : AlQ := (true, fs.map Fq.val)
def SaysQ (bs : List (Frag → Bool)) (fs : List Fq) (K : Frag) : Prop := obsQ bs fs K = valQ fs
def hookQ (bs : List (Frag → Bool)) (fs : List Fq) : Hook where
  α := AlQ
  obs := fun s => obsQ bs fs (frQ s.heap.get?)
  val := fun _ => valQ fs
  says := fun _ h => ∃ K : Frag, K.In h ∧ SaysQ bs fs K
  of := fun _ _ e => ⟨_, He.frG_in, e⟩
  keeps := fun _ _ _ ⟨K, hK, c⟩ k => ⟨K, PySem.W.Frag.In.keeps hK k, c⟩
def obQ (bs : List (Frag → Bool)) (fs : List Fq) (s : SharedT) : AlQ := obsQ bs fs (frQ (HandSHeadRun.getT s))
theorem obQ_eq (bs : List (Frag → Bool)) (fs : List Fq) (s : SharedT) : obQ bs fs s = (hookQ bs fs).obs s.abs := by
  have e : HandSHeadRun.getT s = s.abs.heap.get? := funext (HandSHeadRun.getT_eq s)
  unfold obQ
  rw [e] <;> rfl
theorem opt_pair {α β γ : Type} {o : Option α} {f : α → β} {g : α → γ} {a : β} {b : γ} (h1 : o.map f = some a) (h2 : o.map g = some b) : o.map (fun x => (f x, g x)) = some (a, b) := by
  cases o with
  | none => cases h1
  | some x =>
    have e1 : f x = a := Option.some.inj h1
    have e2 : g x = b := Option.some.inj h2
    show some (f x, g x) = _
    rw [e1, e2]
noncomputable def endQ (M : Nat) (p : Program) (w : World) : Option (Shared × SharedT) := HandSHeadRun.wholeF (fun p => HandSHeadRun.stepQ (HandSHeadRun.denQ HandSHeadRun.tabQ) p w) HandSHeadRun.fenceQ M p
def allQ (bs : List (Frag → Bool)) (s : SharedT) : Bool := bs.all fun b => b (frQ (HandSHeadRun.getT s))
theorem run_mk {r : OpenRow} {q : Program} {bs : List (Frag → Bool)} {fs : List Fq} {M : Nat} {loose : List PySem.Str} {w : World}
    (h1 : (endQ M r.prog w).map (fun x => HandSHeadRun.looksF r.prog x.1.heap x.2.abs) = some true)
    (h2 : (endQ M r.prog w).map (fun x => HandSHeadRun.seenQ q loose (importedModules r.prog.main.body) (fun s => xlAt q [] s && recOk r.toRowW.records s) x.2.abs) = some (openGood q loose))
    (h3 : (endQ M r.prog w).map (fun x => allQ bs x.2) = some true)
    (h4 : (endQ M r.prog w).map (fun x => fs.map fun d => vw (frQ (HandSHeadRun.getT x.2)) (d.at_ (frQ (HandSHeadRun.getT x.2)))) = some (fs.map Fq.val)) : HandSHeadRun.RunEqI r q (hookQ bs fs) (obQ bs fs) M loose w :=
  opt_pair h1 (opt_pair h2 (opt_pair h3 h4))
theorem all_app {as bs : List (Frag → Bool)} {α : Type} {o : Option α} {g : α → SharedT} (h1 : o.map (fun x => allQ as (g x)) = some true) (h2 : o.map (fun x => allQ bs (g x)) = some true) : o.map (fun x => allQ (as ++ bs) (g x)) = some true := by
  cases o with
  | none => cases h1
  | some x =>
    have e1 : allQ as (g x) = true := Option.some.inj h1
    have e2 : allQ bs (g x) = true := Option.some.inj h2
    show some (allQ (as ++ bs) (g x)) = _
    unfold allQ at *
    rw [List.all_append, e1, e2]
    rfl

end Py
end
section
set_option Elab.async false
set_option linter.all false
set_option maxRecDepth 100000
set_option maxHeartbeats 0
/-! The top, by one kernel run (printed by mkE.py). -/
namespace K89
open PySem PySem.W PySem.Spec PyProof.Rows L2 Py
def topS (i : Nat) : Stmt := PySem.Challenge.pw_sumsproved_k89_no_such_number_divided.main.body.getD i (.Pass ⟨0, 0, 0, 0⟩)
abbrev st_nu_integer : Stmt := topS 17
abbrev st_nu_gcd : Stmt := topS 18
abbrev st_nu_low : Stmt := topS 19
abbrev st_number : Stmt := topS 20
abbrev st_plus : Stmt := topS 21
abbrev st_nu_power : Stmt := topS 22
abbrev st_sw_step : Stmt := topS 45
abbrev st_sw_power : Stmt := topS 47
abbrev st_pu_three : Stmt := topS 58
abbrev st_pu_form : Stmt := topS 59
abbrev st_pu_forms : Stmt := topS 60
abbrev st_pu_square : Stmt := topS 61
abbrev st_pu_less : Stmt := topS 62
abbrev st_pu_size : Stmt := topS 63
abbrev st_pu_there : Stmt := topS 64
abbrev st_pu_falling : Stmt := topS 65
abbrev st_pu_number : Stmt := topS 66
abbrev st_i2_pair : Stmt := topS 69
abbrev st_i2_fits : Stmt := topS 70
abbrev st_i2_told : Stmt := topS 71
abbrev st_i2_whole : Stmt := topS 72
abbrev st_i2_read : Stmt := topS 73
abbrev st_i2_look : Stmt := topS 74
abbrev st_i2_scaled : Stmt := topS 75
abbrev st_i2_value : Stmt := topS 76
abbrev st_t2_number : Stmt := topS 79
abbrev st_full_term : Stmt := topS 80
abbrev st_rg_pair : Stmt := topS 83
abbrev st_rg_first : Stmt := topS 84
abbrev st_rg_below : Stmt := topS 85
abbrev st_rg_gone : Stmt := topS 86
abbrev st_dg_look : Stmt := topS 92
abbrev st_dg_look_place : Stmt := topS 93
abbrev st_dg_look_prime : Stmt := topS 94
abbrev st_dg_sum : Stmt := topS 95
abbrev st_digit_value : Stmt := topS 96
abbrev st_dg_rest : Stmt := topS 97
abbrev st_dg_table : Stmt := topS 98
abbrev st_dg_most : Stmt := topS 99
abbrev st_digit_mod : Stmt := topS 100
abbrev st_first_divided : Stmt := topS 101
abbrev st_count_undivided : Stmt := topS 102
abbrev st_digit_term : Stmt := topS 103
abbrev st_sm_look_term : Stmt := topS 106
abbrev st_sm_look_kind : Stmt := topS 107
abbrev st_sm_look_there : Stmt := topS 108
abbrev st_sm_look : Stmt := topS 109
abbrev st_sm_sum : Stmt := topS 110
abbrev st_sum_value : Stmt := topS 111
abbrev st__law_stream : Stmt := topS 113
abbrev st__law_next : Stmt := topS 114
abbrev st__law_int : Stmt := topS 115
abbrev st__law_gcd : Stmt := topS 116
abbrev st__law_is_num : Stmt := topS 117
abbrev st__law_pow : Stmt := topS 118
abbrev st__law_digit_sum : Stmt := topS 119
abbrev st__law_divided : Stmt := topS 120
abbrev st__law_first : Stmt := topS 121
abbrev st__law_small_power : Stmt := topS 122
abbrev st__law_counts_ok : Stmt := topS 123
abbrev st__law_first_is : Stmt := topS 124
abbrev st__law_term_ok : Stmt := topS 125
abbrev st__law_refused : Stmt := topS 126
abbrev st__law_refusals_ok : Stmt := topS 127
abbrev st_law : Stmt := topS 128
abbrev st_Step_init : Stmt := L2.inClass (topS 42) 0
abbrev st_Step_eq : Stmt := L2.inClass (topS 42) 1
abbrev st_Pure_init : Stmt := L2.inClass (topS 56) 0
abbrev st_Term2_init : Stmt := L2.inClass (topS 78) 0
abbrev st_Term2_full : Stmt := L2.inClass (topS 78) 1
abbrev st_Range_init : Stmt := L2.inClass (topS 82) 0
abbrev st_Range_ends : Stmt := L2.inClass (topS 82) 1
abbrev st_Plain_init : Stmt := L2.inClass (topS 43) 0
abbrev st0_BadInteger : Stmt := L2.inClass (topS 5) 0
abbrev st0_TooMuch : Stmt := L2.inClass (topS 14) 0
abbrev st0_IsZero : Stmt := L2.inClass (topS 12) 0
abbrev RWq : OpenRow := OpenLaw.row PySem.Challenge.rw_sumsproved_k89_no_such_number_divided
abbrev PP : Program := OpenLaw.prog PySem.Challenge.rw_sumsproved_k89_no_such_number_divided
abbrev qv : Program := view RWq.prog [0, 128]
def nms0 : List PySem.Str := ["_wall", "__name__", "SumError", "BadNumber", "BadInteger", "BadRational", "BadStep", "BadTerm", "BadRange", "BadText", "NotThere", "IsZero", "OtherStep", "TooMuch", "EXPONENT_BOUND", "nu_integer", "nu_gcd", "nu_low", "number", "plus"]
def nms1 : List PySem.Str := ["nu_power", "power", "number_text", "GREAT_PRIME", "in_strip", "in_fits", "in_content", "in_firm", "in_inverse", "in_rest_modulo", "in_apart", "in_rest", "in_common", "in_over", "in_shared", "in_quotient", "in_rational", "STEP_TEXT_BOUND", "Step", "Plain"]
def nms2 : List PySem.Str := ["Base", "sw_step", "sw_at", "sw_power", "sw_whole", "sw_exponents", "sw_digits", "sw_read_base", "sw_read", "FORM_BOUND", "VALUE_BOUND", "Pure", "pu_place", "pu_three", "pu_form", "pu_forms", "pu_square", "pu_less", "pu_size", "pu_there"]
def nms3 : List PySem.Str := ["pu_falling", "pu_number", "POLY2_ONE", "i2_pair", "i2_fits", "i2_told", "i2_whole", "i2_read", "i2_look", "i2_scaled", "i2_value", "Term2", "t2_number", "full_term", "Range", "rg_pair", "rg_first", "rg_below", "rg_gone", "DIGIT_PLACES"]
def nms4 : List PySem.Str := ["DIGIT_POWER", "DIGIT_EXPONENT", "DIGIT_PRIME", "dg_look", "dg_look_place", "dg_look_prime", "dg_sum", "digit_value", "dg_rest", "dg_table", "dg_most", "digit_mod", "first_divided", "count_undivided", "digit_term", "SUMMANDS", "sm_look_term", "sm_look_kind", "sm_look_there", "sm_look"]
def nms5 : List PySem.Str := ["sm_sum", "sum_value", "_law_stream", "_law_next", "_law_int", "_law_gcd", "_law_is_num", "_law_pow", "_law_digit_sum", "_law_divided", "_law_first", "_law_small_power", "_law_counts_ok", "_law_first_is", "_law_term_ok", "_law_refused", "_law_refusals_ok"]
def nms : List PySem.Str := nms0 ++ (nms1 ++ (nms2 ++ (nms3 ++ (nms4 ++ (nms5)))))
def fq_EBadInteger : Fq := ⟨fun K => He.ma K (He.ga K "BadInteger") "__init__", "__init__", "BadInteger.__init__", st0_BadInteger⟩
def fq_ETooMuch : Fq := ⟨fun K => He.ma K (He.ga K "TooMuch") "__init__", "__init__", "TooMuch.__init__", st0_TooMuch⟩
def fq_EIsZero : Fq := ⟨fun K => He.ma K (He.ga K "IsZero") "__init__", "__init__", "IsZero.__init__", st0_IsZero⟩
def fq_nu_integer : Fq := ⟨fun K => He.ga K "nu_integer", "nu_integer", "nu_integer", st_nu_integer⟩
def fq_nu_gcd : Fq := ⟨fun K => He.ga K "nu_gcd", "nu_gcd", "nu_gcd", st_nu_gcd⟩
def fq_nu_low : Fq := ⟨fun K => He.ga K "nu_low", "nu_low", "nu_low", st_nu_low⟩
def fq_number : Fq := ⟨fun K => He.ga K "number", "number", "number", st_number⟩
def fq_plus : Fq := ⟨fun K => He.ga K "plus", "plus", "plus", st_plus⟩
def fq_nu_power : Fq := ⟨fun K => He.ga K "nu_power", "nu_power", "nu_power", st_nu_power⟩
def fq_sw_step : Fq := ⟨fun K => He.ga K "sw_step", "sw_step", "sw_step", st_sw_step⟩
def fq_sw_power : Fq := ⟨fun K => He.ga K "sw_power", "sw_power", "sw_power", st_sw_power⟩
def fq_pu_three : Fq := ⟨fun K => He.ga K "pu_three", "pu_three", "pu_three", st_pu_three⟩
def fq_pu_form : Fq := ⟨fun K => He.ga K "pu_form", "pu_form", "pu_form", st_pu_form⟩
def fq_pu_forms : Fq := ⟨fun K => He.ga K "pu_forms", "pu_forms", "pu_forms", st_pu_forms⟩
def fq_pu_square : Fq := ⟨fun K => He.ga K "pu_square", "pu_square", "pu_square", st_pu_square⟩
def fq_pu_less : Fq := ⟨fun K => He.ga K "pu_less", "pu_less", "pu_less", st_pu_less⟩
def fq_pu_size : Fq := ⟨fun K => He.ga K "pu_size", "pu_size", "pu_size", st_pu_size⟩
def fq_pu_there : Fq := ⟨fun K => He.ga K "pu_there", "pu_there", "pu_there", st_pu_there⟩
def fq_pu_falling : Fq := ⟨fun K => He.ga K "pu_falling", "pu_falling", "pu_falling", st_pu_falling⟩
def fq_pu_number : Fq := ⟨fun K => He.ga K "pu_number", "pu_number", "pu_number", st_pu_number⟩
def fq_i2_pair : Fq := ⟨fun K => He.ga K "i2_pair", "i2_pair", "i2_pair", st_i2_pair⟩
def fq_i2_fits : Fq := ⟨fun K => He.ga K "i2_fits", "i2_fits", "i2_fits", st_i2_fits⟩
def fq_i2_told : Fq := ⟨fun K => He.ga K "i2_told", "i2_told", "i2_told", st_i2_told⟩
def fq_i2_whole : Fq := ⟨fun K => He.ga K "i2_whole", "i2_whole", "i2_whole", st_i2_whole⟩
def fq_i2_read : Fq := ⟨fun K => He.ga K "i2_read", "i2_read", "i2_read", st_i2_read⟩
def fq_i2_look : Fq := ⟨fun K => He.ga K "i2_look", "i2_look", "i2_look", st_i2_look⟩
def fq_i2_scaled : Fq := ⟨fun K => He.ga K "i2_scaled", "i2_scaled", "i2_scaled", st_i2_scaled⟩
def fq_i2_value : Fq := ⟨fun K => He.ga K "i2_value", "i2_value", "i2_value", st_i2_value⟩
def fq_t2_number : Fq := ⟨fun K => He.ga K "t2_number", "t2_number", "t2_number", st_t2_number⟩
def fq_full_term : Fq := ⟨fun K => He.ga K "full_term", "full_term", "full_term", st_full_term⟩
def fq_rg_pair : Fq := ⟨fun K => He.ga K "rg_pair", "rg_pair", "rg_pair", st_rg_pair⟩
def fq_rg_first : Fq := ⟨fun K => He.ga K "rg_first", "rg_first", "rg_first", st_rg_first⟩
def fq_rg_below : Fq := ⟨fun K => He.ga K "rg_below", "rg_below", "rg_below", st_rg_below⟩
def fq_rg_gone : Fq := ⟨fun K => He.ga K "rg_gone", "rg_gone", "rg_gone", st_rg_gone⟩
def fq_dg_look : Fq := ⟨fun K => He.ga K "dg_look", "dg_look", "dg_look", st_dg_look⟩
def fq_dg_look_place : Fq := ⟨fun K => He.ga K "dg_look_place", "dg_look_place", "dg_look_place", st_dg_look_place⟩
def fq_dg_look_prime : Fq := ⟨fun K => He.ga K "dg_look_prime", "dg_look_prime", "dg_look_prime", st_dg_look_prime⟩
def fq_dg_sum : Fq := ⟨fun K => He.ga K "dg_sum", "dg_sum", "dg_sum", st_dg_sum⟩
def fq_digit_value : Fq := ⟨fun K => He.ga K "digit_value", "digit_value", "digit_value", st_digit_value⟩
def fq_dg_rest : Fq := ⟨fun K => He.ga K "dg_rest", "dg_rest", "dg_rest", st_dg_rest⟩
def fq_dg_table : Fq := ⟨fun K => He.ga K "dg_table", "dg_table", "dg_table", st_dg_table⟩
def fq_dg_most : Fq := ⟨fun K => He.ga K "dg_most", "dg_most", "dg_most", st_dg_most⟩
def fq_digit_mod : Fq := ⟨fun K => He.ga K "digit_mod", "digit_mod", "digit_mod", st_digit_mod⟩
def fq_first_divided : Fq := ⟨fun K => He.ga K "first_divided", "first_divided", "first_divided", st_first_divided⟩
def fq_count_undivided : Fq := ⟨fun K => He.ga K "count_undivided", "count_undivided", "count_undivided", st_count_undivided⟩
def fq_digit_term : Fq := ⟨fun K => He.ga K "digit_term", "digit_term", "digit_term", st_digit_term⟩
def fq_sm_look_term : Fq := ⟨fun K => He.ga K "sm_look_term", "sm_look_term", "sm_look_term", st_sm_look_term⟩
def fq_sm_look_kind : Fq := ⟨fun K => He.ga K "sm_look_kind", "sm_look_kind", "sm_look_kind", st_sm_look_kind⟩
def fq_sm_look_there : Fq := ⟨fun K => He.ga K "sm_look_there", "sm_look_there", "sm_look_there", st_sm_look_there⟩
def fq_sm_look : Fq := ⟨fun K => He.ga K "sm_look", "sm_look", "sm_look", st_sm_look⟩
def fq_sm_sum : Fq := ⟨fun K => He.ga K "sm_sum", "sm_sum", "sm_sum", st_sm_sum⟩
def fq_sum_value : Fq := ⟨fun K => He.ga K "sum_value", "sum_value", "sum_value", st_sum_value⟩
def fq__law_stream : Fq := ⟨fun K => He.ga K "_law_stream", "_law_stream", "_law_stream", st__law_stream⟩
def fq__law_next : Fq := ⟨fun K => He.ga K "_law_next", "_law_next", "_law_next", st__law_next⟩
def fq__law_int : Fq := ⟨fun K => He.ga K "_law_int", "_law_int", "_law_int", st__law_int⟩
def fq__law_gcd : Fq := ⟨fun K => He.ga K "_law_gcd", "_law_gcd", "_law_gcd", st__law_gcd⟩
def fq__law_is_num : Fq := ⟨fun K => He.ga K "_law_is_num", "_law_is_num", "_law_is_num", st__law_is_num⟩
def fq__law_pow : Fq := ⟨fun K => He.ga K "_law_pow", "_law_pow", "_law_pow", st__law_pow⟩
def fq__law_digit_sum : Fq := ⟨fun K => He.ga K "_law_digit_sum", "_law_digit_sum", "_law_digit_sum", st__law_digit_sum⟩
def fq__law_divided : Fq := ⟨fun K => He.ga K "_law_divided", "_law_divided", "_law_divided", st__law_divided⟩
def fq__law_first : Fq := ⟨fun K => He.ga K "_law_first", "_law_first", "_law_first", st__law_first⟩
def fq__law_small_power : Fq := ⟨fun K => He.ga K "_law_small_power", "_law_small_power", "_law_small_power", st__law_small_power⟩
def fq__law_counts_ok : Fq := ⟨fun K => He.ga K "_law_counts_ok", "_law_counts_ok", "_law_counts_ok", st__law_counts_ok⟩
def fq__law_first_is : Fq := ⟨fun K => He.ga K "_law_first_is", "_law_first_is", "_law_first_is", st__law_first_is⟩
def fq__law_term_ok : Fq := ⟨fun K => He.ga K "_law_term_ok", "_law_term_ok", "_law_term_ok", st__law_term_ok⟩
def fq__law_refused : Fq := ⟨fun K => He.ga K "_law_refused", "_law_refused", "_law_refused", st__law_refused⟩
def fq__law_refusals_ok : Fq := ⟨fun K => He.ga K "_law_refusals_ok", "_law_refusals_ok", "_law_refusals_ok", st__law_refusals_ok⟩
def fq_law : Fq := ⟨fun K => He.ga K "law", "law", "law", st_law⟩
def fq_Step_eq : Fq := ⟨fun K => He.ma K (He.ga K "Plain") "__eq__", "__eq__", "Step.__eq__", st_Step_eq⟩
def fq_Pure_init : Fq := ⟨fun K => He.ma K (He.ga K "Pure") "__init__", "__init__", "Pure.__init__", st_Pure_init⟩
def fq_Term2_init : Fq := ⟨fun K => He.ma K (He.ga K "Term2") "__init__", "__init__", "Term2.__init__", st_Term2_init⟩
def fq_Term2_full : Fq := ⟨fun K => pfA K (He.ga K "Term2") "full", "full", "Term2.full", st_Term2_full⟩
def fq_Range_init : Fq := ⟨fun K => He.ma K (He.ga K "Range") "__init__", "__init__", "Range.__init__", st_Range_init⟩
def fq_Range_ends : Fq := ⟨fun K => He.ma K (He.ga K "Range") "ends", "ends", "Range.ends", st_Range_ends⟩
def fq_SPlain : Fq := ⟨fun K => He.ma K (He.ga K "Plain") "__init__", "__init__", "Plain.__init__", st_Plain_init⟩
def fq_DStep : Fq := ⟨fun K => He.ma K (He.ga K "Step") "__init__", "__init__", "Step.__init__", st_Step_init⟩
def b_fb_abs (K : Frag) : Bool := He.eqO (nsIn K mainGlobals "abs") (some none)
def b_fb_any (K : Frag) : Bool := He.eqO (nsIn K mainGlobals "any") (some none)
def b_fb_bool (K : Frag) : Bool := He.eqO (nsIn K mainGlobals "bool") (some none)
def b_fb_int (K : Frag) : Bool := He.eqO (nsIn K mainGlobals "int") (some none)
def b_fb_isinstance (K : Frag) : Bool := He.eqO (nsIn K mainGlobals "isinstance") (some none)
def b_fb_len (K : Frag) : Bool := He.eqO (nsIn K mainGlobals "len") (some none)
def b_fb_list (K : Frag) : Bool := He.eqO (nsIn K mainGlobals "list") (some none)
def b_fb_min (K : Frag) : Bool := He.eqO (nsIn K mainGlobals "min") (some none)
def b_fb_range (K : Frag) : Bool := He.eqO (nsIn K mainGlobals "range") (some none)
def b_fb_sorted (K : Frag) : Bool := He.eqO (nsIn K mainGlobals "sorted") (some none)
def b_fb_tuple (K : Frag) : Bool := He.eqO (nsIn K mainGlobals "tuple") (some none)
def b_g_EXPONENT_BOUND (K : Frag) : Bool := (He.Fa.int "EXPONENT_BOUND" 5000).ok K
def b_g_GREAT_PRIME (K : Frag) : Bool := (He.Fa.int "GREAT_PRIME" 2305843009213693951).ok K
def b_g_STEP_TEXT_BOUND (K : Frag) : Bool := (He.Fa.int "STEP_TEXT_BOUND" 2000).ok K
def b_g_FORM_BOUND (K : Frag) : Bool := (He.Fa.int "FORM_BOUND" 20).ok K
def b_g_VALUE_BOUND (K : Frag) : Bool := (He.Fa.int "VALUE_BOUND" 3000).ok K
def b_g_DIGIT_PLACES (K : Frag) : Bool := (He.Fa.int "DIGIT_PLACES" 400).ok K
def b_g_DIGIT_POWER (K : Frag) : Bool := (He.Fa.int "DIGIT_POWER" 60).ok K
def b_g_DIGIT_EXPONENT (K : Frag) : Bool := (He.Fa.int "DIGIT_EXPONENT" 4).ok K
def b_g_DIGIT_PRIME (K : Frag) : Bool := (He.Fa.int "DIGIT_PRIME" 200).ok K
def b_g_SUMMANDS (K : Frag) : Bool := (He.Fa.int "SUMMANDS" 600).ok K
def b_gd_POLY2_ONE (K : Frag) : Bool := polB K "POLY2_ONE" 0 0 1 1
def b_f_comb (K : Frag) : Bool := He.eqO (nsIn K mainGlobals "comb") (some (some (.builtin "math.comb")))
def b_f_factorial (K : Frag) : Bool := He.eqO (nsIn K mainGlobals "factorial") (some (some (.builtin "math.factorial")))
def b_f_lcm (K : Frag) : Bool := He.eqO (nsIn K mainGlobals "lcm") (some (some (.builtin "math.lcm")))
def b_er_BadInteger (K : Frag) : Bool := errB PP K (He.ga K "BadInteger") (He.ga K "SumError") (He.ma K (He.ga K "BadInteger") "__init__") "BadInteger.__init__"
def b_glo_BadInteger (K : Frag) : Bool := gloB K "BadInteger"
def b_n_BadInteger_handed (K : Frag) : Bool := (He.Fa.noat "BadInteger" "handed").ok K
def b_t_BadInteger (K : Frag) : Bool := (He.Fa.exm "BadInteger" "BadInteger" true).ok K
def b_er_TooMuch (K : Frag) : Bool := errB PP K (He.ga K "TooMuch") (He.ga K "SumError") (He.ma K (He.ga K "TooMuch") "__init__") "TooMuch.__init__"
def b_glo_TooMuch (K : Frag) : Bool := gloB K "TooMuch"
def b_n_TooMuch_word (K : Frag) : Bool := (He.Fa.noat "TooMuch" "word").ok K
def b_n_TooMuch_most (K : Frag) : Bool := (He.Fa.noat "TooMuch" "most").ok K
def b_t_TooMuch (K : Frag) : Bool := (He.Fa.exm "TooMuch" "TooMuch" true).ok K
def b_er_IsZero (K : Frag) : Bool := errB PP K (He.ga K "IsZero") (He.ga K "SumError") (He.ma K (He.ga K "IsZero") "__init__") "IsZero.__init__"
def b_glo_IsZero (K : Frag) : Bool := gloB K "IsZero"
def b_n_IsZero_word (K : Frag) : Bool := (He.Fa.noat "IsZero" "word").ok K
def b_t_IsZero (K : Frag) : Bool := (He.Fa.exm "IsZero" "IsZero" true).ok K
def b_tf_TooMuch_BadInteger (K : Frag) : Bool := (He.Fa.exm "TooMuch" "BadInteger" false).ok K
def b_own_Plain (K : Frag) : Bool := ownB K (He.ga K "Plain")
def b_glo_Plain (K : Frag) : Bool := gloB K "Plain"
def b_n_Plain_word (K : Frag) : Bool := (He.Fa.noat "Plain" "word").ok K
def b_n_Plain_base (K : Frag) : Bool := (He.Fa.noat "Plain" "base").ok K
def b_own_Pure (K : Frag) : Bool := ownB K (He.ga K "Pure")
def b_glo_Pure (K : Frag) : Bool := gloB K "Pure"
def b_n_Pure_step (K : Frag) : Bool := (He.Fa.noat "Pure" "step").ok K
def b_n_Pure_s (K : Frag) : Bool := (He.Fa.noat "Pure" "s").ok K
def b_n_Pure_t (K : Frag) : Bool := (He.Fa.noat "Pure" "t").ok K
def b_n_Pure_square (K : Frag) : Bool := (He.Fa.noat "Pure" "square").ok K
def b_n_Pure_tops (K : Frag) : Bool := (He.Fa.noat "Pure" "tops").ok K
def b_n_Pure_bottoms (K : Frag) : Bool := (He.Fa.noat "Pure" "bottoms").ok K
def b_own_Term2 (K : Frag) : Bool := ownB K (He.ga K "Term2")
def b_glo_Term2 (K : Frag) : Bool := gloB K "Term2"
def b_n_Term2_step (K : Frag) : Bool := (He.Fa.noat "Term2" "step").ok K
def b_n_Term2_top (K : Frag) : Bool := (He.Fa.noat "Term2" "top").ok K
def b_n_Term2_bottom (K : Frag) : Bool := (He.Fa.noat "Term2" "bottom").ok K
def b_n_Term2_pure (K : Frag) : Bool := (He.Fa.noat "Term2" "pure").ok K
def b_own_Range (K : Frag) : Bool := ownB K (He.ga K "Range")
def b_glo_Range (K : Frag) : Bool := gloB K "Range"
def b_n_Range_low (K : Frag) : Bool := (He.Fa.noat "Range" "low").ok K
def b_n_Range_high (K : Frag) : Bool := (He.Fa.noat "Range" "high").ok K
def b_n_Range_start (K : Frag) : Bool := (He.Fa.noat "Range" "start").ok K
def b_kt_Plain_Step (K : Frag) : Bool := decide (kitOne K (.ref (He.ga K "Plain")) (.ref (He.ga K "Step")) = some true)
def b_kt_Pure_Pure (K : Frag) : Bool := decide (kitOne K (.ref (He.ga K "Pure")) (.ref (He.ga K "Pure")) = some true)
def b_kt_Term2_Term2 (K : Frag) : Bool := decide (kitOne K (.ref (He.ga K "Term2")) (.ref (He.ga K "Term2")) = some true)
def b_kt_Range_Range (K : Frag) : Bool := decide (kitOne K (.ref (He.ga K "Range")) (.ref (He.ga K "Range")) = some true)
def b_glo_Step (K : Frag) : Bool := gloB K "Step"
def b_glo_nu_integer (K : Frag) : Bool := gloB K "nu_integer"
def b_pl_nu_integer (K : Frag) : Bool := plB K (He.ga K "nu_integer") "nu_integer"
def b_glo_nu_gcd (K : Frag) : Bool := gloB K "nu_gcd"
def b_pl_nu_gcd (K : Frag) : Bool := plB K (He.ga K "nu_gcd") "nu_gcd"
def b_glo_nu_low (K : Frag) : Bool := gloB K "nu_low"
def b_pl_nu_low (K : Frag) : Bool := plB K (He.ga K "nu_low") "nu_low"
def b_glo_number (K : Frag) : Bool := gloB K "number"
def b_pl_number (K : Frag) : Bool := plB K (He.ga K "number") "number"
def b_glo_plus (K : Frag) : Bool := gloB K "plus"
def b_pl_plus (K : Frag) : Bool := plB K (He.ga K "plus") "plus"
def b_glo_nu_power (K : Frag) : Bool := gloB K "nu_power"
def b_pl_nu_power (K : Frag) : Bool := plB K (He.ga K "nu_power") "nu_power"
def b_glo_sw_step (K : Frag) : Bool := gloB K "sw_step"
def b_pl_sw_step (K : Frag) : Bool := plB K (He.ga K "sw_step") "sw_step"
def b_glo_sw_power (K : Frag) : Bool := gloB K "sw_power"
def b_pl_sw_power (K : Frag) : Bool := plB K (He.ga K "sw_power") "sw_power"
def b_glo_pu_three (K : Frag) : Bool := gloB K "pu_three"
def b_pl_pu_three (K : Frag) : Bool := plB K (He.ga K "pu_three") "pu_three"
def b_glo_pu_form (K : Frag) : Bool := gloB K "pu_form"
def b_pl_pu_form (K : Frag) : Bool := plB K (He.ga K "pu_form") "pu_form"
def b_glo_pu_forms (K : Frag) : Bool := gloB K "pu_forms"
def b_pl_pu_forms (K : Frag) : Bool := plB K (He.ga K "pu_forms") "pu_forms"
def b_glo_pu_square (K : Frag) : Bool := gloB K "pu_square"
def b_pl_pu_square (K : Frag) : Bool := plB K (He.ga K "pu_square") "pu_square"
def b_glo_pu_less (K : Frag) : Bool := gloB K "pu_less"
def b_pl_pu_less (K : Frag) : Bool := plB K (He.ga K "pu_less") "pu_less"
def b_glo_pu_size (K : Frag) : Bool := gloB K "pu_size"
def b_pl_pu_size (K : Frag) : Bool := plB K (He.ga K "pu_size") "pu_size"
def b_glo_pu_there (K : Frag) : Bool := gloB K "pu_there"
def b_pl_pu_there (K : Frag) : Bool := plB K (He.ga K "pu_there") "pu_there"
def b_glo_pu_falling (K : Frag) : Bool := gloB K "pu_falling"
def b_pl_pu_falling (K : Frag) : Bool := plB K (He.ga K "pu_falling") "pu_falling"
def b_glo_pu_number (K : Frag) : Bool := gloB K "pu_number"
def b_pl_pu_number (K : Frag) : Bool := plB K (He.ga K "pu_number") "pu_number"
def b_glo_i2_pair (K : Frag) : Bool := gloB K "i2_pair"
def b_pl_i2_pair (K : Frag) : Bool := plB K (He.ga K "i2_pair") "i2_pair"
def b_glo_i2_fits (K : Frag) : Bool := gloB K "i2_fits"
def b_pl_i2_fits (K : Frag) : Bool := plB K (He.ga K "i2_fits") "i2_fits"
def b_glo_i2_told (K : Frag) : Bool := gloB K "i2_told"
def b_pl_i2_told (K : Frag) : Bool := plB K (He.ga K "i2_told") "i2_told"
def b_glo_i2_whole (K : Frag) : Bool := gloB K "i2_whole"
def b_pl_i2_whole (K : Frag) : Bool := plB K (He.ga K "i2_whole") "i2_whole"
def b_glo_i2_read (K : Frag) : Bool := gloB K "i2_read"
def b_pl_i2_read (K : Frag) : Bool := plB K (He.ga K "i2_read") "i2_read"
def b_glo_i2_look (K : Frag) : Bool := gloB K "i2_look"
def b_pl_i2_look (K : Frag) : Bool := plB K (He.ga K "i2_look") "i2_look"
def b_glo_i2_scaled (K : Frag) : Bool := gloB K "i2_scaled"
def b_pl_i2_scaled (K : Frag) : Bool := plB K (He.ga K "i2_scaled") "i2_scaled"
def b_glo_i2_value (K : Frag) : Bool := gloB K "i2_value"
def b_pl_i2_value (K : Frag) : Bool := plB K (He.ga K "i2_value") "i2_value"
def b_glo_t2_number (K : Frag) : Bool := gloB K "t2_number"
def b_pl_t2_number (K : Frag) : Bool := plB K (He.ga K "t2_number") "t2_number"
def b_glo_full_term (K : Frag) : Bool := gloB K "full_term"
def b_pl_full_term (K : Frag) : Bool := plB K (He.ga K "full_term") "full_term"
def b_glo_rg_pair (K : Frag) : Bool := gloB K "rg_pair"
def b_pl_rg_pair (K : Frag) : Bool := plB K (He.ga K "rg_pair") "rg_pair"
def b_glo_rg_first (K : Frag) : Bool := gloB K "rg_first"
def b_pl_rg_first (K : Frag) : Bool := plB K (He.ga K "rg_first") "rg_first"
def b_glo_rg_below (K : Frag) : Bool := gloB K "rg_below"
def b_pl_rg_below (K : Frag) : Bool := plB K (He.ga K "rg_below") "rg_below"
def b_glo_rg_gone (K : Frag) : Bool := gloB K "rg_gone"
def b_pl_rg_gone (K : Frag) : Bool := plB K (He.ga K "rg_gone") "rg_gone"
def b_glo_dg_look (K : Frag) : Bool := gloB K "dg_look"
def b_pl_dg_look (K : Frag) : Bool := plB K (He.ga K "dg_look") "dg_look"
def b_glo_dg_look_place (K : Frag) : Bool := gloB K "dg_look_place"
def b_pl_dg_look_place (K : Frag) : Bool := plB K (He.ga K "dg_look_place") "dg_look_place"
def b_glo_dg_look_prime (K : Frag) : Bool := gloB K "dg_look_prime"
def b_pl_dg_look_prime (K : Frag) : Bool := plB K (He.ga K "dg_look_prime") "dg_look_prime"
def b_glo_dg_sum (K : Frag) : Bool := gloB K "dg_sum"
def b_pl_dg_sum (K : Frag) : Bool := plB K (He.ga K "dg_sum") "dg_sum"
def b_glo_digit_value (K : Frag) : Bool := gloB K "digit_value"
def b_pl_digit_value (K : Frag) : Bool := plB K (He.ga K "digit_value") "digit_value"
def b_glo_dg_rest (K : Frag) : Bool := gloB K "dg_rest"
def b_pl_dg_rest (K : Frag) : Bool := plB K (He.ga K "dg_rest") "dg_rest"
def b_glo_dg_table (K : Frag) : Bool := gloB K "dg_table"
def b_pl_dg_table (K : Frag) : Bool := plB K (He.ga K "dg_table") "dg_table"
def b_glo_dg_most (K : Frag) : Bool := gloB K "dg_most"
def b_pl_dg_most (K : Frag) : Bool := plB K (He.ga K "dg_most") "dg_most"
def b_glo_digit_mod (K : Frag) : Bool := gloB K "digit_mod"
def b_pl_digit_mod (K : Frag) : Bool := plB K (He.ga K "digit_mod") "digit_mod"
def b_glo_first_divided (K : Frag) : Bool := gloB K "first_divided"
def b_pl_first_divided (K : Frag) : Bool := plB K (He.ga K "first_divided") "first_divided"
def b_glo_count_undivided (K : Frag) : Bool := gloB K "count_undivided"
def b_pl_count_undivided (K : Frag) : Bool := plB K (He.ga K "count_undivided") "count_undivided"
def b_glo_digit_term (K : Frag) : Bool := gloB K "digit_term"
def b_pl_digit_term (K : Frag) : Bool := plB K (He.ga K "digit_term") "digit_term"
def b_glo_sm_look_term (K : Frag) : Bool := gloB K "sm_look_term"
def b_pl_sm_look_term (K : Frag) : Bool := plB K (He.ga K "sm_look_term") "sm_look_term"
def b_glo_sm_look_kind (K : Frag) : Bool := gloB K "sm_look_kind"
def b_pl_sm_look_kind (K : Frag) : Bool := plB K (He.ga K "sm_look_kind") "sm_look_kind"
def b_glo_sm_look_there (K : Frag) : Bool := gloB K "sm_look_there"
def b_pl_sm_look_there (K : Frag) : Bool := plB K (He.ga K "sm_look_there") "sm_look_there"
def b_glo_sm_look (K : Frag) : Bool := gloB K "sm_look"
def b_pl_sm_look (K : Frag) : Bool := plB K (He.ga K "sm_look") "sm_look"
def b_glo_sm_sum (K : Frag) : Bool := gloB K "sm_sum"
def b_pl_sm_sum (K : Frag) : Bool := plB K (He.ga K "sm_sum") "sm_sum"
def b_glo_sum_value (K : Frag) : Bool := gloB K "sum_value"
def b_pl_sum_value (K : Frag) : Bool := plB K (He.ga K "sum_value") "sum_value"
def b_glo__law_stream (K : Frag) : Bool := gloB K "_law_stream"
def b_pl__law_stream (K : Frag) : Bool := plB K (He.ga K "_law_stream") "_law_stream"
def b_glo__law_next (K : Frag) : Bool := gloB K "_law_next"
def b_pl__law_next (K : Frag) : Bool := plB K (He.ga K "_law_next") "_law_next"
def b_glo__law_int (K : Frag) : Bool := gloB K "_law_int"
def b_pl__law_int (K : Frag) : Bool := plB K (He.ga K "_law_int") "_law_int"
def b_glo__law_gcd (K : Frag) : Bool := gloB K "_law_gcd"
def b_pl__law_gcd (K : Frag) : Bool := plB K (He.ga K "_law_gcd") "_law_gcd"
def b_glo__law_is_num (K : Frag) : Bool := gloB K "_law_is_num"
def b_pl__law_is_num (K : Frag) : Bool := plB K (He.ga K "_law_is_num") "_law_is_num"
def b_glo__law_pow (K : Frag) : Bool := gloB K "_law_pow"
def b_pl__law_pow (K : Frag) : Bool := plB K (He.ga K "_law_pow") "_law_pow"
def b_glo__law_digit_sum (K : Frag) : Bool := gloB K "_law_digit_sum"
def b_pl__law_digit_sum (K : Frag) : Bool := plB K (He.ga K "_law_digit_sum") "_law_digit_sum"
def b_glo__law_divided (K : Frag) : Bool := gloB K "_law_divided"
def b_pl__law_divided (K : Frag) : Bool := plB K (He.ga K "_law_divided") "_law_divided"
def b_glo__law_first (K : Frag) : Bool := gloB K "_law_first"
def b_pl__law_first (K : Frag) : Bool := plB K (He.ga K "_law_first") "_law_first"
def b_glo__law_small_power (K : Frag) : Bool := gloB K "_law_small_power"
def b_pl__law_small_power (K : Frag) : Bool := plB K (He.ga K "_law_small_power") "_law_small_power"
def b_glo__law_counts_ok (K : Frag) : Bool := gloB K "_law_counts_ok"
def b_pl__law_counts_ok (K : Frag) : Bool := plB K (He.ga K "_law_counts_ok") "_law_counts_ok"
def b_glo__law_first_is (K : Frag) : Bool := gloB K "_law_first_is"
def b_pl__law_first_is (K : Frag) : Bool := plB K (He.ga K "_law_first_is") "_law_first_is"
def b_glo__law_term_ok (K : Frag) : Bool := gloB K "_law_term_ok"
def b_pl__law_term_ok (K : Frag) : Bool := plB K (He.ga K "_law_term_ok") "_law_term_ok"
def b_glo__law_refused (K : Frag) : Bool := gloB K "_law_refused"
def b_pl__law_refused (K : Frag) : Bool := plB K (He.ga K "_law_refused") "_law_refused"
def b_glo__law_refusals_ok (K : Frag) : Bool := gloB K "_law_refusals_ok"
def b_pl__law_refusals_ok (K : Frag) : Bool := plB K (He.ga K "_law_refusals_ok") "_law_refusals_ok"
def b_glo_law (K : Frag) : Bool := gloB K "law"
def b_pl_law (K : Frag) : Bool := plB K (He.ga K "law") "law"
def b_pl_Step_eq (K : Frag) : Bool := plB K (He.ma K (He.ga K "Plain") "__eq__") "Step.__eq__"
def b_at_Step_eq (K : Frag) : Bool := He.eqO (findIn K (.ref (He.ga K "Plain")) "__eq__") (some (some (.ref (He.ma K (He.ga K "Plain") "__eq__"))))
def b_fn_Step_eq (K : Frag) : Bool := isFn K (.ref (He.ma K (He.ga K "Plain") "__eq__"))
def b_pl_Pure_init (K : Frag) : Bool := plB K (He.ma K (He.ga K "Pure") "__init__") "Pure.__init__"
def b_at_Pure_init (K : Frag) : Bool := He.eqO (findIn K (.ref (He.ga K "Pure")) "__init__") (some (some (.ref (He.ma K (He.ga K "Pure") "__init__"))))
def b_fn_Pure_init (K : Frag) : Bool := isFn K (.ref (He.ma K (He.ga K "Pure") "__init__"))
def b_mk_Pure (K : Frag) : Bool := makesIn K (He.ga K "Pure")
def b_kp_Pure (K : Frag) : Bool := keepIn K (.ref (He.ga K "Pure"))
def b_pl_Term2_init (K : Frag) : Bool := plB K (He.ma K (He.ga K "Term2") "__init__") "Term2.__init__"
def b_at_Term2_init (K : Frag) : Bool := He.eqO (findIn K (.ref (He.ga K "Term2")) "__init__") (some (some (.ref (He.ma K (He.ga K "Term2") "__init__"))))
def b_fn_Term2_init (K : Frag) : Bool := isFn K (.ref (He.ma K (He.ga K "Term2") "__init__"))
def b_mk_Term2 (K : Frag) : Bool := makesIn K (He.ga K "Term2")
def b_kp_Term2 (K : Frag) : Bool := keepIn K (.ref (He.ga K "Term2"))
def b_pl_Term2_full (K : Frag) : Bool := plB K (pfA K (He.ga K "Term2") "full") "Term2.full"
def b_pr_Term2_full (K : Frag) : Bool := proB K (He.ga K "Term2") "full"
def b_pl_Range_init (K : Frag) : Bool := plB K (He.ma K (He.ga K "Range") "__init__") "Range.__init__"
def b_at_Range_init (K : Frag) : Bool := He.eqO (findIn K (.ref (He.ga K "Range")) "__init__") (some (some (.ref (He.ma K (He.ga K "Range") "__init__"))))
def b_fn_Range_init (K : Frag) : Bool := isFn K (.ref (He.ma K (He.ga K "Range") "__init__"))
def b_mk_Range (K : Frag) : Bool := makesIn K (He.ga K "Range")
def b_kp_Range (K : Frag) : Bool := keepIn K (.ref (He.ga K "Range"))
def b_pl_Range_ends (K : Frag) : Bool := plB K (He.ma K (He.ga K "Range") "ends") "Range.ends"
def b_at_Range_ends (K : Frag) : Bool := He.eqO (findIn K (.ref (He.ga K "Range")) "ends") (some (some (.ref (He.ma K (He.ga K "Range") "ends"))))
def b_fn_Range_ends (K : Frag) : Bool := isFn K (.ref (He.ma K (He.ga K "Range") "ends"))
def b_su_Plain (K : Frag) : Bool := supB PP K (He.ga K "Plain") (He.ga K "Step") (He.ma K (He.ga K "Plain") "__init__") (He.ma K (He.ga K "Step") "__init__") "Plain.__init__"
def b_pl_DStep (K : Frag) : Bool := plB K (He.ma K (He.ga K "Step") "__init__") "Step.__init__"
def fqs0 : List Fq := [fq_EBadInteger, fq_ETooMuch, fq_EIsZero, fq_nu_integer, fq_nu_gcd, fq_nu_low, fq_number, fq_plus, fq_nu_power, fq_sw_step, fq_sw_power, fq_pu_three, fq_pu_form, fq_pu_forms, fq_pu_square, fq_pu_less, fq_pu_size, fq_pu_there, fq_pu_falling, fq_pu_number]
def fqs1 : List Fq := [fq_i2_pair, fq_i2_fits, fq_i2_told, fq_i2_whole, fq_i2_read, fq_i2_look, fq_i2_scaled, fq_i2_value, fq_t2_number, fq_full_term, fq_rg_pair, fq_rg_first, fq_rg_below, fq_rg_gone, fq_dg_look, fq_dg_look_place, fq_dg_look_prime, fq_dg_sum, fq_digit_value, fq_dg_rest]
def fqs2 : List Fq := [fq_dg_table, fq_dg_most, fq_digit_mod, fq_first_divided, fq_count_undivided, fq_digit_term, fq_sm_look_term, fq_sm_look_kind, fq_sm_look_there, fq_sm_look, fq_sm_sum, fq_sum_value, fq__law_stream, fq__law_next, fq__law_int, fq__law_gcd, fq__law_is_num, fq__law_pow, fq__law_digit_sum, fq__law_divided]
def fqs3 : List Fq := [fq__law_first, fq__law_small_power, fq__law_counts_ok, fq__law_first_is, fq__law_term_ok, fq__law_refused, fq__law_refusals_ok, fq_law, fq_Step_eq, fq_Pure_init, fq_Term2_init, fq_Term2_full, fq_Range_init, fq_Range_ends, fq_SPlain, fq_DStep]
def fqs : List Fq := fqs0 ++ (fqs1 ++ (fqs2 ++ (fqs3)))
def bls0 : List (Frag → Bool) := [b_fb_abs, b_fb_any, b_fb_bool, b_fb_int, b_fb_isinstance, b_fb_len, b_fb_list, b_fb_min, b_fb_range, b_fb_sorted, b_fb_tuple, b_g_EXPONENT_BOUND, b_g_GREAT_PRIME, b_g_STEP_TEXT_BOUND, b_g_FORM_BOUND, b_g_VALUE_BOUND, b_g_DIGIT_PLACES, b_g_DIGIT_POWER, b_g_DIGIT_EXPONENT, b_g_DIGIT_PRIME]
def bls1 : List (Frag → Bool) := [b_g_SUMMANDS, b_gd_POLY2_ONE, b_f_comb, b_f_factorial, b_f_lcm, b_er_BadInteger, b_glo_BadInteger, b_n_BadInteger_handed, b_t_BadInteger, b_er_TooMuch, b_glo_TooMuch, b_n_TooMuch_word, b_n_TooMuch_most, b_t_TooMuch, b_er_IsZero, b_glo_IsZero, b_n_IsZero_word, b_t_IsZero, b_tf_TooMuch_BadInteger, b_own_Plain]
def bls2 : List (Frag → Bool) := [b_glo_Plain, b_n_Plain_word, b_n_Plain_base, b_own_Pure, b_glo_Pure, b_n_Pure_step, b_n_Pure_s, b_n_Pure_t, b_n_Pure_square, b_n_Pure_tops, b_n_Pure_bottoms, b_own_Term2, b_glo_Term2, b_n_Term2_step, b_n_Term2_top, b_n_Term2_bottom, b_n_Term2_pure, b_own_Range, b_glo_Range, b_n_Range_low]
def bls3 : List (Frag → Bool) := [b_n_Range_high, b_n_Range_start, b_kt_Plain_Step, b_kt_Pure_Pure, b_kt_Term2_Term2, b_kt_Range_Range, b_glo_Step, b_glo_nu_integer, b_pl_nu_integer, b_glo_nu_gcd, b_pl_nu_gcd, b_glo_nu_low, b_pl_nu_low, b_glo_number, b_pl_number, b_glo_plus, b_pl_plus, b_glo_nu_power, b_pl_nu_power, b_glo_sw_step]
def bls4 : List (Frag → Bool) := [b_pl_sw_step, b_glo_sw_power, b_pl_sw_power, b_glo_pu_three, b_pl_pu_three, b_glo_pu_form, b_pl_pu_form, b_glo_pu_forms, b_pl_pu_forms, b_glo_pu_square, b_pl_pu_square, b_glo_pu_less, b_pl_pu_less, b_glo_pu_size, b_pl_pu_size, b_glo_pu_there, b_pl_pu_there, b_glo_pu_falling, b_pl_pu_falling, b_glo_pu_number]
def bls5 : List (Frag → Bool) := [b_pl_pu_number, b_glo_i2_pair, b_pl_i2_pair, b_glo_i2_fits, b_pl_i2_fits, b_glo_i2_told, b_pl_i2_told, b_glo_i2_whole, b_pl_i2_whole, b_glo_i2_read, b_pl_i2_read, b_glo_i2_look, b_pl_i2_look, b_glo_i2_scaled, b_pl_i2_scaled, b_glo_i2_value, b_pl_i2_value, b_glo_t2_number, b_pl_t2_number, b_glo_full_term]
def bls6 : List (Frag → Bool) := [b_pl_full_term, b_glo_rg_pair, b_pl_rg_pair, b_glo_rg_first, b_pl_rg_first, b_glo_rg_below, b_pl_rg_below, b_glo_rg_gone, b_pl_rg_gone, b_glo_dg_look, b_pl_dg_look, b_glo_dg_look_place, b_pl_dg_look_place, b_glo_dg_look_prime, b_pl_dg_look_prime, b_glo_dg_sum, b_pl_dg_sum, b_glo_digit_value, b_pl_digit_value, b_glo_dg_rest]
def bls7 : List (Frag → Bool) := [b_pl_dg_rest, b_glo_dg_table, b_pl_dg_table, b_glo_dg_most, b_pl_dg_most, b_glo_digit_mod, b_pl_digit_mod, b_glo_first_divided, b_pl_first_divided, b_glo_count_undivided, b_pl_count_undivided, b_glo_digit_term, b_pl_digit_term, b_glo_sm_look_term, b_pl_sm_look_term, b_glo_sm_look_kind, b_pl_sm_look_kind, b_glo_sm_look_there, b_pl_sm_look_there, b_glo_sm_look]
def bls8 : List (Frag → Bool) := [b_pl_sm_look, b_glo_sm_sum, b_pl_sm_sum, b_glo_sum_value, b_pl_sum_value, b_glo__law_stream, b_pl__law_stream, b_glo__law_next, b_pl__law_next, b_glo__law_int, b_pl__law_int, b_glo__law_gcd, b_pl__law_gcd, b_glo__law_is_num, b_pl__law_is_num, b_glo__law_pow, b_pl__law_pow, b_glo__law_digit_sum, b_pl__law_digit_sum, b_glo__law_divided]
def bls9 : List (Frag → Bool) := [b_pl__law_divided, b_glo__law_first, b_pl__law_first, b_glo__law_small_power, b_pl__law_small_power, b_glo__law_counts_ok, b_pl__law_counts_ok, b_glo__law_first_is, b_pl__law_first_is, b_glo__law_term_ok, b_pl__law_term_ok, b_glo__law_refused, b_pl__law_refused, b_glo__law_refusals_ok, b_pl__law_refusals_ok, b_glo_law, b_pl_law, b_pl_Step_eq, b_at_Step_eq, b_fn_Step_eq]
def bls10 : List (Frag → Bool) := [b_pl_Pure_init, b_at_Pure_init, b_fn_Pure_init, b_mk_Pure, b_kp_Pure, b_pl_Term2_init, b_at_Term2_init, b_fn_Term2_init, b_mk_Term2, b_kp_Term2, b_pl_Term2_full, b_pr_Term2_full, b_pl_Range_init, b_at_Range_init, b_fn_Range_init, b_mk_Range, b_kp_Range, b_pl_Range_ends, b_at_Range_ends, b_fn_Range_ends]
def bls11 : List (Frag → Bool) := [b_su_Plain, b_pl_DStep]
theorem run1 (w : World) : (endQ 12000 RWq.prog w).map (fun x => HandSHeadRun.looksF RWq.prog x.1.heap x.2.abs) = some true := by
  kernel_rfl
theorem run2 (w : World) : (endQ 12000 RWq.prog w).map (fun x => HandSHeadRun.seenQ qv nms (importedModules RWq.prog.main.body) (fun s => xlAt qv [] s && recOk RWq.toRowW.records s) x.2.abs) = some (openGood qv nms) := by
  kernel_rfl
def blsA : List (Frag → Bool) := bls0 ++ (bls1 ++ (bls2 ++ (bls3 ++ (bls4 ++ (bls5)))))
def blsB : List (Frag → Bool) := bls6 ++ (bls7 ++ (bls8 ++ (bls9 ++ (bls10 ++ (bls11)))))
def bls : List (Frag → Bool) := blsA ++ blsB
theorem run3A (w : World) : (endQ 12000 RWq.prog w).map (fun x => allQ blsA x.2) = some true := by
  kernel_rfl
theorem run3B (w : World) : (endQ 12000 RWq.prog w).map (fun x => allQ blsB x.2) = some true := by
  kernel_rfl
theorem run3 (w : World) : (endQ 12000 RWq.prog w).map (fun x => allQ bls x.2) = some true := all_app (run3A w) (run3B w)
theorem run4 (w : World) : (endQ 12000 RWq.prog w).map (fun x => fqs.map fun d => vw (frQ (HandSHeadRun.getT x.2)) (d.at_ (frQ (HandSHeadRun.getT x.2)))) = some (fqs.map Fq.val) := by
  kernel_rfl
theorem run (w : World) : HandSHeadRun.RunEqI RWq qv (hookQ bls fqs) (obQ bls fqs) 12000 nms w := run_mk (run1 w) (run2 w) (run3 w) (run4 w)
end K89
end
section
set_option Elab.async false
set_option linter.all false
set_option maxRecDepth 100000
set_option maxHeartbeats 4000000
/-! Pure data over the hand layer: what a value is worth, the frame's slots as pure data, the ghost of a frame. -/
namespace Py
open PySem L2

inductive D where
  | non | bl (b : Bool) | int (i : Int) | str (x : Str) | lst (xs : List D) | frl (xs : List D) | tup (xs : List D) | obj (c : Addr) (ns : List Str) (xs : List D) | dct (ks : List (List Key)) (xs : List D)

mutual
inductive Rp (K : PySem.W.Frag) (F : Hp) : V → D → Prop
  | non : Rp K F .non .non
  | bl (b : Bool) : Rp K F (.bl b) (.bl b)
  | int (i : Int) : Rp K F (.int i) (.int i)
  | str (x : Str) : Rp K F (.str x) (.str x)
  | lst {a : Addr} {vs : List V} {ds : List D} : F a = some (.lst vs) → RpL K F vs ds → Rp K F (.ref a) (.lst ds)
  | frl {a : Addr} {vs : List V} {ds : List D} : SqL K F a vs → RpL K F vs ds → Rp K F (.ref a) (.frl ds)
  | tup {a : Addr} {vs : List V} {ds : List D} : SqT K F a vs → RpL K F vs ds → Rp K F (.ref a) (.tup ds)
  | obj {a c dx : Addr} {ns : List Str} {vs : List V} {ds : List D} : F a = some (.ins c dx (ns.zip vs)) → F dx = some (.own a) → ns.length = vs.length → RpL K F vs ds → Rp K F (.ref a) (.obj c ns ds)
  | dct {a : Addr} {o : Obj} {ks : List (List Key)} {vs : List V} {ds : List D} : F a = some (.frz o (.dT (ks.zip vs))) → ks.length = vs.length → RpL K F vs ds → Rp K F (.ref a) (.dct ks ds)
inductive RpL (K : PySem.W.Frag) (F : Hp) : List V → List D → Prop
  | nil : RpL K F [] []
  | cons {v : V} {vs : List V} {d : D} {ds : List D} : Rp K F v d → RpL K F vs ds → RpL K F (v :: vs) (d :: ds)
end

theorem rd_same {F F' : Hp} {a : Addr} {u : HO} (s : Same F F') (h : Rd F a u) : Rd F' a u := by
  rcases h with h | ⟨o, h⟩
  · exact .inl (s _ _ h)
  · exact .inr ⟨o, s _ _ h⟩
theorem sqL_same {K : PySem.W.Frag} {F F' : Hp} {a : Addr} {xs : List V} (s : Same F F') (h : SqL K F a xs) : SqL K F' a xs := h.imp (rd_same s) id
theorem sqT_same {K : PySem.W.Frag} {F F' : Hp} {a : Addr} {xs : List V} (s : Same F F') (h : SqT K F a xs) : SqT K F' a xs := h.imp (rd_same s) id

mutual
theorem Rp.mono {K : PySem.W.Frag} {F F' : Hp} (s : Same F F') : ∀ {v : V} {d : D}, Rp K F v d → Rp K F' v d
  | _, _, .non => .non
  | _, _, .bl b => .bl b
  | _, _, .int i => .int i
  | _, _, .str x => .str x
  | _, _, .lst h r => .lst (s _ _ h) (RpL.mono s r)
  | _, _, .frl h r => .frl (sqL_same s h) (RpL.mono s r)
  | _, _, .tup h r => .tup (sqT_same s h) (RpL.mono s r)
  | _, _, .obj h h2 l r => .obj (s _ _ h) (s _ _ h2) l (RpL.mono s r)
  | _, _, .dct h l r => .dct (s _ _ h) l (RpL.mono s r)
theorem RpL.mono {K : PySem.W.Frag} {F F' : Hp} (s : Same F F') : ∀ {vs : List V} {ds : List D}, RpL K F vs ds → RpL K F' vs ds
  | _, _, .nil => .nil
  | _, _, .cons h r => .cons (Rp.mono s h) (RpL.mono s r)
end
theorem RpL.length {K : PySem.W.Frag} {F : Hp} : ∀ {vs : List V} {ds : List D}, RpL K F vs ds → vs.length = ds.length
  | _, _, .nil => rfl
  | _, _, .cons _ r => congrArg (· + 1) (RpL.length r)
theorem RpL.get {K : PySem.W.Frag} {F : Hp} : ∀ {vs : List V} {ds : List D} {i : Nat} {d : D}, RpL K F vs ds → ds[i]? = some d → ∃ v, vs[i]? = some v ∧ Rp K F v d
  | _, _, _, _, .nil, e => by simp at e
  | _, _, 0, _, .cons h _, e => by simp at e; subst e; exact ⟨_, rfl, h⟩
  | _, _, i + 1, d, .cons _ r, e => by
    obtain ⟨v, h1, h2⟩ := RpL.get (i := i) (d := d) r (by simpa using e)
    exact ⟨v, by simpa using h1, h2⟩
theorem RpL.getV {K : PySem.W.Frag} {F : Hp} : ∀ {vs : List V} {ds : List D} {i : Nat} {v : V}, RpL K F vs ds → vs[i]? = some v → ∃ d, ds[i]? = some d ∧ Rp K F v d
  | _, _, _, _, .nil, e => by simp at e
  | _, _, 0, _, .cons h _, e => by simp at e; subst e; exact ⟨_, rfl, h⟩
  | _, _, i + 1, d, .cons _ r, e => by
    obtain ⟨v, h1, h2⟩ := RpL.getV (i := i) (v := d) r (by simpa using e)
    exact ⟨v, by simpa using h1, h2⟩
theorem RpL.append {K : PySem.W.Frag} {F : Hp} : ∀ {vs ws : List V} {ds es : List D}, RpL K F vs ds → RpL K F ws es → RpL K F (vs ++ ws) (ds ++ es)
  | _, _, _, _, .nil, s => s
  | _, _, _, _, .cons h r, s => .cons h (RpL.append r s)
theorem RpL.set {K : PySem.W.Frag} {F : Hp} {v : V} {d : D} (q : Rp K F v d) : ∀ {vs : List V} {ds : List D} (i : Nat), RpL K F vs ds → RpL K F (vs.set i v) (ds.set i d)
  | _, _, _, .nil => .nil
  | _, _, 0, .cons _ r => .cons q r
  | _, _, i + 1, .cons h r => .cons h (RpL.set q i r)
theorem RpL.take {K : PySem.W.Frag} {F : Hp} : ∀ {vs : List V} {ds : List D} (n : Nat), RpL K F vs ds → RpL K F (vs.take n) (ds.take n)
  | _, _, 0, _ => .nil
  | _, _, _ + 1, .nil => .nil
  | _, _, n + 1, .cons h r => .cons h (RpL.take n r)
theorem RpL.drop {K : PySem.W.Frag} {F : Hp} : ∀ {vs : List V} {ds : List D} (n : Nat), RpL K F vs ds → RpL K F (vs.drop n) (ds.drop n)
  | _, _, 0, r => r
  | _, _, _ + 1, .nil => .nil
  | _, _, n + 1, .cons _ r => RpL.drop n r
theorem RpL.dropLast {K : PySem.W.Frag} {F : Hp} {vs : List V} {ds : List D} (r : RpL K F vs ds) : RpL K F vs.dropLast ds.dropLast := by
  rw [List.dropLast_eq_take, List.dropLast_eq_take, r.length]
  exact r.take _
theorem RpL.reverse {K : PySem.W.Frag} {F : Hp} : ∀ {vs : List V} {ds : List D}, RpL K F vs ds → RpL K F vs.reverse ds.reverse
  | _, _, .nil => .nil
  | _, _, .cons h r => by
    rw [List.reverse_cons, List.reverse_cons]
    exact (RpL.reverse r).append (.cons h .nil)
theorem RpL.ints {K : PySem.W.Frag} {F : Hp} : ∀ (ns : List Int), RpL K F (ns.map V.int) (ns.map D.int)
  | [] => .nil
  | n :: r => .cons (.int n) (RpL.ints r)

/-! ### the frame -/
/-- an exception: its class, its fields -/
structure PX where
  C : Addr
  ns : List Str
  ds : List D
def ExR (K : PySem.W.Frag) (F : Hp) (x : PX) (d : Option Addr) : Prop := ∃ a vs, d = some a ∧ F a = some (.xd (x.ns.zip vs)) ∧ x.ns.length = vs.length ∧ RpL K F vs x.ds
theorem ExR.mono {K : PySem.W.Frag} {F F' : Hp} {x : PX} {d : Option Addr} (h : ExR K F x d) (s : Same F F') : ExR K F' x d := by
  obtain ⟨a, vs, h1, h2, h3, h4⟩ := h
  exact ⟨a, vs, h1, s _ _ h2, h3, h4.mono s⟩
inductive Slot where
  | un | dat (d : D) | own (ds : List D) | drw | exc (a : Addr) (d : Option Addr) (x : PX) | slf (a C : Addr) (ns : List Str) (ds : List D) | dic (ks : List (List Key)) (ds : List D)
inductive Res where
  | dat (d : D) | own (ds : List D) | drw
@[simp] def Res.slot : Res → Slot
  | .dat d => .dat d
  | .own ds => .own ds
  | .drw => .drw
@[simp] def Res.toD : Res → Option D
  | .dat d => some d
  | .own ds => some (.lst ds)
  | .drw => none
@[simp] def Slot.frz : Slot → Slot
  | .own ds => .dat (.lst ds)
  | s => s
/-- what may be walked, measured, indexed -/
def D.seq : D → Option (List D)
  | .lst ds => some ds
  | .frl ds => some ds
  | .tup ds => some ds
  | _ => none
def Slot.seq : Slot → Option (List D)
  | .dat d => d.seq
  | .own ds => some ds
  | _ => none

/-- the ghost of a frame: the heap at its entry, what was frozen there, the draws' list -/
structure G where
  H0 : Hp
  F0 : Hp
  dr : Option Addr

structure Cor (g : G) (F : Hp) (S : List Int) (H : Hp) : Prop where
  f0 : Same g.F0 F
  fn : ∀ a o, F a = some o → g.F0 a ≠ none ∨ g.H0 a = none ∨ ∃ vs, o = .tup vs
  fh : Same F H
  h0 : ∀ a o, g.H0 a = some o → g.dr ≠ some a → H a = some o
  st : ∀ a, g.dr = some a → H a = some (.lst (S.map V.int)) ∧ F a = none ∧ g.H0 a ≠ none

/-- an instance, or its dict -/
def isObj : HO → Bool
  | .ins _ _ _ => true
  | .own _ => true
  | .dT _ => true
  | _ => false
def SlotOk (K : PySem.W.Frag) (g : G) (F H : Hp) : Slot → Option V → Prop
  | .un, _ => True
  | .dat d, o => ∃ v, o = some v ∧ Rp K F v d
  | .own ds, o => ∃ p vs, o = some (.ref p) ∧ H p = some (.lst vs) ∧ F p = none ∧ g.H0 p = none ∧ RpL K F vs ds
  | .drw, o => ∃ a, g.dr = some a ∧ o = some (.ref a)
  | .exc a d x, o => o = some (.ref a) ∧ ExR K F x d
  | .slf a C ns ds, o => ∃ dx vs, o = some (.ref a) ∧ H a = some (.ins C dx (ns.zip vs)) ∧ H dx = some (.own a) ∧ F a = none ∧ F dx = none ∧ g.H0 a = none ∧ g.H0 dx = none ∧ ns.length = vs.length ∧ RpL K F vs ds
  | .dic ks ds, o => ∃ p vs, o = some (.ref p) ∧ H p = some (.dT (ks.zip vs)) ∧ F p = none ∧ g.H0 p = none ∧ ks.length = vs.length ∧ RpL K F vs ds

structure Rel (K : PySem.W.Frag) (g : G) (F : Hp) (sl : List Slot) (S : List Int) (σ : L2.St) (H : Hp) : Prop where
  cor : Cor g F S H
  len : sl.length = σ.length
  ok : ∀ (i : Nat) (s : Slot), sl[i]? = some s → SlotOk K g F H s (σ[i]?).join
  sep : ∀ (i j : Nat) (di dj : List D) (p : Addr), i ≠ j → sl[i]? = some (Slot.own di) → sl[j]? = some (Slot.own dj) → (σ[i]?).join = some (.ref p) → (σ[j]?).join ≠ some (.ref p)

/-- a result -/
def RR (K : PySem.W.Frag) (g : G) (F H : Hp) : Res → V → Prop
  | .dat d, v => Rp K F v d
  | .own ds, v => ∃ p vs, v = .ref p ∧ H p = some (.lst vs) ∧ F p = none ∧ g.H0 p = none ∧ RpL K F vs ds
  | .drw, v => ∃ a, g.dr = some a ∧ v = .ref a
/-- .. that no slot owns -/
def Ap (sl : List Slot) (σ : L2.St) (r : Res) (v : V) : Prop :=
  match r with
  | .own _ => ∀ (i : Nat) (d : List D), sl[i]? = some (Slot.own d) → (σ[i]?).join ≠ some v
  | _ => True

/-- from one state of a frame to a later one, by an expression: what stood stands (but the draws) -/
structure Stp (g : G) (F H F' H' : Hp) : Prop where
  f : Same F F'
  k : ∀ a o, H a = some o → g.dr ≠ some a → H' a = some o
  n : ∀ a o, F' a = some o → F a = some o ∨ H a = none ∨ ∃ vs, o = .tup vs
  d : ∀ a, H' a = none → H a = none
theorem Stp.refl {g : G} {F H : Hp} : Stp g F H F H := ⟨Same.refl _, fun _ _ e _ => e, fun _ _ e => .inl e, fun _ e => e⟩
theorem Stp.trans {g : G} {F H F1 H1 F2 H2 : Hp} (a : Stp g F H F1 H1) (b : Stp g F1 H1 F2 H2) : Stp g F H F2 H2 :=
  ⟨a.f.trans b.f, fun x o e q => b.k x o (a.k x o e q) q, fun x o e => (b.n x o e).elim (a.n x o) fun z => .inr (z.imp (a.d x) id), fun x e => a.d x (b.d x e)⟩
/-- what is not frozen stays so, but a tuple -/
theorem Stp.free {g : G} {F H F' H' : Hp} (s : Stp g F H F' H') (fh : Same F' H') {p : Addr} {o : HO} (hf : F p = none) (h : H p = some o) (nd : g.dr ≠ some p) (nt : ∀ vs, o ≠ .tup vs := by intro vs e; cases e) : F' p = none := by
  cases e : F' p with
  | none => rfl
  | some u =>
    rcases s.n p u e with z | z | ⟨vs, z⟩
    · rw [hf] at z; cases z
    · rw [h] at z; cases z
    · subst z
      have := fh p _ e
      rw [s.k p o h nd] at this
      exact absurd (Option.some.inj this) (nt vs)
theorem isObj_tup {o : HO} (h : isObj o = true) (vs : List V) : o ≠ .tup vs := by
  rintro rfl
  cases h
/-- a new one -/
def Nw (H : Hp) (r : Res) (v : V) : Prop := match r with
  | .own _ => ∀ p, v = V.ref p → H p = none
  | _ => True
theorem Nw.back {g : G} {F H F1 H1 : Hp} {r : Res} {v : V} (s : Stp g F H F1 H1) (h : Nw H1 r v) : Nw H r v := by
  cases r with
  | own ds => exact fun p e => s.d p (h p e)
  | _ => trivial
theorem nw_new {H : Hp} {p : Addr} (h : H p = none) {ds : List D} : Nw H (.own ds) (.ref p) := fun q e => by cases e; exact h
section
variable {K : PySem.W.Frag} {g : G} {F F' H H' : Hp} {sl : List Slot} {S S' : List Int} {σ : L2.St}

theorem Same.upd_new {F : Hp} {p : Addr} {o : HO} (h : F p = none) : Same F (upd F p o) := fun b u e => by
  rw [upd_ne (ne_of_none e h)]
  exact e
theorem Cor.free (c : Cor g F S H) {p : Addr} (h : H p = none) : F p = none := by
  cases e : F p with
  | none => rfl
  | some o => rw [c.fh _ _ e] at h; cases h
theorem Cor.new (c : Cor g F S H) {p : Addr} (h : H p = none) : g.H0 p = none := by
  cases e : g.H0 p with
  | none => rfl
  | some o =>
    by_cases q : g.dr = some p
    · rw [(c.st p q).1] at h; cases h
    · rw [c.h0 _ _ e q] at h; cases h
theorem Stp.alloc {p : Addr} {o : HO} (h : H p = none) : Stp g F H F (upd H p o) :=
  ⟨Same.refl _, fun a u e _ => Same.upd_new h a u e, fun _ _ e => .inl e, fun a e => by
    by_cases q : a = p
    · rw [q]; exact h
    · rw [upd_ne q] at e; exact e⟩
theorem Stp.allocF {p : Addr} {o : HO} (h : H p = none) (hf : F p = none) : Stp g F H (upd F p o) (upd H p o) :=
  ⟨Same.upd_new hf, fun a u e _ => Same.upd_new h a u e, fun a u e => by
    by_cases q : a = p
    · rw [q]; exact .inr (.inl h)
    · rw [upd_ne q] at e; exact .inl e, fun a e => by
    by_cases q : a = p
    · rw [q]; exact h
    · rw [upd_ne q] at e; exact e⟩
/-- a new object, not frozen -/
theorem Cor.alloc (c : Cor g F S H) {p : Addr} {o : HO} (h : H p = none) : Cor g F S (upd H p o) :=
  ⟨c.f0, c.fn, fun b u e => Same.upd_new h b u (c.fh b u e), fun b u e q => Same.upd_new h b u (c.h0 b u e q), fun a e => ⟨Same.upd_new h _ _ (c.st a e).1, (c.st a e).2⟩⟩
/-- what stands at p, new since the entry and not frozen, is frozen -/
theorem Cor.freeze (c : Cor g F S H) {p : Addr} {o : HO} (h : H p = some o) (hf : F p = none) (h0 : g.H0 p = none) : Cor g (upd F p o) S H := by
  refine ⟨fun b u e => Same.upd_new hf b u (c.f0 b u e), fun a u e => ?_, fun b u e => ?_, c.h0, fun a e => ?_⟩
  · by_cases q : a = p
    · subst q; exact .inr (.inl h0)
    · rw [upd_ne q] at e; exact c.fn a u e
  · by_cases q : b = p
    · subst q; rw [upd_same] at e; rw [h]; exact e
    · rw [upd_ne q] at e; exact c.fh b u e
  · obtain ⟨h1, h2, h3⟩ := c.st a e
    refine ⟨h1, ?_, h3⟩
    rw [upd_ne (fun z => h3 (by rw [z]; exact h0))]
    exact h2
/-- a write to what is not frozen and new -/
theorem Cor.write (c : Cor g F S H) {p : Addr} {o : HO} (hf : F p = none) (h0 : g.H0 p = none) : Cor g F S (upd H p o) := by
  refine ⟨c.f0, c.fn, fun b u e => ?_, fun b u e q => ?_, fun a e => ?_⟩
  · rw [upd_ne (ne_of_none e hf)]; exact c.fh b u e
  · rw [upd_ne (ne_of_none e h0)]; exact c.h0 b u e q
  · obtain ⟨h1, h2, h3⟩ := c.st a e
    refine ⟨?_, h2, h3⟩
    rw [upd_ne (fun z => h3 (by rw [z]; exact h0))]
    exact h1
theorem SlotOk.mono {s : Slot} {o : Option V} (h : SlotOk K g F H s o) (sf : Same F F') (ow : ∀ ds p, s = .own ds → o = some (.ref p) → H' p = H p ∧ F' p = none) (sw : ∀ q u, H q = some u → F q = none → g.H0 q = none → isObj u = true → H' q = some u ∧ F' q = none) : SlotOk K g F' H' s o := by
  cases s with
  | un => trivial
  | dat d => obtain ⟨v, e, r⟩ := h; exact ⟨v, e, r.mono sf⟩
  | own ds =>
    obtain ⟨p, vs, e, h1, h2, h3, r⟩ := h
    obtain ⟨e1, e2⟩ := ow ds p rfl e
    exact ⟨p, vs, e, e1.trans h1, e2, h3, r.mono sf⟩
  | drw => exact h
  | exc a d x => exact ⟨h.1, h.2.mono sf⟩
  | slf a C ns ds =>
    obtain ⟨dx, vs, e, h1, h2, h3, h4, h5, h6, l, r⟩ := h
    obtain ⟨e1, e2⟩ := sw a _ h1 h3 h5 rfl
    obtain ⟨e3, e4⟩ := sw dx _ h2 h4 h6 rfl
    exact ⟨dx, vs, e, e1, e3, e2, e4, h5, h6, l, r.mono sf⟩
  | dic ks ds =>
    obtain ⟨p, vs, e, h1, h2, h3, l, r⟩ := h
    obtain ⟨e1, e2⟩ := sw p _ h1 h2 h3 rfl
    exact ⟨p, vs, e, e1, e2, h3, l, r.mono sf⟩
theorem Rel.own (r : Rel K g F sl S σ H) {i : Nat} {ds : List D} (h : sl[i]? = some (.own ds)) : ∃ p vs, σ[i]? = some (some (.ref p)) ∧ H p = some (.lst vs) ∧ F p = none ∧ g.H0 p = none ∧ RpL K F vs ds := by
  obtain ⟨p, vs, e, q⟩ := r.ok i _ h
  refine ⟨p, vs, ?_, q⟩
  cases e2 : σ[i]? with
  | none => rw [e2] at e; cases e
  | some o => rw [e2] at e; exact congrArg some e
theorem Rel.dat (r : Rel K g F sl S σ H) {i : Nat} {d : D} (h : sl[i]? = some (.dat d)) : ∃ v, σ[i]? = some (some v) ∧ Rp K F v d := by
  obtain ⟨v, e, q⟩ := r.ok i _ h
  refine ⟨v, ?_, q⟩
  cases e2 : σ[i]? with
  | none => rw [e2] at e; cases e
  | some o => rw [e2] at e; exact congrArg some e
theorem Rel.drw (r : Rel K g F sl S σ H) {i : Nat} (h : sl[i]? = some .drw) : ∃ a, σ[i]? = some (some (.ref a)) ∧ g.dr = some a := by
  obtain ⟨a, e1, e⟩ := r.ok i _ h
  refine ⟨a, ?_, e1⟩
  cases e2 : σ[i]? with
  | none => rw [e2] at e; cases e
  | some o => rw [e2] at e; exact congrArg some e
theorem Rel.alloc (r : Rel K g F sl S σ H) {p : Addr} {o : HO} (h : H p = none) : Rel K g F sl S σ (upd H p o) :=
  ⟨r.cor.alloc h, r.len, fun i s e => (r.ok i s e).mono (Same.refl _) (fun ds q e1 e2 => by
    subst e1
    obtain ⟨p', vs, e3, h1, h2, _⟩ := r.ok i _ e
    rw [e2] at e3
    cases e3
    exact ⟨upd_ne (ne_of_none h1 h), h2⟩) fun q u h1 h2 _ _ => ⟨by rw [upd_ne (ne_of_none h1 h)]; exact h1, h2⟩, r.sep⟩
/-- freezing what no slot owns -/
theorem Rel.freeze (r : Rel K g F sl S σ H) {p : Addr} {o : HO} (h : H p = some o) (hf : F p = none) (h0 : g.H0 p = none) (ap : ∀ (i : Nat) (d : List D), sl[i]? = some (Slot.own d) → (σ[i]?).join ≠ some (.ref p)) (no : isObj o = false := by rfl) : Rel K g (upd F p o) sl S σ H :=
  ⟨r.cor.freeze h hf h0, r.len, fun i s e => (r.ok i s e).mono (Same.upd_new hf) (fun ds q e1 e2 => by
    subst e1
    obtain ⟨p', vs, e3, h1, h2, _⟩ := r.ok i _ e
    rw [e2] at e3
    cases e3
    refine ⟨rfl, ?_⟩
    rw [upd_ne fun z => ap i ds e (by rw [e2, z])]
    exact h2) fun q u h1 h2 _ h4 => ⟨h1, by
    rw [upd_ne fun z => by
      rw [z, h] at h1
      cases h1
      rw [no] at h4
      cases h4]
    exact h2⟩, r.sep⟩
/-- a new frozen object -/
theorem Rel.allocF (r : Rel K g F sl S σ H) {p : Addr} {o : HO} (h : H p = none) (no : isObj o = false := by rfl) : Rel K g (upd F p o) sl S σ (upd H p o) :=
  (r.alloc (o := o) h).freeze upd_same (r.cor.free h) (r.cor.new h) (fun i d e z => by
    obtain ⟨p', vs, e3, h1, _⟩ := r.ok i _ e
    rw [z] at e3
    cases e3
    rw [h] at h1; cases h1) no
theorem Rel.freshAp (r : Rel K g F sl S σ H) {p : Addr} (h : H p = none) : ∀ (i : Nat) (d : List D), sl[i]? = some (Slot.own d) → (σ[i]?).join ≠ some (.ref p) := fun i d e z => by
  obtain ⟨p', vs, e3, h1, _⟩ := r.ok i _ e
  rw [z] at e3
  cases e3
  rw [h] at h1; cases h1
theorem Rel.ap (r : Rel K g F sl S σ H) {x : Res} {v : V} (nw : Nw H x v) : Ap sl σ x v := by
  cases x with
  | own ds =>
    intro i d e z
    obtain ⟨p', vs, e3, h1, _⟩ := r.ok i _ e
    rw [z] at e3
    cases e3
    rw [nw p' rfl] at h1; cases h1
  | _ => trivial
/-- a result as plain data -/
theorem Rel.plain {F1 H1 : Hp} {S1 : List Int} (r : Rel K g F1 sl S1 σ H1) (r0 : Rel K g F sl S σ H) {x : Res} {v : V} {d : D} (q : RR K g F1 H1 x v) (s : Stp g F H F1 H1) (nw : Nw H x v) (e : x.toD = some d) :
    ∃ F', Same F1 F' ∧ Stp g F H F' H1 ∧ Rel K g F' sl S1 σ H1 ∧ Rp K F' v d := by
  cases x with
  | dat d' => cases e; exact ⟨F1, Same.refl _, s, r, q⟩
  | own ds =>
    cases e
    have ap := r0.ap nw
    obtain ⟨p, vs, rfl, h1, h2, h3, q⟩ := q
    have hn : H p = none := nw p rfl
    refine ⟨_, Same.upd_new h2, ⟨s.f.trans (Same.upd_new h2), s.k, fun a u e => ?_, s.d⟩, r.freeze h1 h2 h3 ap, .lst upd_same (q.mono (Same.upd_new h2))⟩
    by_cases z : a = p
    · rw [z]; exact .inr (.inl hn)
    · rw [upd_ne z] at e; exact s.n a u e
  | drw => cases e
/-- a slot's own list is frozen -/
theorem Rel.frz (r : Rel K g F sl S σ H) (i : Nat) : ∃ F', Same F F' ∧ Rel K g F' (match sl[i]? with | some s => sl.set i s.frz | none => sl) S σ H := by
  cases e : sl[i]? with
  | none => exact ⟨F, Same.refl _, r⟩
  | some s =>
    cases s with
    | own ds =>
      obtain ⟨p, vs, e1, h1, h2, h3, q⟩ := r.own e
      have hi : i < sl.length := (List.getElem?_eq_some_iff.mp e).1
      refine ⟨upd F p (.lst vs), Same.upd_new h2, r.cor.freeze h1 h2 h3, by simpa using r.len, fun j s hj => ?_, fun j k dj dk p' hjk h4 h5 => ?_⟩
      · by_cases hij : i = j
        · subst hij
          rw [List.getElem?_set_self hi] at hj
          cases hj
          exact ⟨.ref p, by rw [e1]; rfl, .lst upd_same (q.mono (Same.upd_new h2))⟩
        · rw [List.getElem?_set_ne hij] at hj
          refine (r.ok j s hj).mono (Same.upd_new h2) (fun ds' q' e4 e5 => ⟨rfl, ?_⟩) fun q u g1 g2 _ g4 => ⟨g1, by
            rw [upd_ne fun z => by
              rw [z, h1] at g1
              cases g1
              cases g4]
            exact g2⟩
          subst e4
          obtain ⟨p'', vs'', e6, h7, h8, _⟩ := r.ok j _ hj
          rw [e5] at e6
          cases e6
          rw [upd_ne fun z => r.sep i j ds ds' p hij e hj (by rw [e1]; rfl) (by rw [e5, z])]
          exact h8
      · have n1 : i ≠ j := fun z => by subst z; rw [List.getElem?_set_self hi] at h4; cases h4
        have n2 : i ≠ k := fun z => by subst z; rw [List.getElem?_set_self hi] at h5; cases h5
        rw [List.getElem?_set_ne n1] at h4
        rw [List.getElem?_set_ne n2] at h5
        exact r.sep j k dj dk p' hjk h4 h5
    | un => exact ⟨F, Same.refl _, by
        have : sl.set i (Slot.frz .un) = sl := by
          apply List.ext_getElem?
          intro j
          by_cases hij : i = j
          · subst hij
            rw [List.getElem?_set_self ((List.getElem?_eq_some_iff.mp e).1), e]; rfl
          · rw [List.getElem?_set_ne hij]
        show Rel K g F (sl.set i (Slot.frz .un)) S σ H
        rw [this]; exact r⟩
    | dat d => exact ⟨F, Same.refl _, by
        have : sl.set i (Slot.frz (.dat d)) = sl := by
          apply List.ext_getElem?
          intro j
          by_cases hij : i = j
          · subst hij
            rw [List.getElem?_set_self ((List.getElem?_eq_some_iff.mp e).1), e]; rfl
          · rw [List.getElem?_set_ne hij]
        show Rel K g F (sl.set i (Slot.frz (.dat d))) S σ H
        rw [this]; exact r⟩
    | drw => exact ⟨F, Same.refl _, by
        have : sl.set i (Slot.frz .drw) = sl := by
          apply List.ext_getElem?
          intro j
          by_cases hij : i = j
          · subst hij
            rw [List.getElem?_set_self ((List.getElem?_eq_some_iff.mp e).1), e]; rfl
          · rw [List.getElem?_set_ne hij]
        show Rel K g F (sl.set i (Slot.frz .drw)) S σ H
        rw [this]; exact r⟩
    | exc a d x => exact ⟨F, Same.refl _, by
        have : sl.set i (Slot.frz (.exc a d x)) = sl := by
          apply List.ext_getElem?
          intro j
          by_cases hij : i = j
          · subst hij
            rw [List.getElem?_set_self ((List.getElem?_eq_some_iff.mp e).1), e]; rfl
          · rw [List.getElem?_set_ne hij]
        show Rel K g F (sl.set i (Slot.frz (.exc a d x))) S σ H
        rw [this]; exact r⟩
    | slf b a d x => exact ⟨F, Same.refl _, by
        have : sl.set i (Slot.frz (.slf b a d x)) = sl := by
          apply List.ext_getElem?
          intro j
          by_cases hij : i = j
          · subst hij
            rw [List.getElem?_set_self ((List.getElem?_eq_some_iff.mp e).1), e]; rfl
          · rw [List.getElem?_set_ne hij]
        show Rel K g F (sl.set i (Slot.frz (.slf b a d x))) S σ H
        rw [this]; exact r⟩
    | dic ks ds => exact ⟨F, Same.refl _, by
        have : sl.set i (Slot.frz (.dic ks ds)) = sl := by
          apply List.ext_getElem?
          intro j
          by_cases hij : i = j
          · subst hij
            rw [List.getElem?_set_self ((List.getElem?_eq_some_iff.mp e).1), e]; rfl
          · rw [List.getElem?_set_ne hij]
        show Rel K g F (sl.set i (Slot.frz (.dic ks ds))) S σ H
        rw [this]; exact r⟩
/-- a store into a slot -/
theorem Rel.store (r : Rel K g F sl S σ H) {i : Nat} {x : Res} {v : V} (q : RR K g F H x v) (ap : Ap sl σ x v) (hi : i < sl.length) : Rel K g F (sl.set i x.slot) S (σ.set i (some v)) H := by
  have hs : i < σ.length := by rw [← r.len]; exact hi
  refine ⟨r.cor, by simpa using r.len, fun j s hj => ?_, fun j k dj dk p hjk h4 h5 h6 h7 => ?_⟩
  · by_cases hij : i = j
    · subst hij
      rw [List.getElem?_set_self hi] at hj
      rw [List.getElem?_set_self hs]
      cases hj
      cases x with
      | dat d => exact ⟨v, rfl, q⟩
      | own ds =>
        obtain ⟨p, vs, rfl, q⟩ := q
        exact ⟨p, vs, rfl, q⟩
      | drw =>
        obtain ⟨a, e, rfl⟩ := q
        exact ⟨a, e, rfl⟩
    · rw [List.getElem?_set_ne hij] at hj
      rw [List.getElem?_set_ne hij]
      exact r.ok j s hj
  · by_cases n1 : i = j
    · subst n1
      have n2 : i ≠ k := hjk
      rw [List.getElem?_set_self hi] at h4
      rw [List.getElem?_set_self hs] at h6
      rw [List.getElem?_set_ne n2] at h5 h7
      cases x with
      | own ds =>
        cases h6
        exact ap k dk h5 h7
      | dat d => cases h4
      | drw => cases h4
    · rw [List.getElem?_set_ne n1] at h4 h6
      by_cases n2 : i = k
      · subst n2
        rw [List.getElem?_set_self hi] at h5
        rw [List.getElem?_set_self hs] at h7
        cases x with
        | own ds =>
          cases h7
          exact ap j dj h4 h6
        | dat d => cases h5
        | drw => cases h5
      · rw [List.getElem?_set_ne n2] at h5 h7
        exact r.sep j k dj dk p hjk h4 h5 h6 h7
/-- a slot's own list is written -/
theorem Rel.write (r : Rel K g F sl S σ H) {i : Nat} {ds es : List D} {p : Addr} {vs : List V} (h : sl[i]? = some (.own ds)) (hp : σ[i]? = some (some (.ref p))) (q : RpL K F vs es) : Rel K g F (sl.set i (.own es)) S σ (upd H p (.lst vs)) := by
  obtain ⟨p', vs', e1, h1, h2, h3, q'⟩ := r.own h
  rw [hp] at e1
  cases e1
  have hi : i < sl.length := (List.getElem?_eq_some_iff.mp h).1
  refine ⟨r.cor.write h2 h3, by simpa using r.len, fun j s hj => ?_, fun j k dj dk p' hjk h4 h5 h6 => ?_⟩
  · by_cases hij : i = j
    · subst hij
      rw [List.getElem?_set_self hi] at hj
      cases hj
      exact ⟨p, vs, by rw [hp]; rfl, upd_same, h2, h3, q⟩
    · rw [List.getElem?_set_ne hij] at hj
      refine (r.ok j s hj).mono (Same.refl _) (fun ds' q' e4 e5 => ?_) fun q u g1 g2 _ g4 => ⟨by
        rw [upd_ne fun z => by
          rw [z, h1] at g1
          cases g1
          cases g4]
        exact g1, g2⟩
      subst e4
      obtain ⟨p'', vs'', e6, h7, h8, _⟩ := r.ok j _ hj
      rw [e5] at e6
      cases e6
      exact ⟨upd_ne fun z => r.sep i j ds ds' p hij h hj (by rw [hp]; rfl) (by rw [e5, z]), h8⟩
  · have base : ∀ (m : Nat) (dm : List D), (sl.set i (Slot.own es))[m]? = some (Slot.own dm) → ∃ d', sl[m]? = some (Slot.own d') := fun m dm hm => by
      by_cases z : i = m
      · subst z; exact ⟨ds, h⟩
      · rw [List.getElem?_set_ne z] at hm; exact ⟨dm, hm⟩
    obtain ⟨d1, z1⟩ := base j dj h4
    obtain ⟨d2, z2⟩ := base k dk h5
    exact r.sep j k d1 d2 p' hjk z1 z2 h6
/-- the draws' list is written -/
theorem Rel.draw (r : Rel K g F sl S σ H) {a : Addr} (h : g.dr = some a) (S' : List Int) : Rel K g F sl S' σ (upd H a (.lst (S'.map V.int))) := by
  obtain ⟨h1, h2, h3⟩ := r.cor.st a h
  refine ⟨⟨r.cor.f0, r.cor.fn, fun b u e => ?_, fun b u e q => ?_, fun b e => ?_⟩, r.len, fun j s hj => (r.ok j s hj).mono (Same.refl _) (fun ds p e1 e2 => ?_) fun q u g1 g2 _ g4 => ⟨by
    rw [upd_ne fun z => by
      rw [z, h1] at g1
      cases g1
      cases g4]
    exact g1, g2⟩, r.sep⟩
  · rw [upd_ne (ne_of_none e h2)]; exact r.cor.fh b u e
  · rw [upd_ne (fun z => q (by rw [z]; exact h))]; exact r.cor.h0 b u e q
  · rw [h] at e; cases e
    exact ⟨upd_same, h2, h3⟩
  · subst e1
    obtain ⟨p', vs', e6, h7, h8, h9, _⟩ := r.ok j _ hj
    rw [e2] at e6
    cases e6
    exact ⟨upd_ne fun z => h3 (by rw [← z]; exact h9), h8⟩
end
end Py
end
section
set_option Elab.async false
set_option linter.all false
set_option maxRecDepth 100000
set_option maxHeartbeats 4000000
/-! Expressions over pure data. -/
namespace Py
open PySem L2

abbrev PQ := Res → List Int → Prop
abbrev PXQ := PX → List Int → Prop
abbrev PEx := List Slot → List Int → PQ → PXQ → Prop
abbrev PTx := List Slot → List Int → (Bool → List Int → Prop) → PXQ → Prop
abbrev PAx := List Slot → List Int → (List Res → List Int → Prop) → PXQ → Prop

def ExcE (K : PySem.W.Frag) (W : WX) (g : G) (F : Hp) (sl : List Slot) (σ : L2.St) (E' : PXQ) : Prop :=
  ∀ x S' d H' F', Same F F' → Rel K g F' sl S' σ H' → ExR K F' x d → E' x S' → W (.ref x.C) d σ H'
theorem ExcE.mono {K : PySem.W.Frag} {W : WX} {g : G} {F F' : Hp} {sl : List Slot} {σ : L2.St} {E' : PXQ} (h : ExcE K W g F sl σ E') (s : Same F F') : ExcE K W g F' sl σ E' :=
  fun x S' d H' F2 s2 => h x S' d H' F2 (s.trans s2)
def rdE (K : PySem.W.Frag) (W : WX) (p : PEx) : TE := fun σ H Q => ∃ g F sl S Q' E', Rel K g F sl S σ H ∧ p sl S Q' E' ∧
  (∀ r S' v H' F', Stp g F H F' H' → Rel K g F' sl S' σ H' → RR K g F' H' r v → Nw H r v → Q' r S' → Q v H') ∧ ExcE K W g F sl σ E'
def rdT (K : PySem.W.Frag) (W : WX) (p : PTx) : TT := fun σ H Q => ∃ g F sl S Q' E', Rel K g F sl S σ H ∧ p sl S Q' E' ∧
  (∀ b S' H' F', Stp g F H F' H' → Rel K g F' sl S' σ H' → Q' b S' → Q b H') ∧ ExcE K W g F sl σ E'
/-- an argument: plain data, or the draws -/
def RA (K : PySem.W.Frag) (g : G) (F : Hp) : Res → V → Prop
  | .dat d, v => Rp K F v d
  | .own _, _ => False
  | .drw, v => ∃ a, g.dr = some a ∧ v = .ref a
abbrev RAs (K : PySem.W.Frag) (g : G) (F : Hp) : List Res → List V → Prop := Paired (RA K g F)
@[simp] def Res.arg : Res → Res
  | .own ds => .dat (.lst ds)
  | r => r
def rdA (K : PySem.W.Frag) (W : WX) (p : PAx) : TA := fun σ H Q => ∃ g F sl S Q' E', Rel K g F sl S σ H ∧ p sl S Q' E' ∧
  (∀ rs S' vs H' F', Stp g F H F' H' → Rel K g F' sl S' σ H' → RAs K g F' rs vs → Q' rs S' → Q vs H') ∧ ExcE K W g F sl σ E'
structure SE (X : Cx) (W : WX) (e : Expr) (p : PEx) : Prop where
  pe : PE X e (rdE X.K W p)
structure ST (X : Cx) (W : WX) (e : Expr) (p : PTx) : Prop where
  pt : PT X e (rdT X.K W p)
structure SA (X : Cx) (W : WX) (es : List Expr) (p : PAx) : Prop where
  pa : PA X es (rdA X.K W p)

theorem PE.imp {X : Cx} {e : Expr} {t t' : TE} (h : PE X e t) (i : ∀ σ H Q, t' σ H Q → t σ H Q) : PE X e t' := ⟨fun pins s σ H Q I q => h.run pins s σ H Q I (i _ _ _ q)⟩
theorem PT.imp {X : Cx} {e : Expr} {t t' : TT} (h : PT X e t) (i : ∀ σ H Q, t' σ H Q → t σ H Q) : PT X e t' := ⟨fun pins s σ H Q I q => h.run pins s σ H Q I (i _ _ _ q)⟩
theorem PW.imp {X : Cx} {e : Expr} {t t' : TT} (h : PW X e t) (i : ∀ σ H Q, t' σ H Q → t σ H Q) : PW X e t' := ⟨fun w pins s σ H Q I q => h.run w pins s σ H Q I (i _ _ _ q)⟩
theorem PA.imp {X : Cx} {e : List Expr} {t t' : TA} (h : PA X e t) (i : ∀ σ H Q, t' σ H Q → t σ H Q) : PA X e t' := ⟨fun pos pins s σ H Q I q => h.run pos pins s σ H Q I (i _ _ _ q)⟩

/-- the plain data of p -/
@[simp] def dat (p : PEx) (sl : List Slot) (S : List Int) (Q : D → List Int → Prop) (E : PXQ) : Prop := p sl S (fun r S1 => match r with | .dat d => Q d S1 | .own ds => Q (.lst ds) S1 | .drw => False) E

section
variable {K : PySem.W.Frag} {W : WX} {g : G} {F H : Hp} {sl : List Slot} {S : List Int} {σ : L2.St} {p q : PEx} {E' : PXQ} {Q : VK}
theorem rdE_dat {Qd : D → List Int → Prop} (rel : Rel K g F sl S σ H) (hp : dat p sl S Qd E') (exc : ExcE K W g F sl σ E')
    (post : ∀ d S1 v H1 F1, Stp g F H F1 H1 → Rel K g F1 sl S1 σ H1 → Rp K F1 v d → Qd d S1 → Q v H1) : rdE K W p σ H Q :=
  ⟨g, F, sl, S, _, E', rel, hp, fun r S' v H' F' s rel' rr nw hq => by
    cases r with
    | dat d => exact post d S' v H' F' s rel' rr hq
    | own ds =>
      obtain ⟨F2, _, s2, rel2, rp⟩ := rel'.plain rel rr s nw rfl
      exact post _ S' v H' F2 s2 rel2 rp hq
    | drw => exact hq.elim, exc⟩
end

/-! ### names, constants -/
@[simp] def pVar (i : Nat) : PEx := fun sl S Q _ => match sl[i]? with
  | some (.dat d) => Q (.dat d) S
  | some .drw => Q .drw S
  | _ => False
@[simp] def pC (d : D) : PEx := fun _ S Q _ => Q (.dat d) S
section
variable {X : Cx} {W : WX}
theorem se_var (i : Nat) {x : Str} {pos : Pos} (hN : X.N[i]? = some x := by rfl) (hv : Vis X.env.scope x := by first | exact Or.inl rfl | exact Or.inr (Or.inl rfl) | exact Or.inr (Or.inr rfl)) (hd : (x == ("__debug__" : Str)) = false := by decide)
    (hcd : (x == ("__classdict__" : Str)) = false := by decide) : SE X W (.Name x pos) (pVar i) := ⟨PE.imp (pe_var hN hv hd hcd) fun σ H Q h => by
  obtain ⟨g, F, sl, S, Q', E', rel, hp, post, exc⟩ := h
  unfold pVar at hp
  cases e : sl[i]? with
  | none => rw [e] at hp; exact hp.elim
  | some s =>
    rw [e] at hp
    cases s with
    | dat d =>
      obtain ⟨v, h1, h2⟩ := rel.dat e
      exact ⟨v, h1, post (.dat d) S v H F Stp.refl rel h2 trivial hp⟩
    | drw =>
      obtain ⟨a, h1, h2⟩ := rel.drw e
      exact ⟨_, h1, post .drw S _ H F Stp.refl rel ⟨a, h2, rfl⟩ trivial hp⟩
    | un => exact hp.elim
    | own ds => exact hp.elim
    | slf b a d x => exact hp.elim
    | dic ks ds => exact hp.elim
    | exc a d x => exact hp.elim⟩
theorem rd_c {K : PySem.W.Frag} {d : D} {v : V} (r : ∀ F, Rp K F v d) (σ : L2.St) (H : Hp) (Q : VK) (h : rdE K W (pC d) σ H Q) : tC v σ H Q := by
  obtain ⟨g, F, sl, S, Q', E', rel, hp, post, exc⟩ := h
  exact post (.dat d) S v H F Stp.refl rel (r F) trivial hp
theorem se_int {i : Int} {j pos} : SE X W (.Constant (.int i) j pos) (pC (.int i)) := ⟨PE.imp pe_int (rd_c fun _ => .int i)⟩
theorem se_bl {b : Bool} {j pos} : SE X W (.Constant (.bool b) j pos) (pC (.bl b)) := ⟨PE.imp pe_bl (rd_c fun _ => .bl b)⟩
theorem se_non {j pos} : SE X W (.Constant .none j pos) (pC .non) := ⟨PE.imp pe_non (rd_c fun _ => .non)⟩
theorem se_str {x : Str} {j pos} : SE X W (.Constant (.str x) j pos) (pC (.str x)) := ⟨PE.imp pe_str (rd_c fun _ => .str x)⟩
theorem se_glob {x : Str} {i : Int} {t : Tok} {pos : Pos} (hm : X.mg x = some (.int i t)) (hg : Gl X x := by rfl) (hd : (x == ("__debug__" : Str)) = false := by decide) : SE X W (.Name x pos) (pC (.int i)) :=
  ⟨PE.imp (pe_glob (v := .int i) hg hm ⟨t, rfl⟩ hd) (rd_c fun _ => .int i)⟩
end

/-! ### two-place operations -/
abbrev PF2 := D → D → (Res → Prop) → Prop
@[simp] def pBin (f : PF2) (p q : PEx) : PEx := fun sl S Q E => dat p sl S (fun a S1 => dat q sl S1 (fun b S2 => f a b fun r => Q r S2) E) E
def OpSem (K : PySem.W.Frag) (r : R2) (f : PF2) : Prop := ∀ g F sl S σ H v1 v2 d1 d2 (Q : VK) (Qr : Res → Prop), Rel K g F sl S σ H → Rp K F v1 d1 → Rp K F v2 d2 → f d1 d2 Qr →
  (∀ res v H' F', Stp g F H F' H' → Rel K g F' sl S σ H' → RR K g F' H' res v → Nw H res v → Qr res → Q v H') → r v1 v2 H Q
theorem rd_bin {K : PySem.W.Frag} {W : WX} {r : R2} {f : PF2} {p q : PEx} (hs : OpSem K r f) (σ : L2.St) (H : Hp) (Q : VK) (h : rdE K W (pBin f p q) σ H Q) : tOp r (rdE K W p) (rdE K W q) σ H Q := by
  obtain ⟨g, F, sl, S, Q', E', rel, hp, post, exc⟩ := h
  refine rdE_dat rel hp exc fun d1 S1 v1 H1 F1 s1 rel1 r1 h1 => ?_
  refine rdE_dat rel1 h1 (exc.mono s1.f) fun d2 S2 v2 H2 F2 s2 rel2 r2 h2 => ?_
  exact hs g F2 sl S2 σ H2 v1 v2 d1 d2 Q _ rel2 (r1.mono s2.f) r2 h2 fun res v H' F' s rel' rr nw hq => post res S2 v H' F' ((s1.trans s2).trans s) rel' rr (nw.back (s1.trans s2)) hq
section
variable {X : Cx} {W : WX} {a b : Expr} {p q : PEx} {pos : Pos} {r : R2} {f : PF2}
theorem se_op {op : Operator} (ho : OpR X (binaryOp op) r) (hs : OpSem X.K r f) (ha : SE X W a p) (hb : SE X W b q) : SE X W (.BinOp a op b pos) (pBin f p q) := ⟨PE.imp (pe_op ho ha.pe hb.pe) (rd_bin hs)⟩
theorem se_cmp {op : CmpOp} (ho : OpR X (compareOp op) r) (hs : OpSem X.K r f) (ha : SE X W a p) (hb : SE X W b q) (hm : behindInMarks op b = false := by first | exact nomark _ | rfl) : SE X W (.Compare a [op] [b] pos) (pBin f p q) := ⟨PE.imp (pe_cmpR ho ha.pe hb.pe hm) (rd_bin hs)⟩
/-- a value that is a bool, as a test -/
@[simp] def pTst (p : PEx) : PTx := fun sl S Q E => p sl S (fun r S1 => match r with | .dat (.bl c) => Q c S1 | _ => False) E
theorem rd_tst {K : PySem.W.Frag} (σ : L2.St) (H : Hp) (Q : Bool → Hp → Prop) (h : rdT K W (pTst p) σ H Q) : rdE K W p σ H fun x H1 => ∃ c, x = .bl c ∧ Q c H1 := by
  obtain ⟨g, F, sl, S, Q', E', rel, hp, post, exc⟩ := h
  refine ⟨g, F, sl, S, _, E', rel, hp, fun r S' v H' F' s rel' rr ap hq => ?_, exc⟩
  cases r with
  | dat d =>
    cases d with
    | bl c =>
      cases rr
      exact ⟨c, rfl, post c S' H' F' s rel' hq⟩
    | _ => exact hq.elim
  | _ => exact hq.elim
theorem st_val {e : Expr} (h : SE X W e p) (he : ∀ whole, isTrue e X.env whole = (do let v ← whole; standAt e.pos; holding [v] (truthy v)) := by intro _; rfl) : ST X W e (pTst p) := ⟨PT.imp (pt_val h.pe he) rd_tst⟩
theorem st_cmp {op : CmpOp} (ho : OpR X (compareOp op) r) (hs : OpSem X.K r f) (ha : SE X W a p) (hb : SE X W b q) (hm : behindInMarks op b = false := by first | exact nomark _ | rfl) : ST X W (.Compare a [op] [b] pos) (pTst (pBin f p q)) :=
  ⟨PT.imp (pt_cmpR ho ha.pe hb.pe hm) fun σ H Q h => rd_bin hs _ _ _ (rd_tst (p := pBin f p q) σ H Q h)⟩
end

/-! ### results of operations -/
section
variable {K : PySem.W.Frag}
theorem OpSem.or {r r' : R2} {f f' : PF2} (h : OpSem K r f) (h' : OpSem K r' f') : OpSem K (fun x y H Q => r x y H Q ∨ r' x y H Q) (fun a b Q => f a b Q ∨ f' a b Q) := fun g F sl S σ H v1 v2 d1 d2 Q Qr rel r1 r2 hf post => by
  rcases hf with hf | hf
  · exact .inl (h g F sl S σ H v1 v2 d1 d2 Q Qr rel r1 r2 hf post)
  · exact .inr (h' g F sl S σ H v1 v2 d1 d2 Q Qr rel r1 r2 hf post)
/-- ints to an int or a bool -/
@[simp] def fII (C : Int → Int → Prop) (o : Int → Int → D) : PF2 := fun a b Q => match a, b with
  | .int i, .int j => C i j ∧ Q (.dat (o i j))
  | _, _ => False
theorem sem_II {C : Int → Int → Prop} {o : Int → Int → D} {gv : Int → Int → V} (hr : ∀ F i j, Rp K F (gv i j) (o i j)) : OpSem K (rI C gv) (fII C o) := fun g F sl S σ H v1 v2 d1 d2 Q Qr rel r1 r2 hf post => by
  cases r1 with
  | int i =>
    cases r2 with
    | int j =>
      obtain ⟨hc, hq⟩ := hf
      exact ⟨i, j, rfl, rfl, hc, post (.dat (o i j)) _ H F Stp.refl rel (hr F i j) trivial hq⟩
    | _ => exact hf.elim
  | _ => exact hf.elim
/-- .. without a condition -/
@[simp] def fI0 (o : Int → Int → D) : PF2 := fun a b Q => match a, b with
  | .int i, .int j => Q (.dat (o i j))
  | _, _ => False
theorem sem_I0 {o : Int → Int → D} {gv : Int → Int → V} (hr : ∀ F i j, Rp K F (gv i j) (o i j)) : OpSem K (rI0 gv) (fI0 o) := fun g F sl S σ H v1 v2 d1 d2 Q Qr rel r1 r2 hf post => by
  cases r1 with
  | int i =>
    cases r2 with
    | int j => exact ⟨i, j, rfl, rfl, post (.dat (o i j)) _ H F Stp.refl rel (hr F i j) trivial hf⟩
    | _ => exact hf.elim
  | _ => exact hf.elim
end
section
variable {X : Cx} {W : WX} {a b : Expr} {p q : PEx} {pos : Pos}
@[simp] def fSub : PF2 := fI0 fun i j => .int (i - j)
theorem se_sub (ha : SE X W a p) (hb : SE X W b q) : SE X W (.BinOp a .Sub b pos) (pBin fSub p q) := se_op op_sub (sem_I0 fun _ _ _ => .int _) ha hb
/-- // by anything below 2 ^ 9000 -/
def CDv (_ j : Int) : Prop := j ≠ 0 ∧ j.natAbs.log2 < 9000
@[simp] def fDiv : PF2 := fII CDv fun i j => .int (i.fdiv j)
theorem op_dv : OpR X (binaryOp .FloorDiv) (rI CDv fun i j => .int (i.fdiv j)) := opI fun _ _ _ _ _ _ _ hc q => PyProof.Rows.floordiv_int hc.1 q (.inl (PyProof.noPylong_of_log2 hc.2))
theorem se_div (ha : SE X W a p) (hb : SE X W b q) : SE X W (.BinOp a .FloorDiv b pos) (pBin fDiv p q) := se_op op_dv (sem_II fun _ _ _ => .int _) ha hb
@[simp] def fMod : PF2 := fII (fun _ j => j ≠ 0) fun i j => .int (i.fmod j)
theorem se_mod (ha : SE X W a p) (hb : SE X W b q) : SE X W (.BinOp a .Mod b pos) (pBin fMod p q) := se_op op_modN (sem_II fun _ _ _ => .int _) ha hb
def CPw (i j : Int) : Prop := 0 ≤ j ∧ (Builtin.Int.intBits i : Int) * j ≤ 2 ^ 27
theorem op_pw : OpR X (binaryOp .Pow) (rI CPw fun i j => .int (i ^ j.toNat)) := opI fun _ _ _ _ _ _ _ hc q => PyProof.Rows.pow_int hc.1 hc.2 q
@[simp] def fPow : PF2 := fII CPw fun i j => .int (i ^ j.toNat)
theorem se_pow (ha : SE X W a p) (hb : SE X W b q) : SE X W (.BinOp a .Pow b pos) (pBin fPow p q) := se_op op_pw (sem_II fun _ _ _ => .int _) ha hb
theorem opR_or {f : Value → Value → Sem Value} {r r' : R2} (h : OpR X f r) (h' : OpR X f r') : OpR X f (fun x y H Q => r x y H Q ∨ r' x y H Q) := fun pins s σ H x y v u Q I rx ry q => q.elim (h pins s σ H x y v u Q I rx ry) (h' pins s σ H x y v u Q I rx ry)

/-! + of ints, of lists, of tuples; * of ints, of a list and an int -/
@[simp] def fAdd : PF2 := fun a b Q => match a, b with
  | .int i, .int j => Q (.dat (.int (i + j)))
  | .lst xs, .lst ys => xs.length + ys.length ≤ sizeLine ∧ Q (.own (xs ++ ys))
  | _, _ => False
theorem sem_add {K : PySem.W.Frag} : OpSem K (fun x y H Q => rI0 (fun i j => .int (i + j)) x y H Q ∨ rCat x y H Q) fAdd := fun g F sl S σ H v1 v2 d1 d2 Q Qr rel r1 r2 hf post => by
  cases r1 with
  | int i =>
    cases r2 with
    | int j => exact .inl ⟨i, j, rfl, rfl, post (.dat (.int (i + j))) _ H F Stp.refl rel (.int _) trivial hf⟩
    | _ => exact hf.elim
  | lst h1 q1 =>
    cases r2 with
    | lst h2 q2 =>
      obtain ⟨hz, hq⟩ := hf
      refine .inr ⟨_, _, _, _, rfl, rfl, rel.cor.fh _ _ h1, rel.cor.fh _ _ h2, by rw [q1.length, q2.length]; exact hz, fun p hp => ?_⟩
      exact post (.own _) _ _ F (Stp.alloc hp) (rel.alloc hp) ⟨p, _, rfl, upd_same, rel.cor.free hp, rel.cor.new hp, q1.append q2⟩ (nw_new hp) hq
    | _ => exact hf.elim
  | _ => exact hf.elim
theorem se_add (ha : SE X W a p) (hb : SE X W b q) : SE X W (.BinOp a .Add b pos) (pBin fAdd p q) := se_op (opR_or op_add op_cat) sem_add ha hb
@[simp] def fMul : PF2 := fun a b Q => match a, b with
  | .int i, .int j => CMulW i j ∧ Q (.dat (.int (i * j)))
  | .lst xs, .int k => (-(2 ^ 63) ≤ k ∧ k < 2 ^ 63 ∧ xs.length * k.toNat ≤ sizeLine) ∧ Q (.own (List.replicate k.toNat xs).flatten)
  | _, _ => False
theorem RpL.rep {K : PySem.W.Frag} {F : Hp} {vs : List V} {ds : List D} (h : RpL K F vs ds) : ∀ n : Nat, RpL K F (List.replicate n vs).flatten (List.replicate n ds).flatten
  | 0 => .nil
  | n + 1 => by
    rw [List.replicate_succ, List.replicate_succ, List.flatten_cons, List.flatten_cons]
    exact h.append (RpL.rep h n)
theorem sem_mul {K : PySem.W.Frag} : OpSem K (fun x y H Q => rI CMulW (fun i j => .int (i * j)) x y H Q ∨ rRep x y H Q) fMul := fun g F sl S σ H v1 v2 d1 d2 Q Qr rel r1 r2 hf post => by
  cases r1 with
  | int i =>
    cases r2 with
    | int j => exact .inl ⟨i, j, rfl, rfl, hf.1, post (.dat (.int (i * j))) _ H F Stp.refl rel (.int _) trivial hf.2⟩
    | _ => exact hf.elim
  | lst h1 q1 =>
    cases r2 with
    | int k =>
      obtain ⟨⟨z1, z2, hz⟩, hq⟩ := hf
      refine .inr ⟨_, _, _, rfl, rfl, rel.cor.fh _ _ h1, z1, z2, by rw [q1.length]; exact hz, fun p hp => ?_⟩
      exact post (.own _) _ _ F (Stp.alloc hp) (rel.alloc hp) ⟨p, _, rfl, upd_same, rel.cor.free hp, rel.cor.new hp, q1.rep _⟩ (nw_new hp) hq
    | _ => exact hf.elim
  | _ => exact hf.elim
theorem se_mul (ha : SE X W a p) (hb : SE X W b q) : SE X W (.BinOp a .Mult b pos) (pBin fMul p q) := se_op (opR_or op_mulW op_rep) sem_mul ha hb
/-! order of ints -/
@[simp] abbrev fCmp (o : Int → Int → Bool) : PF2 := fI0 fun i j => .bl (o i j)
@[simp] def fLt : PF2 := fCmp fun i j => decide (i < j)
@[simp] def fLe : PF2 := fCmp fun i j => decide (i ≤ j)
@[simp] def fGt : PF2 := fCmp fun i j => decide (j < i)
@[simp] def fGe : PF2 := fCmp fun i j => decide (j ≤ i)
theorem se_lt (ha : SE X W a p) (hb : SE X W b q) : SE X W (.Compare a [.Lt] [b] pos) (pBin fLt p q) := se_cmp op_lt (sem_I0 fun _ _ _ => .bl _) ha hb
theorem se_le (ha : SE X W a p) (hb : SE X W b q) : SE X W (.Compare a [.LtE] [b] pos) (pBin fLe p q) := se_cmp op_le (sem_I0 fun _ _ _ => .bl _) ha hb
theorem se_gt (ha : SE X W a p) (hb : SE X W b q) : SE X W (.Compare a [.Gt] [b] pos) (pBin fGt p q) := se_cmp op_gt (sem_I0 fun _ _ _ => .bl _) ha hb
theorem se_ge (ha : SE X W a p) (hb : SE X W b q) : SE X W (.Compare a [.GtE] [b] pos) (pBin fGe p q) := se_cmp op_ge (sem_I0 fun _ _ _ => .bl _) ha hb
theorem st_lt (ha : SE X W a p) (hb : SE X W b q) : ST X W (.Compare a [.Lt] [b] pos) (pTst (pBin fLt p q)) := st_cmp op_lt (sem_I0 fun _ _ _ => .bl _) ha hb
theorem st_le (ha : SE X W a p) (hb : SE X W b q) : ST X W (.Compare a [.LtE] [b] pos) (pTst (pBin fLe p q)) := st_cmp op_le (sem_I0 fun _ _ _ => .bl _) ha hb
theorem st_gt (ha : SE X W a p) (hb : SE X W b q) : ST X W (.Compare a [.Gt] [b] pos) (pTst (pBin fGt p q)) := st_cmp op_gt (sem_I0 fun _ _ _ => .bl _) ha hb
theorem st_ge (ha : SE X W a p) (hb : SE X W b q) : ST X W (.Compare a [.GtE] [b] pos) (pTst (pBin fGe p q)) := st_cmp op_ge (sem_I0 fun _ _ _ => .bl _) ha hb
end

/-! ### == of data -/
mutual
def D.py : D → PyData
  | .non => .none
  | .bl b => .bool b
  | .int i => .int i
  | .str x => .str x
  | .lst ds => .list (D.pys ds)
  | .frl ds => .list (D.pys ds)
  | .tup ds => .tuple (D.pys ds)
  | .obj _ _ _ => .none
  | .dct _ _ => .none
def D.pys : List D → List PyData
  | [] => []
  | d :: r => d.py :: D.pys r
/-- no instance within -/
def D.flat : D → Bool
  | .lst ds => D.flats ds
  | .frl ds => D.flats ds
  | .tup ds => D.flats ds
  | .obj _ _ _ => false
  | .dct _ _ => false
  | _ => true
def D.flats : List D → Bool
  | [] => true
  | d :: r => d.flat && D.flats r
end
mutual
theorem Rp.dp {K : PySem.W.Frag} {F : Hp} : ∀ {v : V} {d : D}, Rp K F v d → d.flat = true → Dp K F v d.py
  | _, _, .non, _ => .non
  | _, _, .bl b, _ => .bl b
  | _, _, .int i, _ => .int i
  | _, _, .str x, _ => .str x
  | _, _, .lst h r, e => .lst (SqL.of h) (RpL.dp r (by simpa only [D.flat] using e))
  | _, _, .frl h r, e => .lst h (RpL.dp r (by simpa only [D.flat] using e))
  | _, _, .tup h r, e => .tup h (RpL.dp r (by simpa only [D.flat] using e))
  | _, _, .obj _ _ _ _, e => by simp [D.flat] at e
  | _, _, .dct _ _ _, e => by simp [D.flat] at e
theorem RpL.dp {K : PySem.W.Frag} {F : Hp} : ∀ {vs : List V} {ds : List D}, RpL K F vs ds → D.flats ds = true → DpAll K F vs (D.pys ds)
  | _, _, .nil, _ => .nil
  | _, _, .cons h r, e => by
    simp only [D.flats, Bool.and_eq_true] at e
    exact .cons (Rp.dp h e.1) (RpL.dp r e.2)
end
mutual
theorem dp_mono {K : PySem.W.Frag} {F F' : Hp} (s : Same F F') : ∀ {v : V} {d : PyData}, Dp K F v d → Dp K F' v d
  | _, _, .non => .non
  | _, _, .bl b => .bl b
  | _, _, .int i => .int i
  | _, _, .str x => .str x
  | _, _, .lst h r => .lst (sqL_same s h) (dps_mono s r)
  | _, _, .tup h r => .tup (sqT_same s h) (dps_mono s r)
theorem dps_mono {K : PySem.W.Frag} {F F' : Hp} (s : Same F F') : ∀ {vs : List V} {ds : List PyData}, DpAll K F vs ds → DpAll K F' vs ds
  | _, _, .nil => .nil
  | _, _, .cons h r => .cons (dp_mono s h) (dps_mono s r)
end
def shp (d : D) : Prop := d.flat = true ∧ SeqAt.shaped d.py = true
def fEqD : PF2 := fun a b Q => shp a ∧ shp b ∧ Q (.dat (.bl (PyData.eqv a.py b.py)))
def fNeD : PF2 := fun a b Q => shp a ∧ shp b ∧ Q (.dat (.bl (!PyData.eqv a.py b.py)))
theorem sem_eqD {K : PySem.W.Frag} : OpSem K (rEqD K) fEqD := fun g F sl S σ H v1 v2 d1 d2 Q Qr rel r1 r2 hf post =>
  ⟨_, _, dp_mono rel.cor.fh (r1.dp hf.1.1), dp_mono rel.cor.fh (r2.dp hf.2.1.1), hf.1.2, hf.2.1.2, post (.dat (.bl _)) _ H F Stp.refl rel (.bl _) trivial hf.2.2⟩
theorem sem_neD {K : PySem.W.Frag} : OpSem K (rNeD K) fNeD := fun g F sl S σ H v1 v2 d1 d2 Q Qr rel r1 r2 hf post =>
  ⟨_, _, dp_mono rel.cor.fh (r1.dp hf.1.1), dp_mono rel.cor.fh (r2.dp hf.2.1.1), hf.1.2, hf.2.1.2, post (.dat (.bl _)) _ H F Stp.refl rel (.bl _) trivial hf.2.2⟩
/-- of ints alone (the commonest) -/
def fEqI : PF2 := fCmp fun i j => decide (i = j)
def fNeI : PF2 := fCmp fun i j => !decide (i = j)
def rEqI : R2 := rI0 fun i j => .bl (decide (i = j))
def rNeI : R2 := rI0 fun i j => .bl (!decide (i = j))
section
variable {X : Cx} {W : WX} {a b : Expr} {p q : PEx} {pos : Pos}
theorem op_eqI : OpR X (compareOp .Eq) rEqI := opB0 fun _ _ _ _ _ _ _ h => PyProof.Rows.eq_int (by rw [Bool.beq_eq_decide_eq]; exact h)
theorem op_neI : OpR X (compareOp .NotEq) rNeI := opB0 fun _ _ _ _ _ _ _ h => PyProof.Rows.ne_int (by rw [bne, Bool.beq_eq_decide_eq]; exact h)
@[simp] def fEq : PF2 := fun a b Q => match a, b with
  | .int i, .int j => Q (.dat (.bl (decide (i = j))))
  | a, b => fEqD a b Q
@[simp] def fNe : PF2 := fun a b Q => match a, b with
  | .int i, .int j => Q (.dat (.bl (!decide (i = j))))
  | a, b => fNeD a b Q
theorem sem_eq {K : PySem.W.Frag} : OpSem K (fun x y H Q => rEqI x y H Q ∨ rEqD K x y H Q) fEq := fun g F sl S σ H v1 v2 d1 d2 Q Qr rel r1 r2 hf post => by
  unfold fEq at hf
  split at hf
  · exact .inl ((sem_I0 (K := K) (o := fun i j => .bl (decide (i = j))) fun _ _ _ => .bl _) g F sl S σ H v1 v2 _ _ Q Qr rel r1 r2 hf post)
  · exact .inr (sem_eqD g F sl S σ H v1 v2 _ _ Q Qr rel r1 r2 hf post)
theorem sem_ne {K : PySem.W.Frag} : OpSem K (fun x y H Q => rNeI x y H Q ∨ rNeD K x y H Q) fNe := fun g F sl S σ H v1 v2 d1 d2 Q Qr rel r1 r2 hf post => by
  unfold fNe at hf
  split at hf
  · exact .inl ((sem_I0 (K := K) (o := fun i j => .bl (!decide (i = j))) fun _ _ _ => .bl _) g F sl S σ H v1 v2 _ _ Q Qr rel r1 r2 hf post)
  · exact .inr (sem_neD g F sl S σ H v1 v2 _ _ Q Qr rel r1 r2 hf post)
theorem se_eq (hu : X.A.units + 64 < cLine) (ha : SE X W a p) (hb : SE X W b q) : SE X W (.Compare a [.Eq] [b] pos) (pBin fEq p q) := se_cmp (opR_or op_eqI (op_eqD hu)) sem_eq ha hb
theorem se_ne (hu : X.A.units + 64 < cLine) (ha : SE X W a p) (hb : SE X W b q) : SE X W (.Compare a [.NotEq] [b] pos) (pBin fNe p q) := se_cmp (opR_or op_neI (op_neD hu)) sem_ne ha hb
theorem st_eq (hu : X.A.units + 64 < cLine) (ha : SE X W a p) (hb : SE X W b q) : ST X W (.Compare a [.Eq] [b] pos) (pTst (pBin fEq p q)) := st_cmp (opR_or op_eqI (op_eqD hu)) sem_eq ha hb
theorem st_ne (hu : X.A.units + 64 < cLine) (ha : SE X W a p) (hb : SE X W b q) : ST X W (.Compare a [.NotEq] [b] pos) (pTst (pBin fNe p q)) := st_cmp (opR_or op_neI (op_neD hu)) sem_ne ha hb
/-! is None -/
@[simp] def fIsN : PF2 := fun a b Q => match b with
  | .non => match a with
    | .non => Q (.dat (.bl true))
    | _ => Q (.dat (.bl false))
  | _ => False
@[simp] def fNotN : PF2 := fun a b Q => match b with
  | .non => match a with
    | .non => Q (.dat (.bl false))
    | _ => Q (.dat (.bl true))
  | _ => False
theorem sem_isN {K : PySem.W.Frag} : OpSem K (fun x y H Q => y = .non ∧ Q (.bl (decide (x = .non))) H) fIsN := fun g F sl S σ H v1 v2 d1 d2 Q Qr rel r1 r2 hf post => by
  cases r2 with
  | non =>
    refine ⟨rfl, ?_⟩
    cases r1 <;> exact post (.dat (.bl _)) _ H F Stp.refl rel (by first | exact Rp.bl true | exact Rp.bl false) trivial hf
  | _ => exact hf.elim
theorem sem_notN {K : PySem.W.Frag} : OpSem K (fun x y H Q => y = .non ∧ Q (.bl (!decide (x = .non))) H) fNotN := fun g F sl S σ H v1 v2 d1 d2 Q Qr rel r1 r2 hf post => by
  cases r2 with
  | non =>
    refine ⟨rfl, ?_⟩
    cases r1 <;> exact post (.dat (.bl _)) _ H F Stp.refl rel (by first | exact Rp.bl true | exact Rp.bl false) trivial hf
  | _ => exact hf.elim
theorem se_isN (ha : SE X W a p) (hb : SE X W b q) : SE X W (.Compare a [.Is] [b] pos) (pBin fIsN p q) := se_cmp op_isN sem_isN ha hb
theorem se_notN (ha : SE X W a p) (hb : SE X W b q) : SE X W (.Compare a [.IsNot] [b] pos) (pBin fNotN p q) := se_cmp op_notN sem_notN ha hb
theorem st_isN (ha : SE X W a p) (hb : SE X W b q) : ST X W (.Compare a [.Is] [b] pos) (pTst (pBin fIsN p q)) := st_cmp op_isN sem_isN ha hb
theorem st_notN (ha : SE X W a p) (hb : SE X W b q) : ST X W (.Compare a [.IsNot] [b] pos) (pTst (pBin fNotN p q)) := st_cmp op_notN sem_notN ha hb
end
end Py
end
section
set_option Elab.async false
set_option linter.all false
set_option maxRecDepth 100000
set_option maxHeartbeats 4000000
/-! Arguments, calls of built-ins, sequences, displays, and, or, not. -/
namespace Py
open PySem L2

/-! ### arguments -/
@[simp] def pNil : PAx := fun _ S Q _ => Q [] S
@[simp] def pCons (p : PEx) (q : PAx) : PAx := fun sl S Q E => p sl S (fun r S1 => q sl S1 (fun rs S2 => Q (r.arg :: rs) S2) E) E
theorem RA.mono {K : PySem.W.Frag} {g : G} {F F' : Hp} (s : Same F F') {r : Res} {v : V} (h : RA K g F r v) : RA K g F' r v := by
  cases r with
  | dat d => exact Rp.mono s h
  | own ds => exact h
  | drw => exact h
section
variable {X : Cx} {W : WX} {e : Expr} {es : List Expr} {p : PEx} {q : PAx} {pos : Pos}
theorem sa_nil : SA X W [] pNil := ⟨PA.imp pa_nil fun σ H Q h => by
  obtain ⟨g, F, sl, S, Q', E', rel, hp, post, exc⟩ := h
  exact post [] S [] H F Stp.refl rel .nil hp⟩
theorem rd_cons {K : PySem.W.Frag} {W : WX} {p : PEx} {q : PAx} (σ : L2.St) (H : Hp) (Q : List V → Hp → Prop) (h : rdA K W (pCons p q) σ H Q) : tCons (rdE K W p) (rdA K W q) σ H Q := by
  obtain ⟨g, F, sl, S, Q', E', rel, hp, post, exc⟩ := h
  refine ⟨g, F, sl, S, _, E', rel, hp, fun r S1 v H1 F1 s1 rel1 rr nw h1 => ?_, exc⟩
  have key : ∃ F2, Stp g F H F2 H1 ∧ Rel K g F2 sl S1 σ H1 ∧ RA K g F2 r.arg v := by
    cases r with
    | dat d => exact ⟨F1, s1, rel1, rr⟩
    | own ds =>
      obtain ⟨F2, _, s2, q⟩ := rel1.plain rel rr s1 nw rfl
      exact ⟨F2, s2, q⟩
    | drw => exact ⟨F1, s1, rel1, rr⟩
  obtain ⟨F2, s2, rel2, ra⟩ := key
  exact ⟨g, F2, sl, S1, _, E', rel2, h1, fun rs S2 vs H2 F3 s3 rel3 ras h3 => post _ S2 _ H2 F3 (s2.trans s3) rel3 (.cons (ra.mono s3.f) ras) h3, exc.mono s2.f⟩
theorem sa_cons (h : SE X W e p) (hr : SA X W es q) (hs : starEach (e :: es) X.env = (false, eval e X.env) :: starEach es X.env := by rfl) : SA X W (e :: es) (pCons p q) := ⟨PA.imp (pa_cons h.pe hr.pa hs) rd_cons⟩
end

/-! ### displays -/
@[simp] def Res.ds : List Res → Option (List D)
  | [] => some []
  | .dat d :: r => match Res.ds r with
    | some ds => some (d :: ds)
    | none => none
  | _ :: _ => none
theorem ras_ds {K : PySem.W.Frag} {g : G} {F : Hp} : ∀ {rs : List Res} {vs : List V} {ds : List D}, RAs K g F rs vs → Res.ds rs = some ds → RpL K F vs ds
  | _, _, _, .nil, e => by cases e; exact .nil
  | .dat d :: r, _, _, .cons h t, e => by
    simp only [Res.ds] at e
    cases e2 : Res.ds r with
    | none => rw [e2] at e; cases e
    | some es =>
      rw [e2] at e
      cases e
      exact .cons h (ras_ds t e2)
  | .own d :: r, _, _, .cons h t, e => by cases h
  | .drw :: r, _, _, .cons h t, e => by cases e
@[simp] def dats (p : PAx) (sl : List Slot) (S : List Int) (Q : List D → List Int → Prop) (E : PXQ) : Prop := p sl S (fun rs S1 => match Res.ds rs with | some ds => Q ds S1 | none => False) E
theorem rdA_dats {K : PySem.W.Frag} {W : WX} {g : G} {F H : Hp} {sl : List Slot} {S : List Int} {σ : L2.St} {p : PAx} {E' : PXQ} {Q : List V → Hp → Prop} {Qd : List D → List Int → Prop} (rel : Rel K g F sl S σ H) (hp : dats p sl S Qd E') (exc : ExcE K W g F sl σ E')
    (post : ∀ ds S1 vs H1 F1, Stp g F H F1 H1 → Rel K g F1 sl S1 σ H1 → RpL K F1 vs ds → Qd ds S1 → Q vs H1) : rdA K W p σ H Q :=
  ⟨g, F, sl, S, _, E', rel, hp, fun rs S' vs H' F' s rel' ras hq => by
    cases e : Res.ds rs with
    | none => simp only [e] at hq
    | some ds =>
      simp only [e] at hq
      exact post ds S' vs H' F' s rel' (ras_ds ras e) hq, exc⟩
@[simp] def pTup (p : PAx) : PEx := fun sl S Q E => dats p sl S (fun ds S1 => ds.length ≤ sizeLine ∧ Q (.dat (.tup ds)) S1) E
@[simp] def pLst (p : PAx) : PEx := fun sl S Q E => dats p sl S (fun ds S1 => ds.length ≤ sizeLine ∧ Q (.own ds) S1) E
section
variable {X : Cx} {W : WX} {e : Expr} {es : List Expr} {p : PAx} {pos : Pos}
theorem se_tup {k} (h : SA X W es p) : SE X W (.Tuple es k pos) (pTup p) := ⟨PE.imp (pe_tup h.pa) fun σ H Q h => by
  obtain ⟨g, F, sl, S, Q', E', rel, hp, post, exc⟩ := h
  refine rdA_dats rel hp exc fun ds S1 vs H1 F1 s1 rel1 rl ⟨hz, h1⟩ => ⟨by rw [rl.length]; exact hz, fun a ha => ?_⟩
  have hf := rel1.cor.free ha
  exact post (.dat (.tup ds)) S1 _ _ _ (s1.trans (Stp.allocF ha hf)) (rel1.allocF ha) (.tup (SqT.of upd_same) (rl.mono (Same.upd_new hf))) trivial h1⟩
theorem se_lst (h : SA X W es p) : SE X W (.List es pos) (pLst p) := ⟨PE.imp (pe_lst h.pa) fun σ H Q h => by
  obtain ⟨g, F, sl, S, Q', E', rel, hp, post, exc⟩ := h
  refine rdA_dats rel hp exc fun ds S1 vs H1 F1 s1 rel1 rl ⟨hz, h1⟩ => ⟨by rw [rl.length]; exact hz, fun a ha => ?_⟩
  exact post (.own ds) S1 _ _ _ (s1.trans (Stp.alloc ha)) (rel1.alloc ha) ⟨a, vs, rfl, upd_same, rel1.cor.free ha, rel1.cor.new ha, rl⟩ (nw_new (s1.d a ha)) h1⟩
end

/-! ### sequences, read in place: true a list, false a tuple -/
abbrev PQx := List Slot → List Int → (Bool → List D → List Int → Prop) → PXQ → Prop
def SqK (K : PySem.W.Frag) (H : Hp) (a : Addr) (vs : List V) : Bool → Prop
  | true => SqL K H a vs
  | false => SqT K H a vs
theorem SqK.or {K : PySem.W.Frag} {H : Hp} {a : Addr} {vs : List V} {k : Bool} (h : SqK K H a vs k) : SqL K H a vs ∨ SqT K H a vs := by
  cases k with
  | true => exact .inl h
  | false => exact .inr h
theorem SqK.same {K : PySem.W.Frag} {F F' : Hp} {a : Addr} {vs : List V} {k : Bool} (s : Same F F') (h : SqK K F a vs k) : SqK K F' a vs k := by
  cases k with
  | true => exact sqL_same s h
  | false => exact sqT_same s h
def SV (K : PySem.W.Frag) (F : Hp) (sl : List Slot) (σ : L2.St) (v : V) (k : Bool) (ds : List D) : Prop :=
  (∃ (a : Addr) (vs : List V), v = V.ref a ∧ SqK K F a vs k ∧ RpL K F vs ds) ∨ ∃ (i : Nat) (a : Addr), k = true ∧ v = V.ref a ∧ sl[i]? = some (Slot.own ds) ∧ σ[i]? = some (some (V.ref a))
theorem SV.mono {K : PySem.W.Frag} {F F' : Hp} {sl : List Slot} {σ : L2.St} {v : V} {k : Bool} {ds : List D} (h : SV K F sl σ v k ds) (s : Same F F') : SV K F' sl σ v k ds := by
  rcases h with ⟨a, vs, e, h, r⟩ | h
  · exact .inl ⟨a, vs, e, h.same s, r.mono s⟩
  · exact .inr h
theorem SV.use {K : PySem.W.Frag} {g : G} {F H : Hp} {sl : List Slot} {S : List Int} {σ : L2.St} {v : V} {k : Bool} {ds : List D} (h : SV K F sl σ v k ds) (rel : Rel K g F sl S σ H) : ∃ a vs, v = V.ref a ∧ SqK K H a vs k ∧ RpL K F vs ds := by
  rcases h with ⟨a, vs, e, h, r⟩ | ⟨i, a, rfl, e, h, hs⟩
  · exact ⟨a, vs, e, h.same rel.cor.fh, r⟩
  · obtain ⟨p, vs, e1, h1, _, _, r⟩ := rel.own h
    rw [hs] at e1
    cases e1
    exact ⟨a, vs, e, SqL.of h1, r⟩
def rdQ (K : PySem.W.Frag) (W : WX) (p : PQx) : TE := fun σ H Q => ∃ g F sl S Q' E', Rel K g F sl S σ H ∧ p sl S Q' E' ∧
  (∀ k ds S' v H' F', Stp g F H F' H' → Rel K g F' sl S' σ H' → SV K F' sl σ v k ds → Q' k ds S' → Q v H') ∧ ExcE K W g F sl σ E'
structure SQ (X : Cx) (W : WX) (e : Expr) (p : PQx) : Prop where
  pe : PE X e (rdQ X.K W p)
/-- a value's items -/
def seqD (d : D) (Q : Bool → List D → Prop) : Prop := match d with
  | .lst ds => Q true ds
  | .frl ds => Q true ds
  | .tup ds => Q false ds
  | _ => False
@[simp] theorem seqD_lst (ds : List D) (Q : Bool → List D → Prop) : seqD (.lst ds) Q = Q true ds := rfl
@[simp] theorem seqD_frl (ds : List D) (Q : Bool → List D → Prop) : seqD (.frl ds) Q = Q true ds := rfl
@[simp] theorem seqD_tup (ds : List D) (Q : Bool → List D → Prop) : seqD (.tup ds) Q = Q false ds := rfl
@[simp] theorem seqD_int (i : Int) (Q : Bool → List D → Prop) : seqD (.int i) Q = False := rfl
@[simp] theorem seqD_non (Q : Bool → List D → Prop) : seqD .non Q = False := rfl
@[simp] def pQVar (i : Nat) : PQx := fun sl S Q _ => match sl[i]? with
  | some (.own ds) => Q true ds S
  | some (.dat d) => seqD d fun k ds => Q k ds S
  | _ => False
@[simp] def pQOf (p : PEx) : PQx := fun sl S Q E => dat p sl S (fun d S1 => seqD d fun k ds => Q k ds S1) E
theorem sv_of {K : PySem.W.Frag} {F : Hp} {sl : List Slot} {σ : L2.St} {v : V} {d : D} {Q : Bool → List D → Prop} (r : Rp K F v d) (e : seqD d Q) : ∃ k ds, SV K F sl σ v k ds ∧ Q k ds := by
  cases r with
  | lst h q => exact ⟨true, _, .inl ⟨_, _, rfl, SqL.of h, q⟩, e⟩
  | frl h q => exact ⟨true, _, .inl ⟨_, _, rfl, h, q⟩, e⟩
  | tup h q => exact ⟨false, _, .inl ⟨_, _, rfl, h, q⟩, e⟩
  | _ => exact e.elim
section
variable {X : Cx} {W : WX} {e b : Expr} {p : PEx} {q : PQx} {pos : Pos}
theorem sq_var (i : Nat) {x : Str} {pos : Pos} (hN : X.N[i]? = some x := by rfl) (hv : Vis X.env.scope x := by first | exact Or.inl rfl | exact Or.inr (Or.inl rfl) | exact Or.inr (Or.inr rfl)) (hd : (x == ("__debug__" : Str)) = false := by decide)
    (hcd : (x == ("__classdict__" : Str)) = false := by decide) : SQ X W (.Name x pos) (pQVar i) := ⟨PE.imp (pe_var hN hv hd hcd) fun σ H Q h => by
  obtain ⟨g, F, sl, S, Q', E', rel, hp, post, exc⟩ := h
  unfold pQVar at hp
  cases e : sl[i]? with
  | none => rw [e] at hp; exact hp.elim
  | some s =>
    rw [e] at hp
    cases s with
    | dat d =>
      obtain ⟨v, h1, h2⟩ := rel.dat e
      obtain ⟨k, ds, sv, hq⟩ := sv_of (sl := sl) (σ := σ) h2 hp
      exact ⟨v, h1, post k ds S v H F Stp.refl rel sv hq⟩
    | own ds =>
      obtain ⟨a, vs, h1, h2⟩ := rel.own e
      exact ⟨_, h1, post true ds S _ H F Stp.refl rel (.inr ⟨i, a, rfl, rfl, e, h1⟩) hp⟩
    | un => exact hp.elim
    | drw => exact hp.elim
    | slf b a d x => exact hp.elim
    | dic ks ds => exact hp.elim
    | exc a d x => exact hp.elim⟩
theorem sq_of (h : SE X W e p) : SQ X W e (pQOf p) := ⟨PE.imp h.pe fun σ H Q h => by
  obtain ⟨g, F, sl, S, Q', E', rel, hp, post, exc⟩ := h
  refine rdE_dat rel hp exc fun d S1 v H1 F1 s1 rel1 r1 h1 => ?_
  obtain ⟨k, ds, sv, hq⟩ := sv_of (sl := sl) (σ := σ) r1 h1
  exact post k ds S1 v H1 F1 s1 rel1 sv hq⟩
/-! len -/
@[simp] def pLen (q : PQx) : PEx := fun sl S Q E => q sl S (fun _ ds S1 => Q (.dat (.int ds.length)) S1) E
theorem se_len (hm : X.mg "len" = none) (h : SQ X W e q) {x : Pos} (hg : Gl X "len" := by rfl)
    (he : starEach (e :: []) X.env = (false, eval e X.env) :: starEach [] X.env := by rfl) : SE X W (.Call (.Name "len" x) [e] [] pos) (pLen q) := ⟨PE.imp (pe_callB call_len_seq hg hm PySem.boot_len (pa_cons h.pe pa_nil he) (he := he)) fun σ H Q h => by
  obtain ⟨g, F, sl, S, Q', E', rel, hp, post, exc⟩ := h
  refine ⟨g, F, sl, S, _, E', rel, hp, fun k ds S1 v H1 F1 s1 rel1 sv h1 => ?_, exc⟩
  obtain ⟨a, vs, rfl, hs, rl⟩ := sv.use rel1
  exact ⟨a, vs, rfl, hs.or, post (.dat (.int ds.length)) S1 _ H1 F1 s1 rel1 (by show Rp _ _ _ _; rw [rl.length]; exact .int _) trivial h1⟩⟩
/-! items -/
@[simp] def pIx (q : PQx) (p : PEx) : PEx := fun sl S Q E => q sl S (fun _ ds S1 => dat p sl S1 (fun i S2 => match i with
  | .int k => match atI ds k with
    | some d => Q (.dat d) S2
    | none => False
  | _ => False) E) E
theorem at_rp {K : PySem.W.Frag} {F : Hp} {vs : List V} {ds : List D} {k : Int} {d : D} (r : RpL K F vs ds) (e : atI ds k = some d) : ∃ v, atI vs k = some v ∧ Rp K F v d := by
  unfold atI at e ⊢
  rw [r.length]
  cases h : ixN ds.length k with
  | none => rw [h] at e; cases e
  | some j =>
    rw [h] at e
    exact r.get e
theorem se_ix (ha : SQ X W e q) (hb : SE X W b p) (hs : PlainIx b := by exact fun _ _ => rfl) : SE X W (.Subscript e b pos) (pIx q p) := ⟨PE.imp (pe_ix ix_seq ha.pe hb.pe hs) fun σ H Q h => by
  obtain ⟨g, F, sl, S, Q', E', rel, hp, post, exc⟩ := h
  refine ⟨g, F, sl, S, _, E', rel, hp, fun kk ds S1 v H1 F1 s1 rel1 sv h1 => ?_, exc⟩
  refine rdE_dat rel1 h1 (exc.mono s1.f) fun i S2 w H2 F2 s2 rel2 r2 h2 => ?_
  cases r2 with
  | int k =>
    dsimp only at h2
    cases e2 : atI ds k with
    | none => rw [e2] at h2; exact h2.elim
    | some d =>
      rw [e2] at h2
      obtain ⟨a, vs, rfl, hs, rl⟩ := (sv.mono s2.f).use rel2
      obtain ⟨z, hz, rz⟩ := at_rp rl e2
      have fin := post (.dat d) S2 z H2 F2 (s1.trans s2) rel2 rz trivial h2
      rcases hs.or with hs | hs
      · exact .inl ⟨a, vs, k, z, rfl, rfl, hs, hz, fin⟩
      · exact .inr (.inl ⟨a, vs, k, z, rfl, rfl, hs, hz, fin⟩)
  | _ => exact h2.elim⟩
end
/-! ### slices -/
def cutD (xs : List D) (lo hi : Option Int) : List D := (xs.drop (HT.sIx xs.length 0 lo)).take (HT.sIx xs.length xs.length hi - HT.sIx xs.length 0 lo)
abbrev POx := List Slot → List Int → (Option Int → List Int → Prop) → PXQ → Prop
def rdO (K : PySem.W.Frag) (W : WX) (p : POx) : TO := fun σ H Q => ∃ g F sl S Q' E', Rel K g F sl S σ H ∧ p sl S Q' E' ∧
  (∀ o S' H' F', Stp g F H F' H' → Rel K g F' sl S' σ H' → Q' o S' → Q o H') ∧ ExcE K W g F sl σ E'
structure SO (X : Cx) (W : WX) (e : Option Expr) (p : POx) : Prop where
  po : PO X e (rdO X.K W p)
@[simp] def pNo : POx := fun _ S Q _ => Q none S
@[simp] def pSo (p : PEx) : POx := fun sl S Q E => dat p sl S (fun d S1 => match d with | .int i => Q (some i) S1 | _ => False) E
theorem PO.imp {X : Cx} {e : Option Expr} {t t' : TO} (h : PO X e t) (i : ∀ σ H Q, t' σ H Q → t σ H Q) : PO X e t' := ⟨fun pins s σ H Q I q => h.run pins s σ H Q I (i _ _ _ q)⟩
section
variable {X : Cx} {W : WX} {e : Expr} {lo hi : Option Expr} {p : PEx} {q : PQx} {l h : POx} {pos p2 : Pos}
theorem so_none : SO X W none pNo := ⟨PO.imp po_none fun σ H Q h => by
  obtain ⟨g, F, sl, S, Q', E', rel, hp, post, exc⟩ := h
  exact post none S H F Stp.refl rel hp⟩
theorem so_some (h : SE X W e p) : SO X W (some e) (pSo p) := ⟨PO.imp (po_some h.pe) fun σ H Q h => by
  obtain ⟨g, F, sl, S, Q', E', rel, hp, post, exc⟩ := h
  refine rdE_dat rel hp exc fun d S1 v H1 F1 s1 rel1 r1 h1 => ?_
  cases r1 with
  | int i => exact ⟨i, rfl, post (some i) S1 H1 F1 s1 rel1 h1⟩
  | _ => exact h1.elim⟩
def pSl (q : PQx) (l h : POx) : PEx := fun sl S Q E => q sl S (fun k ds S1 => l sl S1 (fun a S2 => h sl S2 (fun b S3 => Q (if k then .own (cutD ds a b) else .dat (.tup (cutD ds a b))) S3) E) E) E
theorem RpL.cut {K : PySem.W.Frag} {F : Hp} {vs : List V} {ds : List D} (r : RpL K F vs ds) (a b : Option Int) : RpL K F (cutV vs a b) (cutD ds a b) := by
  unfold cutV cutD
  rw [r.length]
  exact (r.drop _).take _
theorem se_sl (ha : SQ X W e q) (hl : SO X W lo l) (hh : SO X W hi h) : SE X W (.Subscript e (.Slice lo hi none p2) pos) (pSl q l h) := ⟨PE.imp (pe_slice (sl_list.or sl_tupA) ha.pe hl.po hh.po) fun σ H Q h => by
  obtain ⟨g, F, sl, S, Q', E', rel, hp, post, exc⟩ := h
  refine ⟨g, F, sl, S, _, E', rel, hp, fun k ds S1 v H1 F1 s1 rel1 sv h1 => ?_, exc⟩
  refine ⟨g, F1, sl, S1, _, E', rel1, h1, fun a S2 H2 F2 s2 rel2 h2 => ?_, exc.mono s1.f⟩
  refine ⟨g, F2, sl, S2, _, E', rel2, h2, fun b S3 H3 F3 s3 rel3 h3 => ?_, exc.mono (s1.trans s2).f⟩
  have s03 := (s1.trans s2).trans s3
  cases k with
  | true =>
    obtain ⟨x, vs, rfl, hs, rl⟩ := (sv.mono (s2.trans s3).f).use rel3
    refine .inl ⟨x, vs, rfl, hs, fun p hp => ?_⟩
    exact post (.own _) S3 _ _ F3 (s03.trans (Stp.alloc hp)) (rel3.alloc hp) ⟨p, _, rfl, upd_same, rel3.cor.free hp, rel3.cor.new hp, rl.cut a b⟩ (nw_new (s03.d p hp)) h3
  | false =>
    rcases sv.mono (s2.trans s3).f with ⟨x, vs, rfl, hs, rl⟩ | ⟨_, _, z, _⟩
    · refine .inr ⟨x, vs, rfl, hs.same rel3.cor.fh, fun hw => ?_, fun hw p hp => ?_⟩
      · have ew : cutD ds a b = ds := by
          unfold cutD
          rw [← rl.length, hw.1, hw.2]
          simp [rl.length]
        have h4 : Q' (.dat (.tup (cutD ds a b))) S3 := h3
        rw [ew] at h4
        exact post (.dat (.tup ds)) S3 _ H3 F3 s03 rel3 (.tup hs rl) trivial h4
      · have hf := rel3.cor.free hp
        exact post (.dat (.tup _)) S3 _ _ _ (s03.trans (Stp.allocF hp hf)) (rel3.allocF hp) (.tup (SqT.of upd_same) ((rl.cut a b).mono (Same.upd_new hf))) trivial h3
    · cases z⟩
end

/-! ### built-ins of values -/
abbrev PF1 := D → (Res → Prop) → Prop
def CSem (K : PySem.W.Frag) (r : List V → Hp → VK → Prop) (f : List D → (Res → Prop) → Prop) : Prop := ∀ g F sl S σ H vs ds (Q : VK) (Qr : Res → Prop), Rel K g F sl S σ H → RpL K F vs ds → f ds Qr →
  (∀ res v H' F', Stp g F H F' H' → Rel K g F' sl S σ H' → RR K g F' H' res v → Nw H res v → Qr res → Q v H') → r vs H Q
@[simp] def pCB (f : List D → (Res → Prop) → Prop) (p : PAx) : PEx := fun sl S Q E => dats p sl S (fun ds S1 => f ds fun r => Q r S1) E
theorem rd_cb {K : PySem.W.Frag} {W : WX} {r : List V → Hp → VK → Prop} {f : List D → (Res → Prop) → Prop} {p : PAx} (hs : CSem K r f) (σ : L2.St) (H : Hp) (Q : VK) (h : rdE K W (pCB f p) σ H Q) : tCB r (rdA K W p) σ H Q := by
  obtain ⟨g, F, sl, S, Q', E', rel, hp, post, exc⟩ := h
  refine rdA_dats rel hp exc fun ds S1 vs H1 F1 s1 rel1 rl h1 => ?_
  exact hs g F1 sl S1 σ H1 vs ds Q _ rel1 rl h1 fun res v H' F' s rel' rr nw hq => post res S1 v H' F' (s1.trans s) rel' rr (nw.back s1) hq
section
variable {X : Cx} {W : WX} {e : Expr} {es : List Expr} {p : PAx} {pos xp : Pos} {x : Str} {id : String} {r : List V → Hp → VK → Prop} {f : List D → (Res → Prop) → Prop}
theorem se_cb (hc : CallR X (.builtin id) r) (hs : CSem X.K r f) (hm : X.mg x = none) (hv : bootBuiltins x = some (.builtin id)) (ha : SA X W (e :: es) p) (hg : Gl X x := by rfl) (hn : x ≠ "__name__" := by decide) (hdb : (x == ("__debug__" : Str)) = false := by decide)
    (he : starEach (e :: es) X.env = (false, eval e X.env) :: starEach es X.env := by rfl) (hpl : (backTo pos (starEach es X.env)).any (·.1) = false := by rfl) : SE X W (.Call (.Name x xp) (e :: es) [] pos) (pCB f p) :=
  ⟨PE.imp (pe_callB hc hg hm hv ha.pa hn hdb he hpl) (rd_cb hs)⟩
theorem se_cty {T : String} (hc : CallR X (.type T) r) (hs : CSem X.K r f) (hm : X.mg x = none) (hv : bootBuiltins x = some (.type T)) (ha : SA X W (e :: es) p) (hg : Gl X x := by rfl) (hn : x ≠ "__name__" := by decide) (hdb : (x == ("__debug__" : Str)) = false := by decide)
    (he : starEach (e :: es) X.env = (false, eval e X.env) :: starEach es X.env := by rfl) (hpl : (backTo pos (starEach es X.env)).any (·.1) = false := by rfl) : SE X W (.Call (.Name x xp) (e :: es) [] pos) (pCB f p) :=
  ⟨PE.imp (pe_callTy hc hg hm hv ha.pa hn hdb he hpl) (rd_cb hs)⟩
/-- a module's own name of a built-in -/
theorem se_cbf (hc : CallR X (.builtin id) r) (hs : CSem X.K r f) (hm : X.mg x = some (.builtin id)) (ha : SA X W (e :: es) p) (hg : Gl X x := by rfl) (hdb : (x == ("__debug__" : Str)) = false := by decide)
    (he : starEach (e :: es) X.env = (false, eval e X.env) :: starEach es X.env := by rfl) (hpl : (backTo pos (starEach es X.env)).any (·.1) = false := by rfl) : SE X W (.Call (.Name x xp) (e :: es) [] pos) (pCB f p) :=
  ⟨PE.imp (pe_callBfun hc hg hm ha.pa hdb he hpl) (rd_cb hs)⟩
@[simp] def f1I (o : Int → D) : List D → (Res → Prop) → Prop := fun ds Q => match ds with
  | [.int i] => Q (.dat (o i))
  | _ => False
@[simp] def f2I (C : Int → Int → Prop) (o : Int → Int → D) : List D → (Res → Prop) → Prop := fun ds Q => match ds with
  | [.int i, .int j] => C i j ∧ Q (.dat (o i j))
  | _ => False
theorem f1_inv {K : PySem.W.Frag} {F : Hp} {o : Int → D} {vs : List V} {ds : List D} {Q : Res → Prop} (r : RpL K F vs ds) (h : f1I o ds Q) : ∃ i, vs = [.int i] ∧ Q (.dat (o i)) := by
  unfold f1I at h
  split at h
  · cases r with
    | cons r1 r2 =>
      cases r1
      cases r2
      exact ⟨_, rfl, h⟩
  · exact h.elim
theorem f2_inv {K : PySem.W.Frag} {F : Hp} {C : Int → Int → Prop} {o : Int → Int → D} {vs : List V} {ds : List D} {Q : Res → Prop} (r : RpL K F vs ds) (h : f2I C o ds Q) : ∃ i j, vs = [.int i, .int j] ∧ C i j ∧ Q (.dat (o i j)) := by
  unfold f2I at h
  split at h
  · cases r with
    | cons r1 r2 =>
      cases r1
      cases r2 with
      | cons r3 r4 =>
        cases r3
        cases r4
        exact ⟨_, _, rfl, h⟩
  · exact h.elim
@[simp] def fAbs : List D → (Res → Prop) → Prop := f1I fun i => .int (if i < 0 then -i else i)
theorem se_abs (hm : X.mg "abs" = none) (ha : SA X W [e] p) (hg : Gl X "abs" := by rfl) (he : starEach (e :: []) X.env = (false, eval e X.env) :: starEach [] X.env := by rfl) : SE X W (.Call (.Name "abs" xp) [e] [] pos) (pCB fAbs p) :=
  se_cb call_abs (fun g F sl S σ H vs ds Q Qr rel rl h post => by
    obtain ⟨i, rfl, h⟩ := f1_inv rl h
    exact ⟨i, rfl, post (.dat (.int _)) _ H F Stp.refl rel (.int _) trivial h⟩) hm (by decide +kernel) ha hg (he := he)
@[simp] def fInt : List D → (Res → Prop) → Prop := fun ds Q => match ds with
  | [.int i] => Q (.dat (.int i))
  | [.bl b] => Q (.dat (.int (if b then 1 else 0)))
  | _ => False
theorem se_toint (hm : X.mg "int" = none) (ha : SA X W [e] p) (hg : Gl X "int" := by rfl) (he : starEach (e :: []) X.env = (false, eval e X.env) :: starEach [] X.env := by rfl) : SE X W (.Call (.Name "int" xp) [e] [] pos) (pCB fInt p) :=
  se_cty call_int1 (fun g F sl S σ H vs ds Q Qr rel rl h post => by
    unfold fInt at h
    split at h
    · cases rl with
      | cons r1 r2 =>
        cases r1
        cases r2
        exact .inl ⟨_, rfl, post (.dat (.int _)) _ H F Stp.refl rel (.int _) trivial h⟩
    · cases rl with
      | cons r1 r2 =>
        cases r1
        cases r2
        exact .inr ⟨_, rfl, post (.dat (.int _)) _ H F Stp.refl rel (.int _) trivial h⟩
    · exact h.elim) hm (by decide +kernel) ha hg (he := he)
@[simp] def fMin : List D → (Res → Prop) → Prop := f2I (fun _ _ => True) fun i j => .int (if j < i then j else i)
@[simp] def fMax : List D → (Res → Prop) → Prop := f2I (fun _ _ => True) fun i j => .int (if j > i then j else i)
theorem se_min (hc : X.calm = true) (hm : X.mg "min" = none) {e2 : Expr} (ha : SA X W [e, e2] p) (hg : Gl X "min" := by rfl) (he : starEach (e :: [e2]) X.env = (false, eval e X.env) :: starEach [e2] X.env := by rfl) (hpl : (backTo pos (starEach [e2] X.env)).any (·.1) = false := by rfl) : SE X W (.Call (.Name "min" xp) [e, e2] [] pos) (pCB fMin p) :=
  se_cb (call_min2 hc) (fun g F sl S σ H vs ds Q Qr rel rl h post => by
    obtain ⟨i, j, rfl, _, h⟩ := f2_inv rl h
    exact ⟨i, j, rfl, post (.dat (.int _)) _ H F Stp.refl rel (.int _) trivial h⟩) hm (by decide +kernel) ha hg (he := he) (hpl := hpl)
theorem se_max (hc : X.calm = true) (hm : X.mg "max" = none) {e2 : Expr} (ha : SA X W [e, e2] p) (hg : Gl X "max" := by rfl) (he : starEach (e :: [e2]) X.env = (false, eval e X.env) :: starEach [e2] X.env := by rfl) (hpl : (backTo pos (starEach [e2] X.env)).any (·.1) = false := by rfl) : SE X W (.Call (.Name "max" xp) [e, e2] [] pos) (pCB fMax p) :=
  se_cb (call_max2 hc) (fun g F sl S σ H vs ds Q Qr rel rl h post => by
    obtain ⟨i, j, rfl, _, h⟩ := f2_inv rl h
    exact ⟨i, j, rfl, post (.dat (.int _)) _ H F Stp.refl rel (.int _) trivial h⟩) hm (by decide +kernel) ha hg (he := he) (hpl := hpl)
@[simp] def fGcd : List D → (Res → Prop) → Prop := f2I (fun _ _ => True) fun i j => .int ((Nat.gcd i.natAbs j.natAbs : Nat) : Int)
theorem se_gcd (hm : X.mg "gcd" = some (.builtin "math.gcd")) {e2 : Expr} (ha : SA X W [e, e2] p) (hg : Gl X "gcd" := by rfl) (he : starEach (e :: [e2]) X.env = (false, eval e X.env) :: starEach [e2] X.env := by rfl) (hpl : (backTo pos (starEach [e2] X.env)).any (·.1) = false := by rfl) : SE X W (.Call (.Name "gcd" xp) [e, e2] [] pos) (pCB fGcd p) :=
  se_cbf cr_gcd (fun g F sl S σ H vs ds Q Qr rel rl h post => by
    obtain ⟨i, j, rfl, _, h⟩ := f2_inv rl h
    exact ⟨i, j, rfl, post (.dat (.int _)) _ H F Stp.refl rel (.int _) trivial h⟩) hm ha hg (he := he) (hpl := hpl)
def CLcm (i j : Int) : Prop := i.natAbs < 2 ^ 64 ∧ j.natAbs < 2 ^ 64
@[simp] def fLcm : List D → (Res → Prop) → Prop := f2I CLcm fun i j => .int ((Nat.lcm i.natAbs j.natAbs : Nat) : Int)
theorem cr_lcm : CallR X (.builtin "math.lcm") (fun vs H Q => ∃ i j : Int, vs = [.int i, .int j] ∧ CLcm i j ∧ Q (.int ((Nat.lcm i.natAbs j.natAbs : Nat) : Int)) H) := by
  intro pins s σ H vs us Q I r h
  obtain ⟨a, b, rfl, ⟨h1, h2⟩, q⟩ := h
  obtain ⟨t, u, rfl⟩ := Vals.int2 r
  refine PySem.W.mg_lcm_v h1 h2 (c := ((Nat.lcm a.natAbs b.natAbs : Nat) : Int)) (by rw [Nat.lcm_one_left]) ?_ ⟨.int _, H, I.tok _, ⟨_, rfl⟩, q⟩
  have hb : Nat.lcm a.natAbs b.natAbs < 2 ^ 128 := by
    have : Nat.lcm a.natAbs b.natAbs ≤ a.natAbs * b.natAbs := by
      unfold Nat.lcm
      exact Nat.div_le_self _ _
    have := Nat.mul_lt_mul'' h1 h2
    have e : (2 : Nat) ^ 128 = 2 ^ 64 * 2 ^ 64 := by decide
    omega
  have := PySem.Flt.log2_lt_of (show 0 < 128 by decide) hb
  have e : bitsLine = 134217728 := by decide
  rw [Int.natAbs_natCast, e]
  omega
theorem se_lcm (hm : X.mg "lcm" = some (.builtin "math.lcm")) {e2 : Expr} (ha : SA X W [e, e2] p) (hg : Gl X "lcm" := by rfl) (he : starEach (e :: [e2]) X.env = (false, eval e X.env) :: starEach [e2] X.env := by rfl) (hpl : (backTo pos (starEach [e2] X.env)).any (·.1) = false := by rfl) : SE X W (.Call (.Name "lcm" xp) [e, e2] [] pos) (pCB fLcm p) :=
  se_cbf cr_lcm (fun g F sl S σ H vs ds Q Qr rel rl h post => by
    obtain ⟨i, j, rfl, hc, h⟩ := f2_inv rl h
    exact ⟨i, j, rfl, hc, post (.dat (.int _)) _ H F Stp.refl rel (.int _) trivial h⟩) hm ha hg (he := he) (hpl := hpl)
end
/-! ### tuple(..), list(..) -/
@[simp] def pToT (q : PQx) : PEx := fun sl S Q E => q sl S (fun _ ds S1 => Q (.dat (.tup ds)) S1) E
@[simp] def pToL (q : PQx) : PEx := fun sl S Q E => q sl S (fun _ ds S1 => Q (.own ds) S1) E
section
variable {X : Cx} {W : WX} {e : Expr} {q : PQx} {pos xp : Pos}
theorem se_tolist (hm : X.mg "list" = none) (h : SQ X W e q) (hg : Gl X "list" := by rfl) (he : starEach (e :: []) X.env = (false, eval e X.env) :: starEach [] X.env := by rfl) : SE X W (.Call (.Name "list" xp) [e] [] pos) (pToL q) :=
  ⟨PE.imp (pe_callTy call_list_of hg hm (by decide +kernel) (pa_cons h.pe pa_nil he) (he := he)) fun σ H Q h => by
  obtain ⟨g, F, sl, S, Q', E', rel, hp, post, exc⟩ := h
  refine ⟨g, F, sl, S, _, E', rel, hp, fun k ds S1 v H1 F1 s1 rel1 sv h1 => ?_, exc⟩
  obtain ⟨a, vs, rfl, hs, rl⟩ := sv.use rel1
  exact ⟨a, vs, rfl, hs.or, fun p hp => post (.own ds) S1 _ _ F1 (s1.trans (Stp.alloc hp)) (rel1.alloc hp) ⟨p, vs, rfl, upd_same, rel1.cor.free hp, rel1.cor.new hp, rl⟩ (nw_new (s1.d p hp)) h1⟩⟩
theorem se_totup (hm : X.mg "tuple" = none) (h : SQ X W e q) (hg : Gl X "tuple" := by rfl) (he : starEach (e :: []) X.env = (false, eval e X.env) :: starEach [] X.env := by rfl) : SE X W (.Call (.Name "tuple" xp) [e] [] pos) (pToT q) :=
  ⟨PE.imp (pe_callTy call_tuple_of hg hm (by decide +kernel) (pa_cons h.pe pa_nil he) (he := he)) fun σ H Q h => by
  obtain ⟨g, F, sl, S, Q', E', rel, hp, post, exc⟩ := h
  refine ⟨g, F, sl, S, _, E', rel, hp, fun k ds S1 v H1 F1 s1 rel1 sv h1 => ?_, exc⟩
  cases k with
  | true =>
    obtain ⟨a, vs, rfl, hs, rl⟩ := sv.use rel1
    refine ⟨a, vs, rfl, .inl ⟨hs, fun p hp => ?_⟩⟩
    have hf := rel1.cor.free hp
    exact post (.dat (.tup ds)) S1 _ _ _ (s1.trans (Stp.allocF hp hf)) (rel1.allocF hp) (.tup (SqT.of upd_same) (rl.mono (Same.upd_new hf))) trivial h1
  | false =>
    rcases sv with ⟨a, vs, rfl, hs, rl⟩ | ⟨_, _, z, _⟩
    · exact ⟨a, vs, rfl, .inr ⟨hs.same rel1.cor.fh, post (.dat (.tup ds)) S1 _ H1 F1 s1 rel1 (.tup hs rl) trivial h1⟩⟩
    · cases z⟩
end
end Py
end
section
set_option Elab.async false
set_option linter.all false
set_option maxRecDepth 100000
set_option maxHeartbeats 4000000
/-! and, or, not; what is walked; statements; loops; comprehensions. -/
namespace Py
open PySem L2

/-! ### tests: and, or, not; as values -/
structure SW (X : Cx) (W : WX) (e : Expr) (p : PTx) : Prop where
  pw : PW X e (rdT X.K W p)
@[simp] def pAnd (p q : PTx) : PTx := fun sl S Q E => p sl S (fun b S1 => if b = true then q sl S1 Q E else Q false S1) E
@[simp] def pOr (p q : PTx) : PTx := fun sl S Q E => p sl S (fun b S1 => if b = true then Q true S1 else q sl S1 Q E) E
@[simp] def pNotT (p : PTx) : PTx := fun sl S Q E => p sl S (fun b S1 => Q (!b) S1) E
section
variable {X : Cx} {W : WX} {a b c : Expr} {rest : List Expr} {p q : PTx} {pe qe : PEx} {pos : Pos}
theorem sw_and1 (h : ST X W a p) : SW X W (.BoolOp .And [a] pos) p := ⟨pw_and1 h.pt⟩
theorem sw_or1 (h : ST X W a p) : SW X W (.BoolOp .Or [a] pos) p := ⟨pw_or1 h.pt⟩
theorem sw_and (h : ST X W a p) (hr : SW X W (.BoolOp .And (b :: rest) pos) q) : SW X W (.BoolOp .And (a :: b :: rest) pos) (pAnd p q) := ⟨PW.imp (pw_and h.pt hr.pw) fun σ H Q h => by
  obtain ⟨g, F, sl, S, Q', E', rel, hp, post, exc⟩ := h
  refine ⟨g, F, sl, S, _, E', rel, hp, fun d S1 H1 F1 s1 rel1 h1 => ?_, exc⟩
  cases d with
  | true => exact ⟨g, F1, sl, S1, _, E', rel1, h1, fun d2 S2 H2 F2 s2 rel2 h2 => post d2 S2 H2 F2 (s1.trans s2) rel2 h2, exc.mono s1.f⟩
  | false => exact post false S1 H1 F1 s1 rel1 h1⟩
theorem sw_or (h : ST X W a p) (hr : SW X W (.BoolOp .Or (b :: rest) pos) q) : SW X W (.BoolOp .Or (a :: b :: rest) pos) (pOr p q) := ⟨PW.imp (pw_or h.pt hr.pw) fun σ H Q h => by
  obtain ⟨g, F, sl, S, Q', E', rel, hp, post, exc⟩ := h
  refine ⟨g, F, sl, S, _, E', rel, hp, fun d S1 H1 F1 s1 rel1 h1 => ?_, exc⟩
  cases d with
  | true => exact post true S1 H1 F1 s1 rel1 h1
  | false => exact ⟨g, F1, sl, S1, _, E', rel1, h1, fun d2 S2 H2 F2 s2 rel2 h2 => post d2 S2 H2 F2 (s1.trans s2) rel2 h2, exc.mono s1.f⟩⟩
theorem st_w (h : SW X W a p) : ST X W a p := ⟨h.pw.pt⟩
theorem st_not (h : ST X W a p) : ST X W (.UnaryOp .Not a pos) (pNotT p) := ⟨PT.imp (pt_not h.pt) fun σ H Q h => by
  obtain ⟨g, F, sl, S, Q', E', rel, hp, post, exc⟩ := h
  exact ⟨g, F, sl, S, _, E', rel, hp, fun d S1 H1 F1 s1 rel1 h1 => post _ S1 H1 F1 s1 rel1 h1, exc⟩⟩
/-! as values -/
@[simp] def bool1 (r : Res) (Q : Bool → Prop) : Prop := match r with
  | .dat (.bl c) => Q c
  | _ => False
@[simp] def pAndV (p q : PEx) : PEx := fun sl S Q E => p sl S (fun r S1 => bool1 r fun c => if c = true then q sl S1 Q E else Q (.dat (.bl false)) S1) E
@[simp] def pOrV (p q : PEx) : PEx := fun sl S Q E => p sl S (fun r S1 => bool1 r fun c => if c = true then Q (.dat (.bl true)) S1 else q sl S1 Q E) E
@[simp] def pNotV (p : PEx) : PEx := fun sl S Q E => p sl S (fun r S1 => bool1 r fun c => Q (.dat (.bl (!c))) S1) E
theorem bool1_inv {K : PySem.W.Frag} {g : G} {F H : Hp} {r : Res} {v : V} {Q : Bool → Prop} (rr : RR K g F H r v) (h : bool1 r Q) : ∃ c, v = .bl c ∧ Q c := by
  cases r with
  | dat d =>
    cases d with
    | bl c => cases rr; exact ⟨c, rfl, h⟩
    | _ => exact h.elim
  | _ => exact h.elim
theorem se_one {op} (h : SE X W a pe) : SE X W (.BoolOp op [a] pos) pe := ⟨pe_one h.pe⟩
theorem se_and (h : SE X W a pe) (hr : SE X W (.BoolOp .And (b :: rest) pos) qe) : SE X W (.BoolOp .And (a :: b :: rest) pos) (pAndV pe qe) := ⟨PE.imp (pe_and h.pe hr.pe) fun σ H Q h => by
  obtain ⟨g, F, sl, S, Q', E', rel, hp, post, exc⟩ := h
  refine ⟨g, F, sl, S, _, E', rel, hp, fun r S1 v H1 F1 s1 rel1 rr nw h1 => ?_, exc⟩
  obtain ⟨c, rfl, h1⟩ := bool1_inv rr h1
  refine ⟨c, rfl, ?_⟩
  cases c with
  | true => exact ⟨g, F1, sl, S1, _, E', rel1, h1, fun r S2 v H2 F2 s2 rel2 rr nw h2 => post r S2 v H2 F2 (s1.trans s2) rel2 rr (nw.back s1) h2, exc.mono s1.f⟩
  | false => exact post (.dat (.bl false)) S1 _ H1 F1 s1 rel1 (.bl false) trivial h1⟩
theorem se_or (h : SE X W a pe) (hr : SE X W (.BoolOp .Or (b :: rest) pos) qe) : SE X W (.BoolOp .Or (a :: b :: rest) pos) (pOrV pe qe) := ⟨PE.imp (pe_or h.pe hr.pe) fun σ H Q h => by
  obtain ⟨g, F, sl, S, Q', E', rel, hp, post, exc⟩ := h
  refine ⟨g, F, sl, S, _, E', rel, hp, fun r S1 v H1 F1 s1 rel1 rr nw h1 => ?_, exc⟩
  obtain ⟨c, rfl, h1⟩ := bool1_inv rr h1
  refine ⟨c, rfl, ?_⟩
  cases c with
  | true => exact post (.dat (.bl true)) S1 _ H1 F1 s1 rel1 (.bl true) trivial h1
  | false => exact ⟨g, F1, sl, S1, _, E', rel1, h1, fun r S2 v H2 F2 s2 rel2 rr nw h2 => post r S2 v H2 F2 (s1.trans s2) rel2 rr (nw.back s1) h2, exc.mono s1.f⟩⟩
theorem se_not (h : SE X W a pe) : SE X W (.UnaryOp .Not a pos) (pNotV pe) := ⟨PE.imp (pe_not h.pe) fun σ H Q h => by
  obtain ⟨g, F, sl, S, Q', E', rel, hp, post, exc⟩ := h
  refine ⟨g, F, sl, S, _, E', rel, hp, fun r S1 v H1 F1 s1 rel1 rr nw h1 => ?_, exc⟩
  obtain ⟨c, rfl, h1⟩ := bool1_inv rr h1
  exact ⟨c, rfl, post (.dat (.bl (!c))) S1 _ H1 F1 s1 rel1 (.bl _) trivial h1⟩⟩
@[simp] def pNeg (p : PEx) : PEx := fun sl S Q E => dat p sl S (fun d S1 => match d with | .int i => Q (.dat (.int (-i))) S1 | _ => False) E
theorem se_neg (h : SE X W a pe) : SE X W (.UnaryOp .USub a pos) (pNeg pe) := ⟨PE.imp (pe_un un_neg h.pe) fun σ H Q h => by
  obtain ⟨g, F, sl, S, Q', E', rel, hp, post, exc⟩ := h
  refine rdE_dat rel hp exc fun d S1 v H1 F1 s1 rel1 r1 h1 => ?_
  cases r1 with
  | int i => exact ⟨i, rfl, post (.dat (.int (-i))) S1 _ H1 F1 s1 rel1 (.int _) trivial h1⟩
  | _ => exact h1.elim⟩
@[simp] def pIfE (c : PTx) (p q : PEx) : PEx := fun sl S Q E => c sl S (fun b S1 => if b = true then p sl S1 Q E else q sl S1 Q E) E
theorem se_if {pc : PTx} (hc : ST X W c pc) (ha : SE X W a pe) (hb : SE X W b qe) : SE X W (.IfExp c a b pos) (pIfE pc pe qe) := ⟨PE.imp (pe_ifExp hc.pt ha.pe hb.pe) fun σ H Q h => by
  obtain ⟨g, F, sl, S, Q', E', rel, hp, post, exc⟩ := h
  refine ⟨g, F, sl, S, _, E', rel, hp, fun d S1 H1 F1 s1 rel1 h1 => ?_, exc⟩
  have nxt : ∀ pz : PEx, pz sl S1 Q' E' → rdE X.K W pz σ H1 Q := fun pz hz => ⟨g, F1, sl, S1, _, E', rel1, hz, fun r S2 v H2 F2 s2 rel2 rr nw h2 => post r S2 v H2 F2 (s1.trans s2) rel2 rr (nw.back s1) h2, exc.mono s1.f⟩
  cases d with
  | true => exact nxt _ h1
  | false => exact nxt _ h1⟩
end

/-! ### what is walked -/
/-- an item: it stands, or the heap grows for it -/
def ItY (K : PySem.W.Frag) (F H : Hp) (x : V) (H' : Hp) (d : D) : Prop := (H' = H ∧ Rp K F x d) ∨ ∀ g F1 sl S σ, Same F F1 → Rel K g F1 sl S σ H → ∃ F', Stp g F1 H F' H' ∧ Rel K g F' sl S σ H' ∧ Rp K F' x d
theorem ItY.mono {K : PySem.W.Frag} {F F1 H H' : Hp} {x : V} {d : D} (h : ItY K F H x H' d) (s : Same F F1) : ItY K F1 H x H' d := by
  rcases h with ⟨e, r⟩ | h
  · exact .inl ⟨e, r.mono s⟩
  · exact .inr fun g F2 sl S σ s2 r => h g F2 sl S σ (s.trans s2) r
theorem ItY.use {K : PySem.W.Frag} {g : G} {F H H' : Hp} {sl : List Slot} {S : List Int} {σ : L2.St} {x : V} {d : D} (h : ItY K F H x H' d) (rel : Rel K g F sl S σ H) : ∃ F', Stp g F H F' H' ∧ Rel K g F' sl S σ H' ∧ Rp K F' x d := by
  rcases h with ⟨rfl, r⟩ | h
  · exact ⟨F, Stp.refl, rel, r⟩
  · exact h g F sl S σ (Same.refl _) rel
structure ItOk (K : PySem.W.Frag) (J : It) (F : Hp) (ds : List D) : Prop where
  go : ∀ H i, Same F H → i < ds.length → J.go i H
  stop : ∀ H i, Same F H → ds.length ≤ i → J.stop i H
  yld : ∀ H i x H', Same F H → J.yld i H x H' → ∀ d, ds[i]? = some d → ItY K F H x H' d
theorem ItOk.mono {K : PySem.W.Frag} {J : It} {F F' : Hp} {ds : List D} (h : ItOk K J F ds) (s : Same F F') : ItOk K J F' ds :=
  ⟨fun H i e => h.go H i (s.trans e), fun H i e => h.stop H i (s.trans e), fun H i x H' e y d q => (h.yld H i x H' (s.trans e) y d q).mono s⟩
abbrev PIx := List Slot → List Int → (List D → List Int → Prop) → PXQ → Prop
def rdI (K : PySem.W.Frag) (W : WX) (p : PIx) : TI := fun σ H R => ∃ g F sl S Q' E', Rel K g F sl S σ H ∧ p sl S Q' E' ∧
  (∀ ds S' J H' F', Stp g F H F' H' → Rel K g F' sl S' σ H' → ItOk K J F' ds → Q' ds S' → R J H') ∧ ExcE K W g F sl σ E'
structure SI (X : Cx) (W : WX) (tg e : Expr) (p : PIx) : Prop where
  pi : PI X tg e (rdI X.K W p)
theorem PI.imp {X : Cx} {tg e : Expr} {t t' : TI} (h : PI X tg e t) (i : ∀ σ H R, t' σ H R → t σ H R) : PI X tg e t' := ⟨fun pins s σ H R I q => h.run pins s σ H R I (i _ _ _ q)⟩
theorem it_list {K : PySem.W.Frag} {F : Hp} {a : Addr} {vs : List V} {ds : List D} (h : SqL K F a vs) (r : RpL K F vs ds) : ItOk K (Itl K a) F ds :=
  ⟨fun H i e hi => ⟨vs, vs[i]'(by rw [r.length]; exact hi), sqL_same e h, by simp⟩, fun H i e hi => ⟨vs, sqL_same e h, by rw [r.length]; exact hi⟩, fun H i x H' e y d q => .inl ⟨y.1, by
    obtain ⟨v, h1, h2⟩ := r.get q
    have := y.2 vs (sqL_same e h)
    rw [h1] at this
    cases this
    exact h2⟩⟩
theorem it_tup {K : PySem.W.Frag} {F : Hp} {a : Addr} {vs : List V} {ds : List D} (h : SqT K F a vs) (r : RpL K F vs ds) : ItOk K (Itt K a) F ds :=
  ⟨fun H i e hi => ⟨vs, vs[i]'(by rw [r.length]; exact hi), sqT_same e h, by simp⟩, fun H i e hi => ⟨vs, sqT_same e h, by rw [r.length]; exact hi⟩, fun H i x H' e y d q => .inl ⟨y.1, by
    obtain ⟨v, h1, h2⟩ := r.get q
    have := y.2 vs (sqT_same e h)
    rw [h1] at this
    cases this
    exact h2⟩⟩
/-- lo, lo + c, .. -/
def rng (lo c : Int) (n : Nat) : List D := (List.range n).map fun i => D.int (lo + (i : Nat) * c)
theorem rng_get {lo c : Int} {n i : Nat} {d : D} (h : (rng lo c n)[i]? = some d) : d = D.int (lo + (i : Nat) * c) := by
  unfold rng at h
  rw [List.getElem?_map] at h
  cases e : (List.range n)[i]? with
  | none => rw [e] at h; cases h
  | some j =>
    rw [e] at h
    have hj : j = i := by
      obtain ⟨h1, h2⟩ := List.getElem?_eq_some_iff.mp e
      rw [← h2, List.getElem_range]
    subst hj
    exact (Option.some.inj h).symm
theorem rng_len (lo c : Int) (n : Nat) : (rng lo c n).length = n := by unfold rng; simp
theorem it_rng {K : PySem.W.Frag} {F : Hp} (lo : Int) (n : Nat) : ItOk K (Itr lo n) F (rng lo 1 n) :=
  ⟨fun H i e hi => by rw [rng_len] at hi; exact hi, fun H i e hi => by rw [rng_len] at hi; exact hi, fun H i x H' e y d q => .inl ⟨y.1, by
    rw [rng_get q, Int.mul_one, y.2]
    exact .int _⟩⟩
theorem it_rngC {K : PySem.W.Frag} {F : Hp} (lo c : Int) (n : Nat) : ItOk K (Itc lo c n) F (rng lo c n) :=
  ⟨fun H i e hi => by rw [rng_len] at hi; exact hi, fun H i e hi => by rw [rng_len] at hi; exact hi, fun H i x H' e y d q => .inl ⟨y.1, by
    rw [rng_get q, y.2]
    exact .int _⟩⟩
/-- a list or a tuple -/
def iSq (K : PySem.W.Frag) (tl : TE) : TI := fun σ H R => tl σ H fun x H1 => ∃ a, x = V.ref a ∧ (((∃ xs, SqL K H1 a xs) ∧ R (Itl K a) H1) ∨ ((∃ xs, SqT K H1 a xs) ∧ R (Itt K a) H1))
section
variable {X : Cx} {W : WX} {tg e : Expr} {p : PEx}
theorem pi_sq {l : Expr} {tl : TE} (hl : PE X l tl) : PI X tg l (iSq X.K tl) := by
  constructor
  intro pins s σ H R I0 h
  apply thn (hl.run pins s σ H _ I0 h)
  rintro v s1 ⟨x, H1, I1, rv, a, rfl, q⟩
  cases rv
  rcases q with ⟨⟨xs, hq⟩, q⟩ | ⟨⟨xs, hq⟩, q⟩
  · obtain ⟨its, _, pl, _⟩ := I1.list hq
    exact wpAny_pyIter_list pl.isList (pi_one (tk := s1.toks) I1 _ (turn_list a _) ⟨_, Heap.get?_push_size _ rfl, rfl, rfl⟩ q)
  · obtain ⟨its, _, pl, _⟩ := I1.tuple hq
    exact wpAny_pyIter_tuple (show s1.heap.IsTuple a its.toArray from pl) (pi_one (tk := s1.toks) I1 _ (turn_tuple a _) ⟨_, Heap.get?_push_size _ rfl, rfl, rfl⟩ q)
@[simp] def pISeq (p : PEx) : PIx := fun sl S Q E => dat p sl S (fun d S1 => seqD d fun _ ds => Q ds S1) E
theorem si_seq (h : SE X W e p) : SI X W tg e (pISeq p) := ⟨PI.imp (pi_sq h.pe) fun σ H R h => by
  obtain ⟨g, F, sl, S, Q', E', rel, hp, post, exc⟩ := h
  refine rdE_dat rel hp exc fun d S1 v H1 F1 s1 rel1 r1 h1 => ?_
  cases r1 with
  | lst h2 q2 => exact ⟨_, rfl, .inl ⟨⟨_, SqL.of (rel1.cor.fh _ _ h2)⟩, post _ S1 _ H1 F1 s1 rel1 (it_list (SqL.of h2) q2) h1⟩⟩
  | frl h2 q2 => exact ⟨_, rfl, .inl ⟨⟨_, sqL_same rel1.cor.fh h2⟩, post _ S1 _ H1 F1 s1 rel1 (it_list h2 q2) h1⟩⟩
  | tup h2 q2 => exact ⟨_, rfl, .inr ⟨⟨_, sqT_same rel1.cor.fh h2⟩, post _ S1 _ H1 F1 s1 rel1 (it_tup h2 q2) h1⟩⟩
  | _ => exact h1.elim⟩
def sm62 (i : Int) : Prop := -(2 ^ 62) ≤ i ∧ i < 2 ^ 62
@[simp] def pRng1 (p : PAx) : PIx := fun sl S Q E => dats p sl S (fun ds S1 => match ds with | [.int j] => sm62 j ∧ Q (rng 0 1 j.toNat) S1 | _ => False) E
@[simp] def pRng2 (p : PAx) : PIx := fun sl S Q E => dats p sl S (fun ds S1 => match ds with | [.int i, .int j] => (sm62 i ∧ sm62 j) ∧ Q (rng i 1 (j - i).toNat) S1 | _ => False) E
/-- downwards by ones -/
@[simp] def pRngD (p : PAx) : PIx := fun sl S Q E => dats p sl S (fun ds S1 => match ds with | [.int i, .int j, .int k] => (sm62 i ∧ sm62 j ∧ k = -1) ∧ Q (rng i (-1) (i - j).toNat) S1 | _ => False) E
variable {a b c : Expr} {q : PAx} {xp pos : Pos}
theorem si_rng1 (hm : X.mg "range" = none) (ha : SA X W [a] q) (hg : Gl X "range" := by rfl) (hs : starEach [a] X.env = [(false, eval a X.env)] := by rfl) : SI X W tg (.Call (.Name "range" xp) [a] [] pos) (pRng1 q) := ⟨PI.imp (pi_range1 hg hm ha.pa hs) fun σ H R h => by
  obtain ⟨g, F, sl, S, Q', E', rel, hp, post, exc⟩ := h
  refine rdA_dats rel hp exc fun ds S1 vs H1 F1 s1 rel1 rl h1 => ?_
  split at h1
  · cases rl with
    | cons r1 r2 =>
      cases r1
      cases r2
      exact ⟨_, rfl, h1.1.1, h1.1.2, post _ S1 _ H1 F1 s1 rel1 (it_rng 0 _) h1.2⟩
  · exact h1.elim⟩
theorem si_rng2 (hm : X.mg "range" = none) (ha : SA X W [a, b] q) (hg : Gl X "range" := by rfl) (hs : starEach [a, b] X.env = [(false, eval a X.env), (false, eval b X.env)] := by rfl) (hs2 : starEach [b] X.env = [(false, eval b X.env)] := by rfl) : SI X W tg (.Call (.Name "range" xp) [a, b] [] pos) (pRng2 q) := ⟨PI.imp (pi_range2 hg hm ha.pa hs hs2) fun σ H R h => by
  obtain ⟨g, F, sl, S, Q', E', rel, hp, post, exc⟩ := h
  refine rdA_dats rel hp exc fun ds S1 vs H1 F1 s1 rel1 rl h1 => ?_
  split at h1
  · cases rl with
    | cons r1 r2 =>
      cases r1
      cases r2 with
      | cons r3 r4 =>
        cases r3
        cases r4
        exact ⟨_, _, rfl, ⟨h1.1.1.1, h1.1.1.2, h1.1.2.1, h1.1.2.2⟩, post _ S1 _ H1 F1 s1 rel1 (it_rng _ _) h1.2⟩
  · exact h1.elim⟩
theorem si_rngD (hm : X.mg "range" = none) (ha : SA X W [a, b, c] q) (hg : Gl X "range" := by rfl) (hs : starEach [a, b, c] X.env = (false, eval a X.env) :: starEach [b, c] X.env := by rfl) (hpl : (backTo pos (starEach [b, c] X.env)).any (·.1) = false := by rfl) : SI X W tg (.Call (.Name "range" xp) [a, b, c] [] pos) (pRngD q) := ⟨PI.imp (pi_range3 hg hm ha.pa hs hpl) fun σ H R h => by
  obtain ⟨g, F, sl, S, Q', E', rel, hp, post, exc⟩ := h
  refine rdA_dats rel hp exc fun ds S1 vs H1 F1 s1 rel1 rl h1 => ?_
  split at h1
  · cases rl with
    | cons r1 r2 =>
      cases r1
      cases r2 with
      | cons r3 r4 =>
        cases r3
        cases r4 with
        | cons r5 r6 =>
          cases r5
          cases r6
          obtain ⟨⟨z1, z2, rfl⟩, h2⟩ := h1
          exact ⟨_, _, _, _, rfl, RgC.neg z1.1 z1.2 z2.1 z2.2, post _ S1 _ H1 F1 s1 rel1 (it_rngC _ _ _) h2⟩
  · exact h1.elim⟩
end

/-! ### statements -/
structure PEnds where
  nx : List Slot → List Int → Prop
  rt : Res → List Int → Prop
  bk : List Slot → List Int → Prop
  ct : List Slot → List Int → Prop
  ex : PX → List Slot → List Int → Prop
abbrev PSm := PEnds → List Slot → List Int → Prop
structure Lk (K : PySem.W.Frag) (W : WX) (g : G) (F : Hp) (D : Ends) (P : PEnds) : Prop where
  nx : ∀ sl S σ H F', Same F F' → Rel K g F' sl S σ H → P.nx sl S → D.nx σ H
  rt : ∀ r S v H F', Same F F' → Cor g F' S H → RR K g F' H r v → P.rt r S → D.rt v H
  bk : ∀ sl S σ H F', Same F F' → Rel K g F' sl S σ H → P.bk sl S → D.bk σ H
  ct : ∀ sl S σ H F', Same F F' → Rel K g F' sl S σ H → P.ct sl S → D.ct σ H
  ex : ∀ x sl S d σ H F', Same F F' → Rel K g F' sl S σ H → ExR K F' x d → P.ex x sl S → W (.ref x.C) d σ H
theorem Lk.mono {K : PySem.W.Frag} {W : WX} {g : G} {F F' : Hp} {D : Ends} {P : PEnds} (l : Lk K W g F D P) (s : Same F F') : Lk K W g F' D P :=
  ⟨fun sl S σ H F2 s2 => l.nx sl S σ H F2 (s.trans s2), fun r S v H F2 s2 => l.rt r S v H F2 (s.trans s2), fun sl S σ H F2 s2 => l.bk sl S σ H F2 (s.trans s2), fun sl S σ H F2 s2 => l.ct sl S σ H F2 (s.trans s2),
    fun x sl S d σ H F2 s2 => l.ex x sl S d σ H F2 (s.trans s2)⟩
/-- the exceptions of an expression -/
theorem Lk.exc {K : PySem.W.Frag} {W : WX} {g : G} {F : Hp} {D : Ends} {P : PEnds} (l : Lk K W g F D P) (sl : List Slot) (σ : L2.St) : ExcE K W g F sl σ (fun x S => P.ex x sl S) := fun x S d H F' s rel er h => l.ex x sl S d σ H F' s rel er h
def rdS (K : PySem.W.Frag) (W : WX) (p : PSm) : TS := fun D σ H => ∃ g F sl S P, Rel K g F sl S σ H ∧ p P sl S ∧ Lk K W g F D P
structure SS (X : Cx) (W : WX) (s : Stmt) (p : PSm) : Prop where
  ps : PS X s (rdS X.K W p)
structure SB (X : Cx) (W : WX) (s : List Stmt) (p : PSm) : Prop where
  ps : PSs X s (rdS X.K W p)
theorem PS.imp {X : Cx} {e : Stmt} {t t' : TS} (h : PS X e t) (i : ∀ D σ H, t' D σ H → t D σ H) : PS X e t' := ⟨fun pins s σ H D I q => h.run pins s σ H D I (i _ _ _ q)⟩
theorem PSs.imp {X : Cx} {e : List Stmt} {t t' : TS} (h : PSs X e t) (i : ∀ D σ H, t' D σ H → t D σ H) : PSs X e t' := ⟨fun pins s σ H D I q => h.run pins s σ H D I (i _ _ _ q)⟩
@[simp] def pNext : PSm := fun P sl S => P.nx sl S
@[simp] def pSeq (p q : PSm) : PSm := fun P sl S => p { P with nx := q P } sl S
@[simp] def pDrop (p : PEx) : PSm := fun P sl S => p sl S (fun _ S1 => P.nx sl S1) (fun x S1 => P.ex x sl S1)
@[simp] def pRet (p : PEx) : PSm := fun P sl S => p sl S P.rt (fun x S1 => P.ex x sl S1)
@[simp] def pIf (c : PTx) (p q : PSm) : PSm := fun P sl S => c sl S (fun b S1 => if b = true then p P sl S1 else q P sl S1) (fun x S1 => P.ex x sl S1)
@[simp] def pFrz (i : Nat) (p : PSm) : PSm := fun P sl S => p P (match sl[i]? with | some s => sl.set i s.frz | none => sl) S
section
variable {X : Cx} {W : WX} {st : Stmt} {rest : List Stmt} {p q : PSm} {e c : Expr} {pe : PEx} {pc : PTx} {pos : Pos}
theorem sb_nil : SB X W [] pNext := ⟨PSs.imp pss_nil fun D σ H h => by
  obtain ⟨g, F, sl, S, P, rel, hp, lk⟩ := h
  exact lk.nx sl S σ H F (Same.refl _) rel hp⟩
theorem sb_cons (h : SS X W st p) (hr : SB X W rest q) : SB X W (st :: rest) (pSeq p q) := ⟨PSs.imp (pss_cons h.ps hr.ps) fun D σ H h => by
  obtain ⟨g, F, sl, S, P, rel, hp, lk⟩ := h
  exact ⟨g, F, sl, S, _, rel, hp, ⟨fun sl1 S1 σ1 H1 F1 s1 rel1 h1 => ⟨g, F1, sl1, S1, P, rel1, h1, lk.mono s1⟩, lk.rt, lk.bk, lk.ct, lk.ex⟩⟩⟩
theorem sb_one (h : SS X W st p) : SB X W [st] p := ⟨PSs.imp (pss_one h.ps) fun D σ H h => h⟩
theorem ss_frz (i : Nat) (h : SS X W st p) : SS X W st (pFrz i p) := ⟨PS.imp h.ps fun D σ H h => by
  obtain ⟨g, F, sl, S, P, rel, hp, lk⟩ := h
  obtain ⟨F', s, rel'⟩ := rel.frz i
  exact ⟨g, F', _, S, P, rel', hp, lk.mono s⟩⟩
theorem ss_expr (h : SE X W e pe) (hs : swapsWith e none pos.line X.env = pure false := by rfl) : SS X W (.Expr e pos) (pDrop pe) := ⟨PS.imp (ps_expr h.pe hs) fun D σ H h => by
  obtain ⟨g, F, sl, S, P, rel, hp, lk⟩ := h
  exact ⟨g, F, sl, S, _, _, rel, hp, fun r S1 v H1 F1 s1 rel1 rr nw h1 => lk.nx sl S1 σ H1 F1 s1.f rel1 h1, lk.exc sl σ⟩⟩
theorem ss_ret (h : SE X W e pe) : SS X W (.Return (some e) pos) (pRet pe) := ⟨PS.imp (ps_ret h.pe) fun D σ H h => by
  obtain ⟨g, F, sl, S, P, rel, hp, lk⟩ := h
  exact ⟨g, F, sl, S, _, _, rel, hp, fun r S1 v H1 F1 s1 rel1 rr nw h1 => lk.rt r S1 v H1 F1 s1.f rel1.cor rr h1, lk.exc sl σ⟩⟩
theorem ss_if {a b : List Stmt} (hc : ST X W c pc) (ha : SB X W a p) (hb : SB X W b q) : SS X W (.If c a b pos) (pIf pc p q) := ⟨PS.imp (ps_if hc.pt ha.ps hb.ps) fun D σ H h => by
  obtain ⟨g, F, sl, S, P, rel, hp, lk⟩ := h
  refine ⟨g, F, sl, S, _, _, rel, hp, fun d S1 H1 F1 s1 rel1 h1 => ?_, lk.exc sl σ⟩
  cases d with
  | true => exact ⟨g, F1, sl, S1, P, rel1, h1, lk.mono s1.f⟩
  | false => exact ⟨g, F1, sl, S1, P, rel1, h1, lk.mono s1.f⟩⟩
@[simp] def pBreak : PSm := fun P sl S => P.bk sl S
@[simp] def pCont : PSm := fun P sl S => P.ct sl S
theorem ss_break : SS X W (.Break pos) pBreak := ⟨PS.imp ps_break fun D σ H h => by
  obtain ⟨g, F, sl, S, P, rel, hp, lk⟩ := h
  exact lk.bk sl S σ H F (Same.refl _) rel hp⟩
theorem ss_continue : SS X W (.Continue pos) pCont := ⟨PS.imp ps_continue fun D σ H h => by
  obtain ⟨g, F, sl, S, P, rel, hp, lk⟩ := h
  exact lk.ct sl S σ H F (Same.refl _) rel hp⟩
theorem ss_pass : SS X W (.Pass pos) pNext := ⟨PS.imp ps_pass fun D σ H h => by
  obtain ⟨g, F, sl, S, P, rel, hp, lk⟩ := h
  exact lk.nx sl S σ H F (Same.refl _) rel hp⟩
end

/-! ### targets -/
abbrev PGx := Res → List Slot → List Int → (List Slot → List Int → Prop) → Prop
def rdG (K : PySem.W.Frag) (p : PGx) : TG := fun v σ H Qσ => ∃ g F sl S r Q', Rel K g F sl S σ H ∧ RR K g F H r v ∧ Ap sl σ r v ∧ p r sl S Q' ∧
  ∀ sl' S' σ' H' F', Same F F' → Rel K g F' sl' S' σ' H' → Q' sl' S' → Qσ σ' H'
structure SG (X : Cx) (tg : Expr) (p : PGx) : Prop where
  pg : PG X tg (rdG X.K p)
theorem PG.imp {X : Cx} {e : Expr} {t t' : TG} (h : PG X e t) (i : ∀ v σ H Q, t' v σ H Q → t v σ H Q) : PG X e t' := ⟨fun pins s σ H v u Q I r q => h.run pins s σ H v u Q I r (i _ _ _ _ q)⟩
@[simp] def pgName (i : Nat) : PGx := fun r sl S Q => i < sl.length ∧ Q (sl.set i r.slot) S
abbrev PGsx := List D → List Slot → List Int → (List Slot → List Int → Prop) → Prop
def rdGs (K : PySem.W.Frag) (p : PGsx) : TGs := fun vs σ H Qσ => ∃ g F sl S ds Q', Rel K g F sl S σ H ∧ RpL K F vs ds ∧ p ds sl S Q' ∧
  ∀ sl' S' σ' H' F', Same F F' → Rel K g F' sl' S' σ' H' → Q' sl' S' → Qσ σ' H'
structure SGs (X : Cx) (tg : List Expr) (p : PGsx) : Prop where
  pg : PGs X tg (rdGs X.K p)
theorem PGs.imp {X : Cx} {e : List Expr} {t t' : TGs} (h : PGs X e t) (i : ∀ v σ H Q, t' v σ H Q → t v σ H Q) : PGs X e t' := ⟨fun pins s σ H v u Q I r q => h.run pins s σ H v u Q I r (i _ _ _ _ q)⟩
@[simp] def pgNil : PGsx := fun ds sl S Q => ds = [] ∧ Q sl S
@[simp] def pgCons (p : PGx) (q : PGsx) : PGsx := fun ds sl S Q => match ds with
  | d :: r => p (.dat d) sl S fun sl1 S1 => q r sl1 S1 Q
  | [] => False
@[simp] def pgTup (n : Nat) (p : PGsx) : PGx := fun r sl S Q => match r with
  | .dat (.tup ds) => ds.length = n ∧ p ds sl S Q
  | .dat (.lst ds) => ds.length = n ∧ p ds sl S Q
  | .dat (.frl ds) => ds.length = n ∧ p ds sl S Q
  | _ => False
/-- x[i] = .. of an own list -/
@[simp] def pgSub (i : Nat) (p : PEx) : PGx := fun r sl S Q => ∃ d, r.toD = some d ∧ match sl[i]? with
  | some (.own ds) => dat p sl S (fun k S1 => match k with
    | .int k => match ixN ds.length k with
      | some j => Q (sl.set i (.own (ds.set j d))) S1
      | none => False
    | _ => False) fun _ _ => False
  | _ => False
section
variable {X : Cx} {W : WX} {tg e : Expr} {es : List Expr} {p : PGx} {q : PGsx} {pe : PEx} {pos : Pos}
theorem sg_name (i : Nat) {x : Str} (hN : X.N.Nodup) (hi : X.N[i]? = some x := by rfl) (hx : Loc X.env.scope x := by first | exact Or.inl rfl | exact Or.inr rfl) (hf : X.fn x = true ∨ X.env.scope.names.lookup x = some .local := by first | exact .inl rfl | exact .inr rfl) : SG X (.Name x pos) (pgName i) :=
  ⟨PG.imp (pg_name hN hi hx hf) fun v σ H Q h => by
    obtain ⟨g, F, sl, S, r, Q', rel, rr, ap, ⟨hl, hp⟩, post⟩ := h
    exact post _ S _ H F (Same.refl _) (rel.store rr ap hl) hp⟩
theorem sgs_nil : SGs X [] pgNil := ⟨PGs.imp pgs_nil fun v σ H Q h => by
  obtain ⟨g, F, sl, S, ds, Q', rel, rl, ⟨rfl, hp⟩, post⟩ := h
  cases rl
  exact ⟨rfl, post sl S σ H F (Same.refl _) rel hp⟩⟩
theorem sgs_cons (h : SG X e p) (hr : SGs X es q) (hs : (assignEach (e :: es) X.env).map (·.2) = assign e X.env :: (assignEach es X.env).map (·.2) := by rfl) : SGs X (e :: es) (pgCons p q) := ⟨PGs.imp (pgs_cons h.pg hr.pg hs) fun v σ H Q h => by
  obtain ⟨g, F, sl, S, ds, Q', rel, rl, hp, post⟩ := h
  cases rl with
  | nil => exact hp.elim
  | cons r1 r2 =>
    refine ⟨_, _, rfl, g, F, sl, S, .dat _, _, rel, r1, trivial, hp, fun sl1 S1 σ1 H1 F1 s1 rel1 h1 => ?_⟩
    exact ⟨g, F1, sl1, S1, _, Q', rel1, r2.mono s1, h1, fun sl2 S2 σ2 H2 F2 s2 rel2 h2 => post sl2 S2 σ2 H2 F2 (s1.trans s2) rel2 h2⟩⟩
theorem PG.or {X : Cx} {tg : Expr} {g1 g2 : L2.TG} (h1 : PG X tg g1) (h2 : PG X tg g2) : PG X tg (fun v σ H Q => g1 v σ H Q ∨ g2 v σ H Q) := ⟨fun pins s σ H v u Q I r hw => hw.elim (h1.run pins s σ H v u Q I r) (h2.run pins s σ H v u Q I r)⟩
theorem sg_tup {k : Nat} {n : Nat} (hc : X.calm = true) (h : SGs X es q) (hn : (assignEach es X.env).length = n := by rfl) (hst : (assignEach es X.env).findIdx? (·.1) = none := by rfl) : SG X (.Tuple es k pos) (pgTup n q) := ⟨PG.imp (PG.or (pg_tup hc h.pg hn hst) (pg_lst hc h.pg hn hst)) fun v σ H Q h => by
  obtain ⟨g, F, sl, S, r, Q', rel, rr, ap, hp, post⟩ := h
  unfold pgTup at hp
  split at hp
  · cases rr with
    | tup h2 q2 => exact .inl ⟨_, _, rfl, sqT_same rel.cor.fh h2, by rw [q2.length]; exact hp.1, g, F, sl, S, _, Q', rel, q2, hp.2, post⟩
  · cases rr with
    | lst h2 q2 => exact .inr ⟨_, _, rfl, SqL.of (rel.cor.fh _ _ h2), by rw [q2.length]; exact hp.1, g, F, sl, S, _, Q', rel, q2, hp.2, post⟩
  · cases rr with
    | frl h2 q2 => exact .inr ⟨_, _, rfl, sqL_same rel.cor.fh h2, by rw [q2.length]; exact hp.1, g, F, sl, S, _, Q', rel, q2, hp.2, post⟩
  · exact hp.elim⟩
theorem noExc {K : PySem.W.Frag} {W : WX} {g : G} {F : Hp} {sl : List Slot} {σ : L2.St} : ExcE K W g F sl σ (fun _ _ => False) := fun _ _ _ _ _ _ _ _ z => z.elim
theorem sg_sub (i : Nat) {x : Str} {px : Pos} (hi : SE X W e pe) (hN : X.N[i]? = some x := by rfl) (hv : Vis X.env.scope x := by first | exact Or.inl rfl | exact Or.inr (Or.inl rfl) | exact Or.inr (Or.inr rfl)) (hd : (x == ("__debug__" : Str)) = false := by decide)
    (hcd : (x == ("__classdict__" : Str)) = false := by decide)
    (ha : ∀ v, assign (.Subscript (.Name x px) e pos) X.env v = (do
      let ov ← holding [v] (eval (.Name x px) X.env)
      let iv ← holding [v, ov] (eval e X.env)
      standAt pos
      holding [v, ov, iv] (setItem ov iv v)
      release [v, ov, iv] []) := by intro _; rfl) : SG X (.Subscript (.Name x px) e pos) (pgSub i pe) := ⟨PG.imp (pg_sub (pe_var hN hv hd hcd) hi.pe set_list ha) fun v σ H Q h => by
  obtain ⟨g, F, sl, S, r, Q', rel, rr, ap, ⟨d, hd, hp⟩, post⟩ := h
  cases e2 : sl[i]? with
  | none => rw [e2] at hp; exact hp.elim
  | some s =>
    rw [e2] at hp
    cases s with
    | own ds =>
      obtain ⟨F0, sF, rel0, rd⟩ : ∃ F', Same F F' ∧ Rel X.K g F' sl S σ H ∧ Rp X.K F' v d := by
        cases r with
        | dat d' => cases hd; exact ⟨F, Same.refl _, rel, rr⟩
        | own ds =>
          cases hd
          obtain ⟨p, vs, rfl, h1, h2, h3, q⟩ := rr
          exact ⟨_, Same.upd_new h2, rel.freeze h1 h2 h3 ap, .lst upd_same (q.mono (Same.upd_new h2))⟩
        | drw => cases hd
      obtain ⟨a, vs, h1, h2, h3, h4, rl⟩ := rel0.own e2
      refine ⟨_, h1, ?_⟩
      refine rdE_dat rel0 hp noExc fun k S1 w H1 F1 s1 rel1 r1 hk => ?_
      cases r1 with
      | int k =>
        dsimp only at hk
        cases e3 : ixN ds.length k with
        | none => rw [e3] at hk; exact hk.elim
        | some j =>
          rw [e3] at hk
          obtain ⟨a', vs', h1', h2', _, _, rl'⟩ := rel1.own e2
          rw [h1] at h1'
          cases h1'
          refine ⟨a, vs', k, j, rfl, rfl, h2', by rw [rl'.length]; exact e3, ?_⟩
          exact post _ S1 σ _ F1 (sF.trans s1.f) (rel1.write e2 h1 (rl'.set (rd.mono s1.f) j)) hk
      | _ => exact hk.elim
    | un => exact hp.elim
    | dat d => exact hp.elim
    | drw => exact hp.elim
    | slf b a d x => exact hp.elim
    | dic ks ds => exact hp.elim
    | exc a d x => exact hp.elim⟩
/-- target = value -/
@[simp] def pAsg (pe : PEx) (pg : PGx) : PSm := fun P sl S => pe sl S (fun r S1 => pg r sl S1 P.nx) (fun x S1 => P.ex x sl S1)
theorem rd_asg {K : PySem.W.Frag} {W : WX} {pe : PEx} {pg : PGx} (D : Ends) (σ : L2.St) (H : Hp) (h : rdS K W (pAsg pe pg) D σ H) : tAsg (rdE K W pe) (rdG K pg) D σ H := by
  obtain ⟨g, F, sl, S, P, rel, hp, lk⟩ := h
  exact ⟨g, F, sl, S, _, _, rel, hp, fun r S1 v H1 F1 s1 rel1 rr nw h1 => ⟨g, F1, sl, S1, r, P.nx, rel1, rr, rel.ap nw, h1, fun sl2 S2 σ2 H2 F2 s2 rel2 h2 => lk.nx sl2 S2 σ2 H2 F2 (s1.f.trans s2) rel2 h2⟩, lk.exc sl σ⟩
theorem ss_asg (he : SE X W e pe) (hg : SG X tg p) (hs : swapsWithSole [tg] e pos.line X.env = pure false := by rfl) (hw : swappedStores [tg] e X.env = pure none := by rfl) (h1 : (assignEach [tg] X.env).map (·.2) = [assign tg X.env] := by rfl) : SS X W (.Assign [tg] e pos) (pAsg pe p) :=
  ⟨PS.imp (ps_asg he.pe hg.pg hs hw h1) rd_asg⟩
end
end Py
end
section
set_option Elab.async false
set_option linter.all false
set_option maxRecDepth 100000
set_option maxHeartbeats 4000000
/-! Loops, comprehensions, methods of lists, defs. -/
namespace Py
open PySem L2

/-! ### for -/
def forRun (tg : PGx) (body : PSm) (P : PEnds) : List D → List Slot → List Int → Prop
  | [], sl, S => P.nx sl S
  | d :: ds, sl, S => tg (.dat d) sl S fun sl1 S1 => body { P with nx := forRun tg body P ds, ct := forRun tg body P ds, bk := P.nx } sl1 S1
@[simp] def pFor (pi : PIx) (tg : PGx) (body : PSm) : PSm := fun P sl S => pi sl S (fun ds S1 => forRun tg body P ds sl S1) (fun x S1 => P.ex x sl S1)
def pWhile (c : PTx) (body : PSm) : PSm := fun P sl S => ∃ Iv : Nat → List Slot → List Int → Prop, (∃ m, Iv m sl S) ∧ ∀ m sl S, Iv m sl S →
  c sl S (fun b S1 => if b = true then body { P with nx := fun sl2 S2 => ∃ m2, m2 < m ∧ Iv m2 sl2 S2, ct := fun sl2 S2 => ∃ m2, m2 < m ∧ Iv m2 sl2 S2, bk := P.nx } sl S1 else P.nx sl S1) (fun x S1 => P.ex x sl S1)
section
variable {X : Cx} {W : WX} {tg it c : Expr} {body : List Stmt} {pi : PIx} {pg : PGx} {pb : PSm} {pc : PTx} {pos : Pos}
theorem ss_for (hp : PassesOwn (model X.prog X.w) X.A X.env X.xe) (hc : X.calm = true) (hi : SI X W tg it pi) (hg : SG X tg pg) (hb : SB X W body pb) (hs : ∀ x, foldedSetIterable it X.env x = pure x := by intro _; rfl) : SS X W (.For tg it body [] pos) (pFor pi pg pb) :=
  ⟨PS.imp (ps_for hp hc hi.pi hg.pg hb.ps hs) fun D σ H h => by
  obtain ⟨g, F, sl, S, P, rel, hp, lk⟩ := h
  refine ⟨g, F, sl, S, _, _, rel, hp, fun ds S1 J H1 F1 s1 rel1 io h1 => ?_, lk.exc sl σ⟩
  refine ⟨fun i m σ' H' => m = ds.length - i ∧ i ≤ ds.length ∧ ∃ F' sl' S', Same F1 F' ∧ Rel X.K g F' sl' S' σ' H' ∧ forRun pg pb P (ds.drop i) sl' S', ⟨ds.length, by simp, Nat.zero_le _, F1, sl, S1, Same.refl _, rel1, h1⟩, ?_⟩
  rintro i m σ' H' ⟨rfl, hi, F', sl', S', s2, rel2, h2⟩
  by_cases hlt : i < ds.length
  · have e1 : ds.drop i = ds[i] :: ds.drop (i + 1) := List.drop_eq_getElem_cons hlt
    rw [e1] at h2
    refine .inr ⟨(io.mono s2).go H' i rel2.cor.fh hlt, fun σ3 H3 => ∃ F3 sl3 S3, Same F1 F3 ∧ Rel X.K g F3 sl3 S3 σ3 H3 ∧ forRun pg pb P (ds.drop (i + 1)) sl3 S3, fun σ3 H3 ⟨F3, sl3, S3, s3, rel3, h3⟩ => ⟨ds.length - (i + 1), by omega, rfl, hlt, F3, sl3, S3, s3, rel3, h3⟩, fun x H3 y => ?_⟩
    obtain ⟨Fy, sy, rely, hy⟩ := ((io.mono s2).yld H' i x H3 rel2.cor.fh y _ (List.getElem?_eq_getElem hlt)).use rel2
    refine ⟨g, Fy, sl', S', .dat ds[i], _, rely, hy, trivial, h2, fun sl4 S4 σ4 H4 F4 s4 rel4 h4 => ?_⟩
    have s4 := sy.f.trans s4
    refine ⟨g, F4, sl4, S4, _, rel4, h4, ⟨fun sl5 S5 σ5 H5 F5 s5 rel5 h5 => ⟨F5, sl5, S5, (s2.trans s4).trans s5, rel5, h5⟩, fun r S5 v H5 F5 s5 => lk.rt r S5 v H5 F5 (((s1.f.trans s2).trans s4).trans s5), fun sl5 S5 σ5 H5 F5 s5 => lk.nx sl5 S5 σ5 H5 F5 (((s1.f.trans s2).trans s4).trans s5), fun sl5 S5 σ5 H5 F5 s5 rel5 h5 => ⟨F5, sl5, S5, (s2.trans s4).trans s5, rel5, h5⟩, fun x sl5 S5 d σ5 H5 F5 s5 => lk.ex x sl5 S5 d σ5 H5 F5 (((s1.f.trans s2).trans s4).trans s5)⟩⟩
  · have e0 : i = ds.length := by omega
    subst e0
    rw [List.drop_length] at h2
    exact .inl ⟨(io.mono s2).stop H' _ rel2.cor.fh (Nat.le_refl _), lk.nx sl' S' σ' H' F' (s1.f.trans s2) rel2 h2⟩⟩
theorem ss_while (hp : PassesOwn (model X.prog X.w) X.A X.env X.xe) (hc : ST X W c pc) (hb : SB X W body pb) : SS X W (.While c body [] pos) (pWhile pc pb) :=
  ⟨PS.imp (ps_while hp hc.pt hb.ps) fun D σ H h => by
  obtain ⟨g, F, sl, S, P, rel, ⟨Iv, ⟨m0, i0⟩, hv⟩, lk⟩ := h
  refine ⟨fun m σ' H' => ∃ F' sl' S', Same F F' ∧ Rel X.K g F' sl' S' σ' H' ∧ Iv m sl' S', ⟨m0, F, sl, S, Same.refl _, rel, i0⟩, ?_⟩
  rintro m σ' H' ⟨F', sl', S', s1, rel1, i1⟩
  refine ⟨g, F', sl', S', _, _, rel1, hv m sl' S' i1, fun b S2 H2 F2 s2 rel2 h2 => ?_, (lk.mono s1).exc sl' σ'⟩
  have s02 := s1.trans s2.f
  cases b with
  | false => exact lk.nx sl' S2 σ' H2 F2 s02 rel2 h2
  | true =>
    refine ⟨fun σ3 H3 => ∃ F3 sl3 S3 m3, Same F F3 ∧ Rel X.K g F3 sl3 S3 σ3 H3 ∧ m3 < m ∧ Iv m3 sl3 S3, fun σ3 H3 ⟨F3, sl3, S3, m3, s3, rel3, lt, i3⟩ => ⟨m3, lt, F3, sl3, S3, s3, rel3, i3⟩, ?_⟩
    exact ⟨g, F2, sl', S2, _, rel2, h2, ⟨fun sl5 S5 σ5 H5 F5 s5 rel5 ⟨m5, lt, i5⟩ => ⟨F5, sl5, S5, m5, s02.trans s5, rel5, lt, i5⟩, fun r S5 v H5 F5 s5 => lk.rt r S5 v H5 F5 (s02.trans s5), fun sl5 S5 σ5 H5 F5 s5 => lk.nx sl5 S5 σ5 H5 F5 (s02.trans s5), fun sl5 S5 σ5 H5 F5 s5 rel5 ⟨m5, lt, i5⟩ => ⟨F5, sl5, S5, m5, s02.trans s5, rel5, lt, i5⟩, fun x sl5 S5 d σ5 H5 F5 s5 => lk.ex x sl5 S5 d σ5 H5 F5 (s02.trans s5)⟩⟩⟩
end

/-! ### comprehensions: one name, one source, at most one test -/
abbrev W0 : WX := fun _ _ _ _ => False
def lcRun (i : Nat) (pt : PTx) (pe : PEx) : List D → List Slot → List Int → (List D → List Int → Prop) → Prop
  | [], _, S, Q => Q [] S
  | d :: ds, sl, S, Q => pt (sl.set i (.dat d)) S (fun b S1 => if b = true then dat pe (sl.set i (.dat d)) S1 (fun y S2 => lcRun i pt pe ds sl S2 (fun ys S3 => Q (y :: ys) S3)) (fun _ _ => False) else lcRun i pt pe ds sl S1 Q) (fun _ _ => False)
@[simp] def pLc (i : Nat) (pi : PIx) (pt : PTx) (pe : PEx) : PEx := fun sl S Q E => pi sl S (fun ds S1 => ds.length ≤ sizeLine ∧ i < sl.length ∧ lcRun i pt pe ds (sl.set i .un) S1 (fun ys S2 => Q (.own ys) S2)) E
@[simp] def pYes : PTx := fun _ S Q _ => Q true S
structure STs (X : Cx) (W : WX) (e : List Expr) (p : PTx) : Prop where
  pt : PTs X e (rdT X.K W p)
theorem PTs.imp {X : Cx} {e : List Expr} {t t' : TT} (h : PTs X e t) (i : ∀ σ H Q, t' σ H Q → t σ H Q) : PTs X e t' := ⟨fun pins s σ H Q I q => h.run pins s σ H Q I (i _ _ _ q)⟩
theorem sts_nil {X : Cx} {W : WX} : STs X W [] pYes := ⟨PTs.imp pts_nil fun σ H Q h => by
  obtain ⟨g, F, sl, S, Q', E', rel, hp, post, exc⟩ := h
  exact post true S H F Stp.refl rel hp⟩
theorem sts_one {X : Cx} {W : WX} {c : Expr} {p : PTx} (h : ST X W c p) : STs X W [c] p := ⟨pts_one h.pt⟩
theorem Rel.wipe1 {K : PySem.W.Frag} {g : G} {F H : Hp} {sl : List Slot} {S : List Int} {σ : L2.St} (r : Rel K g F sl S σ H) (i : Nat) : Rel K g F (sl.set i .un) S (σ.set i none) H := by
  refine ⟨r.cor, by simpa using r.len, fun j s hj => ?_, fun j k dj dk p hjk h4 h5 h6 h7 => ?_⟩
  · by_cases hij : i = j
    · subst hij
      by_cases hl : i < sl.length
      · rw [List.getElem?_set_self hl] at hj
        cases hj
        trivial
      · rw [List.getElem?_eq_none (by simpa using hl)] at hj
        cases hj
    · rw [List.getElem?_set_ne hij] at hj
      rw [List.getElem?_set_ne hij]
      exact r.ok j s hj
  · have base : ∀ (m : Nat) (dm : List D), (sl.set i Slot.un)[m]? = some (Slot.own dm) → i ≠ m ∧ sl[m]? = some (Slot.own dm) := fun m dm hm => by
      by_cases z : i = m
      · subst z
        by_cases hl : i < sl.length
        · rw [List.getElem?_set_self hl] at hm; cases hm
        · rw [List.getElem?_eq_none (by simpa using hl)] at hm; cases hm
      · rw [List.getElem?_set_ne z] at hm; exact ⟨z, hm⟩
    obtain ⟨n1, z1⟩ := base j dj h4
    obtain ⟨n2, z2⟩ := base k dk h5
    rw [List.getElem?_set_ne n1] at h6
    rw [List.getElem?_set_ne n2] at h7
    exact r.sep j k dj dk p hjk z1 z2 h6 h7
/-- a step, but for what stands at L -/
theorem Stp.comp {g : G} {F1 H1 F' H' F5 H5 : Hp} {L : Addr} (st : Stp g F1 H1 F' (fun b => if b = L then none else H' b)) (s5 : Stp g F' H' F5 H5) (hL : H1 L = none) : Stp g F1 H1 F5 (fun b => if b = L then none else H5 b) := by
  refine ⟨st.f.trans s5.f, fun a o e q => ?_, fun a o e => ?_, fun a e => ?_⟩
  · have hne : a ≠ L := fun z => by rw [z, hL] at e; cases e
    have h7 := st.k a o e q
    simp only [if_neg hne] at h7 ⊢
    exact s5.k a o h7 q
  · rcases s5.n a o e with z | z | z
    · exact st.n a o z
    · by_cases hne : a = L
      · rw [hne]; exact .inr (.inl hL)
      · exact .inr (.inl (st.d a (by simp only [if_neg hne]; exact z)))
    · exact .inr (.inr z)
  · by_cases hne : a = L
    · rw [hne]; exact hL
    · simp only [if_neg hne] at e
      exact st.d a (by simp only [if_neg hne]; exact s5.d a e)
/-- the reading of a comprehension -/
theorem rd_lc {K : PySem.W.Frag} {W : WX} {i : Nat} {pi : PIx} {pt : PTx} {pe : PEx} (σ : L2.St) (H : Hp) (Q : VK) (h : rdE K W (pLc i pi pt pe) σ H Q) : tLc (rdI K W pi) (gName i) (rdT K W0 pt) (rdE K W0 pe) [i] σ H Q := by
  obtain ⟨g, F, sl, S, Q', E', rel, hp, post, exc⟩ := h
  refine ⟨g, F, sl, S, _, E', rel, hp, fun ds S1 J H1 F1 s1 rel1 io ⟨hz, hi, h1⟩ => ?_, exc⟩
  intro L hL
  -- what stands at turn j: acc so far at L
  let Pv : Nat → Hp → Prop := fun j H' => ∃ F' S' acc accd, Stp g F1 H1 F' (fun b => if b = L then none else H' b) ∧ Rel K g F' (sl.set i .un) S' (σ.set i none) H' ∧ H' L = some (.lst acc) ∧ F' L = none ∧ RpL K F' acc accd ∧ acc.length ≤ j ∧
    lcRun i pt pe (ds.drop j) (sl.set i .un) S' (fun ys S2 => Q' (.own (accd ++ ys)) S2)
  have hid : ∀ {p : Addr} {o : HO} {Hx : Hp}, Hx p = none → (fun b => if b = p then none else (upd Hx p o) b) = Hx := fun {p o Hx} e => by
    funext b
    by_cases z : b = p
    · rw [if_pos z, z, e]
    · rw [if_neg z, upd_ne z]
  refine ⟨fun j m H' => m = ds.length - j ∧ j ≤ ds.length ∧ Pv j H', ⟨ds.length, by simp, Nat.zero_le _, F1, S1, [], [], ?_, (rel1.wipe1 i).alloc hL, upd_same, rel1.cor.free hL, .nil, Nat.zero_le _, h1⟩, ?_⟩
  · rw [hid hL]; exact Stp.refl
  rintro j m H' ⟨rfl, hj, F', S', acc, accd, st, rel2, hLa, hLf, ra, hal, h2⟩
  have sF : Same F1 F' := st.f
  by_cases hlt : j < ds.length
  · have e1 : ds.drop j = ds[j] :: ds.drop (j + 1) := List.drop_eq_getElem_cons hlt
    rw [e1] at h2
    refine .inr ⟨(io.mono sF).go H' j rel2.cor.fh hlt, Pv (j + 1), fun H3 p3 => ⟨ds.length - (j + 1), by omega, rfl, hlt, p3⟩, fun x H3 y => ?_⟩
    obtain ⟨Fy, sy, rely, rx⟩ := ((io.mono sF).yld H' j x H3 rel2.cor.fh y _ (List.getElem?_eq_getElem hlt)).use rel2
    have ndL : g.dr ≠ some L := fun z => (rel2.cor.st L z).2.2 (rel1.cor.new hL)
    have hLf := sy.free rely.cor.fh hLf hLa ndL
    have hLa : H3 L = some (.lst acc) := sy.k L _ hLa ndL
    have st := st.comp sy hL
    have sF : Same F1 Fy := st.f
    have ra := ra.mono sy.f
    have rel2 := rely
    -- the name is stored
    have hls : i < (sl.set i Slot.un).length := by simpa using hi
    have rel3 : Rel K g Fy ((sl.set i .un).set i (.dat ds[j])) S' ((σ.set i none).set i (some x)) H3 := rel2.store (x := .dat ds[j]) rx trivial hls
    have esl : ∀ z : Slot, (sl.set i Slot.un).set i z = sl.set i z := fun z => List.set_set ..
    have esg : ∀ z : Option V, (σ.set i none).set i z = σ.set i z := fun z => List.set_set ..
    have rel4 := rel3
    show _ ∧ _
    refine ⟨?_, ?_⟩
    · show ((σ.set i none).set i (some x)).set i none = σ.set i none
      rw [esg, List.set_set]
    · refine ⟨g, Fy, _, S', _, _, rel3, h2, fun b S4 H4 F4 s4 rel4 h4 => ?_, noExc⟩
      have hL4 : H4 L = some (.lst acc) := s4.k L _ hLa fun z => by
        have := (rel2.cor.st L z).2.2
        exact this (by
          have hn : H1 L = none := hL
          exact rel1.cor.new hn)
      have hF4 : F4 L = none := by
        exact s4.free rel4.cor.fh hLf hLa ndL
      have comp : ∀ {F5 H5 : Hp}, Stp g Fy H3 F5 H5 → Stp g F1 H1 F5 (fun b => if b = L then none else H5 b) := fun {F5 H5} s5 => st.comp s5 hL
      have back : ∀ {F5 H5 : Hp} {S5 : List Int}, Rel K g F5 ((sl.set i .un).set i (.dat ds[j])) S5 ((σ.set i none).set i (some x)) H5 → Rel K g F5 (sl.set i .un) S5 (σ.set i none) H5 := fun {F5 H5 S5} r5 => by
        have := r5.wipe1 i
        rw [List.set_set, List.set_set] at this
        rw [List.set_set, List.set_set] at this
        exact this
      cases b with
      | false =>
        show Pv (j + 1) H4
        exact ⟨F4, S4, acc, accd, comp s4, back rel4, hL4, hF4, ra.mono s4.f, by omega, h4⟩
      | true =>
        show rdE K W0 pe _ H4 _
        refine rdE_dat rel4 h4 noExc fun y S5 v H5 F5 s5 rel5 ry h5 => ?_
        have s45 := s4.trans s5
        have ndr : g.dr ≠ some L := fun z => (rel2.cor.st L z).2.2 (rel1.cor.new hL)
        have hL5 : H5 L = some (.lst acc) := s5.k L _ hL4 ndr
        have hF5 : F5 L = none := by
          exact s5.free rel5.cor.fh hF4 hL4 ndL
        refine ⟨acc, hL5, by omega, F5, S5, acc ++ [v], accd ++ [y], ?_, ?_, upd_same, hF5, ((ra.mono s45.f).append (.cons ry .nil)), by simp; omega, ?_⟩
        · have c5 := comp s45
          have : (fun b => if b = L then none else upd H5 L (HO.lst (acc ++ [v])) b) = (fun b => if b = L then none else H5 b) := by
            funext b
            by_cases z : b = L
            · rw [if_pos z, if_pos z]
            · rw [if_neg z, if_neg z, upd_ne z]
          rw [this]; exact c5
        · have r6 := back rel5
          refine ⟨r6.cor.write hF5 (rel1.cor.new hL), r6.len, fun k s hk => (r6.ok k s hk).mono (Same.refl _) (fun d' p' e1 e2 => ?_) fun q u g1 g2 _ g4 => ⟨by
            rw [upd_ne fun z => by
              rw [z, hL5] at g1
              cases g1
              cases g4]
            exact g1, g2⟩, r6.sep⟩
          subst e1
          obtain ⟨p7, vs7, e7, h7, h8, h9, _⟩ := rel1.wipe1 i |>.ok k _ hk
          rw [e2] at e7
          cases e7
          obtain ⟨p8, vs8, e8, k7, k8, _⟩ := r6.ok k _ hk
          rw [e2] at e8
          cases e8
          exact ⟨upd_ne (fun z => by (rw [z, hL] at h7; cases h7)), k8⟩
        · show lcRun i pt pe (ds.drop (j + 1)) (sl.set i .un) S5 (fun ys S2 => Q' (.own ((accd ++ [y]) ++ ys)) S2)
          have e9 : (fun (ys : List D) (S2 : List Int) => Q' (.own ((accd ++ [y]) ++ ys)) S2) = fun ys S2 => Q' (.own (accd ++ (y :: ys))) S2 := by
            funext ys S2
            rw [List.append_assoc]
            rfl
          rw [e9]
          exact h5
  · have e0 : j = ds.length := by omega
    subst e0
    rw [List.drop_length] at h2
    refine .inl ⟨(io.mono sF).stop H' _ rel2.cor.fh (Nat.le_refl _), ?_⟩
    have h3 : Q' (.own (accd ++ [])) S' := h2
    rw [List.append_nil] at h3
    -- back at the slots as they were
    have relE : Rel K g F' sl S' σ H' := by
      refine ⟨rel2.cor, rel1.len, fun k s hk => ?_, rel1.sep⟩
      refine (rel1.ok k s hk).mono sF (fun d' p' e1 e2 => ?_) fun q u g1 g2 g3 g4 => by
        have hne : q ≠ L := fun z => by rw [z, hL] at g1; cases g1
        have ndr : g.dr ≠ some q := fun z => (rel1.cor.st q z).2.2 g3
        have h10 := st.k q _ g1 ndr
        simp only [if_neg hne] at h10
        refine ⟨h10, ?_⟩
        cases e : F' q with
        | none => rfl
        | some o =>
          rcases st.n q o e with z | z | ⟨vs, z⟩
          · rw [g2] at z; cases z
          · rw [g1] at z; cases z
          · have k := rel2.cor.fh q _ e
            rw [h10, z] at k
            exact absurd (Option.some.inj k) (isObj_tup g4 vs)
      subst e1
      obtain ⟨p7, vs7, e7, h7, h8, h9, _⟩ := rel1.ok k _ hk
      rw [e2] at e7
      cases e7
      have hne : p' ≠ L := fun z => by rw [z, hL] at h7; cases h7
      have ndr : g.dr ≠ some p' := fun z => (rel1.cor.st p' z).2.2 h9
      have h10 := st.k p' _ h7 ndr
      simp only [if_neg hne] at h10
      refine ⟨by rw [h7, h10], ?_⟩
      cases e : F' p' with
      | none => rfl
      | some o =>
        rcases st.n p' o e with z | z | ⟨vs, z⟩
        · rw [h8] at z; cases z
        · rw [h7] at z; cases z
        · have k := rel2.cor.fh p' _ e
          rw [h10, z] at k
          cases k
    have stF : Stp g F H F' H' := s1.trans ⟨sF, fun a o e q => by
        have hne : a ≠ L := fun z => by rw [z, hL] at e; cases e
        have := st.k a o e q
        simp only [if_neg hne] at this
        exact this, st.n, fun a e => by
        by_cases hne : a = L
        · rw [hne]; exact hL
        · exact st.d a (by simp only [if_neg hne]; exact e)⟩
    exact post (.own accd) S' (.ref L) H' F' stF relE ⟨L, acc, rfl, hLa, hLf, rel1.cor.new hL, ra⟩ (nw_new (s1.d L hL)) h3
section
variable {X : Cx} {W : WX} {elt it : Expr} {ifs : List Expr} {scope : Scope} {x : Str} {i : Nat} {px pos : Pos} {pi : PIx} {pt : PTx} {pe : PEx}
theorem se_lc (i : Nat) (hc : X.calm = true) (hN : X.N.Nodup) (hi : SI X W (.Name x px) it pi) (ok : BlkOk X.N X.env.scope scope [(x, i)])
    (hg : ∀ (s : Shared) (H : Hp) (C : Addr) (cl : List (Str × Addr)) (fp : List Addr), PG (X.blk s H scope (compEnvC scope cl C X.env) fp) (.Name x px) (gName i))
    (ht : ∀ (s : Shared) (H : Hp) (C : Addr) (cl : List (Str × Addr)) (fp : List Addr), STs (X.blk s H scope (compEnvC scope cl C X.env) fp) W0 ifs pt)
    (he : ∀ (s : Shared) (H : Hp) (C : Addr) (cl : List (Str × Addr)) (fp : List Addr), SE (X.blk s H scope (compEnvC scope cl C X.env) fp) W0 elt pe) (hs : ∀ x, foldedSetIterable it X.env x = pure x := by intro _; rfl) :
    SE X W (.ListComp elt [⟨.Name x px, it, ifs, 0⟩] scope pos) (pLc i pi pt pe) :=
  ⟨PE.imp (pe_lc (own := [(x, i)]) hc hN hi.pi ok hg (fun a b c d e => (ht a b c d e).pt) (fun a b c d e => (he a b c d e).pe) hs) rd_lc⟩
/-- name = [..] on one line -/
theorem ss_lc (i : Nat) {j : Nat} {y : Str} {py spos : Pos} (hc : X.calm = true) (hN : X.N.Nodup) (hy : X.N[j]? = some y) (hyl : X.env.scope.names.lookup y = some .local)
    (hsw : swapsWith (.ListComp elt [⟨.Name x px, it, ifs, 0⟩] scope pos) (some (.Name y py)) spos.line X.env = pure true) (hi : SI X W (.Name x px) it pi) (ok : BlkOk X.N X.env.scope scope [(x, i)])
    (hg : ∀ (s : Shared) (H : Hp) (C : Addr) (cl : List (Str × Addr)) (fp : List Addr), PG (X.blk s H scope (compEnvC scope cl C X.env) fp) (.Name x px) (gName i))
    (ht : ∀ (s : Shared) (H : Hp) (C : Addr) (cl : List (Str × Addr)) (fp : List Addr), STs (X.blk s H scope (compEnvC scope cl C X.env) fp) W0 ifs pt)
    (he : ∀ (s : Shared) (H : Hp) (C : Addr) (cl : List (Str × Addr)) (fp : List Addr), SE (X.blk s H scope (compEnvC scope cl C X.env) fp) W0 elt pe) (hs : ∀ x, foldedSetIterable it X.env x = pure x := by intro _; rfl) :
    SS X W (.Assign [.Name y py] (.ListComp elt [⟨.Name x px, it, ifs, 0⟩] scope pos) spos) (pAsg (pLc i pi pt pe) (pgName j)) :=
  ⟨PS.imp (ps_setLc (own := [(x, i)]) hc hN hy hyl hsw hi.pi ok hg (fun a b c d e => (ht a b c d e).pt) (fun a b c d e => (he a b c d e).pe) hs) fun D σ H h => by
    obtain ⟨g, F, sl, S, P, rel, hp, lk⟩ := h
    refine rd_lc (W := W) (i := i) (pi := pi) (pt := pt) (pe := pe) σ H _ ⟨g, F, sl, S, _, _, rel, hp, fun r S1 v H1 F1 s1 rel1 rr nw ⟨hl, h1⟩ => ?_, lk.exc sl σ⟩
    exact lk.nx _ S1 _ H1 F1 s1.f (rel1.store rr (rel.ap nw) hl) h1⟩
end
end Py
end
section
set_option Elab.async false
set_option linter.all false
set_option maxRecDepth 100000
set_option maxHeartbeats 4000000
/-! Methods of lists, isinstance, in, all, any, sorted; calls of defs; defs. -/
namespace Py
open PySem L2

/-! ### methods -/
/-- x.append(e), x an own list -/
@[simp] def pApp (i : Nat) (p : PEx) : PSm := fun P sl S => match sl[i]? with
  | some (.own ds) => dat p sl S (fun d S1 => ds.length < sizeLine ∧ P.nx (sl.set i (.own (ds ++ [d]))) S1) (fun x S1 => P.ex x sl S1)
  | _ => False
/-- x.pop() as a statement, x an own list -/
def pPopS (i : Nat) : PSm := fun P sl S => match sl[i]? with
  | some (.own ds) => ds ≠ [] ∧ P.nx (sl.set i (.own ds.dropLast)) S
  | _ => False
def pRev (i : Nat) : PSm := fun P sl S => match sl[i]? with
  | some (.own ds) => P.nx (sl.set i (.own ds.reverse)) S
  | _ => False
/-- x.pop() of the draws -/
def pPopD (i : Nat) : PEx := fun sl S Q _ => match sl[i]? with
  | some .drw => match S.getLast? with
    | some n => Q (.dat (.int n)) S.dropLast
    | none => False
  | _ => False
/-- len of the draws -/
@[simp] def pLenD (i : Nat) : PEx := fun sl S Q _ => match sl[i]? with
  | some .drw => Q (.dat (.int S.length)) S
  | _ => False
section
variable {X : Cx} {W : WX} {e : Expr} {p : PEx} {pos cpos apos : Pos} {x : Str} {px : Pos}
theorem ss_append (i : Nat) (he : SE X W e p) (hN : X.N[i]? = some x := by rfl) (hv : Vis X.env.scope x := by first | exact Or.inl rfl | exact Or.inr (Or.inl rfl) | exact Or.inr (Or.inr rfl)) (hd : (x == ("__debug__" : Str)) = false := by decide)
    (hcd : (x == ("__classdict__" : Str)) = false := by decide)
    (hbase : attributeBase (.Name x px) "append" X.env (eval (.Name x px) X.env) = eval (.Name x px) X.env := by rfl)
    (hfew : ((backTo cpos (starEach (e :: []) X.env)).all (fun x => !x.1) && (backToKw cpos (keywordEach [] X.env)).all (fun x => x.1.isSome)
      && decide ((e :: []).length + ([] : List Keyword).length + (if ([] : List Keyword).isEmpty then 0 else 1) < 30)) = true := by rfl)
    (hline : (apos.endLine == cpos.line) = true := by rfl) (hs : starEach (e :: []) X.env = (false, eval e X.env) :: starEach [] X.env := by rfl) (hplain : (backTo cpos (starEach [] X.env)).any (·.1) = false := by rfl)
    (hsw : swapsWith (.Call (.Attribute (.Name x px) "append" apos) [e] [] cpos) none pos.line X.env = pure false := by rfl) :
    SS X W (.Expr (.Call (.Attribute (.Name x px) "append" apos) [e] [] cpos) pos) (pApp i p) :=
  ⟨PS.imp (ps_expr (pe_bm PySem.F.plainAttrs_list PySem.F.slot_list_append PySem.F.type_list_append mt_append (pe_var hN hv hd hcd) (pa_cons he.pe pa_nil hs) hbase hfew hline hs hplain) hsw) fun D σ H h => by
    obtain ⟨g, F, sl, S, P, rel, hp, lk⟩ := h
    unfold pApp at hp
    split at hp
    · rename_i ds e2
      obtain ⟨a, vs, h1, h2, h3, h4, rl⟩ := rel.own e2
      refine ⟨_, h1, .inl ⟨rfl, _, SqL.of h2⟩, ?_⟩
      refine rdE_dat rel hp (lk.exc sl σ) fun d S1 v H1 F1 s1 rel1 r1 ⟨hz, hk⟩ => ?_
      obtain ⟨a', vs', h1', h2', _, _, rl'⟩ := rel1.own e2
      rw [h1] at h1'
      cases h1'
      refine ⟨a, vs', v, rfl, rfl, h2', by rw [rl'.length]; exact hz, ?_⟩
      exact lk.nx _ S1 σ _ F1 s1.f (rel1.write e2 h1 (rl'.append (.cons r1 .nil))) hk
    · exact hp.elim⟩
theorem ss_pop (i : Nat) (hN : X.N[i]? = some x := by rfl) (hv : Vis X.env.scope x := by first | exact Or.inl rfl | exact Or.inr (Or.inl rfl) | exact Or.inr (Or.inr rfl)) (hd : (x == ("__debug__" : Str)) = false := by decide)
    (hcd : (x == ("__classdict__" : Str)) = false := by decide)
    (hbase : attributeBase (.Name x px) "pop" X.env (eval (.Name x px) X.env) = eval (.Name x px) X.env := by rfl) (hline : (apos.endLine == cpos.line) = true := by rfl)
    (hsw : swapsWith (.Call (.Attribute (.Name x px) "pop" apos) [] [] cpos) none pos.line X.env = pure false := by rfl) :
    SS X W (.Expr (.Call (.Attribute (.Name x px) "pop" apos) [] [] cpos) pos) (pPopS i) :=
  ⟨PS.imp (ps_expr (pe_bm0 PySem.F.plainAttrs_list PySem.F.slot_list_pop PySem.F.type_list_pop mt_pop (pe_var hN hv hd hcd) hbase hline) hsw) fun D σ H h => by
    obtain ⟨g, F, sl, S, P, rel, hp, lk⟩ := h
    unfold pPopS at hp
    split at hp
    · rename_i ds e2
      obtain ⟨a, vs, h1, h2, h3, h4, rl⟩ := rel.own e2
      obtain ⟨hne, hk⟩ := hp
      have hl : vs.length - 1 < vs.length := by
        have : vs.length = ds.length := rl.length
        have : ds.length ≠ 0 := fun z => hne (List.eq_nil_of_length_eq_zero z)
        omega
      refine ⟨_, h1, .inl ⟨rfl, _, SqL.of h2⟩, a, vs, vs[vs.length - 1], rfl, rfl, h2, List.getElem?_eq_getElem hl, ?_⟩
      exact lk.nx _ S σ _ F (Same.refl _) (rel.write e2 h1 rl.dropLast) hk
    · exact hp.elim⟩
theorem ss_reverse (i : Nat) (hN : X.N[i]? = some x := by rfl) (hv : Vis X.env.scope x := by first | exact Or.inl rfl | exact Or.inr (Or.inl rfl) | exact Or.inr (Or.inr rfl)) (hd : (x == ("__debug__" : Str)) = false := by decide)
    (hcd : (x == ("__classdict__" : Str)) = false := by decide)
    (hbase : attributeBase (.Name x px) "reverse" X.env (eval (.Name x px) X.env) = eval (.Name x px) X.env := by rfl) (hline : (apos.endLine == cpos.line) = true := by rfl)
    (hsw : swapsWith (.Call (.Attribute (.Name x px) "reverse" apos) [] [] cpos) none pos.line X.env = pure false := by rfl) :
    SS X W (.Expr (.Call (.Attribute (.Name x px) "reverse" apos) [] [] cpos) pos) (pRev i) :=
  ⟨PS.imp (ps_expr (pe_bm0 PySem.F.plainAttrs_list PySem.F.slot_list_reverse PySem.F.type_list_reverse mt_reverse (pe_var hN hv hd hcd) hbase hline) hsw) fun D σ H h => by
    obtain ⟨g, F, sl, S, P, rel, hp, lk⟩ := h
    unfold pRev at hp
    split at hp
    · rename_i ds e2
      obtain ⟨a, vs, h1, h2, h3, h4, rl⟩ := rel.own e2
      refine ⟨_, h1, .inl ⟨rfl, _, SqL.of h2⟩, a, vs, rfl, rfl, h2, ?_⟩
      exact lk.nx _ S σ _ F (Same.refl _) (rel.write e2 h1 rl.reverse) hp
    · exact hp.elim⟩
theorem Stp.draw {K : PySem.W.Frag} {g : G} {F H : Hp} {sl : List Slot} {S : List Int} {σ : L2.St} (rel : Rel K g F sl S σ H) {a : Addr} (h : g.dr = some a) (o : HO) : Stp g F H F (upd H a o) := by
  refine ⟨Same.refl _, fun b u e q => ?_, fun _ _ e => .inl e, fun b e => ?_⟩
  · rw [upd_ne (fun z => q (by rw [z]; exact h))]; exact e
  · by_cases z : b = a
    · subst z; rw [upd_same] at e; cases e
    · rw [upd_ne z] at e; exact e
theorem se_popD (i : Nat) (hN : X.N[i]? = some x := by rfl) (hv : Vis X.env.scope x := by first | exact Or.inl rfl | exact Or.inr (Or.inl rfl) | exact Or.inr (Or.inr rfl)) (hd : (x == ("__debug__" : Str)) = false := by decide)
    (hcd : (x == ("__classdict__" : Str)) = false := by decide)
    (hbase : attributeBase (.Name x px) "pop" X.env (eval (.Name x px) X.env) = eval (.Name x px) X.env := by rfl) (hline : (apos.endLine == cpos.line) = true := by rfl) :
    SE X W (.Call (.Attribute (.Name x px) "pop" apos) [] [] cpos) (pPopD i) :=
  ⟨PE.imp (pe_bm0 PySem.F.plainAttrs_list PySem.F.slot_list_pop PySem.F.type_list_pop mt_pop (pe_var hN hv hd hcd) hbase hline) fun σ H Q h => by
    obtain ⟨g, F, sl, S, Q', E', rel, hp, post, exc⟩ := h
    unfold pPopD at hp
    split at hp
    · rename_i e2
      split at hp
      · rename_i n e3
        obtain ⟨a, h1, h2⟩ := rel.drw e2
        obtain ⟨h3, h4, h5⟩ := rel.cor.st a h2
        refine ⟨_, h1, .inl ⟨rfl, _, SqL.of h3⟩, a, _, .int n, rfl, rfl, h3, ?_, ?_⟩
        · rw [List.length_map, List.getElem?_map, ← List.getLast?_eq_getElem?, e3]
          rfl
        · have e4 : (S.map V.int).dropLast = S.dropLast.map V.int := List.map_dropLast.symm
          rw [e4]
          exact post (.dat (.int n)) S.dropLast _ _ F (Stp.draw rel h2 _) (rel.draw h2 _) (.int n) trivial hp
      · exact hp.elim
    · exact hp.elim⟩
theorem se_lenD (i : Nat) (hm : X.mg "len" = none) {xp : Pos} (hN : X.N[i]? = some x := by rfl) (hv : Vis X.env.scope x := by first | exact Or.inl rfl | exact Or.inr (Or.inl rfl) | exact Or.inr (Or.inr rfl)) (hd : (x == ("__debug__" : Str)) = false := by decide)
    (hcd : (x == ("__classdict__" : Str)) = false := by decide) (hg : Gl X "len" := by rfl)
    (he : starEach ((.Name x px) :: []) X.env = (false, eval (.Name x px) X.env) :: starEach [] X.env := by rfl) : SE X W (.Call (.Name "len" xp) [.Name x px] [] pos) (pLenD i) :=
  ⟨PE.imp (pe_callB call_len_seq hg hm PySem.boot_len (pa_cons (pe_var hN hv hd hcd) pa_nil he) (he := he)) fun σ H Q h => by
    obtain ⟨g, F, sl, S, Q', E', rel, hp, post, exc⟩ := h
    unfold pLenD at hp
    split at hp
    · rename_i e2
      obtain ⟨a, h1, h2⟩ := rel.drw e2
      obtain ⟨h3, h4, h5⟩ := rel.cor.st a h2
      refine ⟨_, h1, a, _, rfl, .inl (SqL.of h3), post (.dat (.int S.length)) S _ H F Stp.refl rel (by show Rp _ _ _ _; rw [List.length_map]; exact .int _) trivial hp⟩
    · exact hp.elim⟩
/-- a, b = e, f of two plain local names -/
@[simp] def pPar (i j : Nat) (p : PAx) : PSm := fun P sl S => p sl S (fun rs S1 => match rs with
  | [r1, r2] => i < sl.length ∧ j < sl.length ∧ P.nx ((sl.set i r1.slot).set j r2.slot) S1
  | _ => False) (fun x S1 => P.ex x sl S1)
theorem ra_rr {K : PySem.W.Frag} {g : G} {F H : Hp} {r : Res} {v : V} (h : RA K g F r v) : RR K g F H r v ∧ ∀ sl σ, Ap sl σ r v := by
  cases r with
  | dat d => exact ⟨h, fun _ _ => trivial⟩
  | own ds => exact h.elim
  | drw => exact ⟨h, fun _ _ => trivial⟩
theorem ss_par (i j : Nat) {x y : Str} {a b : Expr} {pa : PAx} {px py pt : Pos} {kt k2 pt2} (hc : X.calm = true) (hN : X.N.Nodup) (ha : SA X W [a, b] pa) (hi : X.N[i]? = some x := by rfl) (hj : X.N[j]? = some y := by rfl) (hij : i ≠ j := by decide)
    (hx : X.env.scope.names.lookup x = some .local := by rfl) (hy : X.env.scope.names.lookup y = some .local := by rfl)
    (hw : swappedStores [.Tuple [.Name x px, .Name y py] kt pt] (.Tuple [a, b] k2 pt2) X.env = pure (some [x, y]) := by rfl) (hs : swapsWithSole [.Tuple [.Name x px, .Name y py] kt pt] (.Tuple [a, b] k2 pt2) pos.line X.env = pure false := by rfl) :
    SS X W (.Assign [.Tuple [.Name x px, .Name y py] kt pt] (.Tuple [a, b] k2 pt2) pos) (pPar i j pa) :=
  ⟨PS.imp (ps_par hc hN hi hj hij hx hy ha.pa hw hs) fun D σ H h => by
    obtain ⟨g, F, sl, S, P, rel, hp, lk⟩ := h
    refine ⟨g, F, sl, S, _, _, rel, hp, fun rs S1 vs H1 F1 s1 rel1 ras h1 => ?_, lk.exc sl σ⟩
    split at h1
    · cases ras with
      | cons r1 r2 =>
        cases r2 with
        | cons r3 r4 =>
          cases r4
          obtain ⟨hl, hl2, h1⟩ := h1
          obtain ⟨q1, a1⟩ := ra_rr (H := H1) r1
          obtain ⟨q2, a2⟩ := ra_rr (H := H1) r3
          exact ⟨_, _, rfl, lk.nx _ S1 _ H1 F1 s1.f ((rel1.store q1 (a1 _ _) hl).store q2 (a2 _ _) (by simpa using hl2)) h1⟩
    · exact h1.elim⟩
/-! is True, is not True -/
@[simp] def fIsB : PF2 := fun a b Q => match a, b with
  | .bl i, .bl j => Q (.dat (.bl (decide (i = j))))
  | _, _ => False
@[simp] def fNotB : PF2 := fun a b Q => match a, b with
  | .bl i, .bl j => Q (.dat (.bl (!decide (i = j))))
  | _, _ => False
theorem sem_isB {K : PySem.W.Frag} : OpSem K rIsB fIsB := fun g F sl S σ H v1 v2 d1 d2 Q Qr rel r1 r2 hf post => by
  unfold fIsB at hf
  split at hf
  · cases r1
    cases r2
    exact ⟨_, _, rfl, rfl, post (.dat (.bl _)) _ H F Stp.refl rel (.bl _) trivial hf⟩
  · exact hf.elim
theorem sem_notB {K : PySem.W.Frag} : OpSem K rNotB fNotB := fun g F sl S σ H v1 v2 d1 d2 Q Qr rel r1 r2 hf post => by
  unfold fNotB at hf
  split at hf
  · cases r1
    cases r2
    exact ⟨_, _, rfl, rfl, post (.dat (.bl _)) _ H F Stp.refl rel (.bl _) trivial hf⟩
  · exact hf.elim
theorem st_isB {a b : Expr} {p q : PEx} (ha : SE X W a p) (hb : SE X W b q) : ST X W (.Compare a [.Is] [b] pos) (pTst (pBin fIsB p q)) := st_cmp op_isBl sem_isB ha hb
theorem st_notB {a b : Expr} {p q : PEx} (ha : SE X W a p) (hb : SE X W b q) : ST X W (.Compare a [.IsNot] [b] pos) (pTst (pBin fNotB p q)) := st_cmp op_notBl sem_notB ha hb
/-! bit_length -/
def nBits (i : Int) : Nat := Builtin.Int.intBits i
@[simp] def pBits (p : PEx) : PEx := fun sl S Q E => dat p sl S (fun d S1 => match d with | .int i => Q (.dat (.int (nBits i))) S1 | _ => False) E
theorem se_bits (h : SE X W e p) (hbase : attributeBase e "bit_length" X.env (eval e X.env) = eval e X.env := by rfl) (hline : (apos.endLine == pos.line) = true := by rfl) : SE X W (.Call (.Attribute e "bit_length" apos) [] [] pos) (pBits p) :=
  ⟨PE.imp (pe_bits h.pe hbase hline) fun σ H Q h => by
    obtain ⟨g, F, sl, S, Q', E', rel, hp, post, exc⟩ := h
    refine rdE_dat rel hp exc fun d S1 v H1 F1 s1 rel1 r1 h1 => ?_
    cases r1 with
    | int i => exact ⟨i, rfl, post (.dat (.int _)) S1 _ H1 F1 s1 rel1 (.int _) trivial h1⟩
    | _ => exact h1.elim⟩
end

/-! ### isinstance -/
@[simp] def tyD : D → String
  | .non => "NoneType"
  | .bl _ => "bool"
  | .int _ => "int"
  | .str _ => "str"
  | .lst _ => "list"
  | .frl _ => "list"
  | .tup _ => "tuple"
  | .obj _ _ _ => ""
  | .dct _ _ => ""
/-- is a value of the type T -/
@[simp] def isT (T : String) (d : D) : Bool := tyD d == T || (tyD d == "bool" && T == "int")
def tyOk (T : String) : Bool := ["NoneType", "bool", "int", "str", "list", "tuple"].all fun a => decide (kitB a T = some (a == T || (a == "bool" && T == "int")))
@[simp] def noObj : D → Prop
  | .obj _ _ _ => False
  | .dct _ _ => False
  | _ => True
theorem tyOk_use {K : PySem.W.Frag} {T : String} (h : tyOk T = true) {d : D} (n : noObj d) : PySem.W.kitOne K (.type (tyD d)) (.type T) = some (isT T d) := by
  have := List.all_eq_true.mp h (tyD d) (by cases d <;> first | exact n.elim | simp [tyD])
  exact kit_ty (of_decide_eq_true this)
theorem ty_of {K : PySem.W.Frag} {F H : Hp} {v : V} {d : D} (s : Same F H) (r : Rp K F v d) (n : noObj d) : TyX K H v (.type (tyD d)) := by
  cases r with
  | non => exact .base .non
  | bl b => exact .base (.bl b)
  | int i => exact .base (.int i)
  | str x => exact .base (.str x)
  | lst h _ => exact .base (.lst (s _ _ h))
  | frl h _ =>
    rcases sqL_same s h with (h | ⟨o, h⟩) | ⟨o, its, m, h, hc, _⟩
    · exact .base (.lst h)
    · exact .base (.frz h)
    · exact .kList h hc
  | tup h _ =>
    rcases sqT_same s h with (h | ⟨o, h⟩) | ⟨o, its, m, h, hc, _⟩
    · exact .base (.tup h)
    · exact .fTuple h
    · exact .kTuple h hc
  | obj _ _ _ _ => exact n.elim
  | dct _ _ _ => exact n.elim
@[simp] def pIsi (T : String) (p : PEx) : PEx := fun sl S Q E => dat p sl S (fun d S1 => noObj d ∧ Q (.dat (.bl (isT T d))) S1) E
@[simp] def pIsi2 (T U : String) (p : PEx) : PEx := fun sl S Q E => dat p sl S (fun d S1 => noObj d ∧ Q (.dat (.bl (isT T d || isT U d))) S1) E
section
variable {X : Cx} {W : WX} {e : Expr} {p : PEx} {pos xp tp up kp : Pos} {t u : Str} {T U : String}
theorem se_isi (h : SE X W e p) (hm : X.mg "isinstance" = none) (hmt : X.mg t = none) (hT : tyOk T = true) (hb : bootBuiltins t = some (.type T)) (hg : Gl X "isinstance" := by rfl) (hgt : Gl X t := by rfl) (hn : t ≠ "__name__" := by decide) (hd : (t == ("__debug__" : Str)) = false := by decide)
    (he : starEach (e :: [.Name t tp]) X.env = (false, eval e X.env) :: starEach [.Name t tp] X.env := by rfl) (he2 : starEach ((.Name t tp) :: []) X.env = (false, eval (.Name t tp) X.env) :: starEach [] X.env := by rfl)
    (hpl : (backTo pos (starEach [.Name t tp] X.env)).any (·.1) = false := by rfl) : SE X W (.Call (.Name "isinstance" xp) [e, .Name t tp] [] pos) (pIsi T p) :=
  ⟨PE.imp (pe_callB call_isi hg hm (by decide +kernel) (pa_cons h.pe (pa_cons (pe_bltn (v := .ty T) hgt hmt hb rfl hn hd) pa_nil he2) he) (he := he) (hpl := hpl)) fun σ H Q h => by
    obtain ⟨g, F, sl, S, Q', E', rel, hp, post, exc⟩ := h
    refine rdE_dat rel hp exc fun d S1 v H1 F1 s1 rel1 r1 ⟨hn, h1⟩ => ?_
    exact ⟨v, .ty T, _, _, isT T d, rfl, .ty T, ty_of rel1.cor.fh r1 hn, tyOk_use hT hn, post (.dat (.bl _)) S1 _ H1 F1 s1 rel1 (.bl _) trivial h1⟩⟩
theorem se_isi2 {k : Nat} (h : SE X W e p) (hm : X.mg "isinstance" = none) (hmt : X.mg t = none) (hmu : X.mg u = none) (hT : tyOk T = true) (hU : tyOk U = true) (hb : bootBuiltins t = some (.type T)) (hbu : bootBuiltins u = some (.type U)) (hg : Gl X "isinstance" := by rfl) (hgt : Gl X t := by rfl) (hgu : Gl X u := by rfl)
    (hn : t ≠ "__name__" := by decide) (hd : (t == ("__debug__" : Str)) = false := by decide) (hn2 : u ≠ "__name__" := by decide) (hd2 : (u == ("__debug__" : Str)) = false := by decide)
    (he : starEach (e :: [.Tuple [.Name t tp, .Name u up] k kp]) X.env = (false, eval e X.env) :: starEach [.Tuple [.Name t tp, .Name u up] k kp] X.env := by rfl)
    (he1 : starEach ((.Tuple [.Name t tp, .Name u up] k kp) :: []) X.env = (false, eval (.Tuple [.Name t tp, .Name u up] k kp) X.env) :: starEach [] X.env := by rfl)
    (he2 : starEach ((.Name t tp) :: [.Name u up]) X.env = (false, eval (.Name t tp) X.env) :: starEach [.Name u up] X.env := by rfl) (he3 : starEach ((.Name u up) :: []) X.env = (false, eval (.Name u up) X.env) :: starEach [] X.env := by rfl)
    (hpl : (backTo pos (starEach [.Tuple [.Name t tp, .Name u up] k kp] X.env)).any (·.1) = false := by rfl) : SE X W (.Call (.Name "isinstance" xp) [e, .Tuple [.Name t tp, .Name u up] k kp] [] pos) (pIsi2 T U p) :=
  ⟨PE.imp (pe_callB call_isiT hg hm (by decide +kernel) (pa_cons h.pe (pa_cons (pe_tup (pa_cons (pe_bltn (v := .ty T) hgt hmt hb rfl hn hd) (pa_cons (pe_bltn (v := .ty U) hgu hmu hbu rfl hn2 hd2) pa_nil he3) he2)) pa_nil he1) he) (he := he) (hpl := hpl)) fun σ H Q h => by
    obtain ⟨g, F, sl, S, Q', E', rel, hp, post, exc⟩ := h
    refine rdE_dat rel hp exc fun d S1 v H1 F1 s1 rel1 r1 ⟨hn, h1⟩ => ?_
    refine ⟨by show 2 ≤ sizeLine; decide, fun a ha => ?_⟩
    refine ⟨v, a, [.ty T, .ty U], _, [.type T, .type U], isT T d || isT U d, rfl, upd_same, .cons (.ty T) (.cons (.ty U) .nil), ty_of (fun b o q => Same.upd_new ha b o (rel1.cor.fh b o q)) r1 hn, ?_, post (.dat (.bl _)) S1 _ _ F1 (s1.trans (Stp.alloc ha)) (rel1.alloc ha) (.bl _) trivial h1⟩
    refine kitAny_cons (tyOk_use hT hn) (fun z => ?_) fun z => by rw [z]; rfl
    refine kitAny_cons (tyOk_use hU hn) (fun z2 => ?_) fun z2 => by rw [z2]; simp
    rw [z, z2]
    rfl⟩
end

/-! ### in, not in: an int among ints -/
def intsD : List D → Option (List Int)
  | [] => some []
  | .int i :: r => (intsD r).map (i :: ·)
  | _ :: _ => none
theorem intsD_map : ∀ (ns : List Int), intsD (ns.map D.int) = some ns
  | [] => rfl
  | n :: r => by
    show (intsD (r.map D.int)).map (n :: ·) = _
    rw [intsD_map r]
    rfl
theorem rpl_ints {K : PySem.W.Frag} {F : Hp} : ∀ {vs : List V} {ds : List D} {ns : List Int}, RpL K F vs ds → intsD ds = some ns → vs = ns.map V.int
  | _, _, _, .nil, e => by cases e; rfl
  | v :: vs, d :: ds, ns, .cons h r, e => by
    cases h with
    | int i =>
      simp only [intsD] at e
      cases e2 : intsD ds with
      | none => rw [e2] at e; cases e
      | some ms =>
        rw [e2] at e
        cases e
        rw [rpl_ints r e2]
        rfl
    | _ => cases e
theorem inV_ints (i : Int) (ns : List Int) : inV (.int i) (ns.map V.int) = decide (i ∈ ns) := by
  unfold inV
  rw [List.any_map, Bool.eq_iff_iff, List.any_eq_true]
  constructor
  · rintro ⟨x, hx, h⟩
    have : x = i := by simpa [eqV] using h
    subst this
    simpa using hx
  · intro h
    exact ⟨i, by simpa using h, by simp [eqV]⟩
def fIn (neg : Bool) : PF2 := fun a b Q => match a with
  | .int i => seqD b fun _ ds => match intsD ds with
    | some ns => Q (.dat (.bl (if neg then !decide (i ∈ ns) else decide (i ∈ ns))))
    | none => False
  | _ => False
theorem sem_in {K : PySem.W.Frag} {neg : Bool} : OpSem K (rIn K neg) (fIn neg) := fun g F sl S σ H v1 v2 d1 d2 Q Qr rel r1 r2 hf post => by
  cases r1 with
  | int i =>
    have hf2 : seqD d2 fun _ ds => match intsD ds with | some ns => Qr (.dat (.bl (if neg then !decide (i ∈ ns) else decide (i ∈ ns)))) | none => False := hf
    obtain ⟨k, ds, sv, h⟩ := sv_of (sl := sl) (σ := σ) r2 hf2
    obtain ⟨a, vs, rfl, hs, rl⟩ := sv.use rel
    cases e : intsD ds with
    | none => simp only [e] at h
    | some ns =>
      simp only [e] at h
      have ev := rpl_ints rl e
      subst ev
      have fin := post (.dat (.bl (if neg then !decide (i ∈ ns) else decide (i ∈ ns)))) (.bl (if neg then !decide (i ∈ ns) else decide (i ∈ ns))) H F Stp.refl rel (.bl _) trivial h
      refine ⟨a, _, rfl, hs.or, rfl, ?_, ?_⟩
      · rw [List.all_map]; exact List.all_eq_true.mpr fun _ _ => rfl
      · rw [inV_ints]; exact fin
  | _ => exact hf.elim
section
variable {X : Cx} {W : WX} {a b : Expr} {p q : PEx} {pos : Pos}
theorem se_in (ha : SE X W a p) (hb : SE X W b q) (hm : behindInMarks .In b = false := by rfl) : SE X W (.Compare a [.In] [b] pos) (pBin (fIn false) p q) := se_cmp op_in_seq sem_in ha hb hm
theorem se_notin (ha : SE X W a p) (hb : SE X W b q) (hm : behindInMarks .NotIn b = false := by rfl) : SE X W (.Compare a [.NotIn] [b] pos) (pBin (fIn true) p q) := se_cmp op_notIn_seq sem_in ha hb hm
theorem st_in (ha : SE X W a p) (hb : SE X W b q) (hm : behindInMarks .In b = false := by rfl) : ST X W (.Compare a [.In] [b] pos) (pTst (pBin (fIn false) p q)) := st_cmp op_in_seq sem_in ha hb hm
theorem st_notin (ha : SE X W a p) (hb : SE X W b q) (hm : behindInMarks .NotIn b = false := by rfl) : ST X W (.Compare a [.NotIn] [b] pos) (pTst (pBin (fIn true) p q)) := st_cmp op_notIn_seq sem_in ha hb hm
end

/-! ### all, any of a list of bools; sorted of ints -/
def blsD : List D → Option (List Bool)
  | [] => some []
  | .bl i :: r => (blsD r).map (i :: ·)
  | _ :: _ => none
theorem blsD_map : ∀ (ns : List Bool), blsD (ns.map D.bl) = some ns
  | [] => rfl
  | n :: r => by
    show (blsD (r.map D.bl)).map (n :: ·) = _
    rw [blsD_map r]
    rfl
theorem rpl_bls {K : PySem.W.Frag} {F : Hp} : ∀ {vs : List V} {ds : List D} {ns : List Bool}, RpL K F vs ds → blsD ds = some ns → vs = ns.map V.bl
  | _, _, _, .nil, e => by cases e; rfl
  | v :: vs, d :: ds, ns, .cons h r, e => by
    cases h with
    | bl i =>
      simp only [blsD] at e
      cases e2 : blsD ds with
      | none => rw [e2] at e; cases e
      | some ms =>
        rw [e2] at e
        cases e
        rw [rpl_bls r e2]
        rfl
    | _ => cases e
def fAll : List D → (Res → Prop) → Prop := fun ds Q => match ds with
  | [.lst bs] => match blsD bs with
    | some l => Q (.dat (.bl (l.all id)))
    | none => False
  | _ => False
def fAny : List D → (Res → Prop) → Prop := fun ds Q => match ds with
  | [.lst bs] => match blsD bs with
    | some l => Q (.dat (.bl (l.any id)))
    | none => False
  | _ => False
def fSorted : List D → (Res → Prop) → Prop := fun ds Q => match ds with
  | [.lst bs] => match intsD bs with
    | some l => l.length < 64 ∧ ∀ l' : List Int, l'.Perm l → l'.Pairwise (· ≤ ·) → Q (.own (l'.map D.int))
    | none => False
  | _ => False
section
variable {X : Cx} {W : WX} {e : Expr} {p : PAx} {pos xp : Pos}
theorem se_all (hc : X.calm = true) (hm : X.mg "all" = none) (ha : SA X W [e] p) (hg : Gl X "all" := by rfl) (he : starEach (e :: []) X.env = (false, eval e X.env) :: starEach [] X.env := by rfl) : SE X W (.Call (.Name "all" xp) [e] [] pos) (pCB fAll p) :=
  se_cb (cr_all hc) (fun g F sl S σ H vs ds Q Qr rel rl h post => by
    unfold fAll at h
    split at h
    · cases rl with
      | cons r1 r2 =>
        cases r2
        cases r1 with
        | lst h1 q1 =>
          split at h
          · rename_i l e2
            have ev := rpl_bls q1 e2
            subst ev
            exact ⟨_, l, rfl, SqL.of (rel.cor.fh _ _ h1), post (.dat (.bl (l.all id))) _ H F Stp.refl rel (.bl _) trivial h⟩
          · exact h.elim
    · exact h.elim) hm (by decide +kernel) ha hg (he := he)
theorem se_any (hc : X.calm = true) (hm : X.mg "any" = none) (ha : SA X W [e] p) (hg : Gl X "any" := by rfl) (he : starEach (e :: []) X.env = (false, eval e X.env) :: starEach [] X.env := by rfl) : SE X W (.Call (.Name "any" xp) [e] [] pos) (pCB fAny p) :=
  se_cb (cr_any hc) (fun g F sl S σ H vs ds Q Qr rel rl h post => by
    unfold fAny at h
    split at h
    · cases rl with
      | cons r1 r2 =>
        cases r2
        cases r1 with
        | lst h1 q1 =>
          split at h
          · rename_i l e2
            have ev := rpl_bls q1 e2
            subst ev
            exact ⟨_, l, rfl, SqL.of (rel.cor.fh _ _ h1), post (.dat (.bl (l.any id))) _ H F Stp.refl rel (.bl _) trivial h⟩
          · exact h.elim
    · exact h.elim) hm (by decide +kernel) ha hg (he := he)
theorem se_sorted (hm : X.mg "sorted" = none) (ha : SA X W [e] p) (hg : Gl X "sorted" := by rfl) (he : starEach (e :: []) X.env = (false, eval e X.env) :: starEach [] X.env := by rfl) : SE X W (.Call (.Name "sorted" xp) [e] [] pos) (pCB fSorted p) :=
  se_cb cr_sorted (fun g F sl S σ H vs ds Q Qr rel rl h post => by
    unfold fSorted at h
    split at h
    · cases rl with
      | cons r1 r2 =>
        cases r2
        cases r1 with
        | lst h1 q1 =>
          split at h
          · rename_i l e2
            have ev := rpl_ints q1 e2
            subst ev
            refine ⟨_, l, rfl, SqL.of (rel.cor.fh _ _ h1), h.1, fun ns' a hp hs ha => ?_⟩
            exact post (.own (ns'.map D.int)) _ _ F (Stp.alloc ha) (rel.alloc ha) ⟨a, _, rfl, upd_same, rel.cor.free ha, rel.cor.new ha, RpL.ints ns'⟩ (nw_new ha) (h.2 ns' hp hs)
          · exact h.elim
    · exact h.elim) hm (by decide +kernel) ha hg (he := he)
end

/-! ### defs -/
/-- a def's promise, by data: the arguments, the draws ahead, the wish for the result and the draws behind, the wish for what is raised -/
abbrev PSpec := List Res → List Int → (Res → List Int → Prop) → (PX → List Int → Prop) → Prop
def spOf (K : PySem.W.Frag) (spec : PSpec) : Sp := fun vs H Q E => ∃ F dr S rs Q' E', Same F H ∧ (∀ a, dr = some a → H a = some (.lst (S.map V.int)) ∧ F a = none) ∧ RAs K ⟨H, F, dr⟩ F rs vs ∧ spec rs S Q' E' ∧
  (∀ r S' v H' F', Cor ⟨H, F, dr⟩ F' S' H' → RR K ⟨H, F, dr⟩ F' H' r v → Q' r S' → Q v H') ∧ ∀ x S' d H' F', Cor ⟨H, F, dr⟩ F' S' H' → ExR K F' x d → E' x S' → E (.ref x.C) d H'
structure Cal (P : Program) (w : World) (K : PySem.W.Frag) (mg : Str → Option Value) (base : Heap) (k : Nat) (x : Str) (spec : PSpec) : Prop where
  ex : ∃ f fd ps, FnOk P w K mg base (L2.CX P w) k f fd ps (spOf K spec) ∧ mg x = some (.ref f) ∧ PySem.W.keepIn K (.ref f) = true ∧ Binds K fd ps []
theorem Cal.mono {P : Program} {w : World} {K : PySem.W.Frag} {mg : Str → Option Value} {base : Heap} {j k : Nat} {x : Str} {spec : PSpec} (c : Cal P w K mg base j x spec) (h : j ≤ k) : Cal P w K mg base k x spec := by
  obtain ⟨f, fd, ps, F, q⟩ := c.ex
  exact ⟨f, fd, ps, F.mono h, q⟩
theorem Cal.imp {P : Program} {w : World} {K : PySem.W.Frag} {mg : Str → Option Value} {base : Heap} {k : Nat} {x : Str} {spec spec' : PSpec} (c : Cal P w K mg base k x spec) (h : ∀ rs S Q E, spec' rs S Q E → spec rs S Q E) : Cal P w K mg base k x spec' := by
  obtain ⟨f, fd, ps, F, q⟩ := c.ex
  refine ⟨f, fd, ps, F.imp fun vs H Q E hs => ?_, q⟩
  obtain ⟨F, dr, S, rs, Q', E', a1, a2, a3, a4, a5⟩ := hs
  exact ⟨F, dr, S, rs, Q', E', a1, a2, a3, h _ _ _ _ a4, a5⟩
theorem Rel.after {K : PySem.W.Frag} {g : G} {F H : Hp} {sl : List Slot} {S : List Int} {σ : L2.St} (rel : Rel K g F sl S σ H) {F' H' : Hp} {S' : List Int} (c : Cor ⟨H, F, g.dr⟩ F' S' H') : Rel K g F' sl S' σ H' ∧ Stp g F H F' H' := by
  have st : Stp g F H F' H' := by
    refine ⟨c.f0, c.h0, fun a o e => ?_, fun a e => ?_⟩
    · rcases c.fn a o e with z | z
      · cases q : F a with
        | none => exact absurd q z
        | some u => rw [c.f0 a u q] at e; exact .inl (by rw [e])
      · exact .inr z
    · cases q : H a with
      | none => rfl
      | some u =>
        by_cases z : g.dr = some a
        · rw [(c.st a z).1] at e; cases e
        · rw [c.h0 a u q z] at e; cases e
  refine ⟨⟨⟨rel.cor.f0.trans c.f0, fun a o e => ?_, c.fh, fun a o e q => c.h0 a o (rel.cor.h0 a o e q) q, fun a e => ⟨(c.st a e).1, (c.st a e).2.1, (rel.cor.st a e).2.2⟩⟩, rel.len, fun i s hs => (rel.ok i s hs).mono c.f0 (fun ds p e1 e2 => ?_) fun q u g1 g2 g3 g4 => (by
    have ndr : g.dr ≠ some q := fun z => (rel.cor.st q z).2.2 g3
    exact ⟨c.h0 q _ g1 ndr, st.free c.fh g2 g1 ndr (isObj_tup g4)⟩), rel.sep⟩, st⟩
  · rcases st.n a o e with z | z | z
    · exact rel.cor.fn a o z
    · exact .inr (.inl (rel.cor.new z))
    · exact .inr (.inr z)
  · subst e1
    obtain ⟨p7, vs7, e7, h7, h8, h9, _⟩ := rel.ok i _ hs
    rw [e2] at e7
    cases e7
    have ndr : g.dr ≠ some p := fun z => (rel.cor.st p z).2.2 h9
    exact ⟨(c.h0 p _ h7 ndr).trans h7.symm, st.free c.fh h8 h7 ndr⟩
@[simp] def pCall (spec : PSpec) (pa : PAx) : PEx := fun sl S Q E => pa sl S (fun rs S1 => spec rs S1 Q E) E
theorem rd_call {K : PySem.W.Frag} {W : WX} {spec : PSpec} {pa : PAx} (σ : L2.St) (H : Hp) (Q : VK) (h : rdE K W (pCall spec pa) σ H Q) : tCallS (spOf K spec) (WE W) (rdA K W pa) σ H Q := by
  obtain ⟨g, F, sl, S, Q', E', rel, hp, post, exc⟩ := h
  refine ⟨g, F, sl, S, _, E', rel, hp, fun rs S1 vs H1 F1 s1 rel1 ras h1 => ?_, exc⟩
  refine ⟨F1, g.dr, S1, rs, _, _, rel1.cor.fh, fun a e => ⟨(rel1.cor.st a e).1, (rel1.cor.st a e).2.1⟩, ras, h1, fun r S2 v H2 F2 c rr hq => ?_, fun x S2 d H2 F2 c er hq => ?_⟩
  · obtain ⟨rel2, st⟩ := rel1.after c
    refine post r S2 v H2 F2 (s1.trans st) rel2 ?_ ?_ hq
    · cases r with
      | dat d => exact rr
      | own ds =>
        obtain ⟨p, vs', rfl, h1, h2, h3, h4⟩ := rr
        exact ⟨p, vs', rfl, h1, h2, rel1.cor.new h3, h4⟩
      | drw => exact rr
    · cases r with
      | own ds =>
        obtain ⟨p, vs', rfl, h1, h2, h3, h4⟩ := rr
        exact fun q e => by cases e; exact s1.d p h3
      | _ => trivial
  · obtain ⟨rel2, st⟩ := rel1.after c
    exact exc x S2 d H2 F2 (s1.trans st).f rel2 er hq
section
variable {X : Cx} {W : WX} {k : Nat} {x : Str} {spec : PSpec} {e : Expr} {es : List Expr} {pa : PAx} {p pos : Pos}
theorem se_call (c : Cal X.prog X.w X.K X.mg X.base k x spec) (hr : Room k X.A) (tk : Takes X W) (ha : SA X W (e :: es) pa) (hg : Gl X x := by rfl) (hdb : (x == ("__debug__" : Str)) = false := by decide)
    (he : starEach (e :: es) X.env = (false, eval e X.env) :: starEach es X.env := by rfl) (hpl : (backTo pos (starEach es X.env)).any (·.1) = false := by rfl) : SE X W (.Call (.Name x p) (e :: es) [] pos) (pCall spec pa) := by
  obtain ⟨f, fd, ps, F, hm, hk, hb⟩ := c.ex
  exact ⟨PE.imp (pe_callS F hr hg hm hk hb (fun σ => passAt tk σ) ha.pa hdb he hpl) rd_call⟩
end
/-- in a comprehension's block nothing is raised -/
theorem takes0 {X : Cx} : Takes X W0 := fun u s' ⟨_, _, _, _, _, _, _, _, _, _, _, _, _, _, _, _, z⟩ => z.elim

/-- a def of the top -/
def DefAt (K : PySem.W.Frag) (mg : Str → Option Value) (x : Str) (st : Stmt) (ps : List Str) : Prop := ∃ f fd, Fun K x x st f fd ∧ mg x = some (.ref f) ∧ Binds K fd ps []
theorem fn_mk0 {P : Program} {w : World} {K : PySem.W.Frag} {mg : Str → Option Value} {base : Heap} {k : Nat} {x qual : Str} {st : Stmt} {N ps : List Str} {spec : PSpec} {p : PSm} {f : Addr} {fd : FuncData} (Fn : Fun K x qual st f fd) (Sc : FnScope N ps (defScope st))
    (len : ∀ rs S Q E, spec rs S Q E → rs.length = ps.length)
    (hb : ∀ (f : Addr) (cdv : Value) (A : Around) (outer : List Env) (s : Shared) (H : Hp) (E : XK), Room k (A.deeper (PyProof.Rows.envOfC qual (defScope st) s.heap.objs.size f cdv)) →
      SB (cxOf (L2.CX P w) P w K mg base N qual (defScope st) f cdv A outer s H E) (fun cls d _ H => E cls d H) (defBody st) p)
    (hp : ∀ rs S Q E, spec rs S Q E → p ⟨fun _ S' => Q (.dat .non) S', Q, fun _ _ => False, fun _ _ => False, fun x _ S' => E x S'⟩ (rs.map Res.slot ++ List.replicate (N.length - rs.length) .un) S) : FnOk P w K mg base (L2.CX P w) (k + 1) f fd ps (spOf K spec) := by
  refine Fn.okX Sc (fun vs H Q E h => ?_) (fun cdv A outer s H vs Q E hr h => ?_)
  · obtain ⟨F, dr, S, rs, Q', E', a1, a2, a3, a4, a5⟩ := h
    rw [← Paired.length a3]
    exact len _ _ _ _ a4
  · obtain ⟨F, dr, S, rs, Q', E', a1, a2, a3, a4, a5, a6⟩ := h
    refine ⟨_, (hb f cdv A outer s H E hr).ps, ⟨H, F, dr⟩, F, _, S, _, ?_, hp rs S Q' E' a4, ?_⟩
    · have hl : rs.length = vs.length := Paired.length a3
      have get : ∀ (rs : List Res) (vs : List V), RAs K ⟨H, F, dr⟩ F rs vs → ∀ (i : Nat) (s : Slot), (rs.map Res.slot)[i]? = some s → SlotOk K ⟨H, F, dr⟩ F H s ((vs.map some)[i]?).join := by
        intro rs
        induction rs with
        | nil => intro vs _ i s e; simp at e
        | cons r rs ih =>
          intro vs h i s e
          cases h with
          | cons h1 h2 =>
            cases i with
            | zero =>
              simp at e
              subst e
              cases r with
              | dat d => exact ⟨_, rfl, h1⟩
              | own ds => cases h1
              | drw =>
                obtain ⟨a, e1, rfl⟩ := h1
                exact ⟨a, e1, rfl⟩
            | succ i => simpa using ih _ h2 i s (by simpa using e)
      have noown : ∀ (i : Nat) (d : List D), (rs.map Res.slot ++ List.replicate (N.length - rs.length) Slot.un)[i]? ≠ some (Slot.own d) := fun i d e => by
        rcases List.getElem?_append (l₁ := rs.map Res.slot) (l₂ := List.replicate (N.length - rs.length) Slot.un) (i := i) ▸ e with e
        split at e
        · have := get rs vs a3 i _ e
          rw [List.getElem?_map] at e
          cases q : rs[i]? with
          | none => rw [q] at e; cases e
          | some r =>
            rw [q] at e
            cases r with
            | own ds =>
              obtain ⟨p, vs', e1, h1, h2, h3, h4⟩ := this
              have h3 : H p = none := h3
              rw [h3] at h1; cases h1
            | dat d => cases e
            | drw => cases e
        · rw [List.getElem?_replicate] at e
          split at e <;> cases e
      refine ⟨⟨Same.refl _, fun a o e => .inl (by show F a ≠ none; rw [e]; exact fun z => nomatch z), a1, fun a o e _ => e, fun a e => ⟨(a2 a e).1, (a2 a e).2, by show H a ≠ none; rw [(a2 a e).1]; exact fun z => nomatch z⟩⟩, ?_, fun i s e => ?_, fun i j di dj p' _ h4 _ => absurd h4 (noown i di)⟩
      · unfold L2.start
        simp [hl]
      · unfold L2.start
        rw [List.getElem?_append] at e ⊢
        rw [List.length_map] at e ⊢
        split at e
        · rename_i h
          rw [if_pos (by omega)]
          exact get rs vs a3 i s e
        · rw [List.getElem?_replicate] at e
          split at e
          · cases e; trivial
          · cases e
    · exact ⟨fun sl S' σ H' F' s1 rel h => a5 _ S' _ H' F' rel.cor (by exact Rp.non) h, fun r S' v H' F' s1 c rr h => a5 r S' v H' F' c rr h, fun _ _ _ _ _ _ _ z => z.elim, fun _ _ _ _ _ _ _ z => z.elim, fun x sl S' d σ H' F' s1 rel er h => a6 x S' d H' F' rel.cor er h⟩
theorem cal_mk {P : Program} {w : World} {K : PySem.W.Frag} {mg : Str → Option Value} {base : Heap} {k : Nat} {x : Str} {st : Stmt} {N ps : List Str} {spec : PSpec} {p : PSm} (DF : DefAt K mg x st ps) (Sc : FnScope N ps (defScope st))
    (len : ∀ rs S Q E, spec rs S Q E → rs.length = ps.length)
    (hb : ∀ (f : Addr) (cdv : Value) (A : Around) (outer : List Env) (s : Shared) (H : Hp) (E : XK), Room k (A.deeper (PyProof.Rows.envOfC x (defScope st) s.heap.objs.size f cdv)) →
      SB (cxOf (L2.CX P w) P w K mg base N x (defScope st) f cdv A outer s H E) (fun cls d _ H => E cls d H) (defBody st) p)
    (hp : ∀ rs S Q E, spec rs S Q E → p ⟨fun _ S' => Q (.dat .non) S', Q, fun _ _ => False, fun _ _ => False, fun x _ S' => E x S'⟩ (rs.map Res.slot ++ List.replicate (N.length - rs.length) .un) S) : Cal P w K mg base (k + 1) x spec := by
  obtain ⟨f, fd, Fn, hm, hbd⟩ := DF
  exact ⟨f, fd, ps, fn_mk0 Fn Sc len hb hp, hm, Fn.kp, hbd⟩

end Py
end
section
set_option Elab.async false
set_option linter.all false
set_option maxRecDepth 100000
set_option maxHeartbeats 4000000
/-! Own errors: class X(SumError) with super().__init__(text) and fields. -/
namespace Py
open PySem PySem.W PySem.Calls PyProof.Rows PySem.HandSPX

abbrev errTail (D : Addr) : List Value := [.ref D, .type "Exception", .type "BaseException", .type "object"]

section
open Builtin Builtin.ObjectAttr
variable {prog : Program} {w : World} {A : Around} {E : Value → Shared → Prop} {R : Result → Shared → Prop} {hp : Heap} {g : Array GenState} {d : Drawn} {t : Nat} {os : OsState}
theorem err_osa {K : Frag} {name : Str} {tk : Tok} {v : Value} {x C D : Addr} {ox : Obj} {od : Option Obj} {cd : ClassData} (X : K.In hp) (I : InstAt hp x ox C od) (hcd : clsIn K C = some cd) (hm : cd.mro = .ref C :: errTail D) (ha : findIn K (.ref C) name = some none)
    (hq : wpAny (model prog w) A.in1 (storeInOwnDict (.ref x) (.ref C) (.str name tk) name v false) (fun fin s' => match fin with | .done f => R (.ok f) s' | .again c' => c'.quiet = true ∧ codeAny (model prog w) A c' R s') (fun e s' => R (.error e) s') ⟨hp, g, d, t, os⟩) :
    codeAny (model prog w) A (.call (.builtin "object.__setattr__") ⟨[.ref x, .str name tk, v], []⟩) R ⟨hp, g, d, t, os⟩ := by
  have SF := F.store_object
  have isob : mroIn K C (.type "object") = some true := by
    unfold mroIn
    rw [hcd, Option.bind_some, hm]
    rfl
  have sub : Looks (model prog w) hp (isInstance (.ref x) (.type "object")) true := I.type.andThen (looks_mroIn X isob)
  apply codeAny_call_builtin SF.slot.plain SF.entry
  refine @check_slot (model prog w) _ _ ⟨hp, g, d, t, os⟩ "object.__setattr__" "object" "__setattr__" (.ref x) [.str name tk, v] [] _ SF.kind SF.split sub (SF.args (.ref x) (.str name tk) v) ?_
  have lm : Looks (model prog w) hp (mroOf (.ref C)) cd.mro := (looks_clsIn X hcd).andThen .now
  have lt : Looks (model prog w) hp (storeTaker? none) none := .now
  have pass : refuseLoop (.ref x) "__setattr__" cd.mro = pure () := by
    rw [hm, refuseLoop_ref, refuseLoop_ref]
    exact F.store_Exception.passes _
  rw [osa_eq, refuse_eq]
  apply wpAny_bind
  apply wpAny_bind
  apply I.type.at
  apply wpAny_bind
  apply lm.at
  rw [pass]
  apply wpAny_pure
  apply wpAny_bind
  apply I.type.at
  apply wpAny_bind
  apply (looks_findIn X ha).at
  apply wpAny_bind
  apply lt.at
  exact hq
theorem err_new {K : Frag} {name : Str} {tk : Tok} {v : Value} {x C D : Addr} {fv : Array Value} {cd : ClassData} (X : K.In hp) (hx : hp.get? x = some { cls := .ref C, data := .fields fv }) (hcd : clsIn K C = some cd) (hm : cd.mro = .ref C :: errTail D) (hh : cd.hasDict = true) (ha : findIn K (.ref C) name = some none)
    (hq : ∀ h' tk' dx, (∀ b o, b ≠ x → hp.get? b = some o → h'.get? b = some o) → hp.objs.size ≤ dx → dx ≠ x → h'.get? x = some { cls := .ref C, dict := some dx, data := .fields fv } → h'.Ns1 dx (fun y => if y = name then some v else none) → R (.ok (.ret .none)) ⟨h', g, d, tk', os⟩) :
    codeAny (model prog w) A (.call (.builtin "object.__setattr__") ⟨[.ref x, .str name tk, v], []⟩) R ⟨hp, g, d, t, os⟩ := by
  have ix : InstAt hp x { cls := .ref C, data := .fields fv } C none := ⟨hx, rfl, rfl, trivial⟩
  have ne : x ≠ hp.objs.size := Nat.ne_of_lt (Heap.lt_size hx)
  apply err_osa X ix hcd hm ha
  have lc : Looks (model prog w) hp (classData C) cd := looks_clsIn X hcd
  rcases cd with ⟨nm, bs, mro, ns, qn, hd, sn, sb, ab, col, del⟩
  dsimp only at hh
  subst hh
  unfold storeInOwnDict ownDictForStores
  repeat (first | with_reducible refine store_in_new ?_ ?_ | with_reducible refine wpAny_loadPart_at hx ?_ | with_reducible refine lc.at ?_ | wp_step)
  · exact ⟨_, #[], _, (Heap.get?_update_ne _ _ _ _ ne.symm).trans (Heap.get?_push_at rfl rfl), rfl, fun e he => absurd he (by simp), fun _ => rfl⟩
  · intro h' tk' hn' sb
    have hx1 : (hp.push { cls := .type "dict", data := .dict #[] }).get? x = some { cls := .ref C, data := .fields fv } := Heap.get?_push_of_some _ hx
    refine hq h' tk' hp.objs.size (fun b o hb ho => ?_) (Nat.le_refl _) ne.symm ?_ hn'
    · rw [sb.2 b (Nat.ne_of_lt (Heap.lt_size ho)), Heap.get?_update_ne _ _ _ _ hb]
      exact Heap.get?_push_of_some _ ho
    · rw [sb.2 x ne]
      exact Heap.get?_update_self _ hx1 rfl
theorem err_old {K : Frag} {name : Str} {tk : Tok} {v : Value} {x C D dx : Addr} {fv : Array Value} {cd : ClassData} {m0 : Str → Option Value} {nl : List Str} (X : K.In hp) (hx : hp.get? x = some { cls := .ref C, dict := some dx, data := .fields fv }) (hns : hp.Ns1 dx m0) (hw : Within m0 nl) (hz : nl.length ≤ 1000)
    (hcd : clsIn K C = some cd) (hm : cd.mro = .ref C :: errTail D) (hh : cd.hasDict = true) (ha : findIn K (.ref C) name = some none)
    (hq : ∀ h' tk', (∀ b o, b ≠ dx → hp.get? b = some o → h'.get? b = some o) → h'.Ns1 dx (fun y => if y = name then some v else m0 y) → R (.ok (.ret .none)) ⟨h', g, d, tk', os⟩) :
    codeAny (model prog w) A (.call (.builtin "object.__setattr__") ⟨[.ref x, .str name tk, v], []⟩) R ⟨hp, g, d, t, os⟩ := by
  obtain ⟨oD, esD, epD, hoD, hdD, _⟩ := hns.count hw
  have ix : InstAt hp x { cls := .ref C, dict := some dx, data := .fields fv } C (some oD) := ⟨hx, rfl, rfl, hoD⟩
  apply err_osa X ix hcd hm ha
  have lc : Looks (model prog w) hp (classData C) cd := looks_clsIn X hcd
  rcases cd with ⟨nm, bs, mro, ns, qn, hd, sn, sb, ab, col, del⟩
  dsimp only at hh
  subst hh
  unfold storeInOwnDict ownDictForStores
  repeat (first | with_reducible refine ESX.store_in_old hns hw hz ?_ | with_reducible refine wpAny_loadPart_at hx ?_ | with_reducible refine lc.at ?_ | wp_step)
  intro h' tk' hn' sb
  exact hq h' tk' (fun b o hb ho => (sb.2 b hb).trans ho) hn'
end

/-- what the written part says of an own error at C, its base at D, its __init__ at fI with this text -/
structure ErrCls (prog : Program) (K : Frag) (C D fI : Addr) (q : Str) (st : Stmt) : Prop where
  cls : ∃ nm qq N bs sn sub ab col dd k0 k1 k2 k3 k5, K.lookup C = some (excClassObj nm qq C N bs (errTail D) true sn sub ab col dd k0 k1 k2 k3 k5 "Exception.__new__")
  sup : alongIn K "__init__" (errTail D) = some (some (.builtin "Exception.__init__"))
  opq : nsIn K cStatics "thirdparty.any" = some none
  exI : subIn K (.ref C) (.type "Exception") = some true
  slf : mroIn K C (.ref C) = some true
  sa : findIn K (.ref C) "__setattr__" = some (some (.builtin "object.__setattr__"))
  iC : findIn K (.ref C) "__init__" = some (some (.ref fI))
  tC : typeIn K (.ref fI) = some (.type "function")
  kC : keepIn K (.ref C) = true
  exC : subIn K (.ref C) (.type "BaseException") = some true
  tyC : typeIn K (.ref C) = some (.type "type")
  ga : findIn K (.ref C) "__getattribute__" = some (some (.builtin "BaseException.__getattribute__"))
  gg : findIn K (.ref C) "__getattr__" = some none
  hdC : hasDictIn K C = true
  fn : ∃ (oc ccl cl : Value) (od an cdd cld : Option Addr) (doc pm ct : Value) (osl ccs csl : Array (Option Value)) (cda cc : Addr) (vs : Array Value) (file : Str) (tf : Tok),
    K.lookup fI = some ⟨oc, od, .func (ksFn "__init__" q (L2.defArgs st) (L2.defBody st) (L2.defScope st) .none .none doc pm an (.ref cda) ct cc), osl⟩ ∧ codeIn K (.ref cda) q = true ∧
    K.lookup cda = some ⟨ccl, cdd, .fields vs, ccs⟩ ∧ vs[2]? = some (.str file tf) ∧ ((prog.main.file : Str) == file) = true ∧ K.lookup cc = some ⟨cl, cld, .cell (some (.ref C)), csl⟩
  sn : nsIn K mainGlobals "super" = some none
  top : (prog.main.scope.names.lookup ("super" : Str)).isSome = false

/-- behind super().__init__(..) -/
structure SupEnd (h h' : Heap) (x C : Addr) : Prop where
  keep : ∀ b o, b ≠ x → h.get? b = some o → h'.get? b = some o
  ob : ∃ t1, h'.get? x = some (excO C t1)
section
variable {prog : Program} {w : World} {A : Around} {E : Value → Shared → Prop} {K : Frag} {C D fI : Addr} {q : Str} {st : Stmt} {h : Heap} {g : Array GenState} {d : Drawn} {t : Nat} {os : OsState}
theorem super_stmt (T : ErrCls prog K C D fI q st) {body : List Stmt} {scope : Scope} {L cda cc x t0 : Addr} {m mg mb : Str → Option Value} {p0 p1 p2 p3 p4 p5 : Pos} {txt : Str} {j : Nat} {Q : Flow → Shared → Prop}
    {oc ccl cl : Value} {od an cdd cld : Option Addr} {doc pm ct : Value} {osl ccs csl : Array (Option Value)} {vs : Array Value} {file : Str} {tf : Tok}
    (fl : K.lookup fI = some ⟨oc, od, .func (ksFn "__init__" q (L2.defArgs st) (L2.defBody st) (L2.defScope st) .none .none doc pm an (.ref cda) ct cc), osl⟩)
    (fc : K.lookup cda = some ⟨ccl, cdd, .fields vs, ccs⟩) (fv : vs[2]? = some (.str file tf)) (ff : ((prog.main.file : Str) == file) = true) (fe : K.lookup cc = some ⟨cl, cld, .cell (some (.ref C)), csl⟩)
    (X : K.In h) (hg : h.Ns mainGlobals mg) (hb : h.Ns builtinsNs mb) (hsg : mg "super" = none) (hsb : mb "super" = some (.type "super")) (hn : h.Ns L m) (hs : m "self" = some (.ref x)) (hx : h.get? x = some (excO C t0))
    (hk : scope.kind = .function) (hks : scope.names.lookup ("super" : Str) = some .globalImplicit) (hkc : scope.names.lookup ("__class__" : Str) = some .free) (hka : scope.names.lookup ("self" : Str) = some .local)
    (har : ∃ ar, ((L2.defArgs st).posonlyargs ++ (L2.defArgs st).args).head? = some ar ∧ ar.arg = "self")
    (hint : interactive (ksEnv q scope L fI (.ref cda) cc) = false) (hsw : swapsWith (.Call (.Attribute (.Call (.Name "super" p0) [] [] p1) "__init__" p2) [.Constant (.str txt) j p3] [] p4) none p5.line (ksEnv q scope L fI (.ref cda) cc) = pure false)
    (he : starEach [.Constant (.str txt) j p3] (ksEnv q scope L fI (.ref cda) cc) = (false, eval (.Constant (.str txt) j p3) (ksEnv q scope L fI (.ref cda) cc)) :: starEach [] (ksEnv q scope L fI (.ref cda) cc))
    (hev : eval (.Call (.Attribute (.Call (.Name "super" p0) [] [] p1) "__init__" p2) [.Constant (.str txt) j p3] [] p4) (ksEnv q scope L fI (.ref cda) cc) = (do
      let ov ← attributeBase (.Call (.Name "super" p0) [] [] p1) "__init__" (ksEnv q scope L fI (.ref cda) cc) (eval (.Call (.Name "super" p0) [] [] p1) (ksEnv q scope L fI (.ref cda) cc))
      standAt p2.atName
      let (f, first) ← holding [ov] (getMethod ov "__init__" (pure false))
      callWith p4 f first (backTo p4 (starEach [.Constant (.str txt) j p3] (ksEnv q scope L fI (.ref cda) cc))) []))
    (hq : ∀ h' tk, SupEnd h h' x C → Q .next ⟨h', g, d, tk, os⟩) :
    _root_.PySem.wpAt (model prog w) A (.func body (ksEnv q scope L fI (.ref cda) cc)) (exec (.Expr (.Call (.Attribute (.Call (.Name "super" p0) [] [] p1) "__init__" p2) [.Constant (.str txt) j p3] [] p4) p5) (ksEnv q scope L fI (.ref cda) cc)) Q E ⟨h, g, d, t, os⟩ := by
  obtain ⟨ar, har, hae⟩ := har
  obtain ⟨nm, qq, N, bs, sn, sub, ab, col, dd, k0, k1, k2, k3, k5, hC⟩ := T.cls
  have hCg := X _ _ hC
  have hcl : clsIn K C = some { name := nm, bases := bs, mro := .ref C :: errTail D, ns := N, qualname := qq, hasDict := true, slotNames := sn, subclasses := sub, abstract := ab, collection := col, hasDel := false } := by
    unfold clsIn
    rw [hC]
  have hxC : x ≠ C := fun z => by
    rw [z, hCg] at hx
    cases hx
  have tyx : ∀ {h1 : Heap}, K.In h1 → h1.get? x = some (excO C t0) → Looks (model prog w) h1 (isInstance (.ref x) (.type "Exception")) true := fun X1 hx1 => (InstAt.type (C := C) (od := none) (ox := excO C t0) ⟨hx1, rfl, rfl, trivial⟩).andThen (looks_subIn X1 T.exI)
  refine ks_wpAt_Expr_any (ks_wpAt_MethodCall (pl := pure false) ?_ hev) hint hsw
  refine ks_wpAt_super_base (env := ksEnv q scope L fI (.ref cda) cc) hks hkc (by decide) rfl (X _ _ fl) rfl har rfl (X _ _ fc) rfl fv ff T.top ?_
  refine ks_loadName_global hk hks (loadGlobal_builtin (env := ksEnv q scope L fI (.ref cda) cc) hg hsg hb hsb ⟨rfl, ?_⟩)
  refine wpAny_loadName_free hk hkc rfl ⟨_, X _ _ fe, rfl⟩ ?_
  rw [hae]
  refine wpAny_loadName_local hk hka hn hs ?_
  refine ks_wpAny_isType_cls hCg rfl ⟨rfl, ?_⟩
  refine ks_wpAny_call_super hCg rfl hx rfl (fun c e => by cases e) (looks_mroIn X T.slf) (fun h1 e1 kp1 => ?_)
  have X1 : K.In h1 := X.keeps kp1
  refine ESX.getMethod_super e1 (looks_opaque X1 T.opq) (l₀ := .ref C :: errTail D) ((looks_clsIn X1 hcl).andThen .now) (ESX.drop_own C (errTail D)) X1 T.sup hxC (by decide) (tyx X1 (kp1 _ _ hx)) ?_
  have kp2 : ∀ b o, h.get? b = some o → (h1.push (ESX.bw x)).get? b = some o := fun b o e => Heap.get?_push_of_some _ (kp1 b o e)
  refine ESX.callWith_bound (x := x) ?_ he
  refine Calls.spliced_cons ?_
  show wpAny (model prog w) A (eval (.Constant (.str txt) j p3) (ksEnv q scope L fI (.ref cda) cc)) _ _ _
  refine Calls.Constant_str ?_
  have e0 : starEach [] (ksEnv q scope L fI (.ref cda) cc) = [] := by first | rfl | simp [starEach]
  rw [e0]
  show wpAny (model prog w) A (spliced []) _ _ _
  refine Calls.spliced_nil ⟨Heap.get?_push_size _ rfl, ?_⟩
  have X2 : K.In (h1.push (ESX.bw x)) := X.keeps kp2
  refine ESX.call_bw (X2 _ _ hC) (kp2 _ _ hx) (Heap.get?_push_size _ rfl) (by rw [sizeLine_eq]; show 1 ≤ 16777216; decide) fun h3 t1 kp3 hx3 => ?_
  refine hq h3 _ ⟨fun b o hb e => kp3 b o hb (kp2 b o e), t1, hx3⟩
end

/-- a made error: its own dict d, what it holds -/
structure ErrMade (h h' : Heap) (e C d : Addr) (m : Str → Option Value) : Prop where
  keep : ∀ b o, h.get? b = some o → h'.get? b = some o
  new : h.objs.size ≤ e
  obj : ∃ oe vs, h'.get? e = some oe ∧ oe.cls = .ref C ∧ oe.dict = some d ∧ oe.data = .fields vs ∧ vs[1]? = some .none
  dbig : h.objs.size ≤ d
  dne : d ≠ e
  ns : h'.Ns1 d m
/-- behind the __init__ of a fresh error at x -/
structure ErrInit (h h' : Heap) (x C dx : Addr) (m : Str → Option Value) : Prop where
  keep : ∀ b o, b ≠ x → h.get? b = some o → h'.get? b = some o
  obj : ∃ t1, h'.get? x = some { cls := .ref C, dict := some dx, data := .fields #[.ref t1, .none, .none, .none, .bool false, .none] }
  dbig : h.objs.size ≤ dx
  dne : dx ≠ x
  ns : h'.Ns1 dx m
/-- one statement self.f = a of an __init__, by its letters -/
def asgF (f a : Str) (q1 q2 q3 q4 : Pos) : Stmt := .Assign [.Attribute (.Name "self" q1) f q2] (.Name a q3) q4
def supS (txt : Str) (j : Nat) (p0 p1 p2 p3 p4 p5 : Pos) : Stmt := .Expr (.Call (.Attribute (.Call (.Name "super" p0) [] [] p1) "__init__" p2) [.Constant (.str txt) j p3] [] p4) p5
/-- what rfl shows of a written __init__: its env at any place -/
structure IniEnv (q : Str) (st : Stmt) (txt : Str) (j : Nat) (p0 p1 p2 p3 p4 p5 : Pos) : Prop where
  hk : (L2.defScope st).kind = .function
  hco : (L2.defScope st).isCoroutine = false
  hgen : (L2.defScope st).isGenerator = false
  hks : (L2.defScope st).names.lookup ("super" : Str) = some .globalImplicit
  hkc : (L2.defScope st).names.lookup ("__class__" : Str) = some .free
  hka : (L2.defScope st).names.lookup ("self" : Str) = some .local
  hcell : ∀ x ∈ (L2.defScope st).names, x.2 ≠ .cell
  har : ∃ ar, ((L2.defArgs st).posonlyargs ++ (L2.defArgs st).args).head? = some ar ∧ ar.arg = "self"
  hint : ∀ L fI cda cc, interactive (ksEnv q (L2.defScope st) L fI (.ref cda) cc) = false
  hsw : ∀ L fI cda cc, swapsWith (.Call (.Attribute (.Call (.Name "super" p0) [] [] p1) "__init__" p2) [.Constant (.str txt) j p3] [] p4) none p5.line (ksEnv q (L2.defScope st) L fI (.ref cda) cc) = pure false
  he : ∀ L fI cda cc, starEach [.Constant (.str txt) j p3] (ksEnv q (L2.defScope st) L fI (.ref cda) cc) = (false, eval (.Constant (.str txt) j p3) (ksEnv q (L2.defScope st) L fI (.ref cda) cc)) :: starEach [] (ksEnv q (L2.defScope st) L fI (.ref cda) cc)
  hev : ∀ L fI cda cc, eval (.Call (.Attribute (.Call (.Name "super" p0) [] [] p1) "__init__" p2) [.Constant (.str txt) j p3] [] p4) (ksEnv q (L2.defScope st) L fI (.ref cda) cc) = (do
      let ov ← attributeBase (.Call (.Name "super" p0) [] [] p1) "__init__" (ksEnv q (L2.defScope st) L fI (.ref cda) cc) (eval (.Call (.Name "super" p0) [] [] p1) (ksEnv q (L2.defScope st) L fI (.ref cda) cc))
      standAt p2.atName
      let (f, first) ← holding [ov] (getMethod ov "__init__" (pure false))
      callWith p4 f first (backTo p4 (starEach [.Constant (.str txt) j p3] (ksEnv q (L2.defScope st) L fI (.ref cda) cc))) [])
section
variable {prog : Program} {w : World} {A : Around} {E : Value → Shared → Prop} {R : Result → Shared → Prop} {K : Frag} {C D fI : Addr} {q : Str} {st : Stmt} {h : Heap} {g : Array GenState} {d : Drawn} {t : Nat} {os : OsState}
theorem ErrCls.cl (T : ErrCls prog K C D fI q st) : ∃ cd, clsIn K C = some cd ∧ cd.mro = .ref C :: errTail D ∧ cd.hasDict = true := by
  obtain ⟨nm, qq, N, bs, sn, sub, ab, col, dd, k0, k1, k2, k3, k5, hC⟩ := T.cls
  exact ⟨{ name := nm, bases := bs, mro := .ref C :: errTail D, ns := N, qualname := qq, hasDict := true, slotNames := sn, subclasses := sub, abstract := ab, collection := col, hasDel := false }, by unfold clsIn; rw [hC], rfl, rfl⟩
theorem ErrCls.out (T : ErrCls prog K C D fI q st) {x : Addr} (h : K.lookup x = none) : x ≠ C ∧ x ≠ fI := by
  obtain ⟨nm, qq, N, bs, sn, sub, ab, col, dd, k0, k1, k2, k3, k5, hC⟩ := T.cls
  obtain ⟨oc, ccl, cl, od, an, cdd, cld, doc, pm, ct, osl, ccs, csl, cda, cc, vs, file, tf, fl, _⟩ := T.fn
  exact ⟨fun z => by (rw [z, hC] at h; cases h), fun z => by (rw [z, fl] at h; cases h)⟩
theorem kIn_but {K : Frag} {h h' : Heap} {x : Addr} (X : K.In h) (hx : K.lookup x = none) (k : ∀ b o, b ≠ x → h.get? b = some o → h'.get? b = some o) : K.In h' := fun a o e =>
  k a o (fun z => by rw [z, hx] at e; cases e) (X a o e)
/-- self.f = a : the first field -/
theorem asg_new (T : ErrCls prog K C D fI q st) {env : Env} {L x t1 : Addr} {m : Str → Option Value} {f a : Str} {q1 q2 q3 q4 : Pos} {v : Value} {Q : Flow → Shared → Prop} (X : K.In h) (hx : h.get? x = some (excO C t1)) (hn : h.Ns env.locals m) (hs : m "self" = some (.ref x)) (ha : m a = some v)
    (hk : env.scope.kind = .function) (k1 : env.kindOf "self" = some .local) (k2 : env.kindOf a = some .local) (hd : (a == ("__debug__" : Str)) = false) (no : findIn K (.ref C) f = some none) (hsw : swapsWith (.Name a q3) (some (.Attribute (.Name "self" q1) f q2)) q4.line env = pure false)
    (hq : ∀ h' tk dx, (∀ b o, b ≠ x → h.get? b = some o → h'.get? b = some o) → h.objs.size ≤ dx → dx ≠ x → h'.get? x = some { cls := .ref C, dict := some dx, data := .fields #[.ref t1, .none, .none, .none, .bool false, .none] } → h'.Ns1 dx (fun y => if y = f then some v else none) → Q .next ⟨h', g, d, tk, os⟩) :
    wpAny (model prog w) A (exec (asgF f a q1 q2 q3 q4) env) Q E ⟨h, g, d, t, os⟩ := by
  obtain ⟨cd, c1, c2, c3⟩ := T.cl
  unfold asgF
  refine plainObj_wpAny_Assign_Attribute (hs := hsw) ?_
  refine wpAny_Name (wpAny_loadName_local hk k2 hn ha ?_) hd
  refine wpAny_Name (wpAny_loadName_local hk k1 hn hs ?_) (by decide)
  refine set_plain X (ox := excO C t1) (od := none) ⟨hx, rfl, rfl, trivial⟩ T.sa ?_
  exact err_new X hx c1 c2 c3 no fun h' tk' dx kp dn dne hx' hns => hq h' tk' dx kp dn dne hx' hns
/-- .. a further one -/
theorem asg_old (T : ErrCls prog K C D fI q st) {env : Env} {L x dx t1 : Addr} {m m0 : Str → Option Value} {nl : List Str} {f a : Str} {q1 q2 q3 q4 : Pos} {v : Value} {Q : Flow → Shared → Prop} (X : K.In h) (hx : h.get? x = some { cls := .ref C, dict := some dx, data := .fields #[.ref t1, .none, .none, .none, .bool false, .none] }) (hns : h.Ns1 dx m0) (hw : Within m0 nl) (hz : nl.length ≤ 1000) (hn : h.Ns env.locals m) (hs : m "self" = some (.ref x)) (ha : m a = some v)
    (hk : env.scope.kind = .function) (k1 : env.kindOf "self" = some .local) (k2 : env.kindOf a = some .local) (hd : (a == ("__debug__" : Str)) = false) (no : findIn K (.ref C) f = some none) (hsw : swapsWith (.Name a q3) (some (.Attribute (.Name "self" q1) f q2)) q4.line env = pure false)
    (hq : ∀ h' tk, (∀ b o, b ≠ dx → h.get? b = some o → h'.get? b = some o) → h'.Ns1 dx (fun y => if y = f then some v else m0 y) → Q .next ⟨h', g, d, tk, os⟩) :
    wpAny (model prog w) A (exec (asgF f a q1 q2 q3 q4) env) Q E ⟨h, g, d, t, os⟩ := by
  obtain ⟨cd, c1, c2, c3⟩ := T.cl
  obtain ⟨oD, esD, epD, hoD, hdD, _⟩ := hns.count hw
  unfold asgF
  refine plainObj_wpAny_Assign_Attribute (hs := hsw) ?_
  refine wpAny_Name (wpAny_loadName_local hk k2 hn ha ?_) hd
  refine wpAny_Name (wpAny_loadName_local hk k1 hn hs ?_) (by decide)
  refine set_plain X (ox := { cls := .ref C, dict := some dx, data := .fields #[.ref t1, .none, .none, .none, .bool false, .none] }) (od := some oD) ⟨hx, rfl, rfl, hoD⟩ T.sa ?_
  exact err_old X hx hns hw hz c1 c2 c3 no fun h' tk' kp hns' => hq h' tk' kp hns'
/-- the whole of an __init__: super().__init__(txt), then the rest -/
theorem err_init (T : ErrCls prog K C D fI q st) {txt : Str} {j : Nat} {p0 p1 p2 p3 p4 p5 : Pos} (IE : IniEnv q st txt j p0 p1 p2 p3 p4 p5) {rest : List Stmt} {s : Shared} {x t0 : Addr} {vals : List Value} {binds : List (Str × Value)} {mg mb : Str → Option Value} {m : Str → Option Value}
    (hbody : L2.defBody st = supS txt j p0 p1 p2 p3 p4 p5 :: rest) (X : K.In s.heap) (hlim : s.heap.NoLimit) (hg : s.heap.Ns mainGlobals mg) (hb : s.heap.Ns builtinsNs mb) (hsg : mg "super" = none) (hsb : mb "super" = some (.type "super"))
    (hx : s.heap.get? x = some (excO C t0)) (hnx : K.lookup x = none) (hroom : A.depth < recursionLimit) (hbind : ∀ fd : FuncData, fd.params = L2.defArgs st → fd.defaults = .none → fd.kwdefaults = .none → fd.scope = L2.defScope st → BindsTo s fd ⟨.ref x :: vals, []⟩ binds)
    (hloc : ∀ y ∈ binds, (L2.defScope st).names.lookup y.1 = some .local) (hm : ∀ y, binds.reverse.lookup y = m y) (hms : m "self" = some (.ref x))
    (hrest : ∀ (cda cc : Addr) (h1 : Heap) (tk : Nat) (t1 : Addr) (E : Value → Shared → Prop) (Q : Flow → Shared → Prop), K.In h1 → h1.get? x = some (excO C t1) → h1.Ns s.heap.objs.size m → (∀ b o, b ≠ x → s.heap.get? b = some o → h1.get? b = some o) → s.heap.objs.size < h1.objs.size →
      (∀ h' tk, R (.ok (.ret .none)) ⟨h', s.gens, s.drawn, tk, s.os⟩ → Q .next ⟨h', s.gens, s.drawn, tk, s.os⟩) →
      wpAny (model prog w) (A.deeper (ksEnv q (L2.defScope st) s.heap.objs.size fI (.ref cda) cc)) (execs rest (ksEnv q (L2.defScope st) s.heap.objs.size fI (.ref cda) cc)) Q E ⟨h1, s.gens, s.drawn, tk, s.os⟩) :
    codeAny (model prog w) A (.call (.ref fI) ⟨.ref x :: vals, []⟩) R s := by
  obtain ⟨oc, ccl, cl, od, an, cdd, cld, doc, pm, ct, osl, ccs, csl, cda, cc, vs, file, tf, fl, fcd, fc, fv, ff, fe⟩ := T.fn
  refine ks_codeAny_call_defAt (fd := ksFn "__init__" q (L2.defArgs st) (L2.defBody st) (L2.defScope st) .none .none doc pm an (.ref cda) ct cc) (body := L2.defBody st) (binds := binds) hroom (X _ _ fl) rfl hlim (codeRec_of X fcd) rfl (hbind _ rfl rfl rfl rfl) IE.hcell hloc (fun h0 hns kp => ?_) IE.hco IE.hgen IE.hk
  have X0 : K.In h0 := X.keeps kp
  have hnm : h0.Ns s.heap.objs.size m := by
    have e : (fun y => binds.reverse.lookup y) = m := funext hm
    rw [← e]; exact hns
  rw [hbody]
  show _root_.PySem.wpAt _ (A.deeper (ksEnv q (L2.defScope st) s.heap.objs.size fI (.ref cda) cc)) _ (execs _ (ksEnv q (L2.defScope st) s.heap.objs.size fI (.ref cda) cc)) _ _ _
  refine ks_wpAt_execs_cons ?_
  refine super_stmt T fl fc fv ff fe X0 (hg.keeps kp) (hb.keeps kp) hsg hsb hnm hms (kp _ _ hx) IE.hk IE.hks IE.hkc IE.hka IE.har (IE.hint _ _ _ _) (IE.hsw _ _ _ _) (IE.he _ _ _ _) (IE.hev _ _ _ _) fun h1 tk SE => ?_
  obtain ⟨t1, hx1⟩ := SE.ob
  have hLx : s.heap.objs.size ≠ x := Nat.ne_of_gt (Heap.lt_size hx)
  have hn1 : h1.Ns s.heap.objs.size m := by
    obtain ⟨o, es, ep, ho, r⟩ := hnm
    exact ⟨o, es, ep, SE.keep _ _ hLx ho, r⟩
  refine wpAt_of_wpAny (hrest cda cc h1 tk t1 _ _ (kIn_but X0 hnx SE.keep) hx1 hn1 (fun b o hb e => SE.keep b o hb (kp b o e)) hn1.lt fun h' tk r => ?_)
  exact r
end

section
variable {prog : Program} {w : World} {A : Around} {E : Value → Shared → Prop} {R : Result → Shared → Prop} {K : Frag} {C D fI : Addr} {q : Str} {st : Stmt} {s : Shared}
theorem err_tail (D : Addr) (X : String) : (errTail D).contains (.type X) = [Value.type "Exception", .type "BaseException", .type "object"].contains (.type X) := by
  show (.ref D :: [Value.type "Exception", .type "BaseException", .type "object"]).contains (Value.type X) = _
  rw [List.contains_cons]
  rfl
/-- one field -/
structure Err1 (prog : Program) (K : Frag) (C D fI : Addr) (q : Str) (st : Stmt) (f : Str) : Prop where
  T : ErrCls prog K C D fI q st
  ini : ∃ txt j p0 p1 p2 p3 p4 p5 q1 q2 q3 q4, IniEnv q st txt j p0 p1 p2 p3 p4 p5 ∧ L2.defBody st = [supS txt j p0 p1 p2 p3 p4 p5, asgF f f q1 q2 q3 q4] ∧
    (∀ L fI cda cc, swapsWith (.Name f q3) (some (.Attribute (.Name "self" q1) f q2)) q4.line (ksEnv q (L2.defScope st) L fI (.ref cda) cc) = pure false)
  bnd : ∀ (fd : FuncData) (u v : Value), fd.params = L2.defArgs st → fd.defaults = .none → fd.kwdefaults = .none → fd.scope = L2.defScope st → bindArgs fd ⟨[u, v], []⟩ = pure [(("self" : Str), u), (f, v)]
  lf : (L2.defScope st).names.lookup f = some .local
  nf : findIn K (.ref C) f = some none
  ne : (f == ("self" : Str)) = false
  nd : (f == ("__debug__" : Str)) = false
/-- two fields -/
structure Err2 (prog : Program) (K : Frag) (C D fI : Addr) (q : Str) (st : Stmt) (f f2 : Str) : Prop where
  T : ErrCls prog K C D fI q st
  ini : ∃ txt j p0 p1 p2 p3 p4 p5 q1 q2 q3 q4 r1 r2 r3 r4, IniEnv q st txt j p0 p1 p2 p3 p4 p5 ∧ L2.defBody st = [supS txt j p0 p1 p2 p3 p4 p5, asgF f f q1 q2 q3 q4, asgF f2 f2 r1 r2 r3 r4] ∧
    (∀ L fI cda cc, swapsWith (.Name f q3) (some (.Attribute (.Name "self" q1) f q2)) q4.line (ksEnv q (L2.defScope st) L fI (.ref cda) cc) = pure false) ∧
    (∀ L fI cda cc, swapsWith (.Name f2 r3) (some (.Attribute (.Name "self" r1) f2 r2)) r4.line (ksEnv q (L2.defScope st) L fI (.ref cda) cc) = pure false)
  bnd : ∀ (fd : FuncData) (u v w : Value), fd.params = L2.defArgs st → fd.defaults = .none → fd.kwdefaults = .none → fd.scope = L2.defScope st → bindArgs fd ⟨[u, v, w], []⟩ = pure [(("self" : Str), u), (f, v), (f2, w)]
  lf : (L2.defScope st).names.lookup f = some .local
  lf2 : (L2.defScope st).names.lookup f2 = some .local
  nf : findIn K (.ref C) f = some none
  nf2 : findIn K (.ref C) f2 = some none
  ne : (("self" : Str) == f) = false
  ne2 : (("self" : Str) == f2) = false
  neq : (f == f2) = false
  nd : (f == ("__debug__" : Str)) = false
  nd2 : (f2 == ("__debug__" : Str)) = false
variable {f f2 : Str}
/-- the class is called: the error is laid, then its __init__ -/
theorem err_call (T : ErrCls prog K C D fI q st) {rest : List Value} (X : K.In s.heap) (hz : rest.length ≤ sizeLine)
    (hq : ∀ h1 : Heap, (∀ b o, s.heap.get? b = some o → h1.get? b = some o) → h1.get? (s.heap.objs.size + 1) = some (excO C s.heap.objs.size) → K.lookup (s.heap.objs.size + 1) = none → h1.objs.size = s.heap.objs.size + 2 →
      codeAny (model prog w) (A.under (.builtin "type.__call__" ⟨.ref C :: rest, []⟩)) (.call (.ref fI) ⟨.ref (s.heap.objs.size + 1) :: rest, []⟩) (InitBack (s.heap.objs.size + 1) R) { s with heap := h1 }) :
    codeAny (model prog w) A (.call (.ref C) ⟨rest, []⟩) R s := by
  obtain ⟨nm, qq, N, bs, sn, sub, ab, col, dd, k0, k1, k2, k3, k5, hC⟩ := T.cls
  obtain ⟨hp, g, dr, tk, os⟩ := s
  have kp : ∀ b o, hp.get? b = some o → ((hp.push (kdv_tup rest)).push (excO C hp.objs.size)).get? b = some o := fun b o e => Heap.get?_push_of_some _ (Heap.get?_push_of_some _ e)
  have ge : ((hp.push (kdv_tup rest)).push (excO C hp.objs.size)).get? (hp.objs.size + 1) = some (excO C hp.objs.size) := by heap_get
  have no : K.lookup (hp.objs.size + 1) = none := by
    cases e : K.lookup (hp.objs.size + 1) with
    | none => rfl
    | some o => exact absurd (Nat.lt_of_succ_lt (Heap.lt_size (show hp.get? (hp.objs.size + 1) = some o from X _ _ e))) (Nat.lt_irrefl _)
  have sz : ((hp.push (kdv_tup rest)).push (excO C hp.objs.size)).objs.size = hp.objs.size + 2 := by rw [Heap.size_push, Heap.size_push]
  exact call_own F.excBase_Exception (err_tail D) (X _ _ hC) (looks_findIn X T.iC) (fun self => bind_fn X self T.tC) hz (hq _ kp ge no sz)
theorem err1_made (T : Err1 prog K C D fI q st f) {v : Value} {mg mb : Str → Option Value} (X : K.In s.heap) (hlim : s.heap.NoLimit) (hg : s.heap.Ns mainGlobals mg) (hb : s.heap.Ns builtinsNs mb) (hsg : mg "super" = none) (hsb : mb "super" = some (.type "super")) (hroom : A.depth + 1 < recursionLimit)
    (hq : ∀ h' tk e d, ErrMade s.heap h' e C d (fun y => if y = f then some v else none) → R (.ok (.ret (.ref e))) { s with heap := h', toks := tk }) : codeAny (model prog w) A (.call (.ref C) ⟨[v], []⟩) R s := by
  obtain ⟨txt, j, p0, p1, p2, p3, p4, p5, q1, q2, q3, q4, IE, hbody, hsw⟩ := T.ini
  refine err_call T.T X (by rw [sizeLine_eq]; show 1 ≤ 16777216; decide) fun h1 kp ge no sz => ?_
  refine err_init (m := fun y => if y = f then some v else if y = "self" then some (.ref (s.heap.objs.size + 1)) else none) T.T IE hbody (X.keeps kp) (hlim.keeps kp) (hg.keeps kp) (hb.keeps kp) hsg hsb ge no (by show A.depth + 1 < recursionLimit; exact hroom)
    (fun fd e1 e2 e3 e4 => .of_eq (T.bnd fd _ _ e1 e2 e3 e4)) (fun y hy => ?_) (fun y => ?_) ?_ fun cda cc h2 tk t1 E Q X2 hx2 hn2 kp2 lt2 back => ?_
  · rcases List.mem_cons.mp hy with rfl | hy
    · exact IE.hka
    · rcases List.mem_cons.mp hy with rfl | hy
      · exact T.lf
      · cases hy
  · show List.lookup y [(f, v), (("self" : Str), Value.ref (s.heap.objs.size + 1))] = _
    simp only [List.lookup]
    by_cases z : y = f
    · subst z; simp
    · have z' : (y == f) = false := by simpa using z
      rw [z', if_neg z]
      by_cases z2 : y = "self"
      · subst z2; simp
      · have z3 : (y == ("self" : Str)) = false := by simpa using z2
        rw [z3, if_neg z2]
  · have z : ¬ (("self" : Str) = f) := fun e => by
      have := T.ne
      rw [← e] at this
      simp at this
    show (if ("self" : Str) = f then some v else if ("self" : Str) = "self" then some (Value.ref (s.heap.objs.size + 1)) else none) = _
    rw [if_neg z, if_pos rfl]
  · refine wpAny_execs_cons (asg_new T.T (L := 0) X2 hx2 hn2 ?_ (v := v) ?_ IE.hk IE.hka T.lf T.nd T.nf (hsw _ _ _ _) fun h3 tk3 dx kp3 dn dne hx3 hns3 => ?_)
    · have z : ¬ (("self" : Str) = f) := fun e => by
        have := T.ne
        rw [← e] at this
        simp at this
      show (if ("self" : Str) = f then some v else if ("self" : Str) = "self" then some (Value.ref (s.heap.objs.size + 1)) else none) = _
      rw [if_neg z, if_pos rfl]
    · show (if f = f then some v else _) = _
      rw [if_pos rfl]
    · refine wpAny_execs_nil (back h3 tk3 ⟨rfl, hq h3 tk3 (s.heap.objs.size + 1) dx ⟨fun b o e => ?_, Nat.le_succ _, ⟨_, _, hx3, rfl, rfl, rfl, rfl⟩, ?_, dne, hns3⟩⟩)
      · have hb : b ≠ s.heap.objs.size + 1 := Nat.ne_of_lt (Nat.lt_succ_of_lt (Heap.lt_size e))
        exact kp3 b o hb (kp2 b o hb (kp b o e))
      · have : s.heap.objs.size + 2 < h2.objs.size := by rw [← sz]; exact lt2
        omega
theorem err2_made (T : Err2 prog K C D fI q st f f2) {v v2 : Value} {mg mb : Str → Option Value} (X : K.In s.heap) (hlim : s.heap.NoLimit) (hg : s.heap.Ns mainGlobals mg) (hb : s.heap.Ns builtinsNs mb) (hsg : mg "super" = none) (hsb : mb "super" = some (.type "super")) (hroom : A.depth + 1 < recursionLimit)
    (hq : ∀ h' tk e d, ErrMade s.heap h' e C d (fun y => if y = f2 then some v2 else if y = f then some v else none) → R (.ok (.ret (.ref e))) { s with heap := h', toks := tk }) : codeAny (model prog w) A (.call (.ref C) ⟨[v, v2], []⟩) R s := by
  obtain ⟨txt, j, p0, p1, p2, p3, p4, p5, q1, q2, q3, q4, r1, r2, r3, r4, IE, hbody, hsw, hsw2⟩ := T.ini
  have n1 : ¬ (("self" : Str) = f) := fun e => by have z := T.ne; rw [← e] at z; simp at z
  have n2 : ¬ (("self" : Str) = f2) := fun e => by have z := T.ne2; rw [← e] at z; simp at z
  have n3 : ¬ (f = f2) := fun e => by have z := T.neq; rw [← e] at z; simp at z
  refine err_call T.T X (by rw [sizeLine_eq]; show 2 ≤ 16777216; decide) fun h1 kp ge no sz => ?_
  refine err_init (m := fun y => if y = f2 then some v2 else if y = f then some v else if y = "self" then some (.ref (s.heap.objs.size + 1)) else none) T.T IE hbody (X.keeps kp) (hlim.keeps kp) (hg.keeps kp) (hb.keeps kp) hsg hsb ge no (by show A.depth + 1 < recursionLimit; exact hroom)
    (fun fd e1 e2 e3 e4 => .of_eq (T.bnd fd _ _ _ e1 e2 e3 e4)) (fun y hy => ?_) (fun y => ?_) ?_ fun cda cc h2 tk t1 E Q X2 hx2 hn2 kp2 lt2 back => ?_
  · rcases List.mem_cons.mp hy with rfl | hy
    · exact IE.hka
    · rcases List.mem_cons.mp hy with rfl | hy
      · exact T.lf
      · rcases List.mem_cons.mp hy with rfl | hy
        · exact T.lf2
        · cases hy
  · show List.lookup y [(f2, v2), (f, v), (("self" : Str), Value.ref (s.heap.objs.size + 1))] = _
    simp only [List.lookup]
    by_cases z0 : y = f2
    · subst z0; simp
    · have z0' : (y == f2) = false := by simpa using z0
      rw [z0', if_neg z0]
      by_cases z : y = f
      · subst z; simp
      · have z' : (y == f) = false := by simpa using z
        rw [z', if_neg z]
        by_cases z2 : y = "self"
        · subst z2; simp
        · have z3 : (y == ("self" : Str)) = false := by simpa using z2
          rw [z3, if_neg z2]
  · show (if ("self" : Str) = f2 then some v2 else if ("self" : Str) = f then some v else if ("self" : Str) = "self" then some (Value.ref (s.heap.objs.size + 1)) else none) = _
    rw [if_neg n2, if_neg n1, if_pos rfl]
  · refine wpAny_execs_cons (asg_new T.T (L := 0) X2 hx2 hn2 ?_ (v := v) ?_ IE.hk IE.hka T.lf T.nd T.nf (hsw _ _ _ _) fun h3 tk3 dx kp3 dn dne hx3 hns3 => ?_)
    · show (if ("self" : Str) = f2 then some v2 else if ("self" : Str) = f then some v else if ("self" : Str) = "self" then some (Value.ref (s.heap.objs.size + 1)) else none) = _
      rw [if_neg n2, if_neg n1, if_pos rfl]
    · show (if f = f2 then some v2 else if f = f then some v else _) = _
      rw [if_neg n3, if_pos rfl]
    · have hLx : s.heap.objs.size ≠ s.heap.objs.size + 1 := by omega
      have X3 : K.In h3 := kIn_but X2 no kp3
      have hn3 := hn2
      obtain ⟨oL, es, ep, hoL, rL⟩ := hn2
      refine wpAny_execs_cons (asg_old T.T (L := 0) X3 hx3 hns3 (nl := [f]) (Within.cons f v Within.nil) (by show 1 ≤ 1000; decide) ⟨oL, es, ep, kp3 _ _ ?_ hoL, rL⟩ ?_ (v := v2) ?_ IE.hk IE.hka T.lf2 T.nd2 T.nf2 (hsw2 _ _ _ _) fun h4 tk4 kp4 hns4 => ?_)
      · show h1.objs.size ≠ s.heap.objs.size + 1
        rw [sz]
        exact fun z => absurd z (by simp)
      · show (if ("self" : Str) = f2 then some v2 else if ("self" : Str) = f then some v else if ("self" : Str) = "self" then some (Value.ref (s.heap.objs.size + 1)) else none) = _
        rw [if_neg n2, if_neg n1, if_pos rfl]
      · show (if f2 = f2 then some v2 else _) = _
        rw [if_pos rfl]
      · have big : s.heap.objs.size + 2 < h2.objs.size := by rw [← sz]; exact lt2
        have dn2 : h2.objs.size ≤ dx := dn
        refine wpAny_execs_nil (back h4 tk4 ⟨rfl, hq h4 tk4 (s.heap.objs.size + 1) dx ⟨fun b o e => ?_, Nat.le_succ _, ⟨_, _, kp4 _ _ dne.symm hx3, rfl, rfl, rfl, rfl⟩, ?_, dne, hns4⟩⟩)
        · have lb : b < s.heap.objs.size := Heap.lt_size e
          have hb1 : b ≠ s.heap.objs.size + 1 := Nat.ne_of_lt (Nat.lt_succ_of_lt lb)
          have hb2 : b ≠ dx := Nat.ne_of_lt (Nat.lt_of_lt_of_le (Nat.lt_trans (Nat.lt_add_right 2 lb) big) dn2)
          exact kp4 b o hb2 (kp3 b o hb1 (kp2 b o hb1 (kp b o e)))
        · exact Nat.le_trans (Nat.le_trans (Nat.le_add_right _ 2) (Nat.le_of_lt big)) dn2
end
end Py
end
section
set_option Elab.async false
set_option linter.all false
set_option maxRecDepth 100000
set_option maxHeartbeats 400000
/-! raise, try .. except X as n, n.field: over pure data. -/
namespace Py
open PySem PySem.Spec PyProof.Rows L2

/-! ### raise X(e), X(e, e') -/
/-- fields by name, values as data -/
theorem relO_fs {vs : List V} {us : List Value} : ∀ (ns : List Str), ns.length = vs.length → Vals vs us → ∀ f, RelO (List.lookup f (ns.zip vs)) (List.lookup f (ns.zip us)) := by
  induction vs generalizing us with
  | nil =>
    intro ns h r f
    cases r
    cases ns with
    | nil => exact trivial
    | cons n ns => cases h
  | cons v vs ih =>
    intro ns h r f
    cases r with
    | cons r1 r2 =>
      cases ns with
      | nil => cases h
      | cons n ns =>
        show RelO (List.lookup f ((n, v) :: ns.zip vs)) (List.lookup f ((n, _) :: ns.zip _))
        simp only [List.lookup]
        by_cases z : f = n
        · subst z
          simp only [beq_self_eq_true]
          exact r1
        · have z' : (f == n) = false := by simpa using z
          simp only [z']
          exact ih ns (Nat.succ.inj h) r2 f
/-- what stands behind a made error: the exception and its own dict -/
theorem made_inv {X : Cx} {pins : List (Addr × Obj)} {σ : L2.St} {H1 : Hp} {hp h' : Heap} {g : Array GenState} {dr : Drawn} {tk tk' : Nat} {os : OsState} {C e d : Addr} {m : Str → Option Value} {fs : List (Str × V)} {Q : XK} (I1 : Inv X pins σ H1 ⟨hp, g, dr, tk, os⟩)
    (M : ErrMade hp h' e C d m) (rel : ∀ f, RelO (fs.lookup f) (m f)) (hr : Raises X (.ref C)) (q : ∀ d, H1 d = none → Q (.ref C) (some d) (upd H1 d (.xd fs))) : MkP X pins σ Q (.ref e) ⟨h', g, dr, tk', os⟩ := by
  obtain ⟨oe, fv, hoe, hc, hd, hdat, h1⟩ := M.obj
  obtain ⟨G', g1, g2⟩ := restrict h' fun b => decide (b ≠ e)
  have gk : ∀ b, b ≠ e → G'.get? b = h'.get? b := fun b hb => g1 b (decide_eq_true hb)
  have ge : G'.get? e = none := g2 e (by simp)
  have old : ∀ b o, hp.get? b = some o → G'.get? b = some o := fun b o z => by
    rw [gk b (Nat.ne_of_lt (Nat.lt_of_lt_of_le (Heap.lt_size z) M.new))]
    exact M.keep b o z
  have ob : ObjOk X.prog X.w (upd H1 d (.xd fs)) G' d (.xd fs) := ⟨m, M.ns.at (fun o z => by rw [gk d M.dne]; exact z), rel⟩
  have J : Inv X pins σ (upd H1 d (.xd fs)) ⟨G', g, dr, tk', os⟩ := I1.laid (t' := tk') old M.dbig ob
  refine ⟨e, oe, fv, ⟨G', g, dr, tk', os⟩, _, .ref C, some d, rfl, J, fun b o z => ?_, ge, hoe, ⟨hc, hd⟩, hdat, h1, ?_, rfl, I1.bare, hr, q d (I1.hok.fresh M.dbig)⟩
  · by_cases hb : b = e
    · have z' : G'.get? b = some o := z
      rw [hb, ge] at z'; cases z'
    · rw [← gk b hb]; exact z
  · rw [upd_ne (Ne.symm M.dne)]
    exact I1.hok.fresh M.new
/-- what a raise wants of an error's class: its name, its facts -/
structure ErrN1 (prog : Program) (K : PySem.W.Frag) (mg : Str → Option Value) (x : Str) (C : Addr) (f : Str) : Prop where
  gC : mg x = some (.ref C)
  er : ∃ D fI q st, Err1 prog K C D fI q st f
  sg : mg "super" = none
structure ErrN2 (prog : Program) (K : PySem.W.Frag) (mg : Str → Option Value) (x : Str) (C : Addr) (f f2 : Str) : Prop where
  gC : mg x = some (.ref C)
  er : ∃ D fI q st, Err2 prog K C D fI q st f f2
  sg : mg "super" = none
@[simp] def pRaise (C : Addr) (ns : List Str) (p : PAx) : PSm := fun P sl S => dats p sl S (fun ds S1 => ds.length = ns.length ∧ P.ex ⟨C, ns, ds⟩ sl S1) (fun x S1 => P.ex x sl S1)
def tMkE (C : Addr) (ns : List Str) (ta : TA) : L2.St → Hp → XK → Prop := fun σ H Q => ta σ H fun vs H1 => ns.length = vs.length ∧ ∀ d, H1 d = none → Q (.ref C) (some d) (upd H1 d (.xd (ns.zip vs)))
theorem rd_raise {K : PySem.W.Frag} {W : WX} {C : Addr} {ns : List Str} {p : PAx} (D : Ends) (σ : L2.St) (H : Hp) (h : rdS K W (pRaise C ns p) D σ H) : tMkE C ns (rdA K W p) σ H fun cls d H' => W cls d σ H' := by
  obtain ⟨g, F, sl, S, P, rel, hp, lk⟩ := h
  refine rdA_dats rel hp (lk.exc sl σ) fun ds S1 vs H1 F1 s1 rel1 rl ⟨hl, h1⟩ => ⟨by rw [rl.length, hl], fun d hd => ?_⟩
  have hf := rel1.cor.free hd
  exact lk.ex ⟨C, ns, ds⟩ sl S1 (some d) σ _ _ (s1.f.trans (Same.upd_new hf)) (rel1.allocF hd) ⟨d, vs, rfl, upd_same, by rw [rl.length]; exact hl.symm, rl.mono (Same.upd_new hf)⟩ h1
section
variable {X : Cx} {W : WX} {x : Str} {C : Addr} {f f2 : Str} {a b : Expr} {ta : TA} {p : PAx} {k : Nat} {pn pos pos2 : Pos}
theorem two_super {mb : Str → Option Value} (h : ∀ x : Str, x ≠ "__name__" → mb x = bootBuiltins x) : mb "super" = some (.type "super") := (h "super" (by decide)).trans (by decide +kernel)
theorem look1 {f g' : Str} {u : Value} : List.lookup g' ([f].zip [u]) = if g' = f then some u else none := by
  show List.lookup g' [(f, u)] = _
  simp only [List.lookup]
  by_cases z : g' = f
  · subst z; simp
  · have z' : (g' == f) = false := by simpa using z
    rw [z', if_neg z]
theorem look2 {f f2 g' : Str} {u u2 : Value} (nq : f ≠ f2) : List.lookup g' ([f, f2].zip [u, u2]) = if g' = f2 then some u2 else if g' = f then some u else none := by
  show List.lookup g' [(f, u), (f2, u2)] = _
  simp only [List.lookup]
  by_cases z : g' = f
  · subst z
    rw [if_neg nq, if_pos rfl]
    simp
  · have z' : (g' == f) = false := by simpa using z
    rw [z']
    by_cases z2 : g' = f2
    · subst z2; simp
    · have z3 : (g' == f2) = false := by simpa using z2
      rw [z3, if_neg z2, if_neg z]
/-- the call of the class, in a def -/
theorem run_e1 {pins : List (Addr × Obj)} {σ : L2.St} {H1 : Hp} {s1 : Shared} {Q : XK} {v : V} {u : Value} {D fI : Addr} {q : Str} {st : Stmt} (T : Err1 X.prog X.K C D fI q st f) (sg : X.mg "super" = none) (hr : Room k X.A) (I1 : Inv X pins σ H1 s1) (r : RelV v u)
    (q1 : ∀ d, H1 d = none → Q (.ref C) (some d) (upd H1 d (.xd ([f].zip [v])))) : wpAny (model X.prog X.w) X.A (call (.ref C) [u]) (MkP X pins σ Q) X.xe s1 := by
  have hlim := I1.nolimit
  obtain ⟨mb, hb1, hb2⟩ := I1.mod.blt
  have hg1 := I1.mod.glob.keeps I1.bk
  have hbk := hb1.keeps I1.bk
  have kin := I1.kIn
  have hd : X.A.depth + 1 < recursionLimit := by have := hr.dp; omega
  refine wpAny_call (err1_made (v := u) T kin hlim hg1 hbk sg (two_super hb2) hd fun h' tk' e d M => ?_)
  obtain ⟨hp, gg, dr, tk, os⟩ := s1
  refine made_inv I1 M (fs := [f].zip [v]) (fun g' => ?_) (raises_own T.T.exC T.T.tyC) q1
  have := relO_fs [f] rfl (.cons r .nil) g'
  rw [look1] at this
  exact this
theorem run_e2 {pins : List (Addr × Obj)} {σ : L2.St} {H1 : Hp} {s1 : Shared} {Q : XK} {v v2 : V} {u u2 : Value} {D fI : Addr} {q : Str} {st : Stmt} (T : Err2 X.prog X.K C D fI q st f f2) (sg : X.mg "super" = none) (hr : Room k X.A) (I1 : Inv X pins σ H1 s1) (r : RelV v u) (r2 : RelV v2 u2)
    (q1 : ∀ d, H1 d = none → Q (.ref C) (some d) (upd H1 d (.xd ([f, f2].zip [v, v2])))) : wpAny (model X.prog X.w) X.A (call (.ref C) [u, u2]) (MkP X pins σ Q) X.xe s1 := by
  have hlim := I1.nolimit
  obtain ⟨mb, hb1, hb2⟩ := I1.mod.blt
  have hg1 := I1.mod.glob.keeps I1.bk
  have hbk := hb1.keeps I1.bk
  have kin := I1.kIn
  have hd : X.A.depth + 1 < recursionLimit := by have := hr.dp; omega
  have nq : f ≠ f2 := fun z => by
    have y := T.neq
    rw [z] at y
    simp at y
  refine wpAny_call (err2_made (v := u) (v2 := u2) T kin hlim hg1 hbk sg (two_super hb2) hd fun h' tk' e d M => ?_)
  obtain ⟨hp, gg, dr, tk, os⟩ := s1
  refine made_inv I1 M (fs := [f, f2].zip [v, v2]) (fun g' => ?_) (raises_own T.T.exC T.T.tyC) q1
  have := relO_fs [f, f2] rfl (.cons r (.cons r2 .nil)) g'
  rw [look2 nq] at this
  exact this
theorem pmk_e1 (N : ErrN1 X.prog X.K X.mg x C f) (hr : Room k X.A) (ha : PA X [a] ta) (hg : Gl X x := by rfl) (hdb : (x == ("__debug__" : Str)) = false := by decide) (he : starEach (a :: []) X.env = (false, eval a X.env) :: starEach [] X.env := by rfl) (hpl : (backTo pos (starEach [] X.env)).any (·.1) = false := by rfl) :
    PMk X (.Call (.Name x pn) [a] [] pos) (tMkE C [f] ta) := by
  obtain ⟨gC, ⟨D, fI, q, st, T⟩, sg⟩ := N
  intro pins s σ H Q I h
  refine wpAny_Call_Name_kw (ld_glob I hg gC ?_ hdb)
  refine PySem.W.callWith_K (h₀ := X.base) I.ok.mod.kin T.T.kC (thn (ha.run pos pins s σ H _ I h) fun us s1 hh => ?_) he hpl
  obtain ⟨vs, H1, I1, r1, hl, q1⟩ := hh
  refine ⟨I1.kIn, ?_⟩
  cases r1 with
  | nil => cases hl
  | cons r rr =>
    cases rr with
    | nil => exact run_e1 T sg hr I1 r q1
    | cons _ _ => simp at hl
theorem ss_raise1 (N : ErrN1 X.prog X.K X.mg x C f) (hc : X.calm = true) (hr : Room k X.A) (tk : Takes X W) (ha : SA X W [a] p) (hg : Gl X x := by rfl) (hdb : (x == ("__debug__" : Str)) = false := by decide) (he : starEach (a :: []) X.env = (false, eval a X.env) :: starEach [] X.env := by rfl) (hpl : (backTo pos (starEach [] X.env)).any (·.1) = false := by rfl) :
    SS X W (.Raise (some (.Call (.Name x pn) [a] [] pos)) none pos2) (pRaise C [f] p) := ⟨PS.imp (ps_raise hc tk (pmk_e1 N hr ha.pa hg hdb he hpl)) rd_raise⟩
theorem pmk_e2 (N : ErrN2 X.prog X.K X.mg x C f f2) (hr : Room k X.A) (ha : PA X [a, b] ta) (hg : Gl X x := by rfl) (hdb : (x == ("__debug__" : Str)) = false := by decide) (he : starEach (a :: [b]) X.env = (false, eval a X.env) :: starEach [b] X.env := by rfl) (hpl : (backTo pos (starEach [b] X.env)).any (·.1) = false := by rfl) :
    PMk X (.Call (.Name x pn) [a, b] [] pos) (tMkE C [f, f2] ta) := by
  obtain ⟨gC, ⟨D, fI, q, st, T⟩, sg⟩ := N
  intro pins s σ H Q I h
  refine wpAny_Call_Name_kw (ld_glob I hg gC ?_ hdb)
  refine PySem.W.callWith_K (h₀ := X.base) I.ok.mod.kin T.T.kC (thn (ha.run pos pins s σ H _ I h) fun us s1 hh => ?_) he hpl
  obtain ⟨vs, H1, I1, r1, hl, q1⟩ := hh
  refine ⟨I1.kIn, ?_⟩
  cases r1 with
  | nil => cases hl
  | cons r rr =>
    cases rr with
    | nil => simp at hl
    | cons r2 rr =>
      cases rr with
      | nil => exact run_e2 T sg hr I1 r r2 q1
      | cons _ _ => simp at hl
theorem ss_raise2 (N : ErrN2 X.prog X.K X.mg x C f f2) (hc : X.calm = true) (hr : Room k X.A) (tk : Takes X W) (ha : SA X W [a, b] p) (hg : Gl X x := by rfl) (hdb : (x == ("__debug__" : Str)) = false := by decide) (he : starEach (a :: [b]) X.env = (false, eval a X.env) :: starEach [b] X.env := by rfl) (hpl : (backTo pos (starEach [b] X.env)).any (·.1) = false := by rfl) :
    SS X W (.Raise (some (.Call (.Name x pn) [a, b] [] pos)) none pos2) (pRaise C [f, f2] p) := ⟨PS.imp (ps_raise hc tk (pmk_e2 N hr ha.pa hg hdb he hpl)) rd_raise⟩
end

/-! ### try .. except X as n -/
def pTry (i : Nat) (C : Addr) (body : PSm) (suite : Addr → Option Addr → PSm) : PSm := fun P sl S => body { P with ex := (fun x sl1 S1 => x.C = C ∧ i < sl1.length ∧ ∀ a d, suite a d { nx := fun sl2 S2 => P.nx (sl2.set i .un) S2, rt := P.rt, bk := fun sl2 S2 => P.bk (sl2.set i .un) S2, ct := fun sl2 S2 => P.ct (sl2.set i .un) S2, ex := fun _ _ _ => False } (sl1.set i (.exc a d x)) S1) } sl S
theorem Rel.exc {K : PySem.W.Frag} {g : G} {F H : Hp} {sl : List Slot} {S : List Int} {σ : L2.St} (r : Rel K g F sl S σ H) {i : Nat} {a : Addr} {d : Option Addr} {x : PX} (hi : i < sl.length) (ex : ExR K F x d) : Rel K g F (sl.set i (.exc a d x)) S (σ.set i (some (.ref a))) H := by
  have hs : i < σ.length := by rw [← r.len]; exact hi
  refine ⟨r.cor, by simpa using r.len, fun j s hj => ?_, fun j k dj dk p hjk h4 h5 h6 h7 => ?_⟩
  · by_cases hij : i = j
    · subst hij
      rw [List.getElem?_set_self hi] at hj
      rw [List.getElem?_set_self hs]
      cases hj
      exact ⟨rfl, ex⟩
    · rw [List.getElem?_set_ne hij] at hj
      rw [List.getElem?_set_ne hij]
      exact r.ok j s hj
  · have base : ∀ (m : Nat) (dm : List D), (sl.set i (Slot.exc a d x))[m]? = some (Slot.own dm) → i ≠ m ∧ sl[m]? = some (Slot.own dm) := fun m dm hm => by
      by_cases z : i = m
      · subst z
        rw [List.getElem?_set_self hi] at hm; cases hm
      · rw [List.getElem?_set_ne z] at hm; exact ⟨z, hm⟩
    obtain ⟨n1, z1⟩ := base j dj h4
    obtain ⟨n2, z2⟩ := base k dk h5
    rw [List.getElem?_set_ne n1] at h6
    rw [List.getElem?_set_ne n2] at h7
    exact r.sep j k dj dk p hjk z1 z2 h6 h7
section
variable {X : Cx} {W : WX} {x n : Str} {C : Addr} {i : Nat} {body suite : List Stmt} {b₀ : Stmt} {np pos pos' : Pos} {pb : PSm} {pc : Addr → Option Addr → PSm}
theorem ss_try (i : Nat) (hs : X.stack = X.env :: X.outer) (hf : X.env.frame = some X.env.locals) (hN : X.N.Nodup) (gC : X.mg x = some (.ref C)) (te : PySem.W.exmOne X.K (.ref C) (.ref C) = some true) (tk : Takes X W)
    (hb : ∀ (W : WX) (pn : List (Addr × Obj)) (xe : Value → Shared → Prop), Takes (X.tr pn xe) W → PassesOwn (model X.prog X.w) X.A X.env xe → SB (X.tr pn xe) W body pb)
    (hsu : ∀ (a : Addr) (oe : Obj) (d : Option Addr) (pn : List (Addr × Obj)), Zc (.ref C) d oe → (∃ vs, oe.data = .fields vs) → SB (X.suite a ((a, oe) :: pn)) W0 (b₀ :: suite) (pc a d))
    (hi : X.N[i]? = some n := by rfl) (hln : X.env.kindOf n = some .local := by rfl) (hg : Gl X x := by rfl) (hdb : (x == ("__debug__" : Str)) = false := by decide) :
    SS X W (.Try body [.ExceptHandler (some (.Name x np)) (some n) (b₀ :: suite) pos'] [] [] pos) (pTry i C pb pc) :=
  ⟨PS.imp (ps_try_as (tb := fun W => rdS X.K W pb) (ts := fun a cls d D σ H => cls = .ref C ∧ rdS X.K W0 (pc a d) D σ H) hs hf hN hi hln ⟨hg, hdb, .inl gC⟩ tk (fun W pn xe t p => (hb W pn xe t p).ps)
      (fun a oe cls d pn hz hf => ⟨fun pins s σ H D I ⟨e, q⟩ => by subst e; exact (hsu a oe d pn hz hf).ps.run pins s σ H D I q⟩)) fun D σ H h => by
    obtain ⟨g, F, sl, S, P, rel, hp, lk⟩ := h
    refine ⟨g, F, sl, S, _, rel, hp, ⟨lk.nx, lk.rt, lk.bk, lk.ct, fun x sl1 S1 d σ1 H1 F1 s1 rel1 er ⟨hC, hl, hq⟩ => ?_⟩⟩
    subst hC
    refine ⟨true, te, fun _ a ha => ⟨rfl, g, F1, _, S1, _, rel1.exc hl er, hq a d, ?_⟩, fun z => by cases z⟩
    exact ⟨fun sl2 S2 σ2 H2 F2 s2 rel2 h2 => lk.nx _ S2 _ H2 F2 (s1.trans s2) (rel2.wipe1 i) h2, fun r S2 v H2 F2 s2 => lk.rt r S2 v H2 F2 (s1.trans s2), fun sl2 S2 σ2 H2 F2 s2 rel2 h2 => lk.bk _ S2 _ H2 F2 (s1.trans s2) (rel2.wipe1 i) h2, fun sl2 S2 σ2 H2 F2 s2 rel2 h2 => lk.ct _ S2 _ H2 F2 (s1.trans s2) (rel2.wipe1 i) h2, fun _ _ _ _ _ _ _ _ _ _ z => z.elim⟩⟩
end
/-! n.f of the caught error n -/
def pExF (i : Nat) (a : Addr) (d : Option Addr) (f : Str) : PEx := fun sl S Q _ => match sl[i]? with
  | some (.exc a' d' x) => a' = a ∧ d' = d ∧ match (x.ns.zip x.ds).lookup f with
    | some v => Q (.dat v) S
    | none => False
  | _ => False
theorem lookup_zip {K : PySem.W.Frag} {F : Hp} {f : Str} {d : D} : ∀ {ns : List Str} {vs : List V} {ds : List D}, RpL K F vs ds → (ns.zip ds).lookup f = some d → ∃ v, (ns.zip vs).lookup f = some v ∧ Rp K F v d
  | [], _, _, _, e => by cases e
  | n :: ns, _, _, .nil, e => by cases e
  | n :: ns, v :: vs, x :: ds, .cons h r, e => by
    simp only [List.zip_cons_cons, List.lookup] at e ⊢
    cases z : (f == n) with
    | true =>
      rw [z] at e
      cases e
      exact ⟨v, rfl, h⟩
    | false =>
      rw [z] at e
      exact lookup_zip r e
theorem se_exf {X : Cx} {a C : Addr} {oe : Obj} {d : Option Addr} {pn : List (Addr × Obj)} {D fI : Addr} {q : Str} {st : Stmt} {f x : Str} {px pos : Pos} {W : WX} (i : Nat) (T : ErrCls X.prog X.K C D fI q st) (nf : PySem.W.findIn X.K (.ref C) f = some none) (hz : Zc (.ref C) d oe) (hf : ∃ vs, oe.data = .fields vs)
    (hN : X.N[i]? = some x := by rfl) (hv : Vis X.env.scope x := by first | exact Or.inl rfl | exact Or.inr (Or.inl rfl) | exact Or.inr (Or.inr rfl)) (hd : (x == ("__debug__" : Str)) = false := by decide) (hcd : (x == ("__classdict__" : Str)) = false := by decide)
    (hb : attributeBase (.Name x px) f X.env (eval (.Name x px) X.env) = eval (.Name x px) X.env := by rfl) : SE (X.suite a ((a, oe) :: pn)) W (.Attribute (.Name x px) f pos) (pExF i a d f) := ⟨by
  refine ⟨fun pins s σ H Q I h => ?_⟩
  obtain ⟨g, F, sl, S, Q', E', rel, hp, post, exc⟩ := h
  unfold pExF at hp
  split at hp
  · rename_i a' d' y e
    obtain ⟨rfl, rfl, hp⟩ := hp
    have so := rel.ok i _ e
    obtain ⟨e1, ex⟩ := so
    have e2 : σ[i]? = some (some (V.ref a')) := by
      cases z : σ[i]? with
      | none => rw [z] at e1; cases e1
      | some o => rw [z] at e1; exact congrArg some e1
    cases e3 : (y.ns.zip y.ds).lookup f with
    | none => rw [e3] at hp; exact hp.elim
    | some v =>
      rw [e3] at hp
      obtain ⟨dd, vs, rfl, ea, hl, rl⟩ := ex
      obtain ⟨w, hw, rw'⟩ := lookup_zip rl e3
      have ev : PE (X.suite a' ((a', oe) :: pn)) (.Name x px) (tVar i) := pe_var (X := X.suite a' ((a', oe) :: pn)) hN hv hd hcd
      refine attr_of hb (thn (ev.run pins s σ H (fun z H1 => z = V.ref a' ∧ H1 = H) I ⟨_, e2, rfl, rfl⟩) fun u s1 hh => ?_)
      obtain ⟨z, H1, I1, rz, rfl, rfl⟩ := hh
      obtain rfl : u = Value.ref a' := rz
      obtain ⟨ha, _⟩ := I1.pin (a', oe) (List.mem_append_left _ List.mem_cons_self)
      obtain ⟨vv, hdd⟩ := hf
      obtain ⟨mA, hns, hr⟩ := (show ObjOk X.prog X.w H1 s1.heap dd (.xd (y.ns.zip vs)) from I1.hok dd _ (rel.cor.fh _ _ ea))
      obtain ⟨od, ho, hl2⟩ := lookIn_ns hns
      obtain ⟨u, hu, ru⟩ := RelO.some_of (v := w) (o := mA f) (by rw [← hw]; exact hr f)
      have J : PySem.W.InstAt s1.heap a' oe C (some od) := ⟨ha, hz.1, by unfold PySem.W.notCls; rw [hdd] <;> rfl, by rw [hz.2]; exact ho⟩
      exact PySem.HandSPX.exc_get I1.kIn J T.ga T.gg T.exC (PySem.W.findObj_own T.hdC nf rfl (by rw [hl2, hu])) (handed_of ru) ⟨w, H1, I1.tok _, ru, post (.dat v) S w H1 F Stp.refl rel rw' trivial hp⟩
  · exact hp.elim⟩
end Py
end
section
set_option Elab.async false
set_option linter.all false
set_option maxRecDepth 100000
set_option maxHeartbeats 400000
/-! The draws, a def without arguments, return of a name, globals; the law. -/
namespace Py
open PySem PySem.Spec PyProof.Rows L2

/-- return x: an own list goes out as a new one -/
@[simp] def pRetN (i : Nat) : PSm := fun P sl S => match sl[i]? with
  | some (.own ds) => P.rt (.own ds) S
  | some (.dat d) => P.rt (.dat d) S
  | _ => False
/-- a module's whole number -/
def GlobI (mg : Str → Option Value) (x : Str) (i : Int) : Prop := ∃ t, mg x = some (.int i t)
section
variable {X : Cx} {W : WX} {x : Str} {e : Expr} {rest : List Stmt} {p : PEx} {q : PSm} {pos px : Pos}
theorem ss_retN (i : Nat) (hN : X.N[i]? = some x := by rfl) (hv : Vis X.env.scope x := by first | exact Or.inl rfl | exact Or.inr (Or.inl rfl) | exact Or.inr (Or.inr rfl)) (hd : (x == ("__debug__" : Str)) = false := by decide)
    (hcd : (x == ("__classdict__" : Str)) = false := by decide) : SS X W (.Return (some (.Name x px)) pos) (pRetN i) := ⟨PS.imp (ps_ret (pe_var hN hv hd hcd)) fun D σ H h => by
  obtain ⟨g, F, sl, S, P, rel, hp, lk⟩ := h
  unfold pRetN at hp
  split at hp
  · rename_i ds e
    obtain ⟨a, vs, h1, h2, h3, h4, rl⟩ := rel.own e
    exact ⟨_, h1, lk.rt (.own ds) S _ H F (Same.refl _) rel.cor ⟨a, vs, rfl, h2, h3, h4, rl⟩ hp⟩
  · rename_i d e
    obtain ⟨v, h1, h2⟩ := rel.dat e
    exact ⟨_, h1, lk.rt (.dat d) S _ H F (Same.refl _) rel.cor h2 hp⟩
  · exact hp.elim⟩
theorem se_globI {i : Int} (h : GlobI X.mg x i) (hg : Gl X x := by rfl) (hd : (x == ("__debug__" : Str)) = false := by decide) : SE X W (.Name x pos) (pC (.int i)) := by
  obtain ⟨t, h⟩ := h
  exact se_glob h hg hd
/-! f() -/
theorem pe_callS0 {CX : CXT} {k : Nat} {f : Addr} {fd : FuncData} {ps : List Str} {sp : Sp} {E : L2.St → XK} {p : Pos} (F : FnOk X.prog X.w X.K X.mg X.base CX k f fd ps sp) (hr : Room k X.A) (hg : Gl X x) (hm : X.mg x = some (.ref f)) (hk : PySem.W.keepIn X.K (.ref f) = true) (hb : Binds X.K fd ps []) (hx : ∀ σ, PassesAt CX X σ (E σ))
    (hdb : (x == ("__debug__" : Str)) = false := by decide) : PE X (.Call (.Name x p) [] [] pos) (fun σ H Q => sp [] H Q (E σ)) := by
  constructor
  intro pins s σ H Q I h
  apply wpAny_Call_Name_kw (ld_glob I hg hm ?_ hdb)
  exact PySem.W.callWith_K0 I.kIn hk (run_fnS (us := []) F hr hb (hx σ) I .nil h)
@[simp] def pCall0 (spec : PSpec) : PEx := fun _ S Q E => spec [] S Q E
theorem se_call0 {k : Nat} {spec : PSpec} {p : Pos} (c : Cal X.prog X.w X.K X.mg X.base k x spec) (hr : Room k X.A) (tk : Takes X W) (hg : Gl X x := by rfl) (hdb : (x == ("__debug__" : Str)) = false := by decide) : SE X W (.Call (.Name x p) [] [] pos) (pCall0 spec) := by
  obtain ⟨f, fd, ps, F, hm, hk, hb⟩ := c.ex
  refine ⟨PE.imp (pe_callS0 F hr hg hm hk hb (fun σ => passAt tk σ) hdb) fun σ H Q h => ?_⟩
  have : tCallS (spOf X.K spec) (WE W) (rdA X.K W pNil) σ H Q := rd_call σ H Q (by
    obtain ⟨g, F, sl, S, Q', E', rel, hp, r⟩ := h
    exact ⟨g, F, sl, S, Q', E', rel, hp, r⟩)
  obtain ⟨g, F, sl, S, Q', E', rel, hp, post, exc⟩ := this
  exact post [] S [] H F Stp.refl rel .nil hp
/-! the draws come: x = e, an own list of ints, from here on the draws -/
def pStrm (i : Nat) (p : PEx) (q : PSm) : PSm := fun P sl S => (∀ s ∈ sl, s = .un ∨ ∃ d, s = .dat d) ∧ i < sl.length ∧
  p sl S (fun r S1 => ∃ ns : List Int, r = .own (ns.map D.int) ∧ q { nx := fun _ _ => False, rt := fun r _ => match r with | .dat d => P.rt (.dat d) S1 | .own ds => P.rt (.own ds) S1 | .drw => False, bk := fun _ _ => False, ct := fun _ _ => False, ex := fun _ _ _ => False } (sl.set i .drw) ns) (fun x S1 => P.ex x sl S1)
theorem rpl_map {K : PySem.W.Frag} {F : Hp} : ∀ {vs : List V} {ns : List Int}, RpL K F vs (ns.map D.int) → vs = ns.map V.int := fun {vs ns} r => rpl_ints r (intsD_map ns)
theorem sb_stream (i : Nat) (he : SE X W e p) (hr : SB X W rest q) (hN : X.N.Nodup) (hi : X.N[i]? = some x := by rfl) (hx : Loc X.env.scope x := by first | exact Or.inl rfl | exact Or.inr rfl) (hf : X.fn x = true ∨ X.env.scope.names.lookup x = some .local := by first | exact .inl rfl | exact .inr rfl)
    (hs : swapsWith e (some (.Name x px)) pos.line X.env = pure false := by rfl) : SB X W (.Assign [.Name x px] e pos :: rest) (pStrm i p q) := ⟨PSs.imp (pss_cons (ps_set hN hi hx he.pe hs hf) hr.ps) fun D σ H h => by
  obtain ⟨g, F, sl, S, P, rel, ⟨hsl, hl, hp⟩, lk⟩ := h
  refine ⟨g, F, sl, S, _, _, rel, hp, fun r S1 v H1 F1 s1 rel1 rr nw hq => ?_, lk.exc sl σ⟩
  obtain ⟨ns, rfl, hq⟩ := hq
  obtain ⟨a, vs, rfl, h1, h2, h3, rl⟩ := rr
  have ev := rpl_map rl
  subst ev
  have hsd : i < σ.length := by rw [← rel1.len]; exact hl
  show rdS X.K W q D (σ.set i (some (V.ref a))) H1
  refine ⟨⟨H1, F1, some a⟩, F1, sl.set i .drw, ns, _, ⟨⟨Same.refl _, fun b o z => .inl (by show F1 b ≠ none; rw [z]; exact fun z => nomatch z), rel1.cor.fh, fun b o z _ => z, fun b z => ?_⟩, by simpa using rel1.len, fun j s hj => ?_, fun j k dj dk p' _ h4 => ?_⟩, hq, ⟨fun _ _ _ _ _ _ _ z => z.elim, fun r S' v H' F' s' c rr z => ?_, fun _ _ _ _ _ _ _ z => z.elim, fun _ _ _ _ _ _ _ z => z.elim, fun _ _ _ _ _ _ _ _ _ _ z => z.elim⟩⟩
  · cases z
    exact ⟨h1, h2, by show H1 _ ≠ none; rw [h1]; exact fun z => nomatch z⟩
  · by_cases hij : i = j
    · subst hij
      rw [List.getElem?_set_self hl] at hj
      rw [List.getElem?_set_self hsd]
      cases hj
      exact ⟨a, rfl, rfl⟩
    · rw [List.getElem?_set_ne hij] at hj
      rw [List.getElem?_set_ne hij]
      rcases hsl s (List.mem_of_getElem? hj) with rfl | ⟨d, rfl⟩
      · trivial
      · exact rel1.ok j _ hj
  · exfalso
    by_cases hij : i = j
    · subst hij
      rw [List.getElem?_set_self hl] at h4; cases h4
    · rw [List.getElem?_set_ne hij] at h4
      rcases hsl _ (List.mem_of_getElem? h4) with z | ⟨d, z⟩ <;> cases z
  · have cg : Cor g F' S1 H' := by
      refine ⟨rel1.cor.f0.trans c.f0, fun b o z => ?_, c.fh, fun b o z q => ?_, fun b z => ?_⟩
      · rcases c.fn b o z with y | y | y
        · cases e1 : F1 b with
          | none => exact absurd e1 y
          | some u =>
            have := c.f0 b u e1
            rw [z] at this
            cases this
            exact rel1.cor.fn b o e1
        · exact .inr (.inl (rel1.cor.new y))
        · exact .inr (.inr y)
      · refine c.h0 b o (rel1.cor.h0 b o z q) fun y => ?_
        cases y
        rw [h3] at z; cases z
      · obtain ⟨k1, k2, k3⟩ := rel1.cor.st b z
        have nb : (some a : Option Addr) ≠ some b := fun y => by
          cases y
          exact k3 h3
        refine ⟨c.h0 b _ k1 nb, ?_, k3⟩
        cases e1 : F' b with
        | none => rfl
        | some u =>
          rcases c.fn b u e1 with y | y | ⟨vs, y⟩
          · exact absurd k2 y
          · have y : H1 b = none := y
            rw [k1] at y; cases y
          · have q := c.fh b u e1
            rw [c.h0 b _ k1 nb, y] at q
            cases q
    cases r with
    | dat d => exact lk.rt (.dat d) S1 v H' F' (s1.f.trans s') cg rr z
    | own ds =>
      obtain ⟨p', vs', e1, k1, k2, k3, k4⟩ := rr
      exact lk.rt (.own ds) S1 v H' F' (s1.f.trans s') cg ⟨p', vs', e1, k1, k2, rel1.cor.new k3, k4⟩ z
    | drw => exact z.elim⟩
end
/-- nothing leaves the law -/
theorem fn_e0 {P : Program} {w : World} {K : PySem.W.Frag} {mg : Str → Option Value} {base : Heap} {k : Nat} {f : Addr} {fd : FuncData} {ps : List Str} {sp sp' : Sp} (F : FnOk P w K mg base (L2.CX P w) k f fd ps sp) (h : ∀ vs H Q E, sp' vs H Q E → sp vs H Q (fun _ _ _ => False)) : FnOk P w K mg base (fun _ _ _ _ _ _ => False) k f fd ps sp' :=
  ⟨fun vs H Q E z => F.len vs H Q _ (h vs H Q E z), fun A outer s H args us vs Q E hr e0 hb r z => codeAny_mono (F.run A outer s H args us vs Q _ hr e0 hb r (h vs H Q E z)) fun r s' hq => by
    cases r with
    | error e =>
      obtain ⟨a, B, H', cls, d, _, _, _, _, _, _, _, hE⟩ := hq
      exact hE.elim
    | ok fl => cases fl <;> exact hq⟩
/-- the law's promise -/
def lawSpec : PSpec := fun rs S Q _ => ∃ ns : List Int, rs = [.dat (.frl (ns.map D.int))] ∧ ns.length ≤ 63 ∧ Q (.dat (.bl true)) S
def spLaw (K : PySem.W.Frag) : Sp := fun vs H Q _ => ∃ (a : Addr) (ns : List Int), vs = [.ref a] ∧ SqL K H a (ns.map V.int) ∧ ns.length ≤ 63 ∧ ∀ H', Q (.bl true) H'
theorem law_sp {K : PySem.W.Frag} {vs : List V} {H : Hp} {Q : VK} {E : XK} (h : spLaw K vs H Q E) : spOf K lawSpec vs H Q (fun _ _ _ => False) := by
  obtain ⟨a, ns, rfl, hs, hl, hq⟩ := h
  refine ⟨H, none, [], [.dat (.frl (ns.map D.int))], fun r _ => r = .dat (.bl true), fun _ _ => False, Same.refl _, (fun _ z => by cases z), Paired.cons ?_ Paired.nil, ⟨ns, rfl, hl, rfl⟩, fun r S' v H' F' c rr e => ?_, fun _ _ _ _ _ _ _ z => z⟩
  · exact Rp.frl hs (RpL.ints ns)
  · subst e
    cases rr
    exact hq H'
end Py
end
section
set_option Elab.async false
set_option linter.all false
set_option maxRecDepth 100000
set_option maxHeartbeats 4000000
/-! A comprehension whose element (a call) may raise. -/
namespace Py
open PySem L2 PySem.Spec PyProof.Rows

/-- an exception held by the def's own frame is in the air of the def -/
theorem xe_held {X : Cx} {pins : List (Addr × Obj)} {σ : L2.St} {H H' : Hp} {s s' : Shared} {B : Heap} {W : WX} {a : Addr} {cls : Value} {d : Option Addr} (I : Inv X pins σ H s)
    (hh : HandSPX.HeldZ B X.stack a (Zc cls d) X.env.locals s'.heap) (hok : HOk X.prog X.w H' B) (ub : UB (frs X.stack) H H' s.heap B s'.heap) (na : H' a = none) (os : s'.os = s.os) (ag : AllBare s'.gens) (w : W cls d σ H') :
    XE X W (.ref a) s' := by
  have st : B.StaysIn s'.heap := hh.1
  let pB : Addr → Bool := fun b => (B.get? b).isSome || decide (b ∈ frs X.stack)
  obtain ⟨Gr, gy, gn⟩ := restrict s'.heap pB
  have inB : ∀ b o, B.get? b = some o → Gr.get? b = some o := fun b o e =>
    (gy b (show pB b = true by simp [pB, e])).trans (st b o e)
  have inF : ∀ b, b ∈ frs X.stack → Gr.get? b = s'.heap.get? b := fun b hb => gy b (show pB b = true by simp [pB, hb])
  have back : ∀ b o, Gr.get? b = some o → s'.heap.get? b = some o ∧ (b ∉ frs X.stack → B.get? b = some o) := fun b o e => by
    by_cases z : pB b = true
    · rw [gy b z] at e
      refine ⟨e, fun nb => ?_⟩
      have z2 : (B.get? b).isSome = true := by simpa [pB, nb] using z
      obtain ⟨o2, e2⟩ := Option.isSome_iff_exists.mp z2
      rw [e2, ← st b o2 e2, e]
    · rw [gn b (by simpa using z)] at e; cases e
  have un : Un (frs X.stack) [] H H' s.heap Gr := by
    refine ⟨?_, ?_, ?_, ?_, ub.tups, ub.frzs, ub.tbls⟩
    · intro b o e n hb _
      exact inB b o (ub.keep b o e n hb)
    · intro b o e n hb _
      obtain ⟨sl, q⟩ := ub.slot b o e hb
      exact ⟨sl, (inF b hb).trans q⟩
    · intro b o e n _
      exact ub.free b o e n
    · intro b o e _
      by_cases hb : b ∈ frs X.stack
      · obtain ⟨sl, q⟩ := ub.slot b o e hb
        exact ⟨_, (inF b hb).trans q⟩
      · obtain ⟨o2, q⟩ := ub.there b o e hb
        exact ⟨o2, inB b o2 q⟩
  have J := I.call (g' := s'.gens) (t' := s'.toks) (d' := s'.drawn) (ch := []) un (hok.kept inB) ag (fun _ z => nomatch z)
  exact ⟨a, B, _, pins, σ, H', cls, d, rfl, J, fun b o e hb => (back b o e).2 hb, Heap.UpToSlots.of_keeps fun b o e => (back b o e).1, .inr (.inr hh), na, os, ag, w⟩

/-- what a raise in a comprehension's block (a call's, in its element) leaves the def -/
theorem blk_fails {X : Cx} {pins : List (Addr × Obj)} {σ : L2.St} {H9 : Hp} {s9 s' : Shared} {W : WX} {E : XK} {u : Value} {ce : Env} {m : Str → Option Value}
    (hs : X.stack = X.env :: X.outer) (hf : X.env.frame = some X.env.locals) (hcf : ce.frame = X.env.frame) (tk : Takes X W)
    (I : Inv X pins σ H9 s9) (hC : FpOk X pins H9 ce.locals) (hn : s9.heap.Ns ce.locals m) (hW : ∀ cls d H', E cls d H' → W cls d σ H') (c : L2.CX X.prog X.w X.stack H9 s9 E u s') :
    notedBy (model X.prog X.w) X.A ce (CompFails (model X.prog X.w) X.A X.xe ce) u s' := by
  obtain ⟨a, B, H', cls, d, rfl, fl, hok, ub, na, os, ag, hE⟩ := c
  have hfr : X.A.frames = some (X.env :: X.outer) := by rw [I.ok.frames, hs]
  show wpAny _ _ (noteFrame (.ref a) ce) _ _ _
  rw [noteFrame_env _ hcf]
  rw [hs] at fl
  have hns : ce.locals ∉ frs X.stack := fun z => by
    rcases List.mem_cons.mp (I.stkSub _ z) with q | q
    · exact hC.2.1 q
    · exact hC.2.2.1 q
  obtain ⟨oC, es, ep, hoC, hdC, hrC⟩ := hn
  have hBC : B.get? ce.locals = some oC := ub.keep _ _ hoC hC.1 hns
  have hC' : H' ce.locals = none := ub.free _ _ hoC hC.1
  refine HandSPX.looks_onZ Zc.steady hfr hf fl fun h1 held up1 => ?_
  have h1C : h1.get? ce.locals = some oC := held.1 _ _ hBC
  refine ⟨m, ⟨oC, es, ep, h1C, hdC, hrC⟩, fun h2 m2 hn2 sb => ?_⟩
  -- the ground without the block
  have gB : ∀ b o, b ≠ ce.locals → B.get? b = some o → (PySem.W.hideAll B [ce.locals]).get? b = some o := fun b o hb e => PySem.W.hideAll_get _ e (by simpa using hb)
  have held2 : HandSPX.HeldZ (PySem.W.hideAll B [ce.locals]) (X.env :: X.outer) a (Zc cls d) X.env.locals h2 := by
    obtain ⟨k1, k2, k3, oe, vs, T, oT, ts, he, hz, hd, hv1, hnT, hTe, hT, hdT, hv3⟩ := held
    have nofld : ∀ b o, h1.get? b = some o → (∃ vs, o.data = .fields vs) → b ≠ ce.locals := fun b o e ⟨vs, q⟩ z => by
      rw [z, h1C] at e
      cases e
      rw [hdC] at q
      cases q
    have hide0 : ∀ b, B.get? b = none → (PySem.W.hideAll B [ce.locals]).get? b = none := fun b e => by
      cases q : (PySem.W.hideAll B [ce.locals]).get? b with
      | none => rfl
      | some o => rw [PySem.W.of_hideAll _ q] at e; cases e
    refine ⟨fun b o e => ?_, hide0 _ k2, ?_, oe, vs, T, oT, ts, (sb.2 a (nofld _ _ he ⟨_, hd⟩)).trans he, hz, hd, hv1, hide0 _ hnT, hTe, (sb.2 T (nofld _ _ hT ⟨_, hdT⟩)).trans hT, hdT, hv3⟩
    · have hb : b ≠ ce.locals := fun z => by
        rw [z, PySem.W.hideAll_none _ (by simp)] at e
        cases e
      exact (sb.2 b hb).trans (k1 b o (PySem.W.of_hideAll _ e))
    · exact funFrames_none (Heap.FunFrames.sameBut sb hn2 k3) fun L hL => hide0 L (Heap.FunFrames.mem k3 hL).1
  unfold PySem.passOn
  obtain ⟨oe, vs, T, oT, ts, he, hz, hd, hv1, r⟩ := held2.2.2.2
  refine wpAny_bind (wpAny_field he hd hv1 ?_)
  rw [if_neg (show ¬ ((Value.ref T == Value.none) = true) from by simp), hcf, hf]
  refine wpAny_bind (HandSPX.setFlight_onZ held2 fun h3 held3 up3 => wpAny_throw ?_)
  refine tk _ _ (xe_held (pins := pins) (s := { s9 with heap := PySem.W.hideAll s9.heap [ce.locals] }) (H := H9) (H' := H') (B := PySem.W.hideAll B [ce.locals]) ?_ (by rw [hs]; exact held3) ?_ ?_ na os ag (hW _ _ _ hE))
  · obtain ⟨f0, f1, f2, f3, f4, f5⟩ := hC
    exact I.turned (t' := s9.toks) (fun b o hb e => PySem.W.hideAll_get _ e (by simpa using hb)) f0 f1 f3 f4 f5
  · intro b o q
    exact (hok b o q).stay (fun b2 u hc r => gB b2 u (fun z => by
      rcases hc with hc | hc
      · rw [← hc, z, hC'] at q; cases q
      · rw [z, hC'] at hc; cases hc) r) (fun _ r => r) fun _ _ r => r
  · have old : ∀ b o, (PySem.W.hideAll s9.heap [ce.locals]).get? b = some o → s9.heap.get? b = some o ∧ b ≠ ce.locals := fun b o e =>
      ⟨PySem.W.of_hideAll _ e, fun z => by
        rw [z, PySem.W.hideAll_none _ (by simp)] at e
        cases e⟩
    refine ⟨fun b o e n hb => ?_, fun b o e hb => ?_, fun b o e n => ub.free b o (old b o e).1 n, fun b o e hb => ?_, ub.tups, ub.frzs, ub.tbls⟩
    · exact gB b o (old b o e).2 (ub.keep b o (old b o e).1 n hb)
    · obtain ⟨sl, q⟩ := ub.slot b o (old b o e).1 hb
      have nf : ∀ vs, o.data ≠ .fields vs := by
        obtain ⟨_, o2, e2, nf⟩ := I.stack.mem hb
        rw [(old b o e).1] at e2
        cases e2
        exact nf
      obtain ⟨sl1, q1⟩ := up1 b _ q nf
      have q2 := (sb.2 b (old b o e).2).trans q1
      obtain ⟨sl3, q3⟩ := up3 b _ q2 nf
      exact ⟨sl3, q3⟩
    · obtain ⟨o2, q⟩ := ub.there b o (old b o e).1 hb
      exact ⟨o2, gB b o2 (old b o e).2 q⟩

section
variable {X : Cx} {W : WX} {k : Nat} {x : Str} {spec : PSpec} {e : Expr} {es : List Expr} {pa : PAx} {p pos : Pos}
/-- a call in a block: what it lets out is taken at the slots -/
theorem se_callB (c : Cal X.prog X.w X.K X.mg X.base k x spec) (hr : Room k X.A) (hx : ∀ σ, PassesAt (L2.CX X.prog X.w) X σ (WE W σ)) (ha : SA X W (e :: es) pa) (hg : Gl X x := by rfl) (hdb : (x == ("__debug__" : Str)) = false := by decide)
    (he : starEach (e :: es) X.env = (false, eval e X.env) :: starEach es X.env := by rfl) (hpl : (backTo pos (starEach es X.env)).any (·.1) = false := by rfl) : SE X W (.Call (.Name x p) (e :: es) [] pos) (pCall spec pa) := by
  obtain ⟨f, fd, ps, F, hm, hk, hb⟩ := c.ex
  exact ⟨PE.imp (pe_callS F hr hg hm hk hb hx ha.pa hdb he hpl) rd_call⟩
end

/-- the block of a comprehension whose exceptions go to xe -/
abbrev blkX (X : Cx) (s : Shared) (H : Hp) (scope : Scope) (ce : Env) (fp : List Addr) (xe : Value → Shared → Prop) : Cx := { X.blk s H scope ce fp with xe := xe }
theorem blkX_inv {X : Cx} {s t : Shared} {H H' : Hp} {scope : Scope} {ce : Env} {fp : List Addr} {xe : Value → Shared → Prop} {pins : List (Addr × Obj)} {σ : L2.St} (I : Inv (X.blk s H scope ce fp) pins σ H' t) : Inv (blkX X s H scope ce fp xe) pins σ H' t :=
  ⟨⟨I.ok.mod, I.ok.kind, I.ok.glob, I.ok.blt, I.ok.above, I.ok.inj, I.ok.has, I.ok.cab, I.ok.hd, I.ok.frames, I.ok.stk, I.ok.exf, I.ok.bs, I.ok.bsz, I.ok.noex, I.ok.exfs, I.ok.funs, I.ok.frf⟩, I.os, I.bare, I.base, I.loc, I.cell, I.free, I.freeC, I.pin, I.hok, I.len⟩
theorem blkX_back {X : Cx} {s t : Shared} {H H' : Hp} {scope : Scope} {ce : Env} {fp : List Addr} {xe : Value → Shared → Prop} {pins : List (Addr × Obj)} {σ : L2.St} (I : Inv (blkX X s H scope ce fp xe) pins σ H' t) : Inv (X.blk s H scope ce fp) pins σ H' t :=
  ⟨⟨I.ok.mod, I.ok.kind, I.ok.glob, I.ok.blt, I.ok.above, I.ok.inj, I.ok.has, I.ok.cab, I.ok.hd, I.ok.frames, I.ok.stk, I.ok.exf, I.ok.bs, I.ok.bsz, I.ok.noex, I.ok.exfs, I.ok.funs, I.ok.frf⟩, I.os, I.bare, I.base, I.loc, I.cell, I.free, I.freeC, I.pin, I.hok, I.len⟩
/-- as in the block with a calm wish: nothing of W0 is let out -/
theorem thn0 {α : Type} {t : Sem α} {Q Q' : α → Shared → Prop} {M : Model} {A : Around} {E : Value → Shared → Prop} {s : Shared} (h : wpAny M A t Q (fun _ _ => False) s) (hQ : ∀ a s, Q a s → Q' a s) : wpAny M A t Q' E s := wpAny_mono h hQ fun _ _ z => z.elim

section
variable {X : Cx} {W : WX} {elt tg it : Expr} {scope : Scope} {own : List (Str × Nat)} {pos pos' : Pos} {wi : L2.TI} {g : L2.TG} {te : WX → TE} {use : Option (Value → Sem Unit)} {Qf : Value → Shared → Prop}
/-- as L2.tLc with no test; the element by what it may raise -/
theorem lc_raises {pins : List (Addr × Obj)} {s : Shared} {σ : L2.St} {H : Hp} {Q : VK} (hs : X.stack = X.env :: X.outer) (hf : X.env.frame = some X.env.locals) (tk : Takes X W) (hc : X.calm = true) (hN : X.N.Nodup) (I : Inv X pins σ H s)
    (hi : PI X tg it wi) (ok : BlkOk X.N X.env.scope scope own)
    (hg : ∀ (s : Shared) (H : Hp) (C : Addr) (cl : List (Str × Addr)) (fp : List Addr), PG (X.blk s H scope (compEnvC scope cl C X.env) fp) tg g)
    (he : ∀ (s : Shared) (H : Hp) (C : Addr) (cl : List (Str × Addr)) (fp : List Addr) (xe : Value → Shared → Prop) (W' : WX), (∀ σ, PassesAt (L2.CX X.prog X.w) (blkX X s H scope (compEnvC scope cl C X.env) fp xe) σ (WE W' σ)) → PE (blkX X s H scope (compEnvC scope cl C X.env) fp xe) elt (te W'))
    (hfi : ∀ x, foldedSetIterable it X.env x = pure x)
    (h : tLc wi g tYes (te fun cls d _ H' => W cls d σ H') (own.map (·.2)) σ H Q)
    (hRR : ∀ D ce s' m H', Inv X pins σ H' s' → Q (.ref D) H' → s'.heap.Ns ce.locals m → FpOk X pins H' ce.locals → compEnds (model X.prog X.w) X.A X.xe use Qf (.ref D) ce (.ok .next) s') :
    wpAny (model X.prog X.w) X.A (comprehension (.ListComp elt [⟨tg, it, [], 0⟩] scope pos) scope X.env pos' (newList []) false (eval it X.env) use) Qf X.xe s := by
  have free : ∀ y ∈ scope.names, y.2 = .free → ∃ c, X.env.cells.lookup y.1 = some c := fun y hy e => I.ok.has _ (ok.free y hy e)
  refine comprehension_at (use := use) rfl hfi (closure_ok free) ok.kind (fun y hy e => by rw [ok.uniq y hy, e])
    (thn (hi.run pins s σ H _ I h) fun xv s1 hx => thn hx fun itv s2 h2 => ?_)
  obtain ⟨itA, fp, tn, J, H2, rfl, I2, T, st2, f2, q⟩ := h2
  refine wpAny_newObj_type (newEnv_comp ?_) (by show 0 ≤ sizeLine; decide)
  generalize hD : s2.heap.objs.size = D
  have hDn : H2 D = none := I2.hok.fresh (Nat.le_of_eq hD)
  obtain ⟨Wt, ⟨m0, w0⟩, turn⟩ := q D hDn
  generalize hs3 : ({ s2 with heap := s2.heap.push { cls := .type "list", data := .seq ([] : List Value).toArray } } : Shared) = s3
  have h3 : s3.heap = s2.heap.push { cls := .type "list", data := .seq ([] : List Value).toArray } := by rw [← hs3]
  have I3 : Inv X pins σ (upd H2 D (.lst [])) s3 := by
    rw [← hs3]
    refine I2.laid (t' := s2.toks) (fun b o e => Heap.get?_push_of_some _ e) (Nat.le_of_eq hD) ⟨Nat.zero_le _, [], 0, .nil, ?_⟩
    rw [← hD]
    exact Heap.get?_push_size _ rfl
  have lt2 : ∀ b ∈ fp, b < s2.heap.objs.size := fun b hb => (T.obj _ _ st2 b hb).elim fun o e => Heap.lt_size e.1
  have f3 : ∀ b ∈ fp, FpOk X pins (upd H2 D (.lst [])) b ∧ b < s3.heap.objs.size := fun b hb => by
    refine ⟨⟨?_, (f2 b hb).2⟩, by rw [h3, Heap.size_push]; exact Nat.lt_succ_of_lt (lt2 b hb)⟩
    rw [upd_ne (by rw [← hD]; exact Nat.ne_of_lt (lt2 b hb))]
    exact (f2 b hb).1
  have st3 : tn 0 s3.heap := T.keep _ _ _ st2 fun b _ o e => by rw [h3]; exact Heap.get?_push_of_some _ e
  have I4 := block_start I3 ok hN f3
  have ni : ∀ b ∈ fp, (upd H2 D (.lst [])) b = none := fun b hb => (f3 b hb).1.1
  have pg := hg s3 (upd H2 D (.lst [])) s3.heap.objs.size (cellsFrom (s3.heap.objs.size + 1) scope.names (cloFrom X.env.cells scope.names [])) fp
  have pe := he s3 (upd H2 D (.lst [])) s3.heap.objs.size (cellsFrom (s3.heap.objs.size + 1) scope.names (cloFrom X.env.cells scope.names [])) fp
  show codeAny _ _ (.compStart (.ListComp elt [⟨tg, it, [], 0⟩] scope pos) 0 (.ref itA) (.ref D) (compEnvC scope (cellsFrom (s3.heap.objs.size + 1) scope.names (cloFrom X.env.cells scope.names [])) s3.heap.objs.size X.env))
    (compEnds (model X.prog X.w) X.A X.xe use Qf (.ref D) (compEnvC scope (cellsFrom (s3.heap.objs.size + 1) scope.names (cloFrom X.env.cells scope.names [])) s3.heap.objs.size X.env)) { s3 with heap := pushCells (s3.heap.push { cls := .type "dict", data := .dict #[] }) scope.names }
  have hcf0 : (compEnvC scope (cellsFrom (s3.heap.objs.size + 1) scope.names (cloFrom X.env.cells scope.names [])) s3.heap.objs.size X.env).frame = X.env.frame := rfl
  generalize hce : compEnvC scope (cellsFrom (s3.heap.objs.size + 1) scope.names (cloFrom X.env.cells scope.names [])) s3.heap.objs.size X.env = ce at I4 pg pe hcf0 ⊢
  have cL : ce.locals = s3.heap.objs.size := by subst hce; rfl
  generalize hH3 : upd H2 D (.lst []) = H3 at I3 I4 pg pe w0 ni f3
  generalize hs4 : ({ s3 with heap := pushCells (s3.heap.push { cls := .type "dict", data := .dict #[] }) scope.names } : Shared) = s4 at I4 ⊢
  have st4 : tn 0 s4.heap := T.keep _ _ _ st3 fun b _ o e => by rw [← hs4]; exact pushCells_keeps _ _ _ _ (Heap.get?_push_of_some _ e)
  -- from the block to the def
  have out : ∀ {ps' : List (Addr × Obj)} {σ' : L2.St} {H' : Hp} {t : Shared}, Inv (X.blk s3 H3 scope ce fp) ps' σ' H' t → Inv X pins σ H' t ∧ FpOk X pins H' ce.locals ∧ ∃ m, t.heap.Ns ce.locals m := fun {ps' σ' H' t} B => by
    refine ⟨I3.call' (ch := fp) B.os B.base B.hok B.bare fun b hb => ⟨(f3 b hb).1.2.2.2.1, (f3 b hb).1.2.1, (f3 b hb).1.2.2.2.2.1, (f3 b hb).1.2.2.2.2.2⟩, ?_, B.loc.elim fun m hm => ⟨m, hm.1⟩⟩
    have z : H' ce.locals = none := B.free
    rw [cL] at z ⊢
    exact I3.fpOk (Nat.le_refl _) z
  let xb : Value → Shared → Prop := notedBy (model X.prog X.w) X.A ce (CompFails (model X.prog X.w) X.A X.xe ce)
  have pex := pe xb (fun cls d _ H' => W cls d σ H') fun σ' ps' H' t u t' B c => by
    obtain ⟨J, fo, m, hn⟩ := out (blkX_back B)
    exact blk_fails (E := fun cls d H' => W cls d σ H') hs hf hcf0 tk J fo hn (fun _ _ _ z => z) c
  have fpx : ∀ {σ' : L2.St} {H' : Hp} {t : Shared}, Inv (X.blk s3 H3 scope ce fp) [] σ' H' t → (∀ b ∈ fp, H' b = none) → ∀ b ∈ fp, FpOk (X.blk s3 H3 scope ce fp) [] H' b := fun {σ' H' t} B hn b hb =>
    ⟨hn b hb, (B.ok.exf b hb).1, B.ok.exfs b hb, .inl hb, fun y c e => (B.ok.exf b hb).2 y c e, fun p hp => by cases hp⟩
  have errs : ∀ e t, compEnds (model X.prog X.w) X.A X.xe use Qf (.ref D) ce (.error e) t = CompFails (model X.prog X.w) X.A X.xe ce e t := fun e t => by cases use <;> rfl
  have loop : codeAny (model X.prog X.w) X.A (.compLoop (.ListComp elt [⟨tg, it, [], 0⟩] scope pos) 0 (.ref itA) (.ref D) ce) (compEnds (model X.prog X.w) X.A X.xe use Qf (.ref D) ce) s4 := by
    refine compLoop_any (fun n t => ∃ i H', Inv (X.blk s3 H3 scope ce fp) [] (wipe σ (own.map (·.2))) H' t ∧ tn i t.heap ∧ (∀ b ∈ fp, H' b = none) ∧ Wt i n H') ?_ m0 ⟨0, H3, I4, st4, ni, w0⟩
    rintro n s5 ⟨i, H5, I5, st5, n5, w5⟩
    rcases turn i n H5 w5 with ⟨stop, qq⟩ | ⟨go, Nx, hNx, step⟩
    · refine thn0 (T.done (X.blk s3 H3 scope ce fp) rfl rfl rfl hc i [] s5 _ H5 (fun _ _ => False) I5 (fpx I5 n5) st5 stop) fun r s6 hr => ?_
      obtain ⟨rfl, I6⟩ := hr
      obtain ⟨J, fo, m, hn⟩ := out I6
      exact hRR D ce s6 m H5 J qq hn fo
    · refine thn0 (T.item (X.blk s3 H3 scope ce fp) rfl rfl rfl hc i [] s5 _ H5 (fun _ _ => False) I5 (fpx I5 n5) st5 go) fun r s6 hr => ?_
      obtain ⟨u, rfl, h6⟩ := hr
      refine thn0 h6 fun _ s7 h7 => ?_
      obtain ⟨x, H7, I7, r7, y7, st7, n7⟩ := h7
      refine thn0 (pg.run _ s7 _ H7 x u _ (I7.pinned (fpx I7 n7) (T.obj _ _ st7)) r7 (step x H7 y7)) fun _ s8 h8 => ?_
      obtain ⟨σ8, H8, I8, hw8, q8⟩ := h8
      refine wpAny_tests_nil ?_
      have q9 : (te fun cls d _ H' => W cls d σ H') σ8 H8 _ := q8
      simp only [if_true]
      refine wpAny_mono (pex.run _ s8 σ8 H8 _ (blkX_inv I8) q9) (fun z s10 h10 => ?_) fun e t z => ?_
      · obtain ⟨yv, H10, I10, r10, acc, hD10, hz10, nx⟩ := h10
        refine app_ok (X := X.blk s3 H3 scope ce fp) (blkX_back I10) hD10 hz10 r10 fun s11 I11 => ?_
        obtain ⟨m', hm, w'⟩ := hNx _ nx
        have pin' : ∀ b ∈ fp, ∀ o, s7.heap.get? b = some o → s11.heap.get? b = some o ∧ upd H10 D (HO.lst (acc ++ [yv])) b = none := fun b hb o e =>
          (fun z => ⟨z.1, z.2.1⟩) (I11.pin (b, o) (List.mem_append_right _ (List.mem_append_right _ (mem_pinsAt hb e))))
        refine ⟨m', hm, i + 1, _, (I11.unpinned (pins := [])).weak (by rw [← hw8, wipe_length]) fun j v e => ?_, T.keep _ _ _ st7 fun b hb o e => (pin' b hb o e).1, fun b hb => ?_, w'⟩
        · rw [← hw8] at e
          exact (wipe_some e).1
        · obtain ⟨o, e, _⟩ := T.obj _ _ st7 b hb
          exact (pin' b hb o e).2
      · show wpAny _ _ (noteFrame e ce) _ _ _
        have z : xb e t := z
        refine wpAny_mono z (fun _ t2 y => ?_) fun e2 t2 y => ?_
        · exact Eq.mpr (errs _ _) y
        · exact Eq.mpr (errs _ _) y
  exact codeAny_compStart_list loop (T.self X.A 0 _ _ _ st4 loop)
end
end Py
end
section
set_option Elab.async false
set_option linter.all false
set_option maxRecDepth 100000
set_option maxHeartbeats 4000000
/-! A comprehension whose element may raise: the reading. -/
namespace Py
open PySem L2 PySem.Spec PyProof.Rows

def lcRunR (i : Nat) (pe : PEx) : List D → List Slot → List Int → (List D → List Int → Prop) → PXQ → Prop
  | [], _, S, Q, _ => Q [] S
  | d :: ds, sl, S, Q, E => dat pe (sl.set i (.dat d)) S (fun y S2 => lcRunR i pe ds sl S2 (fun ys S3 => Q (y :: ys) S3) E) E
def noOwn (sl : List Slot) (i : Nat) : Prop := (∀ ds, sl[i]? ≠ some (.own ds)) ∧ (∀ a C ns ds, sl[i]? ≠ some (.slf a C ns ds)) ∧ ∀ ks ds, sl[i]? ≠ some (.dic ks ds)
@[simp] def pLcR (i : Nat) (pi : PIx) (pe : PEx) : PEx := fun sl S Q E => noOwn sl i ∧ pi sl S (fun ds S1 => ds.length ≤ sizeLine ∧ i < sl.length ∧ lcRunR i pe ds (sl.set i .un) S1 (fun ys S2 => Q (.own ys) S2) E) E

theorem lc_exc {K : PySem.W.Frag} {g : G} {F1 F' H1 H' : Hp} {sl : List Slot} {S1 S' : List Int} {σ : L2.St} {i : Nat} {z : Slot} {zv : Option V} (rel1 : Rel K g F1 sl S1 σ H1) (no : noOwn sl i) (sF : Same F1 F') (r : Rel K g F' (sl.set i z) S' (σ.set i zv) H') : Rel K g F' sl S' σ H' := by
  refine ⟨r.cor, rel1.len, fun j s hj => ?_, fun j k dj dk p hjk h4 h5 h6 h7 => ?_⟩
  · by_cases e : i = j
    · subst e
      have h := rel1.ok i s hj
      cases s with
      | un => trivial
      | dat d => obtain ⟨v, k1, k2⟩ := h; exact ⟨v, k1, k2.mono sF⟩
      | own ds => exact absurd hj (no.1 ds)
      | drw => exact h
      | exc a d x => exact ⟨h.1, h.2.mono sF⟩
      | slf a C ns ds => exact absurd hj (no.2.1 a C ns ds)
      | dic ks ds => exact absurd hj (no.2.2 ks ds)
    · have q := r.ok j s (by rw [List.getElem?_set_ne e]; exact hj)
      rw [List.getElem?_set_ne e] at q
      exact q
  · have nj : i ≠ j := fun e => by subst e; exact no.1 _ h4
    have nk : i ≠ k := fun e => by subst e; exact no.1 _ h5
    exact r.sep j k dj dk p hjk (by rw [List.getElem?_set_ne nj]; exact h4) (by rw [List.getElem?_set_ne nk]; exact h5) (by rw [List.getElem?_set_ne nj]; exact h6) (by rw [List.getElem?_set_ne nk]; exact h7)

theorem rd_lcR {K : PySem.W.Frag} {W : WX} {i : Nat} {pi : PIx} {pe : PEx} (σ : L2.St) (H : Hp) (Q : VK) (h : rdE K W (pLcR i pi pe) σ H Q) :
    tLc (rdI K W pi) (gName i) tYes (rdE K (fun cls d _ H' => W cls d σ H') pe) [i] σ H Q := by
  obtain ⟨g, F, sl, S, Q', E', rel, ⟨no, hp⟩, post, exc⟩ := h
  refine ⟨g, F, sl, S, _, E', rel, hp, fun ds S1 J H1 F1 s1 rel1 io ⟨hz, hi, h1⟩ => ?_, exc⟩
  intro L hL
  let Pv : Nat → Hp → Prop := fun j H' => ∃ F' S' acc accd, Stp g F1 H1 F' (fun b => if b = L then none else H' b) ∧ Rel K g F' (sl.set i .un) S' (σ.set i none) H' ∧ H' L = some (.lst acc) ∧ F' L = none ∧ RpL K F' acc accd ∧ acc.length ≤ j ∧
    lcRunR i pe (ds.drop j) (sl.set i .un) S' (fun ys S2 => Q' (.own (accd ++ ys)) S2) E'
  have hid : ∀ {p : Addr} {o : HO} {Hx : Hp}, Hx p = none → (fun b => if b = p then none else (upd Hx p o) b) = Hx := fun {p o Hx} e => by
    funext b
    by_cases z : b = p
    · rw [if_pos z, z, e]
    · rw [if_neg z, upd_ne z]
  refine ⟨fun j m H' => m = ds.length - j ∧ j ≤ ds.length ∧ Pv j H', ⟨ds.length, by simp, Nat.zero_le _, F1, S1, [], [], ?_, (rel1.wipe1 i).alloc hL, upd_same, rel1.cor.free hL, .nil, Nat.zero_le _, h1⟩, ?_⟩
  · rw [hid hL]; exact Stp.refl
  rintro j m H' ⟨rfl, hj, F', S', acc, accd, st, rel2, hLa, hLf, ra, hal, h2⟩
  have sF : Same F1 F' := st.f
  by_cases hlt : j < ds.length
  · have e1 : ds.drop j = ds[j] :: ds.drop (j + 1) := List.drop_eq_getElem_cons hlt
    rw [e1] at h2
    refine .inr ⟨(io.mono sF).go H' j rel2.cor.fh hlt, Pv (j + 1), fun H3 p3 => ⟨ds.length - (j + 1), by omega, rfl, hlt, p3⟩, fun x H3 y => ?_⟩
    obtain ⟨Fy, sy, rely, rx⟩ := ((io.mono sF).yld H' j x H3 rel2.cor.fh y _ (List.getElem?_eq_getElem hlt)).use rel2
    have ndL : g.dr ≠ some L := fun z => (rel2.cor.st L z).2.2 (rel1.cor.new hL)
    have hLf := sy.free rely.cor.fh hLf hLa ndL
    have hLa : H3 L = some (.lst acc) := sy.k L _ hLa ndL
    have st := st.comp sy hL
    have sF : Same F1 Fy := st.f
    have ra := ra.mono sy.f
    have rel2 := rely
    have hls : i < (sl.set i Slot.un).length := by simpa using hi
    have rel3 : Rel K g Fy ((sl.set i .un).set i (.dat ds[j])) S' ((σ.set i none).set i (some x)) H3 := rel2.store (x := .dat ds[j]) rx trivial hls
    have esg : ∀ z : Option V, (σ.set i none).set i z = σ.set i z := fun z => List.set_set ..
    show _ ∧ _
    refine ⟨?_, ?_⟩
    · show ((σ.set i none).set i (some x)).set i none = σ.set i none
      rw [esg, List.set_set]
    · show rdE K (fun cls d _ H' => W cls d σ H') pe _ H3 _
      have excB : ExcE K (fun cls d _ H' => W cls d σ H') g Fy ((sl.set i .un).set i (.dat ds[j])) ((σ.set i none).set i (some x)) E' := fun px S5 d H5 F5 s5 r5 ex he => by
        rw [List.set_set, List.set_set] at r5
        exact exc px S5 d H5 F5 ((s1.f.trans sF).trans s5) (lc_exc rel1 no (sF.trans s5) r5) ex he
      refine rdE_dat rel3 h2 excB fun y S5 v H5 F5 s5 rel5 ry h5 => ?_
      have comp : ∀ {F5 H5 : Hp}, Stp g Fy H3 F5 H5 → Stp g F1 H1 F5 (fun b => if b = L then none else H5 b) := fun {F5 H5} s5 => st.comp s5 hL
      have r6 : Rel K g F5 (sl.set i .un) S5 (σ.set i none) H5 := by
        have e7 : ((sl.set i Slot.un).set i (.dat ds[j])).set i .un = sl.set i .un := by rw [List.set_set, List.set_set]
        have e8 : ((σ.set i none).set i (some x)).set i none = σ.set i none := by rw [List.set_set, List.set_set]
        have q : Rel K g F5 (((sl.set i Slot.un).set i (.dat ds[j])).set i .un) S5 (((σ.set i none).set i (some x)).set i none) H5 := rel5.wipe1 i
        rw [e7, e8] at q
        exact q
      have ndr : g.dr ≠ some L := fun z => (rel2.cor.st L z).2.2 (rel1.cor.new hL)
      have hL5 : H5 L = some (.lst acc) := s5.k L _ hLa ndr
      have hF5 : F5 L = none := by
        exact s5.free rel5.cor.fh hLf hLa ndL
      refine ⟨acc, hL5, by omega, F5, S5, acc ++ [v], accd ++ [y], ?_, ?_, upd_same, hF5, ((ra.mono s5.f).append (.cons ry .nil)), by simp; omega, ?_⟩
      · have c5 := comp s5
        have : (fun b => if b = L then none else upd H5 L (HO.lst (acc ++ [v])) b) = (fun b => if b = L then none else H5 b) := by
          funext b
          by_cases z : b = L
          · rw [if_pos z, if_pos z]
          · rw [if_neg z, if_neg z, upd_ne z]
        rw [this]; exact c5
      · refine ⟨r6.cor.write hF5 (rel1.cor.new hL), r6.len, fun k s hk => (r6.ok k s hk).mono (Same.refl _) (fun d' p' e1 e2 => ?_) fun q u g1 g2 _ g4 => ⟨by
            rw [upd_ne fun z => by
              rw [z, hL5] at g1
              cases g1
              cases g4]
            exact g1, g2⟩, r6.sep⟩
        subst e1
        obtain ⟨p7, vs7, e7, h7, h8, h9, _⟩ := rel1.wipe1 i |>.ok k _ hk
        rw [e2] at e7
        cases e7
        obtain ⟨p8, vs8, e8, k7, k8, _⟩ := r6.ok k _ hk
        rw [e2] at e8
        cases e8
        exact ⟨upd_ne (fun z => by (rw [z, hL] at h7; cases h7)), k8⟩
      · show lcRunR i pe (ds.drop (j + 1)) (sl.set i .un) S5 (fun ys S2 => Q' (.own ((accd ++ [y]) ++ ys)) S2) E'
        have e9 : (fun (ys : List D) (S2 : List Int) => Q' (.own ((accd ++ [y]) ++ ys)) S2) = fun ys S2 => Q' (.own (accd ++ (y :: ys))) S2 := by
          funext ys S2
          rw [List.append_assoc]
          rfl
        rw [e9]
        exact h5
  · have e0 : j = ds.length := by omega
    subst e0
    rw [List.drop_length] at h2
    refine .inl ⟨(io.mono sF).stop H' _ rel2.cor.fh (Nat.le_refl _), ?_⟩
    have h3 : Q' (.own (accd ++ [])) S' := h2
    rw [List.append_nil] at h3
    have relE : Rel K g F' sl S' σ H' := lc_exc rel1 no sF rel2
    have stF : Stp g F H F' H' := s1.trans ⟨sF, fun a o e q => by
        have hne : a ≠ L := fun z => by rw [z, hL] at e; cases e
        have := st.k a o e q
        simp only [if_neg hne] at this
        exact this, st.n, fun a e => by
        by_cases hne : a = L
        · rw [hne]; exact hL
        · exact st.d a (by simp only [if_neg hne]; exact e)⟩
    exact post (.own accd) S' (.ref L) H' F' stF relE ⟨L, acc, rfl, hLa, hLf, rel1.cor.new hL, ra⟩ (nw_new (s1.d L hL)) h3

section
variable {X : Cx} {W : WX} {elt it : Expr} {scope : Scope} {x : Str} {i : Nat} {px pos : Pos} {pi : PIx} {pe : PEx}
theorem se_lcR (i : Nat) (hst : X.stack = X.env :: X.outer) (hf : X.env.frame = some X.env.locals) (tk : Takes X W) (hc : X.calm = true) (hN : X.N.Nodup) (hi : SI X W (.Name x px) it pi) (ok : BlkOk X.N X.env.scope scope [(x, i)])
    (hg : ∀ (s : Shared) (H : Hp) (C : Addr) (cl : List (Str × Addr)) (fp : List Addr), PG (X.blk s H scope (compEnvC scope cl C X.env) fp) (.Name x px) (gName i))
    (he : ∀ (s : Shared) (H : Hp) (C : Addr) (cl : List (Str × Addr)) (fp : List Addr) (xe : Value → Shared → Prop) (W' : WX), (∀ σ, PassesAt (L2.CX X.prog X.w) (blkX X s H scope (compEnvC scope cl C X.env) fp xe) σ (WE W' σ)) → SE (blkX X s H scope (compEnvC scope cl C X.env) fp xe) W' elt pe)
    (hs : ∀ x, foldedSetIterable it X.env x = pure x := by intro _; rfl) :
    SE X W (.ListComp elt [⟨.Name x px, it, [], 0⟩] scope pos) (pLcR i pi pe) := by
  refine ⟨⟨fun pins s σ H Q I h => ?_⟩⟩
  rw [eval_ListComp]
  refine lc_raises (own := [(x, i)]) (te := fun W' => rdE X.K W' pe) hst hf tk hc hN I hi.pi ok hg (fun s H C cl fp xe W' hx => (he s H C cl fp xe W' hx).pe) hs (rd_lcR σ H Q h) fun D ce t m H' J q hn f => ⟨m, hn, fun h2 sb => ?_⟩
  obtain ⟨f0, f1, f2, f3, f4, f5⟩ := f
  exact ⟨.ref D, H', J.turned (t' := t.toks) (fun b o hb e => (sb.2 b hb).trans e) f0 f1 f3 f4 f5, rfl, q⟩
theorem ss_lcR (i : Nat) {j : Nat} {y : Str} {py spos : Pos} (hst : X.stack = X.env :: X.outer) (hf : X.env.frame = some X.env.locals) (tk : Takes X W) (hc : X.calm = true) (hN : X.N.Nodup) (hy : X.N[j]? = some y) (hyl : X.env.scope.names.lookup y = some .local)
    (hsw : swapsWith (.ListComp elt [⟨.Name x px, it, [], 0⟩] scope pos) (some (.Name y py)) spos.line X.env = pure true) (hi : SI X W (.Name x px) it pi) (ok : BlkOk X.N X.env.scope scope [(x, i)])
    (hg : ∀ (s : Shared) (H : Hp) (C : Addr) (cl : List (Str × Addr)) (fp : List Addr), PG (X.blk s H scope (compEnvC scope cl C X.env) fp) (.Name x px) (gName i))
    (he : ∀ (s : Shared) (H : Hp) (C : Addr) (cl : List (Str × Addr)) (fp : List Addr) (xe : Value → Shared → Prop) (W' : WX), (∀ σ, PassesAt (L2.CX X.prog X.w) (blkX X s H scope (compEnvC scope cl C X.env) fp xe) σ (WE W' σ)) → SE (blkX X s H scope (compEnvC scope cl C X.env) fp xe) W' elt pe)
    (hs : ∀ x, foldedSetIterable it X.env x = pure x := by intro _; rfl) :
    SS X W (.Assign [.Name y py] (.ListComp elt [⟨.Name x px, it, [], 0⟩] scope pos) spos) (pAsg (pLcR i pi pe) (pgName j)) := by
  refine ⟨⟨fun pins s σ H D I h0 => ?_⟩⟩
  obtain ⟨g, F, sl, S, P, rel, hp, lk⟩ := h0
  have h : rdE X.K W (pLcR i pi pe) σ H (fun v H1 => D.nx (σ.set j (some v)) H1) :=
    ⟨g, F, sl, S, _, _, rel, hp, fun r S1 v H1 F1 s1 rel1 rr nw ⟨hl, h1⟩ => lk.nx _ S1 _ H1 F1 s1.f (rel1.store rr (rel.ap nw) hl) h1, lk.exc sl σ⟩
  rw [exec_Assign_Name_used _ _ _ _ hsw]
  refine wpAny_bind (wpAny_standAt (wpAny_bind ?_))
  show wpAny _ X.A (do let _ ← comprehension (.ListComp elt [⟨.Name x px, it, [], 0⟩] scope pos) scope X.env (firstIterPos [⟨.Name x px, it, [], 0⟩] pos) (newList []) false (eval it X.env) (some (assign (.Name y py) X.env))) _ _ s
  refine wpAny_bind (thn (lc_raises (own := [(x, i)]) (te := fun W' => rdE X.K W' pe) (Qf := fun _ t => SP X pins D .next t) hst hf tk hc hN I hi.pi ok hg (fun s H C cl fp xe W' hx => (he s H C cl fp xe W' hx).pe) hs (rd_lcR σ H _ h) fun L ce t m H' J q hn f => ?_) fun _ t hq => wpAny_pure (wpAny_pure hq))
  show wpAny _ _ (assign (.Name y py) X.env (.ref L)) _ _ _
  refine wpAny_assign_Name (store_ok2 (v := V.ref L) J hN hy (.inl hyl) rfl (fun s2 I2 ha => ?_) (.inr hyl))
  obtain ⟨a, sb, ha⟩ := ha
  obtain ⟨f0, f1, f2, f3, f4, f5⟩ := f
  have hne : ce.locals ≠ a := by
    rcases ha with z | z
    · rw [z]; exact f1
    · exact fun e => f4 y a z e.symm
  exact ⟨m, hn.sameBut sb hne, fun h3 sb3 => ⟨_, H', I2.turned (t' := s2.toks) (fun b o hb e => (sb3.2 b hb).trans e) f0 f1 f3 f4 f5, q⟩⟩
end
end Py
end
section
set_option Elab.async false
set_option linter.all false
set_option maxRecDepth 100000
set_option maxHeartbeats 1000000
/-! An own list is lent to a call. -/
namespace Py
open PySem L2 PySem.Spec PyProof.Rows

mutual
/-- no list within -/
def D.nolst : D → Bool
  | .lst _ => false
  | .frl _ => false
  | .tup xs => nolsts xs
  | .obj _ _ xs => nolsts xs
  | .dct _ _ => false
  | _ => true
def nolsts : List D → Bool
  | [] => true
  | d :: ds => d.nolst && nolsts ds
end
def Res.nolst : Res → Bool
  | .dat d => d.nolst
  | .own ds => nolsts ds
  | .drw => true
theorem cut_same {F F' : Hp} {p : Addr} (h : Same F F') (hp : F p = none) : Same F (fun a => if a = p then none else F' a) := fun a o e => by
  have hne : a ≠ p := fun z => by rw [z, hp] at e; cases e
  simp only [if_neg hne]
  exact h a o e
mutual
theorem Rp.cutP {K : PySem.W.Frag} {F : Hp} {p : Addr} {us : List V} (hp : F p = some (.lst us)) : ∀ {v : V} {d : D}, d.nolst = true → Rp K F v d → Rp K (fun a => if a = p then none else F a) v d
  | _, _, _, .non => .non
  | _, _, _, .bl b => .bl b
  | _, _, _, .int i => .int i
  | _, _, _, .str x => .str x
  | _, _, f, .lst h r => by simp [D.nolst] at f
  | _, _, f, .frl h r => by simp [D.nolst] at f
  | _, _, f, .tup (a := a) h r => by
    refine .tup ?_ (RpL.cutP hp (by simpa [D.nolst] using f) r)
    rcases h with (h | ⟨o, h⟩) | h
    · have hne : a ≠ p := fun z => by rw [z, hp] at h; cases h
      exact .inl (.inl (by simp only [if_neg hne]; exact h))
    · have hne : a ≠ p := fun z => by rw [z, hp] at h; cases h
      exact .inl (.inr ⟨o, by simp only [if_neg hne]; exact h⟩)
    · exact .inr h
  | _, _, f, .obj (a := a) (dx := dx) h h2 l r => by
    have n1 : a ≠ p := fun z => by rw [z, hp] at h; cases h
    have n2 : dx ≠ p := fun z => by rw [z, hp] at h2; cases h2
    exact .obj (by simp only [if_neg n1]; exact h) (by simp only [if_neg n2]; exact h2) l (RpL.cutP hp (by simpa [D.nolst] using f) r)
  | _, _, f, .dct h l r => by simp [D.nolst] at f
theorem RpL.cutP {K : PySem.W.Frag} {F : Hp} {p : Addr} {us : List V} (hp : F p = some (.lst us)) : ∀ {vs : List V} {ds : List D}, nolsts ds = true → RpL K F vs ds → RpL K (fun a => if a = p then none else F a) vs ds
  | _, _, _, .nil => .nil
  | _, _, f, .cons h r => by
    simp only [nolsts, Bool.and_eq_true] at f
    exact .cons (Rp.cutP hp f.1 h) (RpL.cutP hp f.2 r)
end
def pLend (i : Nat) (p : PEx) : PEx := fun sl S Q _ => ∃ ds, sl[i]? = some (.own ds) ∧ p (sl.set i (.dat (.lst ds))) S (fun r S1 => r.nolst = true ∧ Q r S1) (fun _ _ => False)

theorem rd_lend {K : PySem.W.Frag} {W : WX} {i : Nat} {p : PEx} (σ : L2.St) (H : Hp) (Q : VK) (h : rdE K W (pLend i p) σ H Q) : rdE K W p σ H Q := by
  obtain ⟨g, F, sl, S, Q', E', rel, ⟨ds, hsl, hp⟩, post, exc⟩ := h
  obtain ⟨a, vs, e1, h1, h2, h3, rl⟩ := rel.own hsl
  have hi : i < sl.length := (List.getElem?_eq_some_iff.mp hsl).1
  -- the slots, the list frozen
  have sF : Same F (upd F a (.lst vs)) := Same.upd_new h2
  have rel2 : Rel K g (upd F a (.lst vs)) (sl.set i (.dat (.lst ds))) S σ H := by
    refine ⟨rel.cor.freeze h1 h2 h3, by simpa using rel.len, fun j s hj => ?_, fun j k dj dk q hjk h4 h5 => ?_⟩
    · by_cases hij : i = j
      · subst hij
        rw [List.getElem?_set_self hi] at hj
        cases hj
        exact ⟨.ref a, by rw [e1]; rfl, .lst upd_same (rl.mono sF)⟩
      · rw [List.getElem?_set_ne hij] at hj
        refine (rel.ok j s hj).mono sF (fun ds' q e4 e5 => ⟨rfl, ?_⟩) fun q u g1 g2 _ g4 => ⟨g1, by
          rw [upd_ne fun z => by
            rw [z, h1] at g1
            cases g1
            cases g4]
          exact g2⟩
        subst e4
        obtain ⟨p'', vs'', e6, h7, h8, _⟩ := rel.ok j _ hj
        rw [e5] at e6
        cases e6
        rw [upd_ne fun z => rel.sep i j ds ds' a hij hsl hj (by rw [e1]; rfl) (by rw [e5, z])]
        exact h8
    · have n1 : i ≠ j := fun z => by subst z; rw [List.getElem?_set_self hi] at h4; cases h4
      have n2 : i ≠ k := fun z => by subst z; rw [List.getElem?_set_self hi] at h5; cases h5
      rw [List.getElem?_set_ne n1] at h4
      rw [List.getElem?_set_ne n2] at h5
      exact rel.sep j k dj dk q hjk h4 h5
  refine ⟨g, _, _, S, _, _, rel2, hp, fun r S1 v H1 F1 s1 rel1 rr nw hq => ?_, fun _ _ _ _ _ _ _ _ z => z.elim⟩
  obtain ⟨fl, hq⟩ := hq
  have hFa : F1 a = some (.lst vs) := s1.f a _ upd_same
  have sF2 : Same F (fun b => if b = a then none else F1 b) := cut_same (fun b o e => s1.f b o (sF b o e)) h2
  have cF : ∀ b o, (if b = a then none else F1 b) = some o → b ≠ a ∧ F1 b = some o := fun b o e => by
    by_cases z : b = a
    · rw [if_pos z] at e; cases e
    · rw [if_neg z] at e; exact ⟨z, e⟩
  have stp : Stp g F H (fun b => if b = a then none else F1 b) H1 := ⟨sF2, s1.k, fun b o e => by
    obtain ⟨n, e⟩ := cF b o e
    rcases s1.n b o e with z | z
    · rw [upd_ne n] at z; exact .inl z
    · exact .inr z, s1.d⟩
  refine post r S1 v H1 _ stp ⟨⟨fun b o e => sF2 b o (rel.cor.f0 b o e), fun b o e => rel1.cor.fn b o (cF b o e).2, fun b o e => rel1.cor.fh b o (cF b o e).2, rel1.cor.h0, fun b e => ?_⟩, rel.len, fun j s hj => ?_, rel.sep⟩ ?_ nw hq
  · obtain ⟨k1, k2, k3⟩ := rel1.cor.st b e
    refine ⟨k1, ?_, k3⟩
    show (if b = a then none else F1 b) = none
    by_cases z : b = a
    · rw [if_pos z]
    · rw [if_neg z]; exact k2
  · by_cases hij : i = j
    · subst hij
      rw [hsl] at hj
      cases hj
      exact ⟨a, vs, by rw [e1]; rfl, rel1.cor.fh a _ hFa, by simp only [if_true], h3, rl.mono sF2⟩
    · have hj' : (sl.set i (.dat (.lst ds)))[j]? = some s := by rw [List.getElem?_set_ne hij]; exact hj
      cases s with
      | own es =>
        obtain ⟨p', vs', e6, k7, k8, k9, kr⟩ := rel.ok j _ hj
        obtain ⟨p2, vs2, e7, m7, m8, m9, mr⟩ := rel1.ok j _ hj'
        rw [e7] at e6
        cases e6
        have nd : g.dr ≠ some p' := fun z => (rel.cor.st p' z).2.2 k9
        refine ⟨p', vs', e7, s1.k p' _ k7 nd, ?_, k9, kr.mono sF2⟩
        show (if p' = a then none else F1 p') = none
        by_cases z : p' = a
        · rw [if_pos z]
        · rw [if_neg z]; exact m8
      | un => trivial
      | dic ks es =>
        obtain ⟨p', vs', e6, k7, k8, k9, kl, kr⟩ := rel.ok j _ hj
        obtain ⟨p2, vs2, e7, m7, m8, m9, ml, mr⟩ := rel1.ok j _ hj'
        rw [e7] at e6
        cases e6
        have nd : g.dr ≠ some p' := fun z => (rel.cor.st p' z).2.2 k9
        refine ⟨p', vs', e7, s1.k p' _ k7 nd, ?_, k9, kl, kr.mono sF2⟩
        show (if p' = a then none else F1 p') = none
        by_cases z : p' = a
        · rw [if_pos z]
        · rw [if_neg z]; exact m8
      | dat d => obtain ⟨v, k1, k2⟩ := rel.ok j _ hj; exact ⟨v, k1, k2.mono sF2⟩
      | slf x C ns es =>
        obtain ⟨dx, vs', k1, k2, k3, k4, k5, k6, k7, k8, k9⟩ := rel.ok j _ hj
        obtain ⟨dx', vs2, m1, m2, m3, m4, m5, m6, m7, m8, m9⟩ := rel1.ok j _ hj'
        have nd1 : g.dr ≠ some x := fun z => (rel.cor.st x z).2.2 k6
        have nd2 : g.dr ≠ some dx := fun z => (rel.cor.st dx z).2.2 k7
        have n1 := s1.k x _ k2 nd1
        rw [m2] at n1
        injection Option.some.inj n1 with _ e1 e2
        subst e1
        have e3 := congrArg (List.map Prod.snd) e2
        rw [List.map_snd_zip (by omega), List.map_snd_zip (by omega)] at e3
        subst e3
        refine ⟨dx', vs2, m1, m2, m3, ?_, ?_, k6, k7, k8, k9.mono sF2⟩
        · show (if x = a then none else F1 x) = none
          by_cases z : x = a
          · rw [if_pos z]
          · rw [if_neg z]; exact m4
        · show (if dx' = a then none else F1 dx') = none
          by_cases z : dx' = a
          · rw [if_pos z]
          · rw [if_neg z]; exact m5
      | drw => exact rel.ok j _ hj
      | exc x d px => exact ⟨(rel.ok j _ hj).1, (rel.ok j _ hj).2.mono sF2⟩
  · cases r with
    | dat d => exact Rp.cutP hFa fl rr
    | own es =>
      obtain ⟨p', vs', rfl, k7, k8, k9, kr⟩ := rr
      refine ⟨p', vs', rfl, k7, ?_, k9, RpL.cutP hFa fl kr⟩
      show (if p' = a then none else F1 p') = none
      by_cases z : p' = a
      · rw [if_pos z]
      · rw [if_neg z]; exact k8
    | drw => exact rr
theorem se_lend {X : Cx} {W : WX} {e : Expr} {p : PEx} (i : Nat) (h : SE X W e p) : SE X W e (pLend i p) := ⟨PE.imp h.pe rd_lend⟩
end Py
end
section
set_option Elab.async false
set_option linter.all false
set_option maxRecDepth 100000
set_option maxHeartbeats 1000000
/-! What the top has written, from facts that k_is finds; the end. -/
namespace Py
open PySem PySem.W PySem.Calls PyProof.Rows PySem.HandSPX

theorem def_mk {K : Frag} {h : Heap} {mg : Str → Option Value} {x : Str} {st : Stmt} {ps : List Str} {f : Addr} {oc kV dc pm cd ct : Value} {od an : Option Addr} {sl : Array (Option Value)} (X : K.In h) (G : h.Ns mainGlobals mg)
    (a : nsIn K mainGlobals x = some (some (.ref f))) (l : K.lookup f = some ⟨oc, od, .func (fnOf x x (L2.defArgs st) (L2.defBody st) (L2.defScope st) .none kV dc pm an cd ct), sl⟩) (c : codeIn K cd x = true) (k : keepIn K (.ref f) = true)
    (b : ∀ (kV doc pm : Value) (an : Option Addr) (cdv ct : Value) (us : List Value), us.length = ps.length → bindArgs (fnOf x x (L2.defArgs st) (L2.defBody st) (L2.defScope st) .none kV doc pm an cdv ct) ⟨us, []⟩ = pure (ps.zip us)) : DefAt K mg x st ps :=
  ⟨f, _, L2.fun_mk l c k, mg_of X G a, (L2.fun_mk (st := st) l c k).binds b⟩
theorem ecls_mk {P : Program} {K : Frag} {C D fI cda cc : Addr} {q : Str} {st : Stmt} {nm qq : Str} {N : Addr} {bs : List Value} {sn sub ab col : _} {dd : Option Addr} {k0 k1 k2 k3 k5 : Option Value} {oc ccl cl : Value} {od an cdd cld : Option Addr} {doc pm ct : Value} {osl ccs csl : Array (Option Value)} {vs : Array Value} {file : Str} {tf : Tok}
    (iC : findIn K (.ref C) "__init__" = some (some (.ref fI)))
    (xL : K.lookup C = some (excClassObj nm qq C N bs (errTail D) true sn sub ab col dd k0 k1 k2 k3 k5 "Exception.__new__"))
    (sup : alongIn K "__init__" (errTail D) = some (some (.builtin "Exception.__init__"))) (opq : nsIn K cStatics "thirdparty.any" = some none) (exI : subIn K (.ref C) (.type "Exception") = some true) (slf : mroIn K C (.ref C) = some true)
    (sa : findIn K (.ref C) "__setattr__" = some (some (.builtin "object.__setattr__"))) (tC : typeIn K (.ref fI) = some (.type "function")) (kC : keepIn K (.ref C) = true) (exC : subIn K (.ref C) (.type "BaseException") = some true)
    (tyC : typeIn K (.ref C) = some (.type "type")) (ga : findIn K (.ref C) "__getattribute__" = some (some (.builtin "BaseException.__getattribute__"))) (gg : findIn K (.ref C) "__getattr__" = some none) (hdC : hasDictIn K C = true)
    (l1 : K.lookup fI = some ⟨oc, od, .func (ksFn "__init__" q (L2.defArgs st) (L2.defBody st) (L2.defScope st) .none .none doc pm an (.ref cda) ct cc), osl⟩) (c1 : codeIn K (.ref cda) q = true)
    (l2 : K.lookup cda = some ⟨ccl, cdd, .fields vs, ccs⟩) (v2 : vs[2]? = some (.str file tf)) (fe : ((P.main.file : Str) == file) = true) (l3 : K.lookup cc = some ⟨cl, cld, .cell (some (.ref C)), csl⟩)
    (sg : nsIn K mainGlobals "super" = some none) (top : (P.main.scope.names.lookup ("super" : Str)).isSome = false) : ErrCls P K C D fI q st :=
  ⟨⟨nm, qq, N, bs, sn, sub, ab, col, dd, k0, k1, k2, k3, k5, xL⟩, sup, opq, exI, slf, sa, iC, tC, kC, exC, tyC, ga, gg, hdC, ⟨oc, ccl, cl, od, an, cdd, cld, doc, pm, ct, osl, ccs, csl, cda, cc, vs, file, tf, l1, c1, l2, v2, fe, l3⟩, sg, top⟩
/-- the base of the errors: its own line has no __init__ -/
theorem along_mk {K : Frag} {D : Addr} {nm qq : Str} {N : Addr} {bs : List Value} {sn sub ab col : _} {hd : Bool} {dd : Option Addr} {k0 k1 k2 k3 k5 : Option Value} {mk : String}
    (xD : K.lookup D = some (excClassObj nm qq D N bs [.type "Exception", .type "BaseException", .type "object"] hd sn sub ab col dd k0 k1 k2 k3 k5 mk)) (fD : findIn K (.ref D) "__init__" = some (some (.builtin "Exception.__init__"))) :
    alongIn K "__init__" (errTail D) = some (some (.builtin "Exception.__init__")) := by
  have e : findIn K (.ref D) "__init__" = alongIn K "__init__" (errTail D) := by
    show (match K.lookup D with
      | some ⟨_, _, .cls cd, _⟩ => alongIn K "__init__" cd.mro
      | _ => none) = _
    rw [xD]
  exact e ▸ fD
theorem globI_mk {K : Frag} {h : Heap} {mg : Str → Option Value} {x : Str} {i j : Int} {t : Tok} (X : K.In h) (G : h.Ns mainGlobals mg) (a : nsIn K mainGlobals x = some (some (.int j t))) (e : j = i) : GlobI mg x i :=
  ⟨t, by rw [← e]; exact mg_of X G a⟩
/-- except X catches an error of the class X itself -/
theorem exm_me {K : Frag} {S : Addr} (h1 : subIn K (.ref S) (.type "BaseException") = some true) (h2 : isClsIn K S = true) (h3 : typeIn K (.ref S) = some (.type "type")) (h4 : subIn K (.ref S) (.ref S) = some true) : exmOne K (.ref S) (.ref S) = some true := by
  have a1 : (subIn K (.ref S) (.type "BaseException") == some true) = true := by rw [h1] <;> rfl
  have a3 : (clsIn K S).isSome = true := h2
  have a2 : ((clsIn K S).isSome && typeIn K (.ref S) == some (.type "type")) = true := by rw [a3, h3] <;> rfl
  show (if (subIn K (.ref S) (.type "BaseException") == some true) = true then (if ((clsIn K S).isSome && typeIn K (.ref S) == some (.type "type")) = true then subIn K (.ref S) (.ref S) else none) else none) = some true
  rw [if_pos a1, if_pos a2, h4]
theorem errN1_mk {P : Program} {K : Frag} {h : Heap} {mg : Str → Option Value} {x f : Str} {C D fI : Addr} {q : Str} {st : Stmt} (X : K.In h) (G : h.Ns mainGlobals mg) (aC : nsIn K mainGlobals x = some (some (.ref C))) (T : ErrCls P K C D fI q st)
    (nf : findIn K (.ref C) f = some none) (h1 : ErrCls P K C D fI q st → findIn K (.ref C) f = some none → Err1 P K C D fI q st f) : ErrN1 P K mg x C f :=
  ⟨mg_of X G aC, ⟨D, fI, q, st, h1 T nf⟩, mg_none_of X G T.sn⟩
theorem errN2_mk {P : Program} {K : Frag} {h : Heap} {mg : Str → Option Value} {x f f2 : Str} {C D fI : Addr} {q : Str} {st : Stmt} (X : K.In h) (G : h.Ns mainGlobals mg) (aC : nsIn K mainGlobals x = some (some (.ref C))) (T : ErrCls P K C D fI q st)
    (nf : findIn K (.ref C) f = some none) (nf2 : findIn K (.ref C) f2 = some none) (h1 : ErrCls P K C D fI q st → findIn K (.ref C) f = some none → findIn K (.ref C) f2 = some none → Err2 P K C D fI q st f f2) : ErrN2 P K mg x C f f2 :=
  ⟨mg_of X G aC, ⟨D, fI, q, st, h1 T nf nf2⟩, mg_none_of X G T.sn⟩
/-- law's Fun, by letters -/
theorem law_fun {K : Frag} {h : Heap} {mg : Str → Option Value} {st : Stmt} {f fa : Addr} {oc kV dc pm cd ct : Value} {od an : Option Addr} {sl : Array (Option Value)} (X : K.In h) (G : h.Ns mainGlobals mg) (hfa : mg "law" = some (.ref fa))
    (a : nsIn K mainGlobals "law" = some (some (.ref f))) (l : K.lookup f = some ⟨oc, od, .func (fnOf "law" "law" (L2.defArgs st) (L2.defBody st) (L2.defScope st) .none kV dc pm an cd ct), sl⟩) (c : codeIn K cd "law" = true) (k : keepIn K (.ref f) = true)
    (b : ∀ (kV doc pm : Value) (an : Option Addr) (cdv ct u : Value) (s : Shared), BindsTo s (fnOf "law" "law" (L2.defArgs st) (L2.defBody st) (L2.defScope st) .none kV doc pm an cdv ct) ⟨[u], []⟩ [("script", u)]) :
    ∃ fd, L2.Fun K "law" "law" st fa fd ∧ ∀ (s : Shared) (u : Value), BindsTo s fd ⟨[u], []⟩ [("script", u)] := by
  have e := hfa.symm.trans (mg_of X G a)
  cases e
  exact ⟨_, L2.fun_mk l c k, fun s u => b _ _ _ _ _ _ u s⟩
end Py
end
section
set_option Elab.async false
set_option linter.all false
set_option maxRecDepth 100000
/-! Tools for the pure side. -/
namespace Py
open PySem L2

theorem var_at {i : Nat} {sl : List Slot} {S : List Int} {Q : PQ} {E : PXQ} {d : D} (h : sl[i]? = some (.dat d)) : pVar i sl S Q E = Q (.dat d) S := by unfold pVar; rw [h]
/-- a loop by an invariant: what comes behind is any N -/
theorem forRun_ind {tg : PGx} {body : PSm} {P : PEnds} (Iv : Nat → List Slot → List Int → Prop) {ds : List D}
    (step : ∀ i d sl S (N : List Slot → List Int → Prop), ds[i]? = some d → Iv i sl S → (∀ sl' S', Iv (i + 1) sl' S' → N sl' S') → tg (.dat d) sl S fun sl1 S1 => body { P with nx := N, ct := N, bk := P.nx } sl1 S1)
    (done : ∀ sl S, Iv ds.length sl S → P.nx sl S) : ∀ (j : Nat) sl S, j ≤ ds.length → Iv j sl S → forRun tg body P (ds.drop j) sl S := by
  intro j sl S hj h
  generalize hm : ds.length - j = m
  induction m generalizing j sl S with
  | zero =>
    have e : j = ds.length := by omega
    subst e
    rw [List.drop_length]
    exact done sl S h
  | succ m ih =>
    have hlt : j < ds.length := by omega
    rw [List.drop_eq_getElem_cons hlt]
    refine step j ds[j] sl S _ (List.getElem?_eq_getElem hlt) h fun sl' S' h' => ih (j + 1) sl' S' (by omega) h' (by omega)
theorem for_ind {tg : PGx} {body : PSm} {P : PEnds} {ds : List D} {sl : List Slot} {S : List Int} (Iv : Nat → List Slot → List Int → Prop) (h0 : Iv 0 sl S)
    (step : ∀ i d sl S (N : List Slot → List Int → Prop), ds[i]? = some d → Iv i sl S → (∀ sl' S', Iv (i + 1) sl' S' → N sl' S') → tg (.dat d) sl S fun sl1 S1 => body { P with nx := N, ct := N, bk := P.nx } sl1 S1)
    (done : ∀ sl S, Iv ds.length sl S → P.nx sl S) : forRun tg body P ds sl S := forRun_ind Iv step done 0 sl S (Nat.zero_le _) h0
theorem while_ind {c : PTx} {body : PSm} {P : PEnds} {sl : List Slot} {S : List Int} (Iv : Nat → List Slot → List Int → Prop) (m0 : Nat) (h0 : Iv m0 sl S)
    (step : ∀ m sl S (N : List Slot → List Int → Prop), Iv m sl S → (∀ m2 sl2 S2, m2 < m → Iv m2 sl2 S2 → N sl2 S2) → c sl S (fun b S1 => if b = true then body { P with nx := N, ct := N, bk := P.nx } sl S1 else P.nx sl S1) (fun x S1 => P.ex x sl S1)) : pWhile c body P sl S :=
  ⟨Iv, ⟨m0, h0⟩, fun m sl S h => step m sl S _ h fun m2 sl2 S2 lt h2 => ⟨m2, lt, h2⟩⟩
/-- a comprehension: each item's value by a relation; the draws may go on -/
theorem lc_ind {i : Nat} {pe : PEx} {sl : List Slot} (Pd : D → D → Prop) : ∀ {ds : List D} {S : List Int} {Q : List D → List Int → Prop},
    (∀ d ∈ ds, ∀ (S : List Int) (N : D → List Int → Prop), (∀ y S', Pd d y → N y S') → dat pe (sl.set i (.dat d)) S N fun _ _ => False) → (∀ ys S', Paired Pd ds ys → Q ys S') → lcRun i pYes pe ds sl S Q
  | [], S, Q, _, q => q [] S .nil
  | d :: ds, S, Q, h, q => by
    simp only [lcRun, pYes, if_true]
    refine h d (by simp) S _ fun y S' hy => ?_
    exact lc_ind Pd (fun d' hd => h d' (by simp [hd])) fun ys S'' hp => q (y :: ys) S'' (.cons hy hp)
theorem lc_pair {α : Type} {i : Nat} {pe : PEx} {sl : List Slot} {R : D → α → Prop} (g : α → D) : ∀ {ds : List D} {ms : List α} {S : List Int} {Q : List D → List Int → Prop}, Paired R ds ms →
    (∀ d m, R d m → m ∈ ms → ∀ N : D → List Int → Prop, N (g m) S → dat pe (sl.set i (.dat d)) S N fun _ _ => False) → Q (ms.map g) S → lcRun i pYes pe ds sl S Q
  | _, _, S, Q, .nil, _, q => q
  | _, _, S, Q, .cons (b := m) h r, hs, q => by
    simp only [lcRun, pYes, if_true]
    refine hs _ m h (by simp) _ ?_
    exact lc_pair g r (fun d m' hd hm => hs d m' hd (by simp [hm])) q
theorem lc_draw {α : Type} {i : Nat} {pe : PEx} {sl : List Slot} {R T : D → α → Prop} : ∀ {ds : List D} {ms : List α} {S : List Int} {Q : List D → List Int → Prop}, Paired R ds ms →
    (∀ d m, R d m → m ∈ ms → ∀ (S : List Int) (N : D → List Int → Prop), (∀ y S', T y m → N y S') → dat pe (sl.set i (.dat d)) S N fun _ _ => False) → (∀ ys S', Paired T ys ms → Q ys S') → lcRun i pYes pe ds sl S Q
  | _, _, S, Q, .nil, _, q => q _ _ .nil
  | _, _, S, Q, .cons (b := m) h r, hs, q => by
    simp only [lcRun, pYes, if_true]
    refine hs _ m h (by simp) _ _ fun y S' hy => ?_
    exact lc_draw r (fun d m' hd hm => hs d m' hd (by simp [hm])) fun ys S'' hp => q (y :: ys) S'' (.cons hy hp)
theorem paired_snoc {α β : Type} {R : α → β → Prop} {x : α} {y : β} (h : R x y) : ∀ {xs : List α} {ys : List β}, Paired R xs ys → Paired R (xs ++ [x]) (ys ++ [y])
  | _, _, .nil => .cons h .nil
  | _, _, .cons h2 r => .cons h2 (paired_snoc h r)
theorem paired_get {α β : Type} {R : α → β → Prop} : ∀ {xs : List α} {ys : List β} {i : Nat} {x : α}, Paired R xs ys → xs[i]? = some x → ∃ y, ys[i]? = some y ∧ R x y
  | _, _, _, _, .nil, e => by simp at e
  | _, _, 0, _, .cons h _, e => by simp at e; subst e; exact ⟨_, rfl, h⟩
  | _, _, i + 1, x, .cons _ r, e => by
    obtain ⟨y, h1, h2⟩ := paired_get (i := i) (x := x) r (by simpa using e)
    exact ⟨y, by simpa using h1, h2⟩
theorem take_snoc {α : Type} {xs : List α} {i : Nat} {x : α} (h : xs[i]? = some x) : xs.take (i + 1) = xs.take i ++ [x] := by
  rw [List.take_add_one, h]
  rfl
theorem paired_map {α β : Type} {R : α → β → Prop} {f : β → α} (h : ∀ b, R (f b) b) : ∀ ys : List β, Paired R (ys.map f) ys
  | [] => .nil
  | y :: r => .cons (h y) (paired_map h r)
theorem paired_rng : ∀ (n k : Nat), Paired (fun d (j : Nat) => d = D.int j) ((List.range' k n).map fun i => D.int ((0 : Int) + (i : Nat) * 1)) (List.range' k n)
  | 0, k => .nil
  | n + 1, k => by
    rw [List.range'_succ]
    exact .cons (by simp) (paired_rng n (k + 1))
theorem lc_rng {i n : Nat} {pe : PEx} {sl : List Slot} (g : Nat → D) {S : List Int} {Q : List D → List Int → Prop}
    (h : ∀ j, j < n → ∀ N : D → List Int → Prop, N (g j) S → dat pe (sl.set i (.dat (.int j))) S N fun _ _ => False) (q : Q ((List.range n).map g) S) : lcRun i pYes pe (rng 0 1 n) sl S Q := by
  have p := paired_rng n 0
  rw [← List.range_eq_range'] at p
  exact lc_pair g p (fun d j hd hj => by subst hd; exact h j (List.mem_range.mp hj)) q
/-- without draws, by a function -/
theorem lc_map {i : Nat} {pe : PEx} {sl : List Slot} (f : D → D) : ∀ {ds : List D} {S : List Int} {Q : List D → List Int → Prop},
    (∀ d ∈ ds, ∀ (N : D → List Int → Prop), N (f d) S → dat pe (sl.set i (.dat d)) S N fun _ _ => False) → Q (ds.map f) S → lcRun i pYes pe ds sl S Q
  | [], S, Q, _, q => q
  | d :: ds, S, Q, h, q => by
    simp only [lcRun, pYes, if_true]
    refine h d (by simp) _ ?_
    exact lc_map f (fun d' hd => h d' (by simp [hd])) q
end Py
end
section
set_option Elab.async false
set_option linter.all false
set_option maxRecDepth 100000
set_option maxHeartbeats 4000000
/-! Instances: fields, making, methods. -/
namespace Py
open PySem L2 PySem.Spec PyProof.Rows

/-! ### fields read -/
@[simp] def pFld (C : Addr) (p : PEx) (f : Str) : PEx := fun sl S Q E => dat p sl S (fun d S1 => match d with
  | .obj C' ns ds => C' = C ∧ match (ns.zip ds).lookup f with
    | some v => Q (.dat v) S1
    | none => False
  | _ => False) E
section
variable {X : Cx} {W : WX} {e : Expr} {p : PEx} {f : Str} {C : Addr} {pos px : Pos} {x : Str}
theorem se_fld (c : Cls X.K C) (n : NoAttr X.K C f) (h : SE X W e p) (hb : attributeBase e f X.env (eval e X.env) = eval e X.env := by rfl) : SE X W (.Attribute e f pos) (pFld C p f) := ⟨PE.imp (pe_fld h.pe hb) fun σ H Q h => by
  obtain ⟨g, F, sl, S, Q', E', rel, hp, post, exc⟩ := h
  refine rdE_dat rel hp exc fun d S1 v H1 F1 s1 rel1 r1 h1 => ?_
  cases r1 with
  | obj ha hdx l rl =>
    obtain ⟨rfl, h1⟩ := h1
    rename_i a c' dx ns vs ds
    cases e : (ns.zip ds).lookup f with
    | none => rw [e] at h1; exact h1.elim
    | some d =>
      rw [e] at h1
      obtain ⟨v, ev, rv⟩ := lookup_zip rl e
      exact ⟨a, _, dx, _, v, rfl, rel1.cor.fh _ _ ha, c, n, ev, post (.dat d) S1 v H1 F1 s1 rel1 rv trivial h1⟩
  | _ => exact h1.elim⟩
/-- self.f within __init__ -/
@[simp] def pGetS (i : Nat) (C : Addr) (f : Str) : PEx := fun sl S Q _ => match sl[i]? with
  | some (.slf _ C' ns ds) => C' = C ∧ match (ns.zip ds).lookup f with
    | some v => Q (.dat v) S
    | none => False
  | _ => False
theorem Rel.slf {K : PySem.W.Frag} {g : G} {F H : Hp} {sl : List Slot} {S : List Int} {σ : L2.St} (r : Rel K g F sl S σ H) {i : Nat} {a C : Addr} {ns : List Str} {ds : List D} (h : sl[i]? = some (.slf a C ns ds)) :
    ∃ dx vs, σ[i]? = some (some (.ref a)) ∧ H a = some (.ins C dx (ns.zip vs)) ∧ H dx = some (.own a) ∧ F a = none ∧ F dx = none ∧ g.H0 a = none ∧ g.H0 dx = none ∧ ns.length = vs.length ∧ RpL K F vs ds := by
  obtain ⟨dx, vs, e, q⟩ := r.ok i _ h
  refine ⟨dx, vs, ?_, q⟩
  cases e2 : σ[i]? with
  | none => rw [e2] at e; cases e
  | some o => rw [e2] at e; exact congrArg some e
theorem se_getS (i : Nat) {C : Addr} (c : Cls X.K C) (n : NoAttr X.K C f) (hN : X.N[i]? = some x := by rfl) (hv : Vis X.env.scope x := by first | exact Or.inl rfl | exact Or.inr (Or.inl rfl) | exact Or.inr (Or.inr rfl)) (hd : (x == ("__debug__" : Str)) = false := by decide)
    (hcd : (x == ("__classdict__" : Str)) = false := by decide) (hb : attributeBase (.Name x px) f X.env (eval (.Name x px) X.env) = eval (.Name x px) X.env := by rfl) :
    SE X W (.Attribute (.Name x px) f pos) (pGetS i C f) := ⟨PE.imp (pe_fld (pe_var hN hv hd hcd) hb) fun σ H Q h => by
  obtain ⟨g, F, sl, S, Q', E', rel, hp, post, exc⟩ := h
  unfold pGetS at hp
  cases e : sl[i]? with
  | none => rw [e] at hp; exact hp.elim
  | some s =>
    rw [e] at hp
    cases s with
    | slf a C' ns ds =>
      obtain ⟨rfl, hp⟩ := hp
      obtain ⟨dx, vs, h1, h2, h3, h4, h5, h6, h7, l, rl⟩ := rel.slf e
      cases e2 : (ns.zip ds).lookup f with
      | none => rw [e2] at hp; exact hp.elim
      | some d =>
        rw [e2] at hp
        obtain ⟨v, ev, rv⟩ := lookup_zip rl e2
        exact ⟨_, h1, a, _, dx, _, v, rfl, h2, c, n, ev, post (.dat d) S v H F Stp.refl rel rv trivial hp⟩
    | un => exact hp.elim
    | dat d => exact hp.elim
    | own ds => exact hp.elim
    | drw => exact hp.elim
    | dic ks es => exact hp.elim
    | exc a d x => exact hp.elim⟩
end
/-! ### self.f = e -/
/-- a new field is put behind the others -/
theorem putF_zip {f : Str} {v : V} : ∀ {ns : List Str} {vs : List V}, ns.length = vs.length → f ∉ ns → putF f v (ns.zip vs) = (ns ++ [f]).zip (vs ++ [v])
  | [], [], _, _ => rfl
  | n :: ns, w :: vs, l, h => by
    have hn : ¬ n = f := fun z => h (by simp [z])
    show (if n = f then _ else (n, w) :: putF f v (ns.zip vs)) = _
    rw [if_neg hn, putF_zip (by simpa using l) (fun z => h (by simp [z]))]
    rfl
@[simp] def noSlf : List Slot → Bool
  | [] => true
  | .slf _ _ _ _ :: _ => false
  | _ :: r => noSlf r
theorem noSlf_get : ∀ {sl : List Slot} {j : Nat} {a C : Addr} {ns : List Str} {ds : List D}, noSlf sl = true → sl[j]? ≠ some (.slf a C ns ds)
  | [], j, _, _, _, _, _ => by simp
  | s :: r, 0, _, _, _, _, h => by
    cases s <;> simp at h ⊢
  | s :: r, j + 1, _, _, _, _, h => by
    have : noSlf r = true := by cases s <;> simp_all
    simpa using noSlf_get (j := j) this
@[simp] def pSetS (C : Addr) (f : Str) (pe : PEx) : PSm := fun P sl S => pe sl S (fun r S1 => ∃ d, r.toD = some d ∧ match sl with
  | .slf a C' ns ds :: rest => C' = C ∧ noSlf rest = true ∧ f ∉ ns ∧ ns.length < 1000 ∧ P.nx (.slf a C (ns ++ [f]) (ds ++ [d]) :: rest) S1
  | _ => False) (fun x S1 => P.ex x sl S1)
theorem Rel.put {K : PySem.W.Frag} {g : G} {F H : Hp} {sl : List Slot} {S : List Int} {σ : L2.St} (r : Rel K g F sl S σ H) {i : Nat} {a C dx : Addr} {ns : List Str} {ds : List D} {vs : List V} {f : Str} {v : V} {d : D} (h : sl[i]? = some (.slf a C ns ds))
    (h1 : σ[i]? = some (some (.ref a))) (h2 : H a = some (.ins C dx (ns.zip vs))) (h3 : H dx = some (.own a)) (h4 : F a = none) (h5 : F dx = none) (h6 : g.H0 a = none) (h7 : g.H0 dx = none) (l : ns.length = vs.length) (rl : RpL K F vs ds) (rv : Rp K F v d) (hf : f ∉ ns)
    (one : ∀ j b C' ns' ds', i ≠ j → sl[j]? ≠ some (.slf b C' ns' ds')) : Rel K g F (sl.set i (.slf a C (ns ++ [f]) (ds ++ [d]))) S σ (upd H a (.ins C dx (putF f v (ns.zip vs)))) := by
  have hi : i < sl.length := (List.getElem?_eq_some_iff.mp h).1
  have nd : dx ≠ a := fun z => by rw [z, h2] at h3; cases h3
  refine ⟨r.cor.write h4 h6, by simpa using r.len, fun j s hj => ?_, fun j k dj dk p' hjk e4 e5 e6 => ?_⟩
  · by_cases hij : i = j
    · subst hij
      rw [List.getElem?_set_self hi] at hj
      cases hj
      refine ⟨dx, vs ++ [v], by rw [h1]; rfl, ?_, by rw [upd_ne nd]; exact h3, h4, h5, h6, h7, by simp [l], rl.append (.cons rv .nil)⟩
      rw [upd_same, putF_zip l hf]
    · rw [List.getElem?_set_ne hij] at hj
      cases s with
      | un => trivial
      | dat d => exact r.ok j _ hj
      | drw => exact r.ok j _ hj
      | exc x y z => exact r.ok j _ hj
      | own es =>
        obtain ⟨p'', vs'', e6, h7, h8⟩ := r.ok j _ hj
        exact ⟨p'', vs'', e6, by rw [upd_ne fun z => by rw [z, h2] at h7; cases h7]; exact h7, h8⟩
      | dic ks es =>
        obtain ⟨p'', vs'', e6, h7, h8⟩ := r.ok j _ hj
        exact ⟨p'', vs'', e6, by rw [upd_ne fun z => by rw [z, h2] at h7; cases h7]; exact h7, h8⟩
      | slf b C' ns' ds' => exact absurd hj (one j b C' ns' ds' hij)
  · have base : ∀ (m : Nat) (dm : List D), (sl.set i (Slot.slf a C (ns ++ [f]) (ds ++ [d])))[m]? = some (Slot.own dm) → sl[m]? = some (Slot.own dm) := fun m dm hm => by
      by_cases z : i = m
      · subst z; rw [List.getElem?_set_self hi] at hm; cases hm
      · rw [List.getElem?_set_ne z] at hm; exact hm
    exact r.sep j k dj dk p' hjk (base j dj e4) (base k dk e5) e6
section
variable {X : Cx} {W : WX} {e : Expr} {p : PEx} {f : Str} {C : Addr} {pos px ap : Pos} {x : Str}
theorem ss_setS (c : Cls X.K C) (n : NoAttr X.K C f) (he : SE X W e p) (hN : X.N[0]? = some x := by rfl) (hv : Vis X.env.scope x := by first | exact Or.inl rfl | exact Or.inr (Or.inl rfl) | exact Or.inr (Or.inr rfl)) (hd : (x == ("__debug__" : Str)) = false := by decide)
    (hcd : (x == ("__classdict__" : Str)) = false := by decide) (hs : swapsWith e (some (.Attribute (.Name x px) f ap)) pos.line X.env = pure false := by rfl) :
    SS X W (.Assign [.Attribute (.Name x px) f ap] e pos) (pSetS C f p) := ⟨PS.imp (ps_fld (pe_var hN hv hd hcd) he.pe hs) fun D σ H h => by
  obtain ⟨g, F, sl, S, P, rel, hp, lk⟩ := h
  refine ⟨g, F, sl, S, _, _, rel, hp, fun r S1 v H1 F1 s1 rel1 rr nw ⟨d, hd, h1⟩ => ?_, lk.exc sl σ⟩
  obtain ⟨F2, sF, s2, rel2, rv⟩ := rel1.plain rel rr s1 nw hd
  cases sl with
  | nil => exact h1.elim
  | cons s rest =>
    cases s with
    | slf a C' ns ds =>
      obtain ⟨rfl, hno, hf, hl, h1⟩ := h1
      obtain ⟨dx, vs, e1, e2, e3, e4, e5, e6, e7, l, rl⟩ := rel2.slf (i := 0) rfl
      refine ⟨_, e1, a, _, dx, _, rfl, e2, c, n, by rw [List.length_zip]; omega, ?_⟩
      refine lk.nx _ S1 σ _ F2 s2.f (rel2.put (i := 0) rfl e1 e2 e3 e4 e5 e6 e7 l rl rv hf fun j b C' ns' ds' hj => ?_) h1
      cases j with
      | zero => exact absurd rfl hj
      | succ j => exact noSlf_get (sl := rest) hno
    | un => exact h1.elim
    | dat d => exact h1.elim
    | own ds => exact h1.elim
    | dic ks es => exact h1.elim
    | drw => exact h1.elim
    | exc a d x => exact h1.elim⟩
end
/-! ### making an instance -/
abbrev PSpecI := List Res → List Int → (List Str → List D → List Int → Prop) → Prop
def spOfI (K : PySem.W.Frag) (C : Addr) (spec : PSpecI) : Sp := fun vs H Q _ => ∃ (x dx : Addr) (ws : List V) (H1 F : Hp) (dr : Option Addr) (S : List Int) (rs : List Res) (Q' : List Str → List D → List Int → Prop), vs = .ref x :: ws ∧ H1 x = none ∧ H1 dx = none ∧ dx ≠ x ∧
  H = upd (upd H1 dx (.own x)) x (.ins C dx []) ∧ Same F H1 ∧ (∀ a, dr = some a → H1 a = some (.lst (S.map V.int)) ∧ F a = none) ∧ RAs K ⟨H1, F, dr⟩ F rs ws ∧ spec rs S Q' ∧
  ∀ ns ds S' H' F', Cor ⟨H1, F, dr⟩ F' S' H' → Rp K F' (.ref x) (.obj C ns ds) → Q' ns ds S' → Q .non H'
/-- the class x can be made: its __init__ keeps a promise -/
structure CalI (P : Program) (w : World) (K : PySem.W.Frag) (mg : Str → Option Value) (base : Heap) (k : Nat) (C : Addr) (spec : PSpecI) : Prop where
  ex : ∃ f fd ps, Mk K C f ∧ FnOk P w K mg base (L2.CX P w) k f fd ps (spOfI K C spec) ∧ Binds K fd ps []
@[simp] def pMake (C : Addr) (spec : PSpecI) (pa : PAx) : PEx := fun sl S Q E => pa sl S (fun rs S1 => spec rs S1 (fun ns ds S2 => Q (.dat (.obj C ns ds)) S2)) E
theorem rd_make {K : PySem.W.Frag} {W : WX} {C : Addr} {spec : PSpecI} {pa : PAx} (σ : L2.St) (H : Hp) (Q : VK) (h : rdE K W (pMake C spec pa) σ H Q) : tMake C (spOfI K C spec) [] (fun _ _ _ => False) (rdA K W pa) σ H Q := by
  obtain ⟨g, F, sl, S, Q', E', rel, hp, post, exc⟩ := h
  refine ⟨g, F, sl, S, _, E', rel, hp, fun rs S1 vs H1 F1 s1 rel1 ras h1 => ?_, exc⟩
  intro x dx hx hdx ne
  refine ⟨x, dx, vs, H1, F1, g.dr, S1, rs, _, by rw [List.append_nil], hx, hdx, ne, rfl, rel1.cor.fh, fun a e => ⟨(rel1.cor.st a e).1, (rel1.cor.st a e).2.1⟩, ras, h1, fun ns ds S2 H2 F2 c rr hq => ⟨rfl, ?_⟩⟩
  obtain ⟨rel2, st⟩ := rel1.after c
  exact post (.dat (.obj C ns ds)) S2 _ H2 F2 (s1.trans st) rel2 rr trivial hq
end Py
namespace Py
open PySem L2 PySem.Spec PyProof.Rows
theorem passF {P : Program} {w : World} {X : Cx} : Passes (L2.CX P w) X (fun _ _ _ => False) := by
  intro pins σ H s e s' I h
  obtain ⟨_, _, _, _, _, _, _, _, _, _, _, _, z⟩ := h
  exact z.elim
section
variable {X : Cx} {W : WX} {k : Nat} {x : Str} {C : Addr} {spec : PSpecI} {e : Expr} {es : List Expr} {pa : PAx} {p pos : Pos}
theorem se_make (c : CalI X.prog X.w X.K X.mg X.base k C spec) (hm : X.mg x = some (.ref C)) (hr : Room (k + 1) X.A) (ha : SA X W (e :: es) pa) (hg : Gl X x := by rfl) (hdb : (x == ("__debug__" : Str)) = false := by decide)
    (he : starEach (e :: es) X.env = (false, eval e X.env) :: starEach es X.env := by rfl) (hpl : (backTo pos (starEach es X.env)).any (·.1) = false := by rfl) : SE X W (.Call (.Name x p) (e :: es) [] pos) (pMake C spec pa) := by
  obtain ⟨f, fd, ps, M, F, hb⟩ := c.ex
  exact ⟨PE.imp (pe_make M F hr hg hm hb .nil passF ha.pa hdb he hpl) rd_make⟩
@[simp] def pMake0 (C : Addr) (spec : PSpecI) : PEx := fun _ S Q _ => spec [] S (fun ns ds S2 => Q (.dat (.obj C ns ds)) S2)
theorem se_make0 (c : CalI X.prog X.w X.K X.mg X.base k C spec) (hm : X.mg x = some (.ref C)) (hr : Room (k + 1) X.A) (hg : Gl X x := by rfl) (hdb : (x == ("__debug__" : Str)) = false := by decide) : SE X W (.Call (.Name x p) [] [] pos) (pMake0 C spec) := by
  obtain ⟨f, fd, ps, M, F, hb⟩ := c.ex
  refine ⟨PE.imp (pe_make0 M F hr hg hm hb .nil passF hdb) fun σ H Q h => ?_⟩
  obtain ⟨g, F, sl, S, Q', E', rel, hp, post, exc⟩ := h
  intro x dx hx hdx ne
  refine ⟨x, dx, [], H, F, g.dr, S, [], _, rfl, hx, hdx, ne, rfl, rel.cor.fh, fun a e => ⟨(rel.cor.st a e).1, (rel.cor.st a e).2.1⟩, .nil, hp, fun ns ds S2 H2 F2 c rr hq => ⟨rfl, ?_⟩⟩
  obtain ⟨rel2, st⟩ := rel.after c
  exact post (.dat (.obj C ns ds)) S2 _ H2 F2 st rel2 rr trivial hq
end
/-- an __init__ by its body -/
theorem fn_mkI {P : Program} {w : World} {K : PySem.W.Frag} {mg : Str → Option Value} {base : Heap} {k : Nat} {x qual : Str} {st : Stmt} {N ps : List Str} {C : Addr} {spec : PSpecI} {p : PSm} {f : Addr} {fd : FuncData} (Fn : Fun K x qual st f fd) (Sc : FnScope N ps (defScope st)) (h1N : 1 ≤ N.length)
    (len : ∀ rs S Q, spec rs S Q → rs.length + 1 = ps.length)
    (hb : ∀ (f : Addr) (cdv : Value) (A : Around) (outer : List Env) (s : Shared) (H : Hp) (E : XK), Room k (A.deeper (PyProof.Rows.envOfC qual (defScope st) s.heap.objs.size f cdv)) →
      SB (cxOf (L2.CX P w) P w K mg base N qual (defScope st) f cdv A outer s H E) (fun cls d _ H => E cls d H) (defBody st) p)
    (hp : ∀ rs S Q a, spec rs S Q → p ⟨fun sl S' => ∃ ns ds rest, sl = .slf a C ns ds :: rest ∧ Q ns ds S', fun _ _ => False, fun _ _ => False, fun _ _ => False, fun _ _ _ => False⟩ (.slf a C [] [] :: (rs.map Res.slot ++ List.replicate (N.length - 1 - rs.length) .un)) S) : FnOk P w K mg base (L2.CX P w) (k + 1) f fd ps (spOfI K C spec) := by
  refine Fn.okX Sc (fun vs H Q E h => ?_) (fun cdv A outer s H vs Q E hr h => ?_)
  · obtain ⟨x, dx, ws, H1, F, dr, S, rs, Q', rfl, hx, hdx, ne, rfl, a1, a2, a3, a4, a5⟩ := h
    have := len _ _ _ a4
    have hl : rs.length = ws.length := Paired.length a3
    simp
    omega
  · obtain ⟨x, dx, ws, H1, F, dr, S, rs, Q', rfl, hx, hdx, ne, rfl, a1, a2, a3, a4, a5⟩ := h
    have hl : rs.length = ws.length := Paired.length a3
    have fx : F x = none := by
      cases e : F x with
      | none => rfl
      | some o => rw [a1 _ _ e] at hx; cases hx
    have fdx : F dx = none := by
      cases e : F dx with
      | none => rfl
      | some o => rw [a1 _ _ e] at hdx; cases hdx
    have c0 : Cor ⟨H1, F, dr⟩ F S H1 := ⟨Same.refl _, fun a o e => .inl (by show F a ≠ none; rw [e]; exact fun z => nomatch z), a1, fun a o e _ => e, fun a e => ⟨(a2 a e).1, (a2 a e).2, by show H1 a ≠ none; rw [(a2 a e).1]; exact fun z => nomatch z⟩⟩
    have c1 : Cor ⟨H1, F, dr⟩ F S (upd H1 dx (.own x)) := c0.alloc hdx
    have c2 : Cor ⟨H1, F, dr⟩ F S (upd (upd H1 dx (.own x)) x (.ins C dx [])) := c1.alloc (by rw [upd_ne (fun z => ne z.symm)]; exact hx)
    refine ⟨_, (hb f cdv A outer s _ E hr).ps, ⟨H1, F, dr⟩, F, _, S, _, ?_, hp rs S Q' x a4, ?_⟩
    · have get : ∀ (rs : List Res) (ws : List V), RAs K ⟨H1, F, dr⟩ F rs ws → ∀ (i : Nat) (s : Slot), (rs.map Res.slot)[i]? = some s → SlotOk K ⟨H1, F, dr⟩ F (upd (upd H1 dx (.own x)) x (.ins C dx [])) s ((ws.map some)[i]?).join ∧ (∀ d, s ≠ .own d) := by
        intro rs
        induction rs with
        | nil => intro ws _ i s e; simp at e
        | cons r rs ih =>
          intro ws h i s e
          cases h with
          | cons h1 h2 =>
            cases i with
            | zero =>
              simp at e
              subst e
              cases r with
              | dat d => exact ⟨⟨_, rfl, h1⟩, fun d => nofun⟩
              | own ds => cases h1
              | drw =>
                obtain ⟨a, e1, rfl⟩ := h1
                exact ⟨⟨a, e1, rfl⟩, fun d => nofun⟩
            | succ i => simpa using ih _ h2 i s (by simpa using e)
      have get2 : ∀ (i : Nat) (s : Slot), (rs.map Res.slot ++ List.replicate (N.length - 1 - rs.length) Slot.un)[i]? = some s → SlotOk K ⟨H1, F, dr⟩ F (upd (upd H1 dx (.own x)) x (.ins C dx [])) s ((ws.map some)[i]?).join ∧ (∀ d, s ≠ .own d) ∨ s = .un := fun i s e => by
        rw [List.getElem?_append] at e
        split at e
        · exact .inl (get rs ws a3 i s e)
        · rw [List.getElem?_replicate] at e
          split at e
          · exact .inr (Option.some.inj e).symm
          · cases e
      refine ⟨c2, ?_, fun i s e => ?_, fun i j di dj p' hij h4 h5 => ?_⟩
      · unfold L2.start
        simp
        omega
      · cases i with
        | zero =>
          cases e
          exact ⟨dx, [], rfl, upd_same, by rw [upd_ne ne]; exact upd_same, fx, fdx, hx, hdx, rfl, .nil⟩
        | succ i =>
          rcases get2 i s e with ⟨q, _⟩ | rfl
          · unfold L2.start
            have hi : i < ws.length ∨ ¬ i < ws.length := Decidable.em _
            rcases hi with hi | hi
            · have : (((V.ref x :: ws).map some ++ List.replicate (N.length - (V.ref x :: ws).length) none)[i + 1]?) = (ws.map some)[i]? := by
                rw [List.getElem?_append_left (by simp; exact hi)]
                rfl
              rw [this]
              exact q
            · have z : ((ws.map some)[i]?).join = none := by
                rw [List.getElem?_eq_none (by simp; omega)]; rfl
              rw [z] at q
              cases s with
              | un => trivial
              | dat d => obtain ⟨v, e1, _⟩ := q; cases e1
              | own d => obtain ⟨v, e0, e1, _⟩ := q; cases e1
              | drw => obtain ⟨v, _, e1⟩ := q; cases e1
              | exc a d x => obtain ⟨e1, _⟩ := q; cases e1
              | slf a C ns ds => obtain ⟨_, _, e1, _⟩ := q; cases e1
              | dic ks es => obtain ⟨_, _, e1, _⟩ := q; cases e1
          · trivial
      · cases i with
        | zero => cases h4
        | succ i =>
          rcases get2 i _ h4 with ⟨_, q⟩ | q
          · exact absurd rfl (q di)
          · cases q
    · refine ⟨fun sl S' σ H' F' s1 rel h => ?_, fun _ _ _ _ _ _ _ _ z => z.elim, fun _ _ _ _ _ _ _ z => z.elim, fun _ _ _ _ _ _ _ z => z.elim, fun _ _ _ _ _ _ _ _ _ _ z => z.elim⟩
      obtain ⟨ns, ds, rest, rfl, hq⟩ := h
      obtain ⟨dx', vs, e1, e2, e3, e4, e5, e6, e7, l, rl⟩ := rel.slf (i := 0) rfl
      have nd : dx' ≠ x := fun z => by rw [z, e2] at e3; cases e3
      have k1 := rel.cor.freeze e3 e5 e7
      have k2 := k1.freeze (p := x) e2 (by rw [upd_ne (fun z => nd z.symm)]; exact e4) e6
      have sm : Same F' (upd (upd F' dx' (.own x)) x (.ins C dx' (ns.zip vs))) := (Same.upd_new e5).trans (Same.upd_new (by rw [upd_ne (fun z => nd z.symm)]; exact e4))
      exact a5 ns ds S' H' _ k2 (.obj upd_same (by rw [upd_ne nd]; exact upd_same) l (rl.mono sm)) hq
end Py
end
section
set_option Elab.async false
set_option linter.all false
set_option maxRecDepth 100000
set_option maxHeartbeats 4000000
/-! Methods, properties, isinstance with an own class. -/
namespace Py
open PySem L2 PySem.Spec PyProof.Rows
theorem call_at {K : PySem.W.Frag} {spec : PSpec} {g : G} {F H F1 H1 : Hp} {sl : List Slot} {S1 : List Int} {σ : L2.St} {rs : List Res} {vs : List V} {Q' : Res → List Int → Prop} {Q : VK}
    (s1 : Stp g F H F1 H1) (rel1 : Rel K g F1 sl S1 σ H1) (ras : RAs K g F1 rs vs) (h1 : spec rs S1 Q' (fun _ _ => False))
    (post : ∀ r S' v H' F', Stp g F H F' H' → Rel K g F' sl S' σ H' → RR K g F' H' r v → Nw H r v → Q' r S' → Q v H') : spOf K spec vs H1 Q (fun _ _ _ => False) := by
  refine ⟨F1, g.dr, S1, rs, _, _, rel1.cor.fh, fun a e => ⟨(rel1.cor.st a e).1, (rel1.cor.st a e).2.1⟩, ras, h1, fun r S2 v H2 F2 c rr hq => ?_, fun x S2 d H2 F2 c er hq => hq⟩
  obtain ⟨rel2, st⟩ := rel1.after c
  refine post r S2 v H2 F2 (s1.trans st) rel2 ?_ ?_ hq
  · cases r with
    | dat d => exact rr
    | own ds =>
      obtain ⟨p, vs', rfl, h1, h2, h3, h4⟩ := rr
      exact ⟨p, vs', rfl, h1, h2, rel1.cor.new h3, h4⟩
    | drw => exact rr
  · cases r with
    | own ds =>
      obtain ⟨p, vs', rfl, h1, h2, h3, h4⟩ := rr
      exact fun q e => by cases e; exact s1.d p h3
    | _ => trivial
/-- a method of a class -/
structure CalM (P : Program) (w : World) (K : PySem.W.Frag) (mg : Str → Option Value) (base : Heap) (k : Nat) (C : Addr) (m : Str) (spec : PSpec) : Prop where
  ex : ∃ f fd ps, Meth K C m f ∧ FnOk P w K mg base (L2.CX P w) k f fd ps (spOf K spec) ∧ Binds K fd ps []
structure CalP (P : Program) (w : World) (K : PySem.W.Frag) (mg : Str → Option Value) (base : Heap) (k : Nat) (C : Addr) (m : Str) (spec : PSpec) : Prop where
  ex : ∃ pa f fd ps, PropOf K C m pa f ∧ FnOk P w K mg base (L2.CX P w) k f fd ps (spOf K spec) ∧ Binds K fd ps []
@[simp] def pProp (C : Addr) (spec : PSpec) (p : PEx) : PEx := fun sl S Q E => dat p sl S (fun d S1 => match d with
  | .obj C' ns ds => C' = C ∧ spec [.dat (.obj C' ns ds)] S1 Q (fun _ _ => False)
  | _ => False) E
@[simp] def pMeth (C : Addr) (m : Str) (spec : PSpec) (p : PEx) (pa : PAx) : PEx := fun sl S Q E => dat p sl S (fun d S1 => match d with
  | .obj C' ns ds => C' = C ∧ m ∉ ns ∧ pa sl S1 (fun rs S2 => spec (.dat (.obj C' ns ds) :: rs) S2 Q (fun _ _ => False)) E
  | _ => False) E
theorem lookup_out {f : Str} : ∀ {ns : List Str} {vs : List V}, f ∉ ns → (ns.zip vs).lookup f = none
  | [], _, _ => by simp
  | _ :: _, [], _ => by simp
  | n :: ns, v :: vs, h => by
    have hn : (f == n) = false := beq_eq_false_iff_ne.mpr fun z => h (by simp [z])
    show List.lookup f ((n, v) :: ns.zip vs) = none
    simp only [List.lookup, hn]
    exact lookup_out fun z => h (by simp [z])
section
variable {X : Cx} {W : WX} {k : Nat} {f m : Str} {C : Addr} {spec : PSpec} {e o : Expr} {es : List Expr} {p : PEx} {pa : PAx} {pos apos : Pos}
theorem se_prop (cl : Cls X.K C) (c : CalP X.prog X.w X.K X.mg X.base k C f spec) (hr : Room (k + 1) X.A) (he : SE X W e p) (hb : attributeBase e f X.env (eval e X.env) = eval e X.env := by rfl) : SE X W (.Attribute e f pos) (pProp C spec p) := by
  obtain ⟨pr, g0, fd, ps, hp, F, hbd⟩ := c.ex
  refine ⟨PE.imp (pe_prop he.pe cl hp F hr hbd .nil passF hb) fun σ H Q h => ?_⟩
  obtain ⟨g, F, sl, S, Q', E', rel, hp, post, exc⟩ := h
  refine rdE_dat rel hp exc fun d S1 v H1 F1 s1 rel1 r1 h1 => ?_
  cases r1 with
  | obj ha hdx l rl =>
    obtain ⟨rfl, h1⟩ := h1
    exact ⟨_, _, _, rfl, rel1.cor.fh _ _ ha, call_at (rs := [.dat (.obj _ _ _)]) s1 rel1 (.cons (Rp.obj ha hdx l rl) .nil) h1 post⟩
  | _ => exact h1.elim
theorem se_meth {pl : Sem Bool} (cl : Cls X.K C) (c : CalM X.prog X.w X.K X.mg X.base k C m spec) (hr : Room k X.A) (ho : SE X W o p) (ha : SA X W (e :: es) pa)
    (hst : starEach (e :: es) X.env = (false, eval e X.env) :: starEach es X.env := by rfl) (hpl : (backTo pos (starEach es X.env)).any (·.1) = false := by rfl)
    (ht : eval (.Call (.Attribute o m apos) (e :: es) [] pos) X.env = (do
      let ov ← eval o X.env
      standAt apos.atName
      let (f, first) ← holding [ov] (getMethod ov m pl)
      callWith pos f first (backTo pos (starEach (e :: es) X.env)) (backToKw pos (keywordEach [] X.env))) := by rfl) : SE X W (.Call (.Attribute o m apos) (e :: es) [] pos) (pMeth C m spec p pa) := by
  obtain ⟨f0, fd, ps, hm, F, hbd⟩ := c.ex
  refine ⟨PE.imp (pe_meth ho.pe cl hm F hr hbd .nil passF ha.pa hst hpl ht) fun σ H Q h => ?_⟩
  obtain ⟨g, F, sl, S, Q', E', rel, hp, post, exc⟩ := h
  refine rdE_dat rel hp exc fun d S1 v H1 F1 s1 rel1 r1 h1 => ?_
  cases r1 with
  | obj ha hdx l rl =>
    obtain ⟨rfl, hm, h1⟩ := h1
    refine ⟨_, _, _, rfl, rel1.cor.fh _ _ ha, lookup_out hm, g, F1, sl, S1, _, _, rel1, h1, fun rs S2 vs H2 F2 s2 rel2 ras h2 => ?_, exc.mono s1.f⟩
    show spOf X.K spec (V.ref _ :: (vs ++ [])) H2 Q _
    rw [List.append_nil]
    exact call_at (rs := .dat (.obj _ _ _) :: rs) (s1.trans s2) rel2 (.cons (Rp.mono s2.f (Rp.obj ha hdx l rl)) ras) h2 post
  | _ => exact h1.elim
/-- what type(..) of an instance asks of its class -/
structure OwnTy (K : PySem.W.Frag) (C : Addr) : Prop where
  cl : Cls K C
  ty : ∀ {H : Hp} {a dx : Addr} {fs : List (Str × V)}, H a = some (.ins C dx fs) → TyOf K H (.ref a) (.ref C)
/-- isinstance(e, C), C an own class -/
@[simp] def pIsC (C' : Addr) (p : PEx) : PEx := fun sl S Q E => dat p sl S (fun d S1 => match d with
  | .obj c ns ds => c = C' ∧ Q (.dat (.bl true)) S1
  | _ => False) E
theorem se_isC {x : Str} {xp tp : Pos} {C' : Addr} (ow : OwnTy X.K C') (hk : PySem.W.kitOne X.K (.ref C') (.ref C) = some true) (h : SE X W e p) (hm : X.mg "isinstance" = none) (hmc : X.mg x = some (.ref C)) (hg : Gl X "isinstance" := by rfl) (hgt : Gl X x := by rfl) (hd : (x == ("__debug__" : Str)) = false := by decide)
    (he : starEach (e :: [.Name x tp]) X.env = (false, eval e X.env) :: starEach [.Name x tp] X.env := by rfl) (he2 : starEach ((.Name x tp) :: []) X.env = (false, eval (.Name x tp) X.env) :: starEach [] X.env := by rfl)
    (hpl : (backTo pos (starEach [.Name x tp] X.env)).any (·.1) = false := by rfl) : SE X W (.Call (.Name "isinstance" xp) [e, .Name x tp] [] pos) (pIsC C' p) :=
  ⟨PE.imp (pe_callB call_isi hg hm (by decide +kernel) (pa_cons h.pe (pa_cons (pe_glob (v := .ref C) hgt hmc rfl hd) pa_nil he2) he) (he := he) (hpl := hpl)) fun σ H Q h => by
    obtain ⟨g, F, sl, S, Q', E', rel, hp, post, exc⟩ := h
    refine rdE_dat rel hp exc fun d S1 v H1 F1 s1 rel1 r1 h1 => ?_
    cases r1 with
    | obj ha hdx l rl =>
      obtain ⟨rfl, h1⟩ := h1
      exact ⟨_, .ref C, .ref _, _, true, rfl, .own C, .base (ow.ty (rel1.cor.fh _ _ ha)), hk, post (.dat (.bl _)) S1 _ H1 F1 s1 rel1 (.bl _) trivial h1⟩
    | _ => exact h1.elim⟩
end
theorem ownTy_mk {K : PySem.W.Frag} {C : Addr} (cl : Cls K C) (ha : PySem.W.findIn K (.ref C) "__class__" = some (some (.builtin "object.__class__")))
    (hn : PySem.W.specialIn K (.builtin "object.__class__") "__get__" = some (some (.builtin "getset_descriptor.__get__"))) (htk : PySem.W.takesIn K (.builtin "object.__class__") = some true)
    (hm : PySem.W.mroIn K C (.type "object") = some true) : OwnTy K C := ⟨cl, fun e => .ins e cl ha hn htk hm⟩
end Py
end
section
set_option Elab.async false
set_option linter.all false
set_option maxRecDepth 100000
set_option maxHeartbeats 4000000
/-! == by an own __eq__ that says True. -/
namespace Py
open PySem L2 PySem.Spec PyProof.Rows
theorem Rel.ext {K : PySem.W.Frag} {g : G} {F H H' : Hp} {sl : List Slot} {S : List Int} {σ : L2.St} (r : Rel K g F sl S σ H) (e : Ext H H') : Rel K g F sl S σ H' ∧ Stp g F H F H' := by
  refine ⟨⟨⟨r.cor.f0, r.cor.fn, fun b u h => e _ _ (r.cor.fh b u h), fun b u h q => e _ _ (r.cor.h0 b u h q), fun a h => ⟨e _ _ (r.cor.st a h).1, (r.cor.st a h).2⟩⟩, r.len, fun i s h => (r.ok i s h).mono (Same.refl _) (fun ds p e1 e2 => ?_) fun q u h1 h2 _ _ => ⟨e _ _ h1, h2⟩, r.sep⟩, ⟨Same.refl _, fun a o h _ => e _ _ h, fun _ _ h => .inl h, fun a h => ?_⟩⟩
  · subst e1
    obtain ⟨p', vs, e3, h1, h2, _⟩ := r.ok i _ h
    rw [e2] at e3
    cases e3
    exact ⟨(e _ _ h1).trans h1.symm, h2⟩
  · cases q : H a with
    | none => rfl
    | some o => rw [e _ _ q] at h; cases h
@[simp] def fEqC (C : Addr) (spec : PSpec) : PF2 := fun a b Q => match a, b with
  | .obj c1 n1 d1, .obj c2 n2 d2 => c1 = C ∧ c2 = C ∧ spec [.dat (.obj c1 n1 d1), .dat (.obj c2 n2 d2)] [] (fun r _ => r = .dat (.bl true)) (fun _ _ => False) ∧ Q (.dat (.bl true))
  | _, _ => False
def REq (K : PySem.W.Frag) (spec : PSpec) (a b : Addr) (H : Hp) : Prop := ∃ F d1 d2, Same F H ∧ Rp K F (.ref a) d1 ∧ Rp K F (.ref b) d2 ∧ spec [.dat d1, .dat d2] [] (fun r _ => r = .dat (.bl true)) (fun _ _ => False)
theorem fn_eq {P : Program} {w : World} {K : PySem.W.Frag} {mg : Str → Option Value} {base : Heap} {k : Nat} {f : Addr} {fd : FuncData} {ps : List Str} {spec : PSpec} (F : FnOk P w K mg base (L2.CX P w) k f fd ps (spOf K spec)) : FnOk P w K mg base (L2.CX P w) k f fd ps (spEq (REq K spec)) :=
  F.imp fun vs H Q E hs => by
    obtain ⟨a, b, rfl, ⟨F, d1, d2, sF, r1, r2, sp⟩, hq⟩ := hs
    refine ⟨F, none, [], [.dat d1, .dat d2], _, _, sF, nofun, .cons r1 (.cons r2 .nil), sp, fun r S' v H' F' c rr e => ?_, fun _ _ _ _ _ _ _ z => z.elim⟩
    subst e
    cases rr
    exact hq H' fun x o h => c.h0 x o h nofun
section
variable {X : Cx} {W : WX} {k : Nat} {C : Addr} {spec : PSpec} {a b : Expr} {p q : PEx} {pos : Pos}
theorem sem_eqC {K : PySem.W.Frag} : OpSem K (rEqG (DIns C (REq K spec))) (fEqC C spec) := fun g F sl S σ H v1 v2 d1 d2 Q Qr rel r1 r2 hf post => by
  cases r1 with
  | obj ha hdx l rl =>
    cases r2 with
    | obj hb hdy l2 rl2 =>
      obtain ⟨rfl, e2, sp, hq⟩ := hf
      subst e2
      refine ⟨⟨_, _, _, _, _, _, rfl, rfl, rel.cor.fh _ _ ha, rel.cor.fh _ _ hb, F, _, _, rel.cor.fh, .obj ha hdx l rl, .obj hb hdy l2 rl2, sp⟩, fun H' e => ?_⟩
      obtain ⟨rel2, st⟩ := rel.ext e
      exact post (.dat (.bl true)) _ H' F st rel2 (.bl true) trivial hq
    | _ => exact hf.elim
  | _ => exact hf.elim
theorem op_eqC (c : CalM X.prog X.w X.K X.mg X.base k C "__eq__" spec) (hr : Room k X.A) : OpR X (compareOp .Eq) (rEqG (DIns C (REq X.K spec))) := by
  obtain ⟨f, fd, ps, hm, F, hb⟩ := c.ex
  exact op_eqG (rcG_ins (fn_eq F) hm.at_ hm.fn hb passF) hr
theorem st_eqC (c : CalM X.prog X.w X.K X.mg X.base k C "__eq__" spec) (hr : Room k X.A) (ha : SE X W a p) (hb : SE X W b q) (hm : behindInMarks .Eq b = false := by first | exact nomark _ | rfl) : ST X W (.Compare a [.Eq] [b] pos) (pTst (pBin (fEqC C spec) p q)) := st_cmp (op_eqC c hr) sem_eqC ha hb hm
theorem se_eqC (c : CalM X.prog X.w X.K X.mg X.base k C "__eq__" spec) (hr : Room k X.A) (ha : SE X W a p) (hb : SE X W b q) (hm : behindInMarks .Eq b = false := by first | exact nomark _ | rfl) : SE X W (.Compare a [.Eq] [b] pos) (pBin (fEqC C spec) p q) := se_cmp (op_eqC c hr) sem_eqC ha hb hm
end
end Py
end
section
set_option Elab.async false
set_option linter.all false
set_option maxRecDepth 100000
set_option maxHeartbeats 4000000
/-! Dicts whose keys are tuples: walks of their pairs. -/
namespace Py
open PySem L2 PySem.Spec PyProof.Rows

/-- the pairs of a locked dict with tuple keys, each a new tuple -/
def ItT (d : Addr) (ob : Obj) (kvs : List (List Key × V)) : It where
  go := fun i H => H d = some (.frz ob (.dT kvs)) ∧ i < kvs.length
  yld := fun i H x H' => ∃ T k v q, kvs[i]? = some (k, v) ∧ x = .ref T ∧ H T = none ∧ H' = upd H T (.tup [.ref q, v]) ∧ H q = some (.tup (k.map kV))
  stop := fun i H => H d = some (.frz ob (.dT kvs)) ∧ kvs.length ≤ i
/-- what a locked dict is -/
theorem frz_raw {X : Cx} {pins : List (Addr × Obj)} {σ : L2.St} {H : Hp} {s : Shared} {d : Addr} {ob : Obj} {kvs : List (List Key × V)} (I : Inv X pins σ H s) (h : H d = some (.frz ob (.dT kvs))) :
    (d == sysModules) = false ∧ s.heap.get? d = some ob ∧ ob.ExactDict ∧ ∃ (es : Array DictEntry) (ep : Nat), ob.data = .dict es ep ∧ es.size = kvs.length ∧
      ∀ (i : Nat) (k : List Key) (v : V), kvs[i]? = some (k, v) → ∃ (en : DictEntry) (q : Addr), es[i]? = some en ∧ en.key = .ref q ∧ H q = some (.tup (k.map kV)) ∧ RelV v en.val := by
  obtain ⟨h1, h2, h3, xs, pr, o2, es, ep, h4, h5, h6, h7, h8⟩ := I.hok d _ h
  rw [h1] at h4
  cases h4
  refine ⟨h3, h1, h5, es, ep, h6, ?_, fun i k v e => ?_⟩
  · rw [size_of_entries h7]
    exact (Paired.length pr).symm
  · obtain ⟨b, b1, b2, b3, b4⟩ := paired_get pr e
    have q := entry_at h7 i
    rw [b1] at q
    exact ⟨_, b.2.1, q, rfl, b3, b4⟩
section
variable {P : Program} {w : World} {K : PySem.W.Frag} {d : Addr} {ob : Obj} {es : Array DictEntry} {ep : Nat}
theorem turn_T {kvs : List (List Key × V)} {elts : List Expr} {kk : Nat} {tpos : Pos} (it : Addr) (hob : ob.data = .dict es ep) :
    Turn P w K (.Tuple elts kk tpos) (ItT d ob kvs) [it] it (fun i h => ∃ u1 u2, IsItemIter h it d i kvs.length ep u1 u2) where
  mem := List.mem_singleton.mpr rfl
  obj := by
    rintro i h ⟨u1, u2, e⟩ b hb
    obtain rfl := List.mem_singleton.mp hb
    exact ⟨_, e, fun v z => by cases z⟩
  keep := by
    rintro i h h' ⟨u1, u2, e⟩ k
    exact ⟨u1, u2, k it (List.mem_singleton.mpr rfl) _ e⟩
  self := by
    rintro A i s Q E ⟨u1, u2, e⟩ h
    exact PySem.W.kcp_self e h
  done := by
    intro X hP hw hK hc i pins s σ H E I hf st hg
    subst hP hw hK
    obtain ⟨h1, h2⟩ := hg
    obtain ⟨f0, f1, f2, f3, f4, f5⟩ := hf it (List.mem_singleton.mpr rfl)
    obtain ⟨g1, g2, g3, es2, ep2, g4, g5, g6⟩ := frz_raw I h1
    obtain ⟨rfl, rfl⟩ := dict_ep hob g4
    obtain ⟨u1, u2, e⟩ := st
    rw [← g5] at e
    refine DT.endI (es := es2) (I.ok.hd hc) e ⟨ob, g2, g3, g4⟩ (by omega) fun h' eb => ⟨rfl, ?_⟩
    exact I.turned (t' := s.toks) (fun b o hb z => eb b o hb z) f0 f1 f3 f4 f5
  item := by
    intro X hP hw hK hc i pins s σ H E I hf st hg
    subst hP hw hK
    obtain ⟨h1, h2⟩ := hg
    have m1 : it ∈ [it] := List.mem_singleton.mpr rfl
    obtain ⟨g1, g2, g3, es2, ep2, g4, g5, g6⟩ := frz_raw I h1
    obtain ⟨rfl, rfl⟩ := dict_ep hob g4
    obtain ⟨u1, u2, e⟩ := st
    rw [← g5] at e
    have hi : i < es2.size := by omega
    have hlt : it < s.heap.objs.size := Heap.lt_size e
    obtain ⟨⟨k, v⟩, hkv⟩ : ∃ p, kvs[i]? = some p := ⟨kvs[i], List.getElem?_eq_getElem h2⟩
    obtain ⟨en, q, e1, e2, e3, e4⟩ := g6 i k v hkv
    have een : es2[i] = en := by
      rw [Array.getElem?_eq_getElem hi] at e1
      exact Option.some.inj e1
    refine DT.nextI (es := es2) e ⟨ob, g2, g3, g4⟩ hi fun h' a1 a2 a3 a4 => ?_
    refine ⟨_, rfl, wpAny_letOwnedTupleGo_items (s := { s with heap := h' }) a1 fun h3 b1 b2 => ?_⟩
    rw [een] at a2
    have c1 : h3.get? s.heap.objs.size = some { cls := .type "tuple", data := .seq #[en.key, en.val] } := (b2.2 _ (Nat.ne_of_gt hlt)).trans a2
    have c2 : ObjOk X.prog X.w (upd H s.heap.objs.size (.tup [.ref q, v])) h3 s.heap.objs.size (.tup [.ref q, v]) :=
      ⟨(by show 2 ≤ sizeLine; decide), [en.key, en.val], .cons e2 (.cons e4 .nil), ⟨_, c1, rfl, _, rfl⟩⟩
    have c3 : Inv X pins σ (upd H s.heap.objs.size (.tup [.ref q, v])) { s with heap := h3 } := by
      refine I.turnedNew (t' := s.toks) (ch := [it]) (fun b o hb z => ?_) hf (Nat.le_refl _) c2
      have hb2 : b ≠ it := fun z => hb (List.mem_singleton.mpr z)
      exact (b2.2 b hb2).trans (a4 b o hb2 z)
    refine ⟨.ref s.heap.objs.size, _, c3, rfl, ⟨_, k, v, q, hkv, rfl, I.hok.fresh (Nat.le_refl _), rfl, e3⟩, ⟨_, _, by rw [← g5]; exact b1⟩, fun b hb => ?_⟩
    obtain rfl := List.mem_singleton.mp hb
    rw [upd_ne (Nat.ne_of_lt hlt)]
    exact (hf b m1).1
end
/-- e.items(), the dict locked -/
def iItemsT (td : TE) : TI := fun σ H R => td σ H fun x H1 => ∃ d ob kvs, x = .ref d ∧ H1 d = some (.frz ob (.dT kvs)) ∧ R (ItT d ob kvs) H1
section
variable {X : Cx} {e : Expr} {td : TE} {apos cpos : Pos}
theorem pi_itemsT {elts : List Expr} {kk : Nat} {tpos : Pos} (he : PE X e td) (hb : attributeBase e "items" X.env (eval e X.env) = eval e X.env := by rfl) (hl : (apos.endLine == cpos.line) = true := by rfl) :
    PI X (.Tuple elts kk tpos) (.Call (.Attribute e "items" apos) [] [] cpos) (iItemsT td) := by
  constructor
  intro pins s σ H R I0 h
  refine wpAny_Call_method (T := "dict") (id := "dict.items") hb rfl hl PySem.F.plainAttrs_dict PySem.F.slot_dict_items PySem.F.type_dict_items ?_
  refine thn (he.run pins s σ H _ I0 h) ?_
  rintro u s1 ⟨x, H1, I1, rx, d, ob, kvs, rfl, hd, q⟩
  obtain rfl : u = Value.ref d := rx
  obtain ⟨g1, g2, g3, es, ep, g4, g5, g6⟩ := frz_raw I1 hd
  have raw : DT.Raw s1.heap d es ep := ⟨ob, g2, g3, g4⟩
  refine ⟨raw.typeIs, fun a z => ⟨ob, by cases z; exact g2, g3.2.1⟩, ?_⟩
  have I2 : Inv X pins σ H1 { s1 with heap := s1.heap.push { cls := .type "dict_items", data := .fields #[.ref d] } } := I1.kept (t' := s1.toks) fun b o z => Heap.get?_push_of_some _ z
  refine method_meetsIn PySem.F.slot_dict_items PySem.F.entry_dict_items rfl (PySem.evalArgs_none ⟨rfl, raw.typeIs, PySem.F.args_dict_items_1 _, _, DT.meetsItems (es := es) (ep := ep) g1, raw, ?_⟩)
  refine DT.iterI (v := s1.heap.objs.size) ⟨_, Heap.get?_push_size _ rfl, rfl, rfl⟩ (raw.push _) ?_
  refine pi_one (tk := s1.toks) I2 _ (turn_T _ g4) ⟨.none, .none, ?_⟩ q
  rw [← g5]
  exact Heap.get?_push_size _ rfl
end
end Py
end
section
set_option Elab.async false
set_option linter.all false
set_option maxRecDepth 100000
set_option maxHeartbeats 4000000
/-! Dicts as data: walks, comprehensions with any target, own dicts. -/
namespace Py
open PySem L2 PySem.Spec PyProof.Rows

/-! ### the pairs of a dict -/
@[simp] def keyD : Key → D
  | .inl i => .int i
  | .inr x => .str x
def itemsD (ks : List (List Key)) (ds : List D) : List D := (ks.zip ds).map fun p => .tup [.tup (p.1.map keyD), p.2]
@[simp] theorem itemsD_nil : itemsD [] [] = [] := rfl
@[simp] theorem itemsD_cons (k : List Key) (ks : List (List Key)) (d : D) (ds : List D) : itemsD (k :: ks) (d :: ds) = .tup [.tup (k.map keyD), d] :: itemsD ks ds := rfl
theorem rpl_key {K : PySem.W.Frag} {F : Hp} : ∀ (k : List Key), RpL K F (k.map kV) (k.map keyD)
  | [] => .nil
  | .inl i :: r => .cons (.int i) (rpl_key r)
  | .inr x :: r => .cons (.str x) (rpl_key r)
section
variable {K : PySem.W.Frag} {g : G} {F F' H H' : Hp} {sl : List Slot} {S S' : List Int} {σ : L2.St}
theorem Cor.freezeT (c : Cor g F S H) {p : Addr} {vs : List V} (h : H p = some (.tup vs)) (hf : F p = none) : Cor g (upd F p (.tup vs)) S H := by
  refine ⟨fun b u e => Same.upd_new hf b u (c.f0 b u e), fun a u e => ?_, fun b u e => ?_, c.h0, fun a e => ?_⟩
  · by_cases q : a = p
    · subst q
      rw [upd_same] at e
      exact .inr (.inr ⟨vs, (Option.some.inj e).symm⟩)
    · rw [upd_ne q] at e; exact c.fn a u e
  · by_cases q : b = p
    · subst q; rw [upd_same] at e; rw [h]; exact e
    · rw [upd_ne q] at e; exact c.fh b u e
  · obtain ⟨h1, h2, h3⟩ := c.st a e
    refine ⟨h1, ?_, h3⟩
    rw [upd_ne (fun z => by rw [z, h] at h1; cases h1)]
    exact h2
/-- a tuple may be frozen at any time -/
theorem Rel.freezeT (r : Rel K g F sl S σ H) {p : Addr} {vs : List V} (h : H p = some (.tup vs)) (hf : F p = none) : Rel K g (upd F p (.tup vs)) sl S σ H :=
  ⟨r.cor.freezeT h hf, r.len, fun i s e => (r.ok i s e).mono (Same.upd_new hf) (fun ds q e1 e2 => by
    subst e1
    obtain ⟨p', vs', e3, h1, h2, _⟩ := r.ok i _ e
    rw [e2] at e3
    cases e3
    refine ⟨rfl, ?_⟩
    rw [upd_ne fun z => by rw [z, h] at h1; cases h1]
    exact h2) fun q u h1 h2 _ h4 => ⟨h1, by
    rw [upd_ne fun z => by
      rw [z, h] at h1
      cases h1
      cases h4]
    exact h2⟩, r.sep⟩
theorem Stp.freezeT {p : Addr} {vs : List V} (hf : F p = none) : Stp g F H (upd F p (.tup vs)) H :=
  ⟨Same.upd_new hf, fun _ _ e _ => e, fun a u e => by
    by_cases q : a = p
    · rw [q, upd_same] at e; exact .inr (.inr ⟨vs, (Option.some.inj e).symm⟩)
    · rw [upd_ne q] at e; exact .inl e, fun _ e => e⟩
/-- .. with the step -/
theorem Rel.tupF (r : Rel K g F sl S σ H) {p : Addr} {vs : List V} (h : H p = some (.tup vs)) : ∃ F', Stp g F H F' H ∧ Rel K g F' sl S σ H ∧ F' p = some (.tup vs) := by
  cases e : F p with
  | some o =>
    have := r.cor.fh p o e
    rw [h] at this
    cases this
    exact ⟨F, Stp.refl, r, e⟩
  | none => exact ⟨_, Stp.freezeT e, r.freezeT h e, upd_same⟩
end
theorem it_items {K : PySem.W.Frag} {F : Hp} {a : Addr} {ob : Obj} {ks : List (List Key)} {vs : List V} {ds : List D} (h : F a = some (.frz ob (.dT (ks.zip vs)))) (l : ks.length = vs.length) (r : RpL K F vs ds) : ItOk K (ItT a ob (ks.zip vs)) F (itemsD ks ds) := by
  have hl : (itemsD ks ds).length = (ks.zip vs).length := by
    unfold itemsD
    simp [r.length]
  refine ⟨fun H i e hi => ⟨e _ _ h, by omega⟩, fun H i e hi => ⟨e _ _ h, by omega⟩, fun H i x H' e y d q => .inr fun g F1 sl S σ s rel => ?_⟩
  obtain ⟨T, k, v, p, y1, rfl, y3, rfl, y5⟩ := y
  obtain ⟨F2, st, rel2, hp⟩ := rel.tupF y5
  have hd : ∃ d', d = .tup [.tup (k.map keyD), d'] ∧ Rp K F v d' := by
    unfold itemsD at q
    rw [List.getElem?_map] at q
    cases e2 : (ks.zip ds)[i]? with
    | none => rw [e2] at q; cases q
    | some z =>
      rw [e2] at q
      obtain ⟨z1, z2⟩ := List.getElem?_zip_eq_some.mp e2
      obtain ⟨z3, z4⟩ := List.getElem?_zip_eq_some.mp y1
      obtain ⟨v2, w1, w2⟩ := r.get z2
      rw [z1] at z3
      rw [w1] at z4
      have e3 : z.1 = k := Option.some.inj z3
      have e4 : v2 = v := Option.some.inj z4
      subst e3 e4
      exact ⟨z.2, (Option.some.inj q).symm, w2⟩
  obtain ⟨d', rfl, rv⟩ := hd
  have hT : F2 T = none := rel2.cor.free y3
  have s2 : Same F2 (upd F2 T (.tup [.ref p, v])) := Same.upd_new hT
  refine ⟨_, st.trans (Stp.allocF y3 hT), rel2.allocF y3, .tup (SqT.of upd_same) (.cons (.tup (SqT.of (s2 _ _ hp)) (rpl_key k)) (.cons (rv.mono ((s.trans st.f).trans s2)) .nil))⟩
@[simp] def pItems (p : PEx) : PIx := fun sl S Q E => dat p sl S (fun d S1 => match d with
  | .dct ks ds => Q (itemsD ks ds) S1
  | _ => False) E
theorem si_items {X : Cx} {W : WX} {e : Expr} {p : PEx} {elts : List Expr} {kk : Nat} {tpos apos pos : Pos} (h : SE X W e p) (hb : attributeBase e "items" X.env (eval e X.env) = eval e X.env := by rfl) (hl : (apos.endLine == pos.line) = true := by rfl) :
    SI X W (.Tuple elts kk tpos) (.Call (.Attribute e "items" apos) [] [] pos) (pItems p) := ⟨PI.imp (pi_itemsT h.pe hb hl) fun σ H R h => by
  obtain ⟨g, F, sl, S, Q', E', rel, hp, post, exc⟩ := h
  refine rdE_dat rel hp exc fun d S1 v H1 F1 s1 rel1 r1 h1 => ?_
  cases r1 with
  | dct h2 l r => exact ⟨_, _, _, rfl, rel1.cor.fh _ _ h2, post _ S1 _ H1 F1 s1 rel1 (it_items h2 l r) h1⟩
  | _ => exact h1.elim⟩

/-! ### comprehensions with any target of names -/
def wipeS (sl : List Slot) : List Nat → List Slot
  | [] => sl
  | v :: vs => (wipeS sl vs).set v .un
theorem wipeS_length (sl : List Slot) : ∀ vs : List Nat, (wipeS sl vs).length = sl.length
  | [] => rfl
  | v :: vs => by unfold wipeS; rw [List.length_set, wipeS_length sl vs]
theorem Rel.wipe {K : PySem.W.Frag} {g : G} {F H : Hp} {sl : List Slot} {S : List Int} {σ : L2.St} (r : Rel K g F sl S σ H) : ∀ vs : List Nat, Rel K g F (wipeS sl vs) S (wipe σ vs) H
  | [] => r
  | v :: vs => (r.wipe vs).wipe1 v
theorem wipe_set (σ : L2.St) (i : Nat) (x : Option V) : ∀ vs : List Nat, (i ∈ vs → wipe (σ.set i x) vs = wipe σ vs) ∧ (i ∉ vs → wipe (σ.set i x) vs = (wipe σ vs).set i x)
  | [] => ⟨fun h => absurd h (by simp), fun _ => rfl⟩
  | v :: vs => by
    obtain ⟨h1, h2⟩ := wipe_set σ i x vs
    refine ⟨fun h => ?_, fun h => ?_⟩
    · show (wipe (σ.set i x) vs).set v none = (wipe σ vs).set v none
      by_cases e : i ∈ vs
      · rw [h1 e]
      · have ev : i = v := by
          rcases List.mem_cons.mp h with z | z
          · exact z
          · exact absurd z e
        rw [h2 e, ev, List.set_set]
    · have n1 : i ≠ v := fun z => h (by simp [z])
      have n2 : i ∉ vs := fun z => h (by simp [z])
      show (wipe (σ.set i x) vs).set v none = ((wipe σ vs).set v none).set i x
      rw [h2 n2, List.set_comm _ _ n1]
theorem wipeS_set (sl : List Slot) (i : Nat) (x : Slot) : ∀ vs : List Nat, (i ∈ vs → wipeS (sl.set i x) vs = wipeS sl vs) ∧ (i ∉ vs → wipeS (sl.set i x) vs = (wipeS sl vs).set i x)
  | [] => ⟨fun h => absurd h (by simp), fun _ => rfl⟩
  | v :: vs => by
    obtain ⟨h1, h2⟩ := wipeS_set sl i x vs
    refine ⟨fun h => ?_, fun h => ?_⟩
    · show (wipeS (sl.set i x) vs).set v .un = (wipeS sl vs).set v .un
      by_cases e : i ∈ vs
      · rw [h1 e]
      · have ev : i = v := by
          rcases List.mem_cons.mp h with z | z
          · exact z
          · exact absurd z e
        rw [h2 e, ev, List.set_set]
    · have n1 : i ≠ v := fun z => h (by simp [z])
      have n2 : i ∉ vs := fun z => h (by simp [z])
      show (wipeS (sl.set i x) vs).set v .un = ((wipeS sl vs).set v .un).set i x
      rw [h2 n2, List.set_comm _ _ n1]
theorem wipe_idem (σ : L2.St) : ∀ vs ws : List Nat, (∀ i ∈ ws, i ∈ vs) → wipe (wipe σ ws) vs = wipe σ vs
  | vs, [], _ => rfl
  | vs, w :: ws, h => by
    show wipe ((wipe σ ws).set w none) vs = wipe σ vs
    rw [(wipe_set _ w none vs).1 (h w (by simp)), wipe_idem σ vs ws fun i hi => h i (by simp [hi])]
theorem wipeS_idem (sl : List Slot) : ∀ vs ws : List Nat, (∀ i ∈ ws, i ∈ vs) → wipeS (wipeS sl ws) vs = wipeS sl vs
  | vs, [], _ => rfl
  | vs, w :: ws, h => by
    show wipeS ((wipeS sl ws).set w .un) vs = wipeS sl vs
    rw [(wipeS_set _ w .un vs).1 (h w (by simp)), wipeS_idem sl vs ws fun i hi => h i (by simp [hi])]
/-- a target of names among vs -/
def rdGw (K : PySem.W.Frag) (vs : List Nat) (p : PGx) : TG := fun v σ H Qσ => ∃ g F sl S r Q', Rel K g F sl S σ H ∧ RR K g F H r v ∧ Ap sl σ r v ∧ p r sl S Q' ∧
  ∀ sl' S' σ', Rel K g F sl' S' σ' H → wipe σ' vs = wipe σ vs → wipeS sl' vs = wipeS sl vs → Q' sl' S' → Qσ σ' H
def rdGsw (K : PySem.W.Frag) (vs : List Nat) (p : PGsx) : TGs := fun us σ H Qσ => ∃ g F sl S ds Q', Rel K g F sl S σ H ∧ RpL K F us ds ∧ p ds sl S Q' ∧
  ∀ sl' S' σ', Rel K g F sl' S' σ' H → wipe σ' vs = wipe σ vs → wipeS sl' vs = wipeS sl vs → Q' sl' S' → Qσ σ' H
section
variable {X : Cx} {vs : List Nat} {e tg : Expr} {es : List Expr} {p : PGx} {q : PGsx} {pos : Pos}
theorem pgw_name (i : Nat) {x : Str} (hm : i ∈ vs) (h : PG X (.Name x pos) (gName i)) : PG X (.Name x pos) (rdGw X.K vs (pgName i)) :=
  PG.imp h fun v σ H Q h => by
    obtain ⟨g, F, sl, S, r, Q', rel, rr, ap, ⟨hl, hp⟩, post⟩ := h
    exact post _ S _ (rel.store rr ap hl) ((wipe_set σ i (some v) vs).1 hm) ((wipeS_set sl i r.slot vs).1 hm) hp
theorem pgsw_nil : PGs X [] (rdGsw X.K vs pgNil) := PGs.imp pgs_nil fun v σ H Q h => by
  obtain ⟨g, F, sl, S, ds, Q', rel, rl, ⟨rfl, hp⟩, post⟩ := h
  cases rl
  exact ⟨rfl, post sl S σ rel rfl rfl hp⟩
theorem pgsw_cons (h : PG X e (rdGw X.K vs p)) (hr : PGs X es (rdGsw X.K vs q)) (hs : (assignEach (e :: es) X.env).map (·.2) = assign e X.env :: (assignEach es X.env).map (·.2) := by rfl) : PGs X (e :: es) (rdGsw X.K vs (pgCons p q)) := PGs.imp (pgs_cons h hr hs) fun v σ H Q h => by
  obtain ⟨g, F, sl, S, ds, Q', rel, rl, hp, post⟩ := h
  cases rl with
  | nil => exact hp.elim
  | cons r1 r2 =>
    refine ⟨_, _, rfl, g, F, sl, S, .dat _, _, rel, r1, trivial, hp, fun sl1 S1 σ1 rel1 w1 w2 h1 => ?_⟩
    exact ⟨g, F, sl1, S1, _, Q', rel1, r2, h1, fun sl2 S2 σ2 rel2 w3 w4 h2 => post sl2 S2 σ2 rel2 (w3.trans w1) (w4.trans w2) h2⟩
theorem pgw_tup {k : Nat} {n : Nat} (hc : X.calm = true) (h : PGs X es (rdGsw X.K vs q)) (hn : (assignEach es X.env).length = n := by rfl) (hst : (assignEach es X.env).findIdx? (·.1) = none := by rfl) : PG X (.Tuple es k pos) (rdGw X.K vs (pgTup n q)) := PG.imp (PG.or (pg_tup hc h hn hst) (pg_lst hc h hn hst)) fun v σ H Q h => by
  obtain ⟨g, F, sl, S, r, Q', rel, rr, ap, hp, post⟩ := h
  unfold pgTup at hp
  split at hp
  · cases rr with
    | tup h2 q2 => exact .inl ⟨_, _, rfl, sqT_same rel.cor.fh h2, by rw [q2.length]; exact hp.1, g, F, sl, S, _, Q', rel, q2, hp.2, post⟩
  · cases rr with
    | lst h2 q2 => exact .inr ⟨_, _, rfl, SqL.of (rel.cor.fh _ _ h2), by rw [q2.length]; exact hp.1, g, F, sl, S, _, Q', rel, q2, hp.2, post⟩
  · cases rr with
    | frl h2 q2 => exact .inr ⟨_, _, rfl, sqL_same rel.cor.fh h2, by rw [q2.length]; exact hp.1, g, F, sl, S, _, Q', rel, q2, hp.2, post⟩
  · exact hp.elim
end
def lcRunG (pg : PGx) (pt : PTx) (pe : PEx) : List D → List Slot → List Int → (List D → List Int → Prop) → Prop
  | [], _, S, Q => Q [] S
  | d :: ds, sl, S, Q => pg (.dat d) sl S fun sl1 S0 => pt sl1 S0 (fun b S1 => if b = true then dat pe sl1 S1 (fun y S2 => lcRunG pg pt pe ds sl S2 (fun ys S3 => Q (y :: ys) S3)) (fun _ _ => False) else lcRunG pg pt pe ds sl S1 Q) (fun _ _ => False)
def pLcG (vs : List Nat) (pi : PIx) (pg : PGx) (pt : PTx) (pe : PEx) : PEx := fun sl S Q E => pi sl S (fun ds S1 => ds.length ≤ sizeLine ∧ lcRunG pg pt pe ds (wipeS sl vs) S1 (fun ys S2 => Q (.own ys) S2)) E
/-- back at the slots as they were -/
theorem Rel.unwipe {K : PySem.W.Frag} {g : G} {F1 H1 F' H' : Hp} {sl : List Slot} {S1 S' : List Int} {σ : L2.St} {vs : List Nat} {L : Addr} (rel1 : Rel K g F1 sl S1 σ H1) (hL : H1 L = none) (st : Stp g F1 H1 F' (fun b => if b = L then none else H' b)) (rel2 : Rel K g F' (wipeS sl vs) S' (L2.wipe σ vs) H') : Rel K g F' sl S' σ H' := by
  have keep : ∀ q u, H1 q = some u → F1 q = none → g.H0 q = none → (∀ vs, u ≠ .tup vs) → H' q = some u ∧ F' q = none := fun q u g1 g2 g3 nt => by
    have hne : q ≠ L := fun z => by rw [z, hL] at g1; cases g1
    have ndr : g.dr ≠ some q := fun z => (rel1.cor.st q z).2.2 g3
    have h10 := st.k q _ g1 ndr
    simp only [if_neg hne] at h10
    refine ⟨h10, ?_⟩
    cases e : F' q with
    | none => rfl
    | some o =>
      rcases st.n q o e with z | z | ⟨ws, z⟩
      · rw [g2] at z; cases z
      · rw [g1] at z; cases z
      · have k := rel2.cor.fh q _ e
        rw [h10, z] at k
        exact absurd (Option.some.inj k) (nt ws)
  refine ⟨rel2.cor, rel1.len, fun k s hk => (rel1.ok k s hk).mono st.f (fun d' p' e1 e2 => ?_) fun q u g1 g2 g3 g4 => keep q u g1 g2 g3 (isObj_tup g4), rel1.sep⟩
  subst e1
  obtain ⟨p7, vs7, e7, h7, h8, h9, _⟩ := rel1.ok k _ hk
  rw [e2] at e7
  cases e7
  obtain ⟨z1, z2⟩ := keep _ _ h7 h8 h9 (by intro vs e; cases e)
  exact ⟨z1.trans h7.symm, z2⟩
theorem rd_lcG {K : PySem.W.Frag} {W : WX} {vs : List Nat} {pi : PIx} {pg : PGx} {pt : PTx} {pe : PEx} (σ : L2.St) (H : Hp) (Q : VK) (h : rdE K W (pLcG vs pi pg pt pe) σ H Q) : tLc (rdI K W pi) (rdGw K vs pg) (rdT K W0 pt) (rdE K W0 pe) vs σ H Q := by
  obtain ⟨g, F, sl, S, Q', E', rel, hp, post, exc⟩ := h
  refine ⟨g, F, sl, S, _, E', rel, hp, fun ds S1 J H1 F1 s1 rel1 io ⟨hz, h1⟩ => ?_, exc⟩
  intro L hL
  let Pv : Nat → Hp → Prop := fun j H' => ∃ F' S' acc accd, Stp g F1 H1 F' (fun b => if b = L then none else H' b) ∧ Rel K g F' (wipeS sl vs) S' (wipe σ vs) H' ∧ H' L = some (.lst acc) ∧ F' L = none ∧ RpL K F' acc accd ∧ acc.length ≤ j ∧
    lcRunG pg pt pe (ds.drop j) (wipeS sl vs) S' (fun ys S2 => Q' (.own (accd ++ ys)) S2)
  have hid : ∀ {p : Addr} {o : HO} {Hx : Hp}, Hx p = none → (fun b => if b = p then none else (upd Hx p o) b) = Hx := fun {p o Hx} e => by
    funext b
    by_cases z : b = p
    · rw [if_pos z, z, e]
    · rw [if_neg z, upd_ne z]
  refine ⟨fun j m H' => m = ds.length - j ∧ j ≤ ds.length ∧ Pv j H', ⟨ds.length, by simp, Nat.zero_le _, F1, S1, [], [], ?_, (rel1.wipe vs).alloc hL, upd_same, rel1.cor.free hL, .nil, Nat.zero_le _, h1⟩, ?_⟩
  · rw [hid hL]; exact Stp.refl
  rintro j m H' ⟨rfl, hj, F', S', acc, accd, st, rel2, hLa, hLf, ra, hal, h2⟩
  have sF : Same F1 F' := st.f
  by_cases hlt : j < ds.length
  · have e1 : ds.drop j = ds[j] :: ds.drop (j + 1) := List.drop_eq_getElem_cons hlt
    rw [e1] at h2
    refine .inr ⟨(io.mono sF).go H' j rel2.cor.fh hlt, Pv (j + 1), fun H3 p3 => ⟨ds.length - (j + 1), by omega, rfl, hlt, p3⟩, fun x H3 y => ?_⟩
    obtain ⟨Fy, sy, rely, rx⟩ := ((io.mono sF).yld H' j x H3 rel2.cor.fh y _ (List.getElem?_eq_getElem hlt)).use rel2
    have ndL : g.dr ≠ some L := fun z => (rel2.cor.st L z).2.2 (rel1.cor.new hL)
    have hLf := sy.free rely.cor.fh hLf hLa ndL
    have hLa : H3 L = some (.lst acc) := sy.k L _ hLa ndL
    have st := st.comp sy hL
    have sF : Same F1 Fy := st.f
    have ra := ra.mono sy.f
    -- the names are stored
    refine ⟨g, Fy, _, S', .dat ds[j], _, rely, rx, trivial, h2, fun sl3 S3 σ3 rel3 w1 w2 h3 => ?_⟩
    have w1' : wipe σ3 vs = wipe σ vs := by rw [w1, wipe_idem σ vs vs fun _ h => h]
    have w2' : wipeS sl3 vs = wipeS sl vs := by rw [w2, wipeS_idem sl vs vs fun _ h => h]
    refine ⟨w1', g, Fy, _, S3, _, _, rel3, h3, fun b S4 H4 F4 s4 rel4 h4 => ?_, noExc⟩
    have hL4 : H4 L = some (.lst acc) := s4.k L _ hLa ndL
    have hF4 : F4 L = none := s4.free rel4.cor.fh hLf hLa ndL
    have back : ∀ {F5 H5 : Hp} {S5 : List Int}, Rel K g F5 sl3 S5 σ3 H5 → Rel K g F5 (wipeS sl vs) S5 (wipe σ vs) H5 := fun {F5 H5 S5} r5 => by
      have := r5.wipe vs
      rw [w1', w2'] at this
      exact this
    cases b with
    | false =>
      show Pv (j + 1) H4
      exact ⟨F4, S4, acc, accd, st.comp s4 hL, back rel4, hL4, hF4, ra.mono s4.f, by omega, h4⟩
    | true =>
      show rdE K W0 pe _ H4 _
      refine rdE_dat rel4 h4 noExc fun y S5 v H5 F5 s5 rel5 ry h5 => ?_
      have s45 := s4.trans s5
      have hL5 : H5 L = some (.lst acc) := s5.k L _ hL4 ndL
      have hF5 : F5 L = none := s5.free rel5.cor.fh hF4 hL4 ndL
      refine ⟨acc, hL5, by omega, F5, S5, acc ++ [v], accd ++ [y], ?_, ?_, upd_same, hF5, ((ra.mono s45.f).append (.cons ry .nil)), by simp; omega, ?_⟩
      · have c5 := st.comp s45 hL
        have : (fun b => if b = L then none else upd H5 L (HO.lst (acc ++ [v])) b) = (fun b => if b = L then none else H5 b) := by
          funext b
          by_cases z : b = L
          · rw [if_pos z, if_pos z]
          · rw [if_neg z, if_neg z, upd_ne z]
        rw [this]; exact c5
      · have r6 := back rel5
        refine ⟨r6.cor.write hF5 (rel1.cor.new hL), r6.len, fun k s hk => (r6.ok k s hk).mono (Same.refl _) (fun d' p' e1 e2 => ?_) fun q u g1 g2 _ g4 => ⟨by
            rw [upd_ne fun z => by
              rw [z, hL5] at g1
              cases g1
              cases g4]
            exact g1, g2⟩, r6.sep⟩
        subst e1
        obtain ⟨p7, vs7, e7, h7, h8, h9, _⟩ := (rel1.wipe vs).ok k _ hk
        rw [e2] at e7
        cases e7
        obtain ⟨p8, vs8, e8, k7, k8, _⟩ := r6.ok k _ hk
        rw [e2] at e8
        cases e8
        exact ⟨upd_ne (fun z => by (rw [z, hL] at h7; cases h7)), k8⟩
      · show lcRunG pg pt pe (ds.drop (j + 1)) (wipeS sl vs) S5 (fun ys S2 => Q' (.own ((accd ++ [y]) ++ ys)) S2)
        have e9 : (fun (ys : List D) (S2 : List Int) => Q' (.own ((accd ++ [y]) ++ ys)) S2) = fun ys S2 => Q' (.own (accd ++ (y :: ys))) S2 := by
          funext ys S2
          rw [List.append_assoc]
          rfl
        rw [e9]
        exact h5
  · have e0 : j = ds.length := by omega
    subst e0
    rw [List.drop_length] at h2
    refine .inl ⟨(io.mono sF).stop H' _ rel2.cor.fh (Nat.le_refl _), ?_⟩
    have h3 : Q' (.own (accd ++ [])) S' := h2
    rw [List.append_nil] at h3
    have relE : Rel K g F' sl S' σ H' := rel1.unwipe hL st rel2
    have stF : Stp g F H F' H' := s1.trans ⟨sF, fun a o e q => by
        have hne : a ≠ L := fun z => by rw [z, hL] at e; cases e
        have := st.k a o e q
        simp only [if_neg hne] at this
        exact this, st.n, fun a e => by
        by_cases hne : a = L
        · rw [hne]; exact hL
        · exact st.d a (by simp only [if_neg hne]; exact e)⟩
    exact post (.own accd) S' (.ref L) H' F' stF relE ⟨L, acc, rfl, hLa, hLf, rel1.cor.new hL, ra⟩ (nw_new (s1.d L hL)) h3
section
variable {X : Cx} {W : WX} {tg elt it : Expr} {ifs : List Expr} {scope : Scope} {own : List (Str × Nat)} {pos : Pos} {pi : PIx} {pg : PGx} {pt : PTx} {pe : PEx}
theorem se_lcG (vs : List Nat) (hc : X.calm = true) (hN : X.N.Nodup) (hi : SI X W tg it pi) (ok : BlkOk X.N X.env.scope scope own) (hvs : own.map (·.2) = vs)
    (hg : ∀ (s : Shared) (H : Hp) (C : Addr) (cl : List (Str × Addr)) (fp : List Addr), PG (X.blk s H scope (compEnvC scope cl C X.env) fp) tg (rdGw X.K vs pg))
    (ht : ∀ (s : Shared) (H : Hp) (C : Addr) (cl : List (Str × Addr)) (fp : List Addr), STs (X.blk s H scope (compEnvC scope cl C X.env) fp) W0 ifs pt)
    (he : ∀ (s : Shared) (H : Hp) (C : Addr) (cl : List (Str × Addr)) (fp : List Addr), SE (X.blk s H scope (compEnvC scope cl C X.env) fp) W0 elt pe) (hs : ∀ x, foldedSetIterable it X.env x = pure x := by intro _; rfl) :
    SE X W (.ListComp elt [⟨tg, it, ifs, 0⟩] scope pos) (pLcG vs pi pg pt pe) := by
  subst hvs
  exact ⟨PE.imp (pe_lc hc hN hi.pi ok hg (fun a b c d e => (ht a b c d e).pt) (fun a b c d e => (he a b c d e).pe) hs) rd_lcG⟩
end
end Py
end
section
set_option Elab.async false
set_option linter.all false
set_option maxRecDepth 100000
set_option maxHeartbeats 4000000
/-! Dict comprehensions whose keys are tuples. -/
namespace Py
open PySem L2 PySem.Spec PyProof.Rows

theorem dset_tup {X : Cx} {pins : List (Addr × Obj)} {σ : L2.St} {H : Hp} {s : Shared} {E : Value → Shared → Prop} {A : Around} {D b : Addr} {kvs : List (List Key × V)} {k : List Key} {v : V} {u r : Value} {Q : Unit → Shared → Prop} (hu : A.units < cLine)
    (I : Inv X pins σ H s) (hD : H D = some (.dT kvs)) (hz : kvs.length < sizeLine) (hb : H b = some (.tup (k.map kV))) (ru : RelV (.ref b) u) (rv : RelV v r) (h : ∀ t, Inv X pins σ (upd H D (.dT (putK kvs k v))) t → Q () t) :
    wpAny (model X.prog X.w) A (dictSet D u r) Q E s := by
  cases (show u = Value.ref b from ru)
  obtain ⟨z, hd, xs, kt, dd⟩ := dt_of I.hok hD
  have zx : xs.length ≤ sizeLine := by rw [← Paired.length kt]; exact z
  refine wpAny_dictSet_heap (hsz := zx) hu (key_of I.hok hb) dd fun h1 d1 sb => h _ ?_
  obtain ⟨q, es, ep, q1, q2, q3, q4, _, q5⟩ := d1
  have kt2 : KT (upd H D (.dT (putK kvs k v))) (putK kvs k v) (storedH xs k b r) := by
    refine (kt.put k hb rv).keeps fun c ys ec => ?_
    rw [upd_ne fun z => by rw [z, hD] at ec; cases ec]
    exact ec
  have zl : (putK kvs k v).length ≤ sizeLine := by have := length_putK kvs k v; omega
  exact d_write I (by rw [hD]; exact True.intro) sb ⟨q, q1⟩ ⟨zl, hd, _, kt2, q, es, ep, q1, q2, q3, q4, q5⟩

section
variable {X : Cx}
/-- {k: v for target in iter}, the keys tuples: D the new dict; at the end it is locked -/
def tDcT (wi : L2.TI) (g : L2.TG) (tk tv : TE) (vs : List Nat) : TE := fun σ H Q => wi σ H fun J H1 => ∀ D, H1 D = none → ∃ Wt : Nat → Nat → Hp → Prop, (∃ m, Wt 0 m (upd H1 D (.dT []))) ∧ ∀ i m H, Wt i m H →
  (J.stop i H ∧ ∃ kvs, H D = some (.dT kvs) ∧ ∀ od, Q (.ref D) (upd H D (.frz od (.dT kvs)))) ∨
  (J.go i H ∧ ∃ Nx : Hp → Prop, (∀ H', Nx H' → ∃ m', m' < m ∧ Wt (i + 1) m' H') ∧ ∀ x H', J.yld i H x H' → g x (wipe σ vs) H' fun σ2 H2 => wipe σ2 vs = wipe σ vs ∧
    tk σ2 H2 fun y H4 => tv σ2 H4 fun z H5 => ∃ kvs k b, y = .ref b ∧ H5 b = some (.tup (k.map kV)) ∧ H5 D = some (.dT kvs) ∧ kvs.length < sizeLine ∧ Nx (upd H5 D (.dT (putK kvs k z))))
theorem dcT_core {pins : List (Addr × Obj)} {s : Shared} {σ : L2.St} {H : Hp} {Q : VK} {kx vx tg it : Expr} {scope : Scope} {own : List (Str × Nat)} {pos pos' : Pos} {wi : L2.TI} {g : L2.TG} {tk tv : TE} {use : Option (Value → Sem Unit)} {Qf : Value → Shared → Prop}
    (hu : X.A.units < cLine) (hc : X.calm = true) (hN : X.N.Nodup) (I : Inv X pins σ H s) (hi : PI X tg it wi) (ok : BlkOk X.N X.env.scope scope own)
    (hg : ∀ (s : Shared) (H : Hp) (C : Addr) (cl : List (Str × Addr)) (fp : List Addr), PG (X.blk s H scope (compEnvC scope cl C X.env) fp) tg g)
    (hk : ∀ (s : Shared) (H : Hp) (C : Addr) (cl : List (Str × Addr)) (fp : List Addr), PE (X.blk s H scope (compEnvC scope cl C X.env) fp) kx tk)
    (hv : ∀ (s : Shared) (H : Hp) (C : Addr) (cl : List (Str × Addr)) (fp : List Addr), PE (X.blk s H scope (compEnvC scope cl C X.env) fp) vx tv)
    (hfi : ∀ x, foldedSetIterable it X.env x = pure x) (h : tDcT wi g tk tv (own.map (·.2)) σ H Q)
    (hRR : ∀ D ca t m H', Inv X pins σ H' t → Q (.ref D) H' → t.heap.Ns ca m → FpOk X pins H' ca → compPost (model X.prog X.w) X.A X.xe use Qf (.ref D) ca (.ok .next) t) :
    wpAny (model X.prog X.w) X.A (comprehension (.DictComp kx vx [⟨tg, it, [], 0⟩] scope pos) scope X.env pos' newDict false (eval it X.env) use) Qf X.xe s := by
  have free : ∀ y ∈ scope.names, y.2 = .free → ∃ c, X.env.cells.lookup y.1 = some c := fun y hy e => I.ok.has _ (ok.free y hy e)
  refine wpAny_comprehension_free (use := use) rfl hfi (closure_ok free) ok.kind (fun y hy e => by rw [ok.uniq y hy, e]) ?_
  refine thn (hi.run pins s σ H _ I h) fun xv s1 hx => thn hx fun itv s2 h2 => ?_
  obtain ⟨itA, fp, tn, J, H2, rfl, I2, T, st2, f2, q⟩ := h2
  refine wpAny_newObj_type (newEnv_comp ?_)
  generalize eD : s2.heap.objs.size = D
  have nD : H2 D = none := I2.hok.fresh (Nat.le_of_eq eD)
  obtain ⟨Wt, ⟨m0, w0⟩, turn⟩ := q D nD
  generalize e3 : ({ s2 with heap := s2.heap.push { cls := .type "dict", data := .dict #[] } } : Shared) = s3
  have hp3 : s3.heap = s2.heap.push { cls := .type "dict", data := .dict #[] } := by rw [← e3]
  have I3 : Inv X pins σ (upd H2 D (.dT [])) s3 := by
    rw [← e3]
    refine I2.laid (t' := s2.toks) (fun b o z => Heap.get?_push_of_some _ z) (Nat.le_of_eq eD) ?_
    rw [← eD]
    exact dt_empty s2.heap I2.big
  have lt2 : ∀ b ∈ fp, b < s2.heap.objs.size := fun b hb => (T.obj _ _ st2 b hb).elim fun o z => Heap.lt_size z.1
  have f3 : ∀ b ∈ fp, FpOk X pins (upd H2 D (.dT [])) b ∧ b < s3.heap.objs.size := fun b hb => by
    refine ⟨⟨?_, (f2 b hb).2⟩, by rw [hp3, Heap.size_push]; exact Nat.lt_succ_of_lt (lt2 b hb)⟩
    rw [upd_ne (by rw [← eD]; exact Nat.ne_of_lt (lt2 b hb))]
    exact (f2 b hb).1
  have st3 : tn 0 s3.heap := T.keep _ _ _ st2 fun b _ o z => by rw [hp3]; exact Heap.get?_push_of_some _ z
  have B0 := block_start I3 ok hN f3
  have nn : ∀ b ∈ fp, (upd H2 D (.dT [])) b = none := fun b hb => (f3 b hb).1.1
  have gg := hg s3 (upd H2 D (.dT [])) s3.heap.objs.size (cellsFrom (s3.heap.objs.size + 1) scope.names (cloFrom X.env.cells scope.names [])) fp
  have kk := hk s3 (upd H2 D (.dT [])) s3.heap.objs.size (cellsFrom (s3.heap.objs.size + 1) scope.names (cloFrom X.env.cells scope.names [])) fp
  have vv := hv s3 (upd H2 D (.dT [])) s3.heap.objs.size (cellsFrom (s3.heap.objs.size + 1) scope.names (cloFrom X.env.cells scope.names [])) fp
  show codeAny _ _ (.compStart (.DictComp kx vx [⟨tg, it, [], 0⟩] scope pos) 0 (.ref itA) (.ref D) (compEnvC scope (cellsFrom (s3.heap.objs.size + 1) scope.names (cloFrom X.env.cells scope.names [])) s3.heap.objs.size X.env))
    (compPost (model X.prog X.w) X.A X.xe use Qf (.ref D) s3.heap.objs.size) { s3 with heap := pushCells (s3.heap.push { cls := .type "dict", data := .dict #[] }) scope.names }
  generalize ece : compEnvC scope (cellsFrom (s3.heap.objs.size + 1) scope.names (cloFrom X.env.cells scope.names [])) s3.heap.objs.size X.env = ce at B0 gg kk vv ⊢
  have cL : ce.locals = s3.heap.objs.size := by subst ece; rfl
  generalize eH3 : upd H2 D (.dT []) = H3 at I3 B0 gg kk vv w0 nn f3
  generalize e4 : ({ s3 with heap := pushCells (s3.heap.push { cls := .type "dict", data := .dict #[] }) scope.names } : Shared) = s4 at B0 ⊢
  have st4 : tn 0 s4.heap := T.keep _ _ _ st3 fun b _ o z => by rw [← e4]; exact pushCells_keeps _ _ _ _ (Heap.get?_push_of_some _ z)
  have fpx : ∀ {σ' : L2.St} {H' : Hp} {t : Shared}, Inv (X.blk s3 H3 scope ce fp) [] σ' H' t → (∀ b ∈ fp, H' b = none) → ∀ b ∈ fp, FpOk (X.blk s3 H3 scope ce fp) [] H' b := fun {σ' H' t} B hn b hb =>
    ⟨hn b hb, (B.ok.exf b hb).1, B.ok.exfs b hb, .inl hb, fun y c z => (B.ok.exf b hb).2 y c z, fun p hp => by cases hp⟩
  have loop : codeAny (model X.prog X.w) X.A (.compLoop (.DictComp kx vx [⟨tg, it, [], 0⟩] scope pos) 0 (.ref itA) (.ref D) ce) (compPost (model X.prog X.w) X.A X.xe use Qf (.ref D) s3.heap.objs.size) s4 := by
    refine compLoop_anyD (fun n t => ∃ i H', Inv (X.blk s3 H3 scope ce fp) [] (wipe σ (own.map (·.2))) H' t ∧ tn i t.heap ∧ (∀ b ∈ fp, H' b = none) ∧ Wt i n H') ?_ m0 ⟨0, H3, B0, st4, nn, w0⟩
    rintro n s5 ⟨i, H5, B5, st5, n5, w5⟩
    rcases turn i n H5 w5 with ⟨stop, kvs, hk5, qq⟩ | ⟨go, Nx, hNx, step⟩
    · refine thn0 (T.done (X.blk s3 H3 scope ce fp) rfl rfl rfl hc i [] s5 _ H5 (fun _ _ => False) B5 (fpx B5 n5) st5 stop) fun r s6 hr => ?_
      obtain ⟨rfl, B6⟩ := hr
      have J6 : Inv X pins σ H5 s6 := I3.call' (ch := fp) B6.os B6.base B6.hok B6.bare fun b hb => ⟨(f3 b hb).1.2.2.2.1, (f3 b hb).1.2.1, (f3 b hb).1.2.2.2.2.1, (f3 b hb).1.2.2.2.2.2⟩
      have z : H5 ce.locals = none := B6.free
      rw [cL] at z
      obtain ⟨m, hn, _⟩ := B6.loc
      have hn : s6.heap.Ns ce.locals m := hn
      rw [cL] at hn
      obtain ⟨od, L6⟩ := J6.lock hk5 True.intro
      have nC : upd H5 D (.frz od (.dT kvs)) s3.heap.objs.size = none := by
        rw [upd_ne fun y => by rw [y, hk5] at z; cases z]
        exact z
      exact hRR D s3.heap.objs.size s6 m _ L6 (qq od) hn (I3.fpOk (Nat.le_refl _) nC)
    · refine thn0 (T.item (X.blk s3 H3 scope ce fp) rfl rfl rfl hc i [] s5 _ H5 (fun _ _ => False) B5 (fpx B5 n5) st5 go) fun r s6 hr => ?_
      obtain ⟨u, rfl, h6⟩ := hr
      refine thn0 h6 fun _ s7 h7 => ?_
      obtain ⟨x, H7, B7, r7, y7, st7, n7⟩ := h7
      refine thn0 (gg.run _ s7 _ H7 x u _ (B7.pinned (fpx B7 n7) (T.obj _ _ st7)) r7 (step x H7 y7)) fun _ s8 h8 => ?_
      obtain ⟨σ8, H8, B8, hw8, q8⟩ := h8
      refine wpAny_tests_nil ?_
      simp only [if_true]
      refine thn0 (kk.run _ s8 σ8 H8 _ B8 q8) fun z s10 h10 => ?_
      obtain ⟨yk, H10, B10, r10, q10⟩ := h10
      refine thn0 (vv.run _ s10 σ8 H10 _ B10 q10) fun z2 s11 h11 => ?_
      obtain ⟨yv, H11, B11, r11, kvs, k, b, rfl, hb11, hD11, hz11, nx⟩ := h11
      refine dset_tup (X := X.blk s3 H3 scope ce fp) hu B11 hD11 hz11 hb11 r10 r11 fun s12 B12 => ?_
      obtain ⟨m', hm, w'⟩ := hNx _ nx
      have pin' : ∀ c ∈ fp, ∀ o, s7.heap.get? c = some o → s12.heap.get? c = some o ∧ upd H11 D (HO.dT (putK kvs k yv)) c = none := fun c hcf o z =>
        (fun z => ⟨z.1, z.2.1⟩) (B12.pin (c, o) (List.mem_append_right _ (List.mem_append_right _ (mem_pinsAt hcf z))))
      refine ⟨m', hm, i + 1, _, (B12.unpinned (pins := [])).weak (by rw [← hw8, wipe_length]) fun j v z => ?_, T.keep _ _ _ st7 fun c hcf o z => (pin' c hcf o z).1, fun c hcf => ?_, w'⟩
      · rw [← hw8] at z
        exact (wipe_some z).1
      · obtain ⟨o, z, _⟩ := T.obj _ _ st7 c hcf
        exact (pin' c hcf o z).2
  exact codeAny_compStart_dict loop (T.self X.A 0 _ _ _ st4 loop)
theorem pe_dcT {kx vx tg it : Expr} {scope : Scope} {own : List (Str × Nat)} {pos : Pos} {wi : L2.TI} {g : L2.TG} {tk tv : TE} (hu : X.A.units < cLine) (hc : X.calm = true) (hN : X.N.Nodup) (hi : PI X tg it wi) (ok : BlkOk X.N X.env.scope scope own)
    (hg : ∀ (s : Shared) (H : Hp) (C : Addr) (cl : List (Str × Addr)) (fp : List Addr), PG (X.blk s H scope (compEnvC scope cl C X.env) fp) tg g)
    (hk : ∀ (s : Shared) (H : Hp) (C : Addr) (cl : List (Str × Addr)) (fp : List Addr), PE (X.blk s H scope (compEnvC scope cl C X.env) fp) kx tk)
    (hv : ∀ (s : Shared) (H : Hp) (C : Addr) (cl : List (Str × Addr)) (fp : List Addr), PE (X.blk s H scope (compEnvC scope cl C X.env) fp) vx tv)
    (hfi : ∀ x, foldedSetIterable it X.env x = pure x := by intro _; rfl) : PE X (.DictComp kx vx [⟨tg, it, [], 0⟩] scope pos) (tDcT wi g tk tv (own.map (·.2))) := by
  constructor
  intro pins s σ H Q I h
  rw [arm_eval_DictComp]
  refine dcT_core hu hc hN I hi ok hg hk hv hfi h fun D ca t m H' J q hn f => ⟨m, hn, fun h2 sb => ?_⟩
  obtain ⟨f0, f1, f2, f3, f4, f5⟩ := f
  exact ⟨.ref D, H', J.turned (t' := t.toks) (fun b o hb z => (sb.2 b hb).trans z) f0 f1 f3 f4 f5, rfl, q⟩
end
end Py
end
section
set_option Elab.async false
set_option linter.all false
set_option maxRecDepth 100000
set_option maxHeartbeats 4000000
/-! Dicts as data: comprehensions, own dicts. -/
namespace Py
open PySem L2 PySem.Spec PyProof.Rows

/-- a key: ints and texts -/
@[simp] def keysD : List D → Option (List Key)
  | [] => some []
  | .int i :: r => match keysD r with
    | some k => some (.inl i :: k)
    | none => none
  | .str x :: r => match keysD r with
    | some k => some (.inr x :: k)
    | none => none
  | _ :: _ => none
theorem keysD_rp {K : PySem.W.Frag} {F : Hp} : ∀ {vs : List V} {ds : List D} {k : List Key}, RpL K F vs ds → keysD ds = some k → vs = k.map kV
  | _, [], _, .nil, e => by cases e; rfl
  | _, .int i :: r, k, .cons h t, e => by
    simp only [keysD] at e
    cases e2 : keysD r with
    | none => rw [e2] at e; cases e
    | some k2 =>
      rw [e2] at e
      cases e
      cases h
      rw [keysD_rp t e2]
      rfl
  | _, .str x :: r, k, .cons h t, e => by
    simp only [keysD] at e
    cases e2 : keysD r with
    | none => rw [e2] at e; cases e
    | some k2 =>
      rw [e2] at e
      cases e
      cases h
      rw [keysD_rp t e2]
      rfl
  | _, .non :: r, k, .cons h t, e => by cases e
  | _, .bl b :: r, k, .cons h t, e => by cases e
  | _, .lst b :: r, k, .cons h t, e => by cases e
  | _, .frl b :: r, k, .cons h t, e => by cases e
  | _, .tup b :: r, k, .cons h t, e => by cases e
  | _, .obj _ _ _ :: r, k, .cons h t, e => by cases e
  | _, .dct _ _ :: r, k, .cons h t, e => by cases e
theorem valV_zip {k : List Key} : ∀ {ks : List (List Key)} {vs : List V}, k ∉ ks → valV (ks.zip vs) k = none
  | [], vs, _ => by simp [valV]
  | a :: ks, [], _ => by simp [valV]
  | a :: ks, v :: vs, h => by
    have n1 : ¬ a = k := fun z => h (by simp [z])
    have e := valV_neg (p := (a, v)) (r := ks.zip vs) (k := k) n1
    show valV ((a, v) :: ks.zip vs) k = none
    rw [e]
    exact valV_zip fun z => h (by simp [z])
theorem put_zip {k : List Key} {ks : List (List Key)} {vs : List V} {v : V} (h : k ∉ ks) (l : ks.length = vs.length) : putK (ks.zip vs) k v = (ks ++ [k]).zip (vs ++ [v]) := by
  rw [putK_new v (valV_zip h), List.zip_append l]
  rfl
section
variable {K : PySem.W.Frag} {g : G} {F F' H H' : Hp} {sl : List Slot} {S S' : List Int} {σ : L2.St}
theorem Cor.lock (c : Cor g F S H) {p : Addr} {o : HO} (hf : F p = none) (h0 : g.H0 p = none) : Cor g (upd F p o) S (upd H p o) := by
  refine ⟨fun b u e => Same.upd_new hf b u (c.f0 b u e), fun a u e => ?_, fun b u e => ?_, fun b u e q => ?_, fun a e => ?_⟩
  · by_cases q : a = p
    · subst q; exact .inr (.inl h0)
    · rw [upd_ne q] at e; exact c.fn a u e
  · by_cases q : b = p
    · subst q; rw [upd_same] at e ⊢; exact e
    · rw [upd_ne q] at e ⊢; exact c.fh b u e
  · rw [upd_ne (ne_of_none e h0)]
    exact c.h0 b u e q
  · obtain ⟨h1, h2, h3⟩ := c.st a e
    have n1 : a ≠ p := fun z => h3 (by rw [z]; exact h0)
    rw [upd_ne n1, upd_ne n1]
    exact ⟨h1, h2, h3⟩
/-- a dict of no slot is locked and frozen -/
theorem Rel.lockN (r : Rel K g F sl S σ H) {p : Addr} {kvs : List (List Key × V)} {o : HO} (hp : H p = some (.dT kvs)) (hf : F p = none) (h0 : g.H0 p = none) (no : ∀ (i : Nat) (ks : List (List Key)) (ds : List D), sl[i]? = some (Slot.dic ks ds) → (σ[i]?).join ≠ some (.ref p)) :
    Rel K g (upd F p o) sl S σ (upd H p o) := by
  refine ⟨r.cor.lock hf h0, r.len, fun i s e => ?_, r.sep⟩
  have q := r.ok i s e
  have sf : Same F (upd F p o) := Same.upd_new hf
  cases s with
  | un => trivial
  | dat d => obtain ⟨v, k1, k2⟩ := q; exact ⟨v, k1, k2.mono sf⟩
  | drw => exact q
  | exc a d x => exact ⟨q.1, q.2.mono sf⟩
  | own ds =>
    obtain ⟨p', vs, k1, k2, k3, k4, k5⟩ := q
    have n1 : p' ≠ p := fun z => by rw [z, hp] at k2; cases k2
    exact ⟨p', vs, k1, by rw [upd_ne n1]; exact k2, by rw [upd_ne n1]; exact k3, k4, k5.mono sf⟩
  | slf a C ns ds =>
    obtain ⟨dx, vs, k1, k2, k3, k4, k5, k6, k7, k8, k9⟩ := q
    have n1 : a ≠ p := fun z => by rw [z, hp] at k2; cases k2
    have n2 : dx ≠ p := fun z => by rw [z, hp] at k3; cases k3
    exact ⟨dx, vs, k1, by rw [upd_ne n1]; exact k2, by rw [upd_ne n2]; exact k3, by rw [upd_ne n1]; exact k4, by rw [upd_ne n2]; exact k5, k6, k7, k8, k9.mono sf⟩
  | dic ks ds =>
    obtain ⟨p', vs, k1, k2, k3, k4, k5, k6⟩ := q
    have n1 : p' ≠ p := fun z => no i ks ds e (by rw [k1, z])
    exact ⟨p', vs, k1, by rw [upd_ne n1]; exact k2, by rw [upd_ne n1]; exact k3, k4, k5, k6.mono sf⟩
/-- a dict of no slot is written -/
theorem Rel.writeN (r : Rel K g F sl S σ H) {p : Addr} {kvs : List (List Key × V)} {o : HO} (hp : H p = some (.dT kvs)) (hf : F p = none) (h0 : g.H0 p = none) (no : ∀ (i : Nat) (ks : List (List Key)) (ds : List D), sl[i]? = some (Slot.dic ks ds) → (σ[i]?).join ≠ some (.ref p)) :
    Rel K g F sl S σ (upd H p o) := by
  refine ⟨r.cor.write hf h0, r.len, fun i s e => ?_, r.sep⟩
  have q := r.ok i s e
  cases s with
  | un => trivial
  | dat d => exact q
  | drw => exact q
  | exc a d x => exact q
  | own ds =>
    obtain ⟨p', vs, k1, k2, k3, k4, k5⟩ := q
    have n1 : p' ≠ p := fun z => by rw [z, hp] at k2; cases k2
    exact ⟨p', vs, k1, by rw [upd_ne n1]; exact k2, k3, k4, k5⟩
  | slf a C ns ds =>
    obtain ⟨dx, vs, k1, k2, k3, k4, k5, k6, k7, k8, k9⟩ := q
    have n1 : a ≠ p := fun z => by rw [z, hp] at k2; cases k2
    have n2 : dx ≠ p := fun z => by rw [z, hp] at k3; cases k3
    exact ⟨dx, vs, k1, by rw [upd_ne n1]; exact k2, by rw [upd_ne n2]; exact k3, k4, k5, k6, k7, k8, k9⟩
  | dic ks ds =>
    obtain ⟨p', vs, k1, k2, k3, k4, k5, k6⟩ := q
    have n1 : p' ≠ p := fun z => no i ks ds e (by rw [k1, z])
    exact ⟨p', vs, k1, by rw [upd_ne n1]; exact k2, k3, k4, k5, k6⟩
theorem Stp.lock (st : Stp g F H F' H') {p : Addr} {o : HO} (hn : H p = none) (hf : F' p = none) : Stp g F H (upd F' p o) (upd H' p o) := by
  refine ⟨st.f.trans (Same.upd_new hf), fun a u e q => ?_, fun a u e => ?_, fun a e => ?_⟩
  · rw [upd_ne (ne_of_none e hn)]
    exact st.k a u e q
  · by_cases z : a = p
    · subst z; exact .inr (.inl hn)
    · rw [upd_ne z] at e; exact st.n a u e
  · by_cases z : a = p
    · rw [z]; exact hn
    · rw [upd_ne z] at e; exact st.d a e
end
def dcRun (pg : PGx) (pa : PAx) (pv : PEx) : List D → List Slot → List Int → List (List Key) → List D → (List (List Key) → List D → List Int → Prop) → Prop
  | [], _, S, ks, xs, Q => Q ks xs S
  | d :: ds, sl, S, ks, xs, Q => pg (.dat d) sl S fun sl1 S0 => dats pa sl1 S0 (fun kd S1 => kd.length ≤ sizeLine ∧ ∃ k, keysD kd = some k ∧ k ∉ ks ∧ dat pv sl1 S1 (fun y S2 => dcRun pg pa pv ds sl S2 (ks ++ [k]) (xs ++ [y]) Q) (fun _ _ => False)) (fun _ _ => False)
def pDc (vs : List Nat) (pi : PIx) (pg : PGx) (pa : PAx) (pv : PEx) : PEx := fun sl S Q E => pi sl S (fun ds S1 => ds.length ≤ sizeLine ∧ dcRun pg pa pv ds (wipeS sl vs) S1 [] [] (fun ks xs S2 => Q (.dat (.dct ks xs)) S2)) E
theorem rd_dc {K : PySem.W.Frag} {W : WX} {vs : List Nat} {pi : PIx} {pg : PGx} {pa : PAx} {pv : PEx} (σ : L2.St) (H : Hp) (Q : VK) (h : rdE K W (pDc vs pi pg pa pv) σ H Q) : tDcT (rdI K W pi) (rdGw K vs pg) (tTup (rdA K W0 pa)) (rdE K W0 pv) vs σ H Q := by
  obtain ⟨g, F, sl, S, Q', E', rel, hp, post, exc⟩ := h
  refine ⟨g, F, sl, S, _, E', rel, hp, fun ds S1 J H1 F1 s1 rel1 io ⟨hz, h1⟩ => ?_, exc⟩
  intro L hL
  have g0 : g.H0 L = none := rel1.cor.new hL
  let Pv : Nat → Hp → Prop := fun j H' => ∃ F' S' ks acc accd, Stp g F1 H1 F' (fun b => if b = L then none else H' b) ∧ Rel K g F' (wipeS sl vs) S' (wipe σ vs) H' ∧ H' L = some (.dT (ks.zip acc)) ∧ F' L = none ∧ ks.length = acc.length ∧ RpL K F' acc accd ∧ acc.length ≤ j ∧
    dcRun pg pa pv (ds.drop j) (wipeS sl vs) S' ks accd (fun ks xs S2 => Q' (.dat (.dct ks xs)) S2)
  have cutU : ∀ {p : Addr} {o : HO} {Hx : Hp}, (fun b => if b = p then none else (upd Hx p o) b) = (fun b => if b = p then none else Hx b) := fun {p o Hx} => by
    funext b
    by_cases z : b = p
    · rw [if_pos z, if_pos z]
    · rw [if_neg z, if_neg z, upd_ne z]
  have cut0 : (fun b => if b = L then none else H1 b) = H1 := by
    funext b
    by_cases z : b = L
    · rw [if_pos z, z, hL]
    · rw [if_neg z]
  refine ⟨fun j m H' => m = ds.length - j ∧ j ≤ ds.length ∧ Pv j H', ⟨ds.length, by simp, Nat.zero_le _, F1, S1, [], [], [], ?_, (rel1.wipe vs).alloc hL, upd_same, rel1.cor.free hL, rfl, .nil, Nat.zero_le _, h1⟩, ?_⟩
  · rw [cutU, cut0]; exact Stp.refl
  rintro j m H' ⟨rfl, hj, F', S', ks, acc, accd, st, rel2, hLa, hLf, lk, ra, hal, h2⟩
  have sF : Same F1 F' := st.f
  by_cases hlt : j < ds.length
  · have e1 : ds.drop j = ds[j] :: ds.drop (j + 1) := List.drop_eq_getElem_cons hlt
    rw [e1] at h2
    refine .inr ⟨(io.mono sF).go H' j rel2.cor.fh hlt, Pv (j + 1), fun H3 p3 => ⟨ds.length - (j + 1), by omega, rfl, hlt, p3⟩, fun x H3 y => ?_⟩
    obtain ⟨Fy, sy, rely, rx⟩ := ((io.mono sF).yld H' j x H3 rel2.cor.fh y _ (List.getElem?_eq_getElem hlt)).use rel2
    have ndL : g.dr ≠ some L := fun z => (rel2.cor.st L z).2.2 g0
    have hLf := sy.free rely.cor.fh hLf hLa ndL
    have hLa : H3 L = some (.dT (ks.zip acc)) := sy.k L _ hLa ndL
    have st := st.comp sy hL
    have ra := ra.mono sy.f
    refine ⟨g, Fy, _, S', .dat ds[j], _, rely, rx, trivial, h2, fun sl3 S3 σ3 rel3 w1 w2 h3 => ?_⟩
    have w1' : wipe σ3 vs = wipe σ vs := by rw [w1, wipe_idem σ vs vs fun _ h => h]
    have w2' : wipeS sl3 vs = wipeS sl vs := by rw [w2, wipeS_idem sl vs vs fun _ h => h]
    refine ⟨w1', ?_⟩
    refine rdA_dats rel3 h3 noExc fun kd S4 us H4 F4 s4 rel4 rl ⟨hz4, k, hk, nk, h4⟩ => ⟨by rw [rl.length]; exact hz4, fun b hb => ?_⟩
    have eus := keysD_rp rl hk
    have a4 : Stp g Fy H3 F4 (upd H4 b (.tup us)) := s4.trans (Stp.alloc hb)
    have rel4b := rel4.alloc (o := .tup us) hb
    refine rdE_dat rel4b h4 noExc fun y S5 v H5 F5 s5 rel5 ry h5 => ?_
    have s45 := a4.trans s5
    have hL5 : H5 L = some (.dT (ks.zip acc)) := s45.k L _ hLa ndL
    have hF5 : F5 L = none := s45.free rel5.cor.fh hLf hLa ndL
    have ndb : g.dr ≠ some b := fun z => (rel4.cor.st b z).2.2 (rel4.cor.new hb)
    have hb5 : H5 b = some (.tup us) := s5.k b _ upd_same ndb
    refine ⟨ks.zip acc, k, b, rfl, by rw [hb5, eus], hL5, by rw [List.length_zip]; omega, F5, S5, ks ++ [k], acc ++ [v], accd ++ [y], ?_, ?_, ?_, hF5, by simp [lk], (ra.mono s45.f).append (.cons ry .nil), by simp; omega, h5⟩
    · rw [cutU]; exact st.comp s45 hL
    · have r6 : Rel K g F5 (wipeS sl vs) S5 (wipe σ vs) H5 := by
        have := rel5.wipe vs
        rw [w1', w2'] at this
        exact this
      refine r6.writeN hL5 hF5 g0 fun i k3 d3 e3 z => ?_
      obtain ⟨p9, v9, e9, m9, _⟩ := (rel1.wipe vs).ok i _ e3
      rw [z] at e9
      cases e9
      rw [hL] at m9; cases m9
    · rw [upd_same, put_zip nk lk]
  · have e0 : j = ds.length := by omega
    subst e0
    rw [List.drop_length] at h2
    refine .inl ⟨(io.mono sF).stop H' _ rel2.cor.fh (Nat.le_refl _), ks.zip acc, hLa, fun od => ?_⟩
    have relE : Rel K g F' sl S' σ H' := rel1.unwipe hL st rel2
    have relL : Rel K g (upd F' L (.frz od (.dT (ks.zip acc)))) sl S' σ (upd H' L (.frz od (.dT (ks.zip acc)))) := relE.lockN hLa hLf g0 fun i k3 d3 e3 z => by
      obtain ⟨p9, v9, e9, m9, _⟩ := rel1.ok i _ e3
      rw [z] at e9
      cases e9
      rw [hL] at m9; cases m9
    have stF : Stp g F1 H1 F' H' := ⟨sF, fun a o e q => by
        have hne : a ≠ L := fun z => by rw [z, hL] at e; cases e
        have := st.k a o e q
        simp only [if_neg hne] at this
        exact this, st.n, fun a e => by
        by_cases hne : a = L
        · rw [hne]; exact hL
        · exact st.d a (by simp only [if_neg hne]; exact e)⟩
    have fin := post (.dat (.dct ks accd)) S' (.ref L) _ _ (s1.trans (stF.lock hL hLf)) relL (.dct upd_same lk (ra.mono (Same.upd_new hLf))) trivial h2
    exact fin
section
variable {X : Cx} {W : WX} {tg vx it : Expr} {es : List Expr} {kk : Nat} {scope : Scope} {own : List (Str × Nat)} {pos tpos : Pos} {pi : PIx} {pg : PGx} {pa : PAx} {pv : PEx}
theorem se_dc (vs : List Nat) (hu : X.A.units < cLine) (hc : X.calm = true) (hN : X.N.Nodup) (hi : SI X W tg it pi) (ok : BlkOk X.N X.env.scope scope own) (hvs : own.map (·.2) = vs)
    (hg : ∀ (s : Shared) (H : Hp) (C : Addr) (cl : List (Str × Addr)) (fp : List Addr), PG (X.blk s H scope (compEnvC scope cl C X.env) fp) tg (rdGw X.K vs pg))
    (hk : ∀ (s : Shared) (H : Hp) (C : Addr) (cl : List (Str × Addr)) (fp : List Addr), SA (X.blk s H scope (compEnvC scope cl C X.env) fp) W0 es pa)
    (hv : ∀ (s : Shared) (H : Hp) (C : Addr) (cl : List (Str × Addr)) (fp : List Addr), SE (X.blk s H scope (compEnvC scope cl C X.env) fp) W0 vx pv) (hs : ∀ x, foldedSetIterable it X.env x = pure x := by intro _; rfl) :
    SE X W (.DictComp (.Tuple es kk tpos) vx [⟨tg, it, [], 0⟩] scope pos) (pDc vs pi pg pa pv) := by
  subst hvs
  exact ⟨PE.imp (pe_dcT hu hc hN hi.pi ok hg (fun a b c d e => pe_tup (hk a b c d e).pa) (fun a b c d e => (hv a b c d e).pe) hs) rd_dc⟩
end

/-! ### a dict of the frame's own -/
theorem Rel.setDic {K : PySem.W.Frag} {g : G} {F H : Hp} {sl : List Slot} {S : List Int} {σ : L2.St} (r : Rel K g F sl S σ H) {i : Nat} {p : Addr} {ks : List (List Key)} {vs : List V} {ds : List D} (hi : i < sl.length) (h1 : H p = some (.dT (ks.zip vs))) (h2 : F p = none) (h3 : g.H0 p = none)
    (l : ks.length = vs.length) (rl : RpL K F vs ds) : Rel K g F (sl.set i (.dic ks ds)) S (σ.set i (some (.ref p))) H := by
  have hs : i < σ.length := by rw [← r.len]; exact hi
  refine ⟨r.cor, by simpa using r.len, fun j s hj => ?_, fun j k dj dk q hjk h4 h5 h6 h7 => ?_⟩
  · by_cases hij : i = j
    · subst hij
      rw [List.getElem?_set_self hi] at hj
      rw [List.getElem?_set_self hs]
      cases hj
      exact ⟨p, vs, rfl, h1, h2, h3, l, rl⟩
    · rw [List.getElem?_set_ne hij] at hj
      rw [List.getElem?_set_ne hij]
      exact r.ok j s hj
  · have base : ∀ (m : Nat) (dm : List D), (sl.set i (Slot.dic ks ds))[m]? = some (Slot.own dm) → i ≠ m ∧ sl[m]? = some (Slot.own dm) := fun m dm hm => by
      by_cases z : i = m
      · subst z
        rw [List.getElem?_set_self hi] at hm; cases hm
      · rw [List.getElem?_set_ne z] at hm; exact ⟨z, hm⟩
    obtain ⟨n1, z1⟩ := base j dj h4
    obtain ⟨n2, z2⟩ := base k dk h5
    rw [List.getElem?_set_ne n1] at h6
    rw [List.getElem?_set_ne n2] at h7
    exact r.sep j k dj dk q hjk z1 z2 h6 h7
theorem Rel.dic {K : PySem.W.Frag} {g : G} {F H : Hp} {sl : List Slot} {S : List Int} {σ : L2.St} (r : Rel K g F sl S σ H) {i : Nat} {ks : List (List Key)} {ds : List D} (h : sl[i]? = some (.dic ks ds)) :
    ∃ p vs, σ[i]? = some (some (.ref p)) ∧ H p = some (.dT (ks.zip vs)) ∧ F p = none ∧ g.H0 p = none ∧ ks.length = vs.length ∧ RpL K F vs ds := by
  obtain ⟨p, vs, e, q⟩ := r.ok i _ h
  refine ⟨p, vs, ?_, q⟩
  cases e2 : σ[i]? with
  | none => rw [e2] at e; cases e
  | some o => rw [e2] at e; exact congrArg some e
/-- the slot i is forgotten -/
theorem Rel.drop {K : PySem.W.Frag} {g : G} {F H : Hp} {sl : List Slot} {S : List Int} {σ : L2.St} (r : Rel K g F sl S σ H) (i : Nat) : Rel K g F (sl.set i .un) S σ H := by
  refine ⟨r.cor, by simpa using r.len, fun j s hj => ?_, fun j k dj dk p hjk h4 h5 h6 h7 => ?_⟩
  · by_cases hij : i = j
    · subst hij
      by_cases hl : i < sl.length
      · rw [List.getElem?_set_self hl] at hj
        cases hj
        trivial
      · rw [List.getElem?_eq_none (by simpa using hl)] at hj
        cases hj
    · rw [List.getElem?_set_ne hij] at hj
      exact r.ok j s hj
  · have base : ∀ (m : Nat) (dm : List D), (sl.set i Slot.un)[m]? = some (Slot.own dm) → sl[m]? = some (Slot.own dm) := fun m dm hm => by
      by_cases z : i = m
      · subst z
        by_cases hl : i < sl.length
        · rw [List.getElem?_set_self hl] at hm; cases hm
        · rw [List.getElem?_eq_none (by simpa using hl)] at hm; cases hm
      · rw [List.getElem?_set_ne z] at hm; exact hm
    exact r.sep j k dj dk p hjk (base j dj h4) (base k dk h5) h6 h7
@[simp] def noDic : List Slot → Bool
  | [] => true
  | .dic _ _ :: _ => false
  | _ :: r => noDic r
theorem noDic_get : ∀ {sl : List Slot} {j : Nat} {ks : List (List Key)} {ds : List D}, noDic sl = true → sl[j]? ≠ some (.dic ks ds)
  | [], j, _, _, _ => by simp
  | s :: r, 0, _, _, h => by
    cases s <;> simp at h ⊢
  | s :: r, j + 1, _, _, h => by
    have : noDic r = true := by cases s <;> simp_all
    simpa using noDic_get (j := j) this
/-- x = {} -/
@[simp] def pDNew (i : Nat) : PSm := fun P sl S => i < sl.length ∧ P.nx (sl.set i (.dic [] [])) S
/-- x.get(k, d), k a tuple that is not there -/
@[simp] def pDGet (i : Nat) (pa : PAx) (pd : PEx) : PEx := fun sl S Q E => match sl[i]? with
  | some (.dic ks ds) => dats pa sl S (fun kd S1 => kd.length ≤ sizeLine ∧ ∃ k, keysD kd = some k ∧ k ∉ ks ∧ dat pd sl S1 (fun d S2 => Q (.dat d) S2) E) E
  | _ => False
/-- x[k] = v, k a tuple that is not there -/
@[simp] def pDPut (i : Nat) (pa : PAx) (pv : PEx) : PSm := fun P sl S => match sl[i]? with
  | some (.dic ks ds) => dat pv sl S (fun d S1 => dats pa sl S1 (fun kd S2 => kd.length ≤ sizeLine ∧ ks.length < sizeLine ∧ noDic (sl.set i .un) = true ∧ ∃ k, keysD kd = some k ∧ k ∉ ks ∧ P.nx (sl.set i (.dic (ks ++ [k]) (ds ++ [d]))) S2)
    (fun x S2 => P.ex x sl S2)) (fun x S2 => P.ex x sl S2)
  | _ => False
/-- the dict is told from here on -/
@[simp] def pDFrz (i : Nat) (p : PSm) : PSm := fun P sl S => match sl[i]? with
  | some (.dic ks ds) => noDic (sl.set i .un) = true ∧ p P (sl.set i (.dat (.dct ks ds))) S
  | _ => False
section
variable {X : Cx} {W : WX} {e f : Expr} {es : List Expr} {pa : PAx} {pd pv : PEx} {st : Stmt} {p : PSm} {x : Str} {kk : Nat} {px pos dpos tpos spos apos : Pos}
theorem ss_dnew (i : Nat) (hN : X.N.Nodup) (hi : X.N[i]? = some x := by rfl) (hx : Loc X.env.scope x := by first | exact Or.inl rfl | exact Or.inr rfl) (hf : X.fn x = true ∨ X.env.scope.names.lookup x = some .local := by first | exact .inl rfl | exact .inr rfl)
    (hs : swapsWithSole [.Name x px] (.Dict [] [] dpos) pos.line X.env = pure false := by rfl) (hw : swappedStores [.Name x px] (.Dict [] [] dpos) X.env = pure none := by rfl) (h1 : (assignEach [.Name x px] X.env).map (·.2) = [assign (.Name x px) X.env] := by rfl) :
    SS X W (.Assign [.Name x px] (.Dict [] [] dpos) pos) (pDNew i) := ⟨PS.imp (ps_asg pe_dnewT (pg_name hN hi hx hf) hs hw h1) fun D σ H h => by
  obtain ⟨g, F, sl, S, P, rel, ⟨hl, hp⟩, lk⟩ := h
  intro p hn
  have rel1 := rel.alloc (o := .dT []) hn
  exact lk.nx _ S _ _ F (Same.refl _) (rel1.setDic (ks := []) (vs := []) (ds := []) hl upd_same (rel.cor.free hn) (rel.cor.new hn) rfl .nil) hp⟩
theorem se_dget (i : Nat) (hu : X.A.units + 1 < cLine) (ha : SA X W es pa) (hd : SE X W f pd) (m : M2 X (.Name x px) "get" apos (.Tuple es kk tpos) f pos) (hN : X.N[i]? = some x := by rfl) (hv : Vis X.env.scope x := by first | exact Or.inl rfl | exact Or.inr (Or.inl rfl) | exact Or.inr (Or.inr rfl)) (hdb : (x == ("__debug__" : Str)) = false := by decide)
    (hcd : (x == ("__classdict__" : Str)) = false := by decide) : SE X W (.Call (.Attribute (.Name x px) "get" apos) [.Tuple es kk tpos, f] [] pos) (pDGet i pa pd) := ⟨PE.imp (pe_dget2 hu (pe_var hN hv hdb hcd) (pe_tup ha.pa) hd.pe m) fun σ H Q h => by
  obtain ⟨g, F, sl, S, Q', E', rel, hp, post, exc⟩ := h
  unfold pDGet at hp
  split at hp
  · rename_i ks ds e2
    obtain ⟨p, vs, h1, h2, h3, h4, l, rl⟩ := rel.dic e2
    refine ⟨_, h1, p, rfl, .inr ⟨_, .inl h2⟩, ?_⟩
    refine rdA_dats rel hp exc fun kd S1 us H1 F1 s1 rel1 ru ⟨hz, k, hk, nk, h5⟩ => ⟨by rw [ru.length]; exact hz, fun b hb => ?_⟩
    have eus := keysD_rp ru hk
    have ndb : g.dr ≠ some b := fun z => (rel1.cor.st b z).2.2 (rel1.cor.new hb)
    have ndp : g.dr ≠ some p := fun z => (rel.cor.st p z).2.2 h4
    have a1 : Stp g F H F1 (upd H1 b (.tup us)) := s1.trans (Stp.alloc hb)
    refine rdE_dat (rel1.alloc hb) h5 (exc.mono s1.f) fun d S2 v H2 F2 s2 rel2 r2 h6 => ?_
    have s12 := a1.trans s2
    refine ⟨none, ?_, post (.dat d) S2 v H2 F2 s12 rel2 r2 trivial h6⟩
    have := DGet.t (H := H2) (kvs := ks.zip vs) (k := k) (s12.k p _ h2 ndp) (by rw [← eus]; exact s2.k b _ upd_same ndb)
    rw [valV_zip nk] at this
    exact this
  · exact hp.elim⟩
theorem ss_dput (i : Nat) (hu : X.A.units + 1 < cLine) (ha : SA X W es pa) (hv : SE X W e pv) (hs : swapsWith e (some (.Subscript (.Name x px) (.Tuple es kk tpos) spos)) pos.line X.env = pure false := by rfl) (hN : X.N[i]? = some x := by rfl) (hvi : Vis X.env.scope x := by first | exact Or.inl rfl | exact Or.inr (Or.inl rfl) | exact Or.inr (Or.inr rfl)) (hdb : (x == ("__debug__" : Str)) = false := by decide)
    (hcd : (x == ("__classdict__" : Str)) = false := by decide) : SS X W (.Assign [.Subscript (.Name x px) (.Tuple es kk tpos) spos] e pos) (pDPut i pa pv) := ⟨PS.imp (ps_dput hu (pe_var hN hvi hdb hcd) (pe_tup ha.pa) hv.pe hs) fun D σ H h => by
  obtain ⟨g, F, sl, S, P, rel, hp, lk⟩ := h
  have exc := lk.exc sl σ
  unfold pDPut at hp
  split at hp
  · rename_i ks ds e2
    refine rdE_dat rel hp exc fun d S1 v H1 F1 s1 rel1 r1 h1 => ?_
    obtain ⟨p, vs, k1, k2, k3, k4, l, rl⟩ := rel1.dic e2
    refine ⟨_, k1, ?_⟩
    refine rdA_dats rel1 h1 (exc.mono s1.f) fun kd S2 us H2 F2 s2 rel2 ru ⟨hz, hz2, nd, k, hk, nk, h5⟩ => ⟨by rw [ru.length]; exact hz, fun b hb => ?_⟩
    have eus := keysD_rp ru hk
    have rel3 := rel2.alloc (o := .tup us) hb
    obtain ⟨p', vs', m1, m2, m3, m4, l', rl'⟩ := rel3.dic e2
    rw [k1] at m1
    cases m1
    have hi : i < sl.length := (List.getElem?_eq_some_iff.mp e2).1
    have put : DPut (upd H2 b (.tup us)) p (.ref b) v (upd (upd H2 b (.tup us)) p (.dT (putK (ks.zip vs') k v))) := DPut.t m2 (by rw [← eus]; exact upd_same) (by rw [List.length_zip]; omega)
    refine ⟨p, _, rfl, put, ?_⟩
    have rel4 := (rel3.drop i).writeN (o := .dT (putK (ks.zip vs') k v)) m2 m3 m4 fun j k3 d3 e3 => absurd e3 (noDic_get nd)
    have rel5 := rel4.setDic (i := i) (p := p) (ks := ks ++ [k]) (vs := vs' ++ [v]) (ds := ds ++ [d]) (by simpa using hi) (by rw [upd_same, put_zip nk l']) m3 m4 (by simp [l']) (rl'.append (.cons (r1.mono s2.f) .nil))
    have e5 : σ.set i (some (V.ref p)) = σ := by
      apply List.ext_getElem?
      intro j
      by_cases hij : i = j
      · subst hij
        rw [List.getElem?_set_self (by rw [← rel.len]; exact hi), k1]
      · rw [List.getElem?_set_ne hij]
    rw [List.set_set, e5] at rel5
    exact lk.nx _ S2 σ _ F2 (s1.f.trans s2.f) rel5 h5
  · exact hp.elim⟩
theorem ps_lockF {st : Stmt} {t : TS} (h : PS X st t) : PS X st (fun D σ H => ∃ d u, H d = some u ∧ Mut (some u) ∧ ∀ od, t D σ (upd H d (.frz od u))) := by
  constructor
  intro pins s σ H D I hw
  obtain ⟨d, u, hd, mu, hw⟩ := hw
  obtain ⟨od, I1⟩ := I.lock hd mu
  exact h.run pins s σ _ _ I1 (hw od)
theorem ss_dfrz (i : Nat) (h : SS X W st p) : SS X W st (pDFrz i p) := ⟨PS.imp (ps_lockF h.ps) fun D σ H hh => by
  obtain ⟨g, F, sl, S, P, rel, hp, lk⟩ := hh
  unfold pDFrz at hp
  split at hp
  · rename_i ks ds e2
    obtain ⟨nd, hp⟩ := hp
    obtain ⟨p, vs, k1, k2, k3, k4, l, rl⟩ := rel.dic e2
    have hi : i < sl.length := (List.getElem?_eq_some_iff.mp e2).1
    refine ⟨p, _, k2, True.intro, fun od => ?_⟩
    have rel1 := (rel.drop i).lockN (o := .frz od (.dT (ks.zip vs))) k2 k3 k4 fun j k3 d3 e3 => absurd e3 (noDic_get nd)
    have rel2 := rel1.store (i := i) (x := .dat (.dct ks ds)) (v := .ref p) (.dct upd_same l (rl.mono (Same.upd_new k3))) trivial (by simpa using hi)
    have e5 : σ.set i (some (V.ref p)) = σ := by
      apply List.ext_getElem?
      intro j
      by_cases hij : i = j
      · subst hij
        rw [List.getElem?_set_self (by rw [← rel.len]; exact hi), k1]
      · rw [List.getElem?_set_ne hij]
    rw [List.set_set, e5] at rel2
    exact ⟨g, _, _, S, P, rel2, hp, lk.mono (Same.upd_new k3)⟩
  · exact hp.elim⟩
end
end Py
end
section
set_option Elab.async false
set_option linter.all false
set_option maxRecDepth 100000
set_option maxHeartbeats 4000000
/-! sorted of tuples of ints. -/
namespace Py
open PySem L2 PySem.Spec PyProof.Rows

/-- tuples of d ints, k their ints -/
def TupsK (h : Heap) (d : Nat) (k : Value → List Int) (vs : List Value) : Prop := ∀ v ∈ vs, TS.TupInts h v (k v) ∧ (k v).length = d
theorem TupsK.firsts {h : Heap} {d : Nat} {k : Value → List Int} (hd : 1 ≤ d) : ∀ vs : List Value, TupsK h d k vs → ∃ fs, PySem.W.KatTups h vs fs ∧ fs.length = vs.length ∧ ∀ f ∈ fs, ∃ n t, f = Value.int n t
  | [], _ => ⟨[], PySem.W.KatTups.nil, rfl, fun f hf => by cases hf⟩
  | v :: vs, x => by
    obtain ⟨fs, h1, h2, h3⟩ := TupsK.firsts hd vs fun u hu => x u (List.mem_cons_of_mem _ hu)
    obtain ⟨⟨a, xs, e, ⟨o, ho, hc, n, hdt⟩, i⟩, hn⟩ := x v List.mem_cons_self
    subst e
    obtain ⟨y, ys, ey⟩ : ∃ y ys, xs.toList = y :: ys := by
      cases q : xs.toList with
      | nil =>
        have l := i.length
        rw [q, hn] at l
        simp at l
        omega
      | cons y ys => exact ⟨y, ys, rfl⟩
    have hy : xs[0]? = some y := by
      rw [← Array.getElem?_toList, ey]
      rfl
    refine ⟨y :: fs, PySem.W.KatTups.cons ho hc hdt hy h1, congrArg (· + 1) h2, fun f hf => ?_⟩
    rcases List.mem_cons.mp hf with z | z
    · rw [z]
      exact i.all y (by rw [ey]; exact List.mem_cons_self)
    · exact h3 f z
section
variable {prog : Program} {w : World} {A : Around} {s : Shared}
theorem lexV {b : Bool} {Q : Bool → Shared → Prop} {xs ys : List Value} {ns ms : List Int} (i : Nat) (hx : IntsAre xs ns) (hy : IntsAre ys ms) (hl : ns.length = ms.length) (h : Q (HT.lexLt ns ms) s) : PySem.W.KatLex prog w A b false Q (xs.zip ys) i s := by
  induction hx generalizing ys ms i with
  | nil =>
    cases hy with
    | nil => exact PySem.W.kat_nil h
    | cons q u hy => cases hl
  | @cons p t xs ns hx ih =>
    cases hy with
    | nil => cases hl
    | @cons q u ys ms hy =>
      have hl2 : ns.length = ms.length := Nat.succ.inj hl
      rw [HT.lexLt_cons] at h
      show PySem.W.KatLex prog w A b false Q ((Value.int p t, Value.int q u) :: xs.zip ys) i s
      refine PySem.W.kat_cons (wpAny_eqBool_int ?_)
      by_cases e : p = q
      · rw [if_pos e] at h
        rw [show (p == q) = true from beq_iff_eq.mpr e]
        refine PySem.W.kat_yes ?_
        first
          | exact ih (i + 1) hy hl2 h
          | exact ih _ _ (i + 1) hy hl2 h
      · rw [if_neg e] at h
        rw [show (p == q) = false from beq_eq_false_iff_ne.mpr e]
        exact PySem.W.kat_no (TS.oneLt_ints _ h)
theorem tupsK_cmp {d : Nat} {k : Value → List Int} {vs : List Value} (b : Bool) (x : TupsK s.heap d k vs) : SrtO.Cmp prog w A s (tuples' b) (fun p => p.1 ∈ vs) (SrtO.lt2 fun v u => HT.lexLt (k v) (k u)) := by
  intro p q hp hq
  obtain ⟨⟨a, xs, e1, ⟨o, ho, hc, n, hdt⟩, i⟩, l1⟩ := x _ hp
  obtain ⟨⟨a', ys, e2, ⟨o', ho', hc', n', hdt'⟩, i'⟩, l2⟩ := x _ hq
  show wpAny (model prog w) A (keyLt' (tuples' b) p.1 q.1) (fun r s' => s' = s ∧ r = HT.lexLt (k p.1) (k q.1)) (fun _ _ => False) s
  generalize k p.1 = ns at i l1 ⊢
  generalize k q.1 = ms at i' l2 ⊢
  rw [e1, e2]
  refine PySem.W.kat_lt ho hdt ho' hdt' ?_
  have sz : decide (xs.size < ys.size) = false := by
    have m1 := i.length
    have m2 := i'.length
    rw [Array.length_toList] at m1 m2
    exact decide_eq_false (by omega)
  rw [sz]
  exact lexV 0 i i' (by omega) ⟨rfl, rfl⟩
theorem tupsK_sortable {a : Addr} {d : Nat} {k : Value → List Int} {vs : List Value} (hd : 1 ≤ d) (h0 : 0 < vs.length) (x : TupsK s.heap d k vs) (ha : ∀ o, s.heap.get? a = some o → o.cls ≠ .type "tuple") : SrtO.SortableO prog w A s a vs fun v u => HT.lexLt (k v) (k u) := by
  intro h' keep
  have x' : TupsK h' d k vs := fun v hm => ⟨(x v hm).1.keeps fun b o e c => keep b o (fun z => by subst z; exact ha o e c) e, (x v hm).2⟩
  obtain ⟨fs, h1, h2, h3⟩ := x'.firsts hd
  refine ⟨tuples' true, fun Q E hq => ?_, tupsK_cmp true x'⟩
  refine PySem.W.kat_kind (T := .type "int") h1 (by omega) (fun f hm => ?_) (by rfl) ?_
  · obtain ⟨n, t, rfl⟩ := h3 f hm
    exact PySem.W.Looks.now
  · have e : (Value.type "int" != Value.type "tuple") = true := by first | decide +kernel | rfl | decide
    rw [e]
    exact hq
end
/-- sorted(xs), xs a list of tuples of d ints -/
def rSortK (K : PySem.W.Frag) : List V → Hp → VK → Prop := fun vs H Q => ∃ (R : V → List Int → Prop) (a : Addr) (xs : List V) (L : List (List Int)) (d : Nat), vs = [V.ref a] ∧ SqL K H a xs ∧ (∀ x ns, R x ns → ∃ t, x = V.ref t ∧ SqT K H t (ns.map V.int)) ∧ Paired R xs L ∧ 1 ≤ d ∧ (∀ ns ∈ L, ns.length = d) ∧
  ∀ (ys : List V) (L' : List (List Int)) (p : Addr), Paired R ys L' → L'.Perm L → L'.Pairwise (fun x y => HT.lexLt y x = false) → H p = none → Q (.ref p) (upd H p (.lst ys))
theorem paired_mem {α β : Type} {R : α → β → Prop} : ∀ {xs : List α} {ys : List β}, Paired R xs ys → ∀ y ∈ ys, ∃ x ∈ xs, R x y
  | _, _, .nil, y, h => by cases h
  | _, _, .cons r t, y, h => by
    rcases List.mem_cons.mp h with z | z
    · subst z; exact ⟨_, List.mem_cons_self, r⟩
    · obtain ⟨x, h1, h2⟩ := paired_mem t y z
      exact ⟨x, List.mem_cons_of_mem _ h1, h2⟩
theorem cr_sortK {X : Cx} : CallR X (.builtin "sorted") (rSortK X.K) := by
  intro pins s σ H vs us Q I r h
  obtain ⟨R, a, xs, L, d, rfl, hs, hR, hp, hd, hl, q⟩ := h
  obtain ⟨its, rv, pl, hz⟩ := I.list hs
  rw [Vals.ref1 r]
  have zi : its.length ≤ sizeLine := by rw [← rv.length]; exact hz
  -- the items' ints
  have key : ∀ {xs : List V} {its : List Value} {L : List (List Int)}, Vals xs its → Paired R xs L →
      its.map (TS.intsOf s.heap) = L ∧ ∀ u ∈ its, ∃ t, u = Value.ref t ∧ R (.ref t) (TS.intsOf s.heap u) ∧ TS.TupInts s.heap u (TS.intsOf s.heap u) := by
    intro xs its L rv
    induction rv generalizing L with
    | nil =>
      intro hp
      cases hp
      exact ⟨rfl, fun u hu => by cases hu⟩
    | cons h t ih =>
      intro hp
      cases hp with
      | cons h2 t2 =>
        obtain ⟨t0, rfl, hq⟩ := hR _ _ h2
        cases h
        obtain ⟨e1, e2⟩ := ih t2
        obtain ⟨tis, tr, tp, _⟩ := I.tuple hq
        have ti : TS.TupInts s.heap (.ref t0) _ := ⟨t0, _, rfl, tp, by simpa using tr.ints⟩
        have ei := ti.ints
        refine ⟨by rw [List.map_cons, ei, e1], fun u hu => ?_⟩
        rcases List.mem_cons.mp hu with z | z
        · subst z
          rw [ei]
          exact ⟨t0, rfl, h2, ti⟩
        · exact e2 u z
  obtain ⟨e1, e2⟩ := key rv hp
  have tk : TupsK s.heap d (TS.intsOf s.heap) its := fun u hu => by
    obtain ⟨t, rfl, _, h3⟩ := e2 u hu
    exact ⟨h3, hl _ (by rw [← e1]; exact List.mem_map.mpr ⟨_, hu, rfl⟩)⟩
  refine SrtO.sorted_ord (NtL.swo_lexL fun u => TS.intsOf s.heap u) pl.isList zi (fun h2 h₁ b hb kk => ?_) fun out h1 h2 => ?_
  · refine tupsK_sortable (s := { s with heap := h₁ }) hd (by omega) (fun u hu => ⟨(tk u hu).1.keeps fun c o z _ => (kk c o z).2, (tk u hu).2⟩) fun o e => ?_
    have e' : some o = some (seqObj "list" its.toArray 0) := e.symm.trans hb
    cases e'
    intro c
    exact absurd (Value.type.inj c) (by decide)
  · obtain ⟨ep, he'⟩ := PyProof.Rows.sortedAll_at s.heap its out.toArray
    have ho : ∀ u ∈ out, ∃ t, u = Value.ref t ∧ R (.ref t) (TS.intsOf s.heap u) := fun u hu => by
      obtain ⟨t, h3, h4, _⟩ := e2 u (h2.perm.mem_iff.mp hu)
      exact ⟨t, h3, h4⟩
    have rvo : Vals (out.map backV) out := vals_back fun u hu => by
      obtain ⟨t, h3, _⟩ := ho u hu
      exact ⟨t, h3⟩
    have po : Paired R (out.map backV) (out.map (TS.intsOf s.heap)) := by
      clear h1 h2 he' rvo
      induction out with
      | nil => exact .nil
      | cons u out ih =>
        obtain ⟨t, rfl, h4⟩ := ho u List.mem_cons_self
        exact .cons h4 (ih fun v hv => ho v (List.mem_cons_of_mem _ hv))
    have pm : (out.map (TS.intsOf s.heap)).Perm L := by
      rw [← e1]
      exact h2.perm.map _
    have zo : (out.map backV).length ≤ sizeLine := by
      rw [List.length_map, h2.perm.length_eq]
      exact zi
    exact ⟨.ref _, upd H (s.heap.objs.size + 1) (.lst (out.map backV)), I.laid (t' := s.toks) (fun _ _ => PyProof.Rows.sortedAll_old) (Nat.le_succ _) ⟨zo, out, ep, rvo, he'⟩, rfl, q _ _ _ po pm (List.pairwise_map.mpr h1) (I.hok.fresh (Nat.le_succ _))⟩

/-! ### as data -/
@[simp] def tupsI : List D → Option (List (List Int))
  | [] => some []
  | .tup ds :: r => match intsD ds, tupsI r with
    | some ns, some L => some (ns :: L)
    | _, _ => none
  | _ :: _ => none
def tupD (ns : List Int) : D := .tup (ns.map .int)
theorem tupsI_rp {K : PySem.W.Frag} {F : Hp} : ∀ {vs : List V} {ds : List D} {L : List (List Int)}, RpL K F vs ds → tupsI ds = some L → Paired (fun x ns => ∃ t, x = V.ref t ∧ SqT K F t (ns.map V.int)) vs L
  | _, [], _, .nil, e => by cases e; exact .nil
  | _, .tup ds :: r, L, .cons h t, e => by
    simp only [tupsI] at e
    cases e1 : intsD ds with
    | none => rw [e1] at e; cases e
    | some ns =>
      cases e2 : tupsI r with
      | none => rw [e1, e2] at e; cases e
      | some L2 =>
        rw [e1, e2] at e
        cases e
        cases h with
        | tup h2 r2 =>
          rw [rpl_ints r2 e1] at h2
          exact .cons ⟨_, rfl, h2⟩ (tupsI_rp t e2)
  | _, .non :: r, k, .cons h t, e => by cases e
  | _, .bl b :: r, k, .cons h t, e => by cases e
  | _, .int b :: r, k, .cons h t, e => by cases e
  | _, .str b :: r, k, .cons h t, e => by cases e
  | _, .lst b :: r, k, .cons h t, e => by cases e
  | _, .frl b :: r, k, .cons h t, e => by cases e
  | _, .obj _ _ _ :: r, k, .cons h t, e => by cases e
  | _, .dct _ _ :: r, k, .cons h t, e => by cases e
theorem rp_tupD {K : PySem.W.Frag} {F : Hp} : ∀ {vs : List V} {L : List (List Int)}, Paired (fun x ns => ∃ t, x = V.ref t ∧ SqT K F t (ns.map V.int)) vs L → RpL K F vs (L.map tupD)
  | _, _, .nil => .nil
  | _, _, .cons h t => by
    obtain ⟨t0, rfl, h2⟩ := h
    exact .cons (.tup h2 (RpL.ints _)) (rp_tupD t)
/-- a list put in order -/
def insT (x : List Int) : List (List Int) → List (List Int)
  | [] => [x]
  | y :: r => if HT.lexLt y x = true then y :: insT x r else x :: y :: r
def sortT (L : List (List Int)) : List (List Int) := L.foldr insT []
theorem lex_total : ∀ {x y : List Int}, x.length = y.length → HT.lexLt x y = false → HT.lexLt y x = false → x = y
  | [], [], _, _, _ => rfl
  | a :: x, b :: y, l, h1, h2 => by
    rw [HT.lexLt_cons] at h1 h2
    by_cases e : a = b
    · rw [if_pos e] at h1
      rw [if_pos e.symm] at h2
      rw [e, lex_total (Nat.succ.inj l) h1 h2]
    · rw [if_neg e] at h1
      rw [if_neg (Ne.symm e)] at h2
      have a1 := of_decide_eq_false h1
      have a2 := of_decide_eq_false h2
      omega
theorem insT_perm (x : List Int) : ∀ L, (insT x L).Perm (x :: L)
  | [] => .refl _
  | y :: r => by
    unfold insT
    by_cases h : HT.lexLt y x = true
    · rw [if_pos h]
      exact ((insT_perm x r).cons y).trans (.swap x y r)
    · rw [if_neg h]
theorem insT_sorted (x : List Int) : ∀ {L : List (List Int)}, L.Pairwise (fun x y => HT.lexLt y x = false) → (insT x L).Pairwise (fun x y => HT.lexLt y x = false)
  | [], _ => List.pairwise_singleton _ _
  | y :: r, h => by
    have O := NtL.swo_lexL (α := List Int) id
    obtain ⟨h1, h2⟩ := List.pairwise_cons.mp h
    unfold insT
    by_cases c : HT.lexLt y x = true
    · rw [if_pos c]
      refine List.pairwise_cons.mpr ⟨fun z hz => ?_, insT_sorted x h2⟩
      rcases List.mem_cons.mp ((insT_perm x r).mem_iff.mp hz) with e | e
      · subst e; exact O.asym _ _ c
      · exact h1 z e
    · rw [if_neg c]
      have c' : HT.lexLt y x = false := by
        cases e : HT.lexLt y x with
        | true => exact absurd e c
        | false => rfl
      refine List.pairwise_cons.mpr ⟨fun z hz => ?_, h⟩
      rcases List.mem_cons.mp hz with e | e
      · subst e; exact c'
      · exact O.tr x y z c' (h1 z e)
theorem sortT_perm : ∀ L, (sortT L).Perm L
  | [] => .refl _
  | x :: r => (insT_perm x (sortT r)).trans ((sortT_perm r).cons x)
theorem sortT_sorted : ∀ L, (sortT L).Pairwise (fun x y => HT.lexLt y x = false)
  | [] => .nil
  | x :: r => insT_sorted x (sortT_sorted r)
theorem sorted_one {d : Nat} : ∀ {L M : List (List Int)}, L.Perm M → (∀ x ∈ L, x.length = d) → L.Pairwise (fun x y => HT.lexLt y x = false) → M.Pairwise (fun x y => HT.lexLt y x = false) → L = M
  | [], M, p, _, _, _ => (List.Perm.eq_nil p.symm).symm
  | x :: l, [], p, _, _, _ => absurd p.length_eq (by simp)
  | x :: l, y :: m, p, hd, hl, hm => by
    obtain ⟨l1, l2⟩ := List.pairwise_cons.mp hl
    obtain ⟨m1, m2⟩ := List.pairwise_cons.mp hm
    have O := NtL.swo_lexL (α := List Int) id
    have a1 : HT.lexLt x y = false := by
      rcases List.mem_cons.mp (p.mem_iff.mp (List.mem_cons_self (a := x) (l := l))) with e | e
      · subst e; exact O.refl _
      · exact m1 x e
    have my : y ∈ x :: l := p.mem_iff.mpr List.mem_cons_self
    have a2 : HT.lexLt y x = false := by
      rcases List.mem_cons.mp my with e | e
      · subst e; exact O.refl _
      · exact l1 y e
    have e : x = y := lex_total (by rw [hd x List.mem_cons_self, hd y my]) a1 a2
    subst e
    rw [sorted_one p.cons_inv (fun z hz => hd z (List.mem_cons_of_mem _ hz)) l2 m2]
@[simp] def fSortT (d : Nat) : List D → (Res → Prop) → Prop := fun ds Q => match ds with
  | [.lst xs] => match tupsI xs with
    | some L => 1 ≤ d ∧ (∀ ns ∈ L, ns.length = d) ∧ Q (.own ((sortT L).map tupD))
    | none => False
  | _ => False
theorem se_sortedT {X : Cx} {W : WX} {e : Expr} {p : PAx} {pos xp : Pos} (d : Nat) (hm : X.mg "sorted" = none) (ha : SA X W [e] p) (hg : Gl X "sorted" := by rfl) (he : starEach (e :: []) X.env = (false, eval e X.env) :: starEach [] X.env := by rfl) : SE X W (.Call (.Name "sorted" xp) [e] [] pos) (pCB (fSortT d) p) :=
  se_cb cr_sortK (fun g F sl S σ H vs ds Q Qr rel rl h post => by
    unfold fSortT at h
    split at h
    · split at h
      · rename_i L e2
        obtain ⟨hd, hl, h⟩ := h
        cases rl with
        | cons r1 r2 =>
          cases r2
          cases r1 with
          | lst h1 q1 =>
            have pr := tupsI_rp q1 e2
            refine ⟨fun x ns => ∃ t, x = V.ref t ∧ SqT X.K F t (ns.map V.int), _, _, L, d, rfl, SqL.of (rel.cor.fh _ _ h1), fun x ns ⟨t, e, h0⟩ => ⟨t, e, sqT_same rel.cor.fh h0⟩, pr, hd, hl, fun ys L' p py pm so hp => ?_⟩
            have eL : L' = sortT L := sorted_one (d := d) (pm.trans (sortT_perm L).symm) (fun x hx => hl x (pm.mem_iff.mp hx)) so (sortT_sorted L)
            subst eL
            exact post (.own _) _ _ F (Stp.alloc hp) (rel.alloc hp) ⟨p, _, rfl, upd_same, rel.cor.free hp, rel.cor.new hp, rp_tupD py⟩ (nw_new hp) h
      · exact h.elim
    · exact h.elim) hm (by decide +kernel) ha hg (he := he)
end Py
end
section
set_option Elab.async false
set_option linter.all false
set_option maxRecDepth 100000
set_option maxHeartbeats 4000000
/-! in, index, count, remove by ==; comb, factorial; sorted of one. -/
namespace Py
open PySem L2 PySem.Spec PyProof.Rows

theorem SV.dp {K : PySem.W.Frag} {g : G} {F H : Hp} {sl : List Slot} {S : List Int} {σ : L2.St} {v : V} {ds : List D} (sv : SV K F sl σ v true ds) (rel : Rel K g F sl S σ H) (f : D.flats ds = true) : Dp K H v (.list (D.pys ds)) := by
  obtain ⟨a, vs, rfl, hs, rl⟩ := sv.use rel
  have hs : SqL K H a vs := hs
  rcases sv with ⟨a', vs', e, h, r⟩ | ⟨i, a', _, e, h, h2⟩
  · cases e
    exact .lst (sqL_same rel.cor.fh h) (dps_mono rel.cor.fh (r.dp f))
  · cases e
    obtain ⟨p, ws, e1, h1, _, _, r⟩ := rel.own h
    rw [h2] at e1
    cases e1
    exact .lst (SqL.of h1) (dps_mono rel.cor.fh (r.dp f))
def shpL (ds : List D) : Prop := D.flats ds = true ∧ SeqAt.shaped (.list (D.pys ds)) = true
/-- x in a list -/
@[simp] def pInL (neg : Bool) (p : PEx) (q : PQx) : PEx := fun sl S Q E => dat p sl S (fun d S1 => q sl S1 (fun k ds S2 => k = true ∧ shp d ∧ shpL ds ∧ Q (.dat (.bl (if neg then !((D.pys ds).any fun z => PyData.eqv z d.py) else (D.pys ds).any fun z => PyData.eqv z d.py))) S2) E) E
section
variable {X : Cx} {W : WX} {a b : Expr} {p : PEx} {q : PQx} {pos : Pos}
theorem rd_inL {K : PySem.W.Frag} {W : WX} {r : R2} {neg : Bool} {p : PEx} {q : PQx} (hr : ∀ x y H Q, (∃ d ds, Dp K H x d ∧ Dp K H y (.list ds) ∧ SeqAt.shaped d = true ∧ SeqAt.shaped (.list ds) = true ∧ Q (.bl (if neg then !(ds.any fun z => PyData.eqv z d) else ds.any fun z => PyData.eqv z d)) H) → r x y H Q)
    (σ : L2.St) (H : Hp) (Q : VK) (h : rdE K W (pInL neg p q) σ H Q) : tOp r (rdE K W p) (rdQ K W q) σ H Q := by
  obtain ⟨g, F, sl, S, Q', E', rel, hp, post, exc⟩ := h
  refine rdE_dat rel hp exc fun d S1 v H1 F1 s1 rel1 r1 h1 => ?_
  refine ⟨g, F1, sl, S1, _, E', rel1, h1, fun k ds S2 w H2 F2 s2 rel2 sv ⟨hk, hd, hds, h2⟩ => ?_, exc.mono s1.f⟩
  subst hk
  exact hr _ _ _ _ ⟨d.py, D.pys ds, dp_mono rel2.cor.fh ((r1.mono s2.f).dp hd.1), sv.dp rel2 hds.1, hd.2, hds.2, post (.dat (.bl _)) S2 _ H2 F2 (s1.trans s2) rel2 (.bl _) trivial h2⟩
theorem se_inL (hu : X.A.units + 65 < cLine) (ha : SE X W a p) (hb : SQ X W b q) (hm : behindInMarks .In b = false := by rfl) : SE X W (.Compare a [.In] [b] pos) (pInL false p q) := ⟨PE.imp (pe_cmpR (op_inD hu) ha.pe hb.pe hm) (rd_inL fun x y H Q h => h)⟩
theorem se_notinL (hu : X.A.units + 65 < cLine) (ha : SE X W a p) (hb : SQ X W b q) (hm : behindInMarks .NotIn b = false := by rfl) : SE X W (.Compare a [.NotIn] [b] pos) (pInL true p q) := ⟨PE.imp (pe_cmpR (op_notInD hu) ha.pe hb.pe hm) (rd_inL fun x y H Q h => h)⟩
theorem st_inL (hu : X.A.units + 65 < cLine) (ha : SE X W a p) (hb : SQ X W b q) (hm : behindInMarks .In b = false := by rfl) : ST X W (.Compare a [.In] [b] pos) (pTst (pInL false p q)) :=
  ⟨PT.imp (pt_cmpR (op_inD hu) ha.pe hb.pe hm) fun σ H Q h => rd_inL (neg := false) (fun x y H Q h => h) _ _ _ (rd_tst (p := pInL false p q) σ H Q h)⟩
theorem st_notinL (hu : X.A.units + 65 < cLine) (ha : SE X W a p) (hb : SQ X W b q) (hm : behindInMarks .NotIn b = false := by rfl) : ST X W (.Compare a [.NotIn] [b] pos) (pTst (pInL true p q)) :=
  ⟨PT.imp (pt_cmpR (op_notInD hu) ha.pe hb.pe hm) fun σ H Q h => rd_inL (neg := true) (fun x y H Q h => h) _ _ _ (rd_tst (p := pInL true p q) σ H Q h)⟩
end

/-! ### index, count -/
@[simp] def pIdx (q : PQx) (p : PEx) : PEx := fun sl S Q E => q sl S (fun k ds S1 => k = true ∧ dat p sl S1 (fun d S2 => shp d ∧ shpL ds ∧ match SeqAt.dataPlace (D.pys ds) d.py with
  | some j => Q (.dat (.int (j : Nat))) S2
  | none => False) E) E
@[simp] def pCnt (q : PQx) (p : PEx) : PEx := fun sl S Q E => q sl S (fun k ds S1 => k = true ∧ dat p sl S1 (fun d S2 => match intsD ds, d with
  | some ns, .int i => Q (.dat (.int (ns.count i : Nat))) S2
  | _, _ => False) E) E
theorem place_at {xs : List PyData} {d : PyData} {j : Nat} (h : SeqAt.dataPlace xs d = some j) : ∃ z, xs[j]? = some z ∧ PyData.eqv z d = true ∧ ∀ (m : Nat) (z' : PyData), m < j → xs[m]? = some z' → PyData.eqv z' d = false := by
  unfold SeqAt.dataPlace at h
  obtain ⟨h1, h2, h3⟩ := List.findIdx?_eq_some_iff_getElem.mp h
  refine ⟨xs[j], List.getElem?_eq_getElem h1, h2, fun m z' hm hz => ?_⟩
  have hl : m < xs.length := by omega
  rw [List.getElem?_eq_getElem hl] at hz
  cases hz
  have := h3 m hm
  simpa using this
section
variable {X : Cx} {W : WX} {o e : Expr} {p : PEx} {q : PQx} {cpos apos : Pos}
theorem se_index (hu : X.A.units + 65 < cLine) (ho : SQ X W o q) (he : SE X W e p)
    (hbase : attributeBase o "index" X.env (eval o X.env) = eval o X.env := by rfl)
    (hfew : ((backTo cpos (starEach (e :: []) X.env)).all (fun x => !x.1) && (backToKw cpos (keywordEach [] X.env)).all (fun x => x.1.isSome)
      && decide ((e :: []).length + ([] : List Keyword).length + (if ([] : List Keyword).isEmpty then 0 else 1) < 30)) = true := by rfl)
    (hline : (apos.endLine == cpos.line) = true := by rfl) (hs : starEach (e :: []) X.env = (false, eval e X.env) :: starEach [] X.env := by rfl) (hplain : (backTo cpos (starEach [] X.env)).any (·.1) = false := by rfl) :
    SE X W (.Call (.Attribute o "index" apos) [e] [] cpos) (pIdx q p) :=
  ⟨PE.imp (pe_bm PySem.F.plainAttrs_list PySem.F.slot_list_index PySem.F.type_list_index (mt_indexD hu) ho.pe (pa_cons he.pe pa_nil hs) hbase hfew hline hs hplain) fun σ H Q h => by
    obtain ⟨g, F, sl, S, Q', E', rel, hp, post, exc⟩ := h
    refine ⟨g, F, sl, S, _, E', rel, hp, fun k ds S1 v H1 F1 s1 rel1 sv ⟨hk, h1⟩ => ?_, exc⟩
    subst hk
    obtain ⟨a, vs, rfl, hs, rl⟩ := sv.use rel1
    refine ⟨.inl ⟨rfl, _, hs⟩, ?_⟩
    refine rdE_dat rel1 h1 (exc.mono s1.f) fun d S2 w H2 F2 s2 rel2 r2 ⟨hd, hds, h2⟩ => ?_
    cases e2 : SeqAt.dataPlace (D.pys ds) d.py with
    | none => rw [e2] at h2; exact h2.elim
    | some j =>
      rw [e2] at h2
      obtain ⟨z, z1, z2, z3⟩ := place_at e2
      exact ⟨a, w, d.py, D.pys ds, j, z, rfl, rfl, (sv.mono s2.f).dp rel2 hds.1, dp_mono rel2.cor.fh (r2.dp hd.1), hds.2, hd.2, z1, z2, z3, post (.dat (.int _)) S2 _ H2 F2 (s1.trans s2) rel2 (.int _) trivial h2⟩⟩
theorem se_count (ho : SQ X W o q) (he : SE X W e p)
    (hbase : attributeBase o "count" X.env (eval o X.env) = eval o X.env := by rfl)
    (hfew : ((backTo cpos (starEach (e :: []) X.env)).all (fun x => !x.1) && (backToKw cpos (keywordEach [] X.env)).all (fun x => x.1.isSome)
      && decide ((e :: []).length + ([] : List Keyword).length + (if ([] : List Keyword).isEmpty then 0 else 1) < 30)) = true := by rfl)
    (hline : (apos.endLine == cpos.line) = true := by rfl) (hs : starEach (e :: []) X.env = (false, eval e X.env) :: starEach [] X.env := by rfl) (hplain : (backTo cpos (starEach [] X.env)).any (·.1) = false := by rfl) :
    SE X W (.Call (.Attribute o "count" apos) [e] [] cpos) (pCnt q p) :=
  ⟨PE.imp (pe_bm PySem.F.plainAttrs_list PySem.F.slot_list_count PySem.F.type_list_count mt_lcount ho.pe (pa_cons he.pe pa_nil hs) hbase hfew hline hs hplain) fun σ H Q h => by
    obtain ⟨g, F, sl, S, Q', E', rel, hp, post, exc⟩ := h
    refine ⟨g, F, sl, S, _, E', rel, hp, fun k ds S1 v H1 F1 s1 rel1 sv ⟨hk, h1⟩ => ?_, exc⟩
    subst hk
    obtain ⟨a, vs, rfl, hs, rl⟩ := sv.use rel1
    refine ⟨.inl ⟨rfl, _, hs⟩, ?_⟩
    refine rdE_dat rel1 h1 (exc.mono s1.f) fun d S2 w H2 F2 s2 rel2 r2 h2 => ?_
    cases e2 : intsD ds with
    | none => rw [e2] at h2; exact h2.elim
    | some ns =>
      cases r2 with
      | int i =>
        rw [e2] at h2
        obtain ⟨a', vs', e', hs', rl'⟩ := (sv.mono s2.f).use rel2
        cases e'
        have hs' : SqL X.K H2 a vs' := hs'
        rw [rpl_ints rl' e2] at hs'
        exact ⟨a, ns, i, rfl, rfl, hs', post (.dat (.int _)) S2 _ H2 F2 (s1.trans s2) rel2 (.int _) trivial h2⟩
      | _ => rw [e2] at h2; exact h2.elim⟩
end

/-! ### remove -/
def rRemD (K : PySem.W.Frag) : V → List V → Hp → VK → Prop := fun x xs H Q => ∃ (a : Addr) (y : V) (vs : List V) (d : PyData) (ds : List PyData) (j : Nat), x = V.ref a ∧ xs = [y] ∧ H a = some (.lst vs) ∧ DpAll K H vs ds ∧ Dp K H y d ∧
  SeqAt.shaped (.list ds) = true ∧ SeqAt.shaped d = true ∧ SeqAt.dataPlace ds d = some j ∧ Q .non (upd H a (.lst (vs.eraseIdx j)))
theorem mt_remD {X : Cx} (hu : X.A.units + 65 < cLine) : MtR X "list.remove" (rRemD X.K) := by
  intro pins s σ H x xs v us Q I rx rxs h
  obtain ⟨a, y, vs, d, ds, j, rfl, rfl, ha, hl, hy, shl, shd, pl, q⟩ := h
  cases rx
  cases rxs with
  | cons ry rt =>
    rename_i uy ut
    cases rt
    obtain ⟨bs, r1⟩ := Dp.reads I d y uy hy ry
    have lay : PyData.canLayAll0 ds = true := SeqAt.canLay_of_shaped shl
    have room : X.A.units + 1 + min (PyData.depthAll ds) d.depth < cLine := room_in_shaped shd hu
    obtain ⟨z, its, n, rv, lz, e0⟩ := I.lstM ha
    obtain ⟨as, h4⟩ := Dp.readsAll I ds _ its hl rv
    have hn : its.length = ds.length := SeqAt.ReadsAll.length ds its as h4
    have hmap : its.map (SeqAt.readOf s.heap) = ds := SeqAt.readsAll_map ds its as lay h4
    obtain ⟨z1, k1, k2, k3⟩ := place_at pl
    have hjl : j < its.length := by
      obtain ⟨h1, _⟩ := List.getElem?_eq_some_iff.mp k1
      omega
    have hj : j < its.toArray.size := by simpa using hjl
    have at2 : ∀ (m : Nat) (hm : m < its.toArray.size) (z' : PyData), ds[m]? = some z' → SeqAt.readOf s.heap its.toArray[m] = z' := fun m hm z' hz => by
      have hml : m < its.length := by simpa using hm
      rw [← hmap, List.getElem?_map, List.getElem?_eq_getElem hml] at hz
      simpa using hz
    refine call_meets PySem.F.slot_list_remove ⟨_, e0, rfl⟩ PySem.F.entry_list_remove (PySem.F.args_list_remove_2 _ _)
      (SeqAt.list_removeAt a its.toArray n none #[] uy (fun u => PyData.eqv (SeqAt.readOf s.heap u) d) j hj ?_ ?_ ?_) ⟨e0, SeqAt.items_eqAt (vs := its.toArray) (show ReadsAll s.heap its.toArray.toList ds as from h4) r1 lay (SeqAt.canLay_of_shaped shd) room, ?_⟩
    · show PyData.eqv (SeqAt.readOf s.heap its.toArray[j]) d = true
      rw [at2 j hj z1 k1]
      exact k2
    · intro m hm hmj
      have hmd : m < ds.length := by omega
      have hz : ds[m]? = some ds[m] := List.getElem?_eq_getElem hmd
      show PyData.eqv (SeqAt.readOf s.heap its.toArray[m]) d = false
      rw [at2 m hm _ hz]
      exact k3 m _ hmj hz
    · rw [List.size_toArray, ← lz]
      exact z
    · refine ⟨.non, _, I.lset (its' := its.eraseIdx j) (t' := s.toks) ha e0 ?_ (rv.eraseIdx j) ?_, rfl, q⟩
      · show its.toArray.eraseIdxIfInBounds j = (its.eraseIdx j).toArray
        rw [List.eraseIdxIfInBounds_toArray]
      · have := List.length_eraseIdx_le vs j
        omega
@[simp] def pRem (i : Nat) (p : PEx) : PSm := fun P sl S => match sl[i]? with
  | some (.own ds) => dat p sl S (fun d S1 => shp d ∧ shpL ds ∧ match SeqAt.dataPlace (D.pys ds) d.py with
    | some j => P.nx (sl.set i (.own (ds.eraseIdx j))) S1
    | none => False) (fun x S1 => P.ex x sl S1)
  | _ => False
theorem RpL.eraseIdx {K : PySem.W.Frag} {F : Hp} : ∀ {vs : List V} {ds : List D} (j : Nat), RpL K F vs ds → RpL K F (vs.eraseIdx j) (ds.eraseIdx j)
  | _, _, _, .nil => .nil
  | _, _, 0, .cons _ r => r
  | _, _, j + 1, .cons h r => .cons h (RpL.eraseIdx j r)
section
variable {X : Cx} {W : WX} {e : Expr} {p : PEx} {pos cpos apos : Pos} {x : Str} {px : Pos}
theorem ss_remove (i : Nat) (hu : X.A.units + 65 < cLine) (he : SE X W e p) (hN : X.N[i]? = some x := by rfl) (hv : Vis X.env.scope x := by first | exact Or.inl rfl | exact Or.inr (Or.inl rfl) | exact Or.inr (Or.inr rfl)) (hd : (x == ("__debug__" : Str)) = false := by decide)
    (hcd : (x == ("__classdict__" : Str)) = false := by decide)
    (hbase : attributeBase (.Name x px) "remove" X.env (eval (.Name x px) X.env) = eval (.Name x px) X.env := by rfl)
    (hfew : ((backTo cpos (starEach (e :: []) X.env)).all (fun x => !x.1) && (backToKw cpos (keywordEach [] X.env)).all (fun x => x.1.isSome)
      && decide ((e :: []).length + ([] : List Keyword).length + (if ([] : List Keyword).isEmpty then 0 else 1) < 30)) = true := by rfl)
    (hline : (apos.endLine == cpos.line) = true := by rfl) (hs : starEach (e :: []) X.env = (false, eval e X.env) :: starEach [] X.env := by rfl) (hplain : (backTo cpos (starEach [] X.env)).any (·.1) = false := by rfl)
    (hsw : swapsWith (.Call (.Attribute (.Name x px) "remove" apos) [e] [] cpos) none pos.line X.env = pure false := by rfl) :
    SS X W (.Expr (.Call (.Attribute (.Name x px) "remove" apos) [e] [] cpos) pos) (pRem i p) :=
  ⟨PS.imp (ps_expr (pe_bm PySem.F.plainAttrs_list PySem.F.slot_list_remove PySem.F.type_list_remove (mt_remD hu) (pe_var hN hv hd hcd) (pa_cons he.pe pa_nil hs) hbase hfew hline hs hplain) hsw) fun En σ H h => by
    obtain ⟨g, F, sl, S, P, rel, hp, lk⟩ := h
    unfold pRem at hp
    split at hp
    · rename_i ds e2
      obtain ⟨a, vs, h1, h2, h3, h4, rl⟩ := rel.own e2
      refine ⟨_, h1, .inl ⟨rfl, _, SqL.of h2⟩, ?_⟩
      refine rdE_dat rel hp (lk.exc sl σ) fun d S1 v H1 F1 s1 rel1 r1 ⟨hd, hds, hk⟩ => ?_
      obtain ⟨a', vs', h1', h2', _, _, rl'⟩ := rel1.own e2
      rw [h1] at h1'
      cases h1'
      cases e3 : SeqAt.dataPlace (D.pys ds) d.py with
      | none => rw [e3] at hk; exact hk.elim
      | some j =>
        rw [e3] at hk
        refine ⟨a, v, vs', d.py, D.pys ds, j, rfl, rfl, h2', dps_mono rel1.cor.fh (rl'.dp hds.1), dp_mono rel1.cor.fh (r1.dp hd.1), hds.2, hd.2, e3, ?_⟩
        exact lk.nx _ S1 σ _ F1 s1.f (rel1.write e2 h1 (rl'.eraseIdx j)) hk
    · exact hp.elim⟩
end

/-! ### comb, factorial -/
def CCmb (i j : Int) : Prop := 0 ≤ i ∧ 0 ≤ j ∧ i < 2 ^ 64 ∧ (j ≤ 9000 ∨ i ≤ 18000)
@[simp] def fCmb : List D → (Res → Prop) → Prop := f2I CCmb fun i j => .int (PySem.W.mcComb i j)
theorem cr_cmb {X : Cx} : CallR X (.builtin "math.comb") (fun vs H Q => ∃ i j : Int, vs = [.int i, .int j] ∧ CCmb i j ∧ Q (.int (PySem.W.mcComb i j)) H) := by
  intro pins s σ H vs us Q I r h
  obtain ⟨a, b, rfl, ⟨h1, h2, h3, h4⟩, q⟩ := h
  obtain ⟨t, u, rfl⟩ := Vals.int2 r
  exact PySem.W.mc_comb h1 h2 h3 h4 fun _ => ⟨.int _, H, I.tok _, ⟨_, rfl⟩, q⟩
def CFac (i : Int) : Prop := 0 ≤ i ∧ i ≤ 20000
@[simp] def fFac : List D → (Res → Prop) → Prop := fun ds Q => match ds with
  | [.int i] => CFac i ∧ Q (.dat (.int (Builtin.Math.factorialNat i.toNat : Nat)))
  | _ => False
theorem cr_fac {X : Cx} : CallR X (.builtin "math.factorial") (fun vs H Q => ∃ i : Int, vs = [.int i] ∧ CFac i ∧ Q (.int (Builtin.Math.factorialNat i.toNat : Nat)) H) := by
  intro pins s σ H vs us Q I r h
  obtain ⟨a, rfl, ⟨h1, h2⟩, q⟩ := h
  obtain ⟨u, rfl, ru⟩ := vals1 r
  obtain ⟨t, rfl⟩ := ru
  exact PySem.W.mc_factorial h1 h2 fun _ => ⟨.int _, H, I.tok _, ⟨_, rfl⟩, q⟩
section
variable {X : Cx} {W : WX} {e : Expr} {p : PAx} {pos xp : Pos}
theorem se_comb (hm : X.mg "comb" = some (.builtin "math.comb")) {e2 : Expr} (ha : SA X W [e, e2] p) (hg : Gl X "comb" := by rfl) (he : starEach (e :: [e2]) X.env = (false, eval e X.env) :: starEach [e2] X.env := by rfl) (hpl : (backTo pos (starEach [e2] X.env)).any (·.1) = false := by rfl) : SE X W (.Call (.Name "comb" xp) [e, e2] [] pos) (pCB fCmb p) :=
  se_cbf cr_cmb (fun g F sl S σ H vs ds Q Qr rel rl h post => by
    obtain ⟨i, j, rfl, hc, h⟩ := f2_inv rl h
    exact ⟨i, j, rfl, hc, post (.dat (.int _)) _ H F Stp.refl rel (.int _) trivial h⟩) hm ha hg (he := he) (hpl := hpl)
theorem se_factorial (hm : X.mg "factorial" = some (.builtin "math.factorial")) (ha : SA X W [e] p) (hg : Gl X "factorial" := by rfl) (he : starEach (e :: []) X.env = (false, eval e X.env) :: starEach [] X.env := by rfl) : SE X W (.Call (.Name "factorial" xp) [e] [] pos) (pCB fFac p) :=
  se_cbf cr_fac (fun g F sl S σ H vs ds Q Qr rel rl h post => by
    unfold fFac at h
    split at h
    · cases rl with
      | cons r1 r2 =>
        cases r1
        cases r2
        exact ⟨_, rfl, h.1, post (.dat (.int _)) _ H F Stp.refl rel (.int _) trivial h.2⟩
    · exact h.elim) hm ha hg (he := he)
end

/-! ### sorted of at most one -/
theorem perm_le1 {α : Type} {l m : List α} (p : l.Perm m) (h : m.length ≤ 1) : l = m := by
  cases m with
  | nil => exact List.Perm.eq_nil p
  | cons a r =>
    cases r with
    | nil => exact List.perm_singleton.mp p
    | cons b r => simp at h
def rSort1 (K : PySem.W.Frag) : List V → Hp → VK → Prop := fun vs H Q => ∃ (a : Addr) (xs : List V), vs = [V.ref a] ∧ SqL K H a xs ∧ xs.length ≤ 1 ∧ ∀ p, H p = none → Q (.ref p) (upd H p (.lst xs))
theorem cr_sort1 {X : Cx} : CallR X (.builtin "sorted") (rSort1 X.K) := by
  intro pins s σ H vs us Q I r h
  obtain ⟨a, xs, rfl, hs, hl, q⟩ := h
  obtain ⟨its, rv, pl, hz⟩ := I.list hs
  rw [Vals.ref1 r]
  have le : its.length = xs.length := rv.length.symm
  refine SrtO.sorted_ord (ltv := fun _ _ => false) ⟨fun _ _ h => (by cases h), fun _ _ _ h _ => h⟩ pl.isList (by omega) (fun h2 => by omega) fun out h1 h2 => ?_
  obtain ⟨ep, he'⟩ := PyProof.Rows.sortedAll_at s.heap its out.toArray
  have eo : out = its := perm_le1 h2.perm (by omega)
  subst eo
  exact ⟨.ref _, upd H (s.heap.objs.size + 1) (.lst xs), I.laid (t' := s.toks) (fun _ _ => PyProof.Rows.sortedAll_old) (Nat.le_succ _) ⟨hz, out, ep, rv, he'⟩, rfl, q _ (I.hok.fresh (Nat.le_succ _))⟩
@[simp] def fSort1 : List D → (Res → Prop) → Prop := fun ds Q => match ds with
  | [.lst xs] => xs.length ≤ 1 ∧ Q (.own xs)
  | _ => False
theorem se_sorted1 {X : Cx} {W : WX} {e : Expr} {p : PAx} {pos xp : Pos} (hm : X.mg "sorted" = none) (ha : SA X W [e] p) (hg : Gl X "sorted" := by rfl) (he : starEach (e :: []) X.env = (false, eval e X.env) :: starEach [] X.env := by rfl) : SE X W (.Call (.Name "sorted" xp) [e] [] pos) (pCB fSort1 p) :=
  se_cb cr_sort1 (fun g F sl S σ H vs ds Q Qr rel rl h post => by
    unfold fSort1 at h
    split at h
    · obtain ⟨hl, h⟩ := h
      cases rl with
      | cons r1 r2 =>
        cases r2
        cases r1 with
        | lst h1 q1 =>
          refine ⟨_, _, rfl, SqL.of (rel.cor.fh _ _ h1), by rw [q1.length]; exact hl, fun p hp => ?_⟩
          exact post (.own _) _ _ F (Stp.alloc hp) (rel.alloc hp) ⟨p, _, rfl, upd_same, rel.cor.free hp, rel.cor.new hp, q1⟩ (nw_new hp) h
    · exact h.elim) hm (by decide +kernel) ha hg (he := he)
end Py
end
section
set_option Elab.async false
set_option linter.all false
set_option maxRecDepth 100000
set_option maxHeartbeats 4000000
/-! super().__init__(..) of an own base class. -/
namespace Py
open PySem PySem.W PySem.Calls PyProof.Rows PySem.Spec L2 ClX

/-- what the written part says of an __init__ at fI of the class at C that calls super().__init__, the base's at fD -/
structure OwnSup (prog : Program) (K : Frag) (C fI fD : Addr) (q : Str) (st : Stmt) (fd : FuncData) : Prop where
  fn : ∃ (oc ccl cl : Value) (od an cdd cld : Option Addr) (doc pm ct : Value) (osl ccs csl : Array (Option Value)) (cda cc : Addr) (vs : Array Value) (file : Str) (tf : Tok),
    fd = ksFn "__init__" q (L2.defArgs st) (L2.defBody st) (L2.defScope st) .none .none doc pm an (.ref cda) ct cc ∧ K.lookup fI = some ⟨oc, od, .func fd, osl⟩ ∧ codeIn K (.ref cda) q = true ∧
    K.lookup cda = some ⟨ccl, cdd, .fields vs, ccs⟩ ∧ vs[2]? = some (.str file tf) ∧ ((prog.main.file : Str) == file) = true ∧ K.lookup cc = some ⟨cl, cld, .cell (some (.ref C)), csl⟩
  cls : ∃ c d cd sl, K.lookup C = some ⟨c, d, .cls cd, sl⟩
  sup : ks_superIn K C C "__init__" = some (some (.ref fD))
  tD : typeIn K (.ref fD) = some (.type "function")
  fiD : fnIn K fD = true
  opq : nsIn K cStatics "thirdparty.any" = some none
  slf : mroIn K C (.ref C) = some true
  sn : nsIn K mainGlobals "super" = some none
  top : (prog.main.scope.names.lookup ("super" : Str)).isSome = false
/-- what rfl shows of its text -/
structure SupTxt (q : Str) (st : Stmt) (e : Expr) (es : List Expr) (p0 p1 p2 p4 p5 : Pos) : Prop where
  body : L2.defBody st = [.Expr (.Call (.Attribute (.Call (.Name "super" p0) [] [] p1) "__init__" p2) (e :: es) [] p4) p5]
  hk : (L2.defScope st).kind = .function
  hco : (L2.defScope st).isCoroutine = false
  hgen : (L2.defScope st).isGenerator = false
  hks : (L2.defScope st).names.lookup ("super" : Str) = some .globalImplicit
  hkc : (L2.defScope st).names.lookup ("__class__" : Str) = some .free
  hka : (L2.defScope st).names.lookup ("self" : Str) = some .local
  only : ∀ x, ((L2.defScope st).names.lookup x = some .cell ∨ (L2.defScope st).names.lookup x = some .free) → x = "__class__"
  hcell : ∀ x ∈ (L2.defScope st).names, x.2 ≠ .cell
  har : ∃ ar, ((L2.defArgs st).posonlyargs ++ (L2.defArgs st).args).head? = some ar ∧ ar.arg = "self"
  hint : ∀ L fI cda cc, interactive (ksEnv q (L2.defScope st) L fI (.ref cda) cc) = false
  hsw : ∀ L fI cda cc, swapsWith (.Call (.Attribute (.Call (.Name "super" p0) [] [] p1) "__init__" p2) (e :: es) [] p4) none p5.line (ksEnv q (L2.defScope st) L fI (.ref cda) cc) = pure false
  he : ∀ L fI cda cc, starEach (e :: es) (ksEnv q (L2.defScope st) L fI (.ref cda) cc) = (false, eval e (ksEnv q (L2.defScope st) L fI (.ref cda) cc)) :: starEach es (ksEnv q (L2.defScope st) L fI (.ref cda) cc)
  hpl : ∀ L fI cda cc, (backTo p4 (starEach es (ksEnv q (L2.defScope st) L fI (.ref cda) cc))).any (·.1) = false
  hev : ∀ L fI cda cc, eval (.Call (.Attribute (.Call (.Name "super" p0) [] [] p1) "__init__" p2) (e :: es) [] p4) (ksEnv q (L2.defScope st) L fI (.ref cda) cc) = (do
      let ov ← attributeBase (.Call (.Name "super" p0) [] [] p1) "__init__" (ksEnv q (L2.defScope st) L fI (.ref cda) cc) (eval (.Call (.Name "super" p0) [] [] p1) (ksEnv q (L2.defScope st) L fI (.ref cda) cc))
      standAt p2.atName
      let (f, first) ← holding [ov] (getMethod ov "__init__" (pure false))
      callWith p4 f first (backTo p4 (starEach (e :: es) (ksEnv q (L2.defScope st) L fI (.ref cda) cc))) [])
  bnd : ∀ (fd : FuncData) (u : Value), fd.params = L2.defArgs st → fd.defaults = .none → fd.kwdefaults = .none → fd.scope = L2.defScope st → bindArgs fd ⟨[u], []⟩ = pure [(("self" : Str), u)]

/-- the frame of such an __init__ -/
def cxS (CX : CXT) (P : Program) (w : World) (K : Frag) (mg : Str → Option Value) (base : Heap) (q : Str) (sc : Scope) (f : Addr) (cd : Value) (cc : Addr) (A : Around) (outer : List Env) (s : Shared) (H : Hp) (xe : Value → Shared → Prop) : Cx where
  prog := P
  w := w
  K := K
  mg := mg
  base := base
  A := A.deeper (ksEnv q sc s.heap.objs.size f cd cc)
  N := ["self"]
  s_0 := s
  H_0 := H
  env := ksEnv q sc s.heap.objs.size f cd cc
  outer := outer
  stack := ksEnv q sc s.heap.objs.size f cd cc :: outer
  ex := []
  calm := true
  fn := fun _ => false
  pn := []
  xe := xe
/-- what such an __init__ wants -/
def spSup (C : Addr) (t : TA) (spD : Sp) : Sp := fun vs H Q _ => ∃ x dx fs, vs = [.ref x] ∧ H x = some (.ins C dx fs) ∧ t [some (.ref x)] H (fun ws H2 => spD (.ref x :: ws) H2 (fun _ H3 => Q .non H3) (fun _ _ _ => False))
theorem fn_super {P : Program} {w : World} {K : Frag} {mg : Str → Option Value} {base : Heap} {k : Nat} {C fI fD : Addr} {q : Str} {st : Stmt} {fd : FuncData} {e : Expr} {es : List Expr} {p0 p1 p2 p4 p5 : Pos} {spD : Sp} {t : TA} (T : OwnSup P K C fI fD q st fd) (S : SupTxt q st e es p0 p1 p2 p4 p5) (msg : mg "super" = none)
    (F : FnR P w K mg base (L2.CX P w) k fD spD) (pa : ∀ X : Cx, (∃ q sc L f cd cc, X.env = ksEnv q sc L f cd cc) → X.K = K → PA X (e :: es) t) : FnOk P w K mg base (L2.CX P w) (k + 1) fI fd ["self"] (spSup C t spD) := by
  refine ⟨fun vs H Q E ⟨x, dx, fs, h, _⟩ => by rw [h]; rfl, fun A outer s H args us vs Q E hr e0 hb r ⟨x, dx, fs, ev, hx, hsp⟩ => ?_⟩
  subst ev
  obtain ⟨oc, ccl, cl, od, an, cdd, cld, doc, pm, ct, osl, ccs, csl, cda, cc, vv, file, tf, efd, fl, fcd, fc, fv, ff, fe⟩ := T.fn
  obtain ⟨u, rfl, ru⟩ := vals1 r
  obtain rfl : u = Value.ref x := ru
  have kp0 : ∀ b o, base.get? b = some o → s.heap.get? b = some o := fun b o z => (e0.bs b o z).1
  have KX : K.In s.heap := e0.mod.kin.keeps kp0
  subst efd
  refine ks_codeAny_call_defAt (fd := ksFn "__init__" q (L2.defArgs st) (L2.defBody st) (L2.defScope st) .none .none doc pm an (.ref cda) ct cc) (body := L2.defBody st) (binds := [(("self" : Str), Value.ref x)]) hr.depth (KX _ _ fl) rfl (e0.mod.nolimit.keeps kp0) (codeRec_of KX fcd) rfl hb S.hcell
    (fun y hy => by rw [List.mem_singleton.mp hy]; exact S.hka) (fun h0 hns kp => ?_) S.hco S.hgen S.hk
  have hcc : base.get? cc = some ⟨cl, cld, .cell (some (.ref C)), csl⟩ := e0.mod.kin _ _ fe
  let xe : Value → Shared → Prop := fun er s' => wpAny (model P w) (A.deeper (ksEnv q (L2.defScope st) s.heap.objs.size fI (.ref cda) cc)) (leaving (ksEnv q (L2.defScope st) s.heap.objs.size fI (.ref cda) cc) er) (fun _ s'' => CR (L2.CX P w) outer P w H s Q E (.error er) s'') (fun e' s'' => CR (L2.CX P w) outer P w H s Q E (.error e') s'') s'
  let X : Cx := cxS (L2.CX P w) P w K mg base q (L2.defScope st) fI (.ref cda) cc A outer s H xe
  have noA : ∀ b : Addr, b ∉ X.ex := fun b z => by cases z
  have cl1 : ∀ y c, X.env.cells.lookup y = some c → y = "__class__" ∧ c = cc := fun y c z => by
    have z : List.lookup y [(("__class__" : Str), cc)] = some c := z
    simp only [List.lookup] at z
    by_cases hy : y = ("__class__" : Str)
    · subst hy
      simp at z
      exact ⟨rfl, z.symm⟩
    · have : (y == ("__class__" : Str)) = false := beq_eq_false_iff_ne.mpr hy
      rw [this] at z
      cases z
  have I0 : Inv X [] [some (V.ref x)] H { s with heap := h0, toks := s.toks + 1 } := by
    refine ⟨⟨e0.mod, S.hk, rfl, rfl, Nat.le_refl _, fun y z c h1 h2 => ?_, fun y hy => ?_, fun y c hf _ => (by cases hf), fun _ => hr.hd, Around.frames_deeper e0.frames, .inr ⟨rfl, rfl⟩, fun b z => absurd z (noA b), e0.bs, e0.bsz, fun b _ _ => noA b, fun b z => absurd z (noA b), e0.funs, e0.frf⟩,
      rfl, e0.bare, Un.kept kp, ⟨_, hns, fun i y v h1 h2 h3 => ?_⟩, fun y c h => ?_, e0.hok.fresh (Nat.le_refl _), fun y c h => ?_, fun p hp => absurd (show p ∈ ([] : List (Addr × Obj)) from hp) (by simp), e0.hok.kept kp, rfl⟩
    · exact (cl1 _ _ h1).1.trans (cl1 _ _ h2).1.symm
    · have := S.only y hy
      subst this
      exact ⟨cc, rfl⟩
    · match i, h1, h2 with
      | 0, h1, h2 =>
        cases h1
        cases h2
        exact ⟨.ref x, rfl, .inl ⟨S.hka, rfl⟩⟩
      | i + 1, h1, h2 => cases h1
    · obtain ⟨_, e2⟩ := cl1 _ _ h
      subst e2
      exact ⟨_, _, kp _ _ (kp0 _ _ hcc), rfl⟩
    · obtain ⟨_, e2⟩ := cl1 _ _ h
      subst e2
      exact (e0.bs _ _ hcc).2
  rw [S.body]
  show _root_.PySem.wpAt _ (A.deeper (ksEnv q (L2.defScope st) s.heap.objs.size fI (.ref cda) cc)) _ (execs _ (ksEnv q (L2.defScope st) s.heap.objs.size fI (.ref cda) cc)) _ _ _
  refine ks_wpAt_execs_cons ?_
  have K0 : K.In h0 := KX.keeps kp
  obtain ⟨ar, har, hae⟩ := S.har
  obtain ⟨c1, d1, cd, sl1, hC⟩ := T.cls
  have hcl : clsIn K C = some cd := by
    unfold clsIn
    rw [hC]
  obtain ⟨mb, hb1, hb2⟩ := e0.mod.blt
  have hg0 := (e0.mod.glob.keeps kp0).keeps kp
  have hb0 := (hb1.keeps kp0).keeps kp
  have hx0 : h0.get? x = some (instObj C dx) := by
    obtain ⟨_, _, _, z, _⟩ := e0.hok x _ hx
    exact kp _ _ z
  have hxC : x ≠ C := fun z => by
    have := (e0.bs C _ (e0.mod.kin _ _ hC)).2
    rw [← z, hx] at this
    cases this
  refine ks_wpAt_Expr_any (ks_wpAt_MethodCall (pl := pure false) ?_ (S.hev _ _ _ _)) (S.hint _ _ _ _) (S.hsw _ _ _ _)
  refine ks_wpAt_super_base (env := ksEnv q (L2.defScope st) s.heap.objs.size fI (.ref cda) cc) S.hks S.hkc (by decide) rfl (K0 _ _ fl) rfl har rfl (K0 _ _ fc) rfl fv ff T.top ?_
  refine ks_loadName_global S.hk S.hks (loadGlobal_builtin (env := ksEnv q (L2.defScope st) s.heap.objs.size fI (.ref cda) cc) hg0 msg hb0 (two_super hb2) ⟨rfl, ?_⟩)
  refine wpAny_loadName_free S.hk S.hkc rfl ⟨_, K0 _ _ fe, rfl⟩ ?_
  rw [hae]
  refine wpAny_loadName_local S.hk S.hka hns rfl ?_
  refine ks_wpAny_isType_cls (K0 _ _ hC) rfl ⟨rfl, ?_⟩
  refine ks_wpAny_call_super (K0 _ _ hC) rfl hx0 rfl (fun c z => by cases z) (looks_mroIn K0 T.slf) (fun h1 e1 kp1 => ?_)
  have K1 : K.In h1 := K0.keeps kp1
  have I1 : Inv X [] [some (V.ref x)] H { s with heap := h1, toks := s.toks + 1 } := I0.kept (t' := s.toks + 1) kp1
  obtain ⟨of, hof, hofc⟩ : ∃ of, h1.get? fD = some of ∧ of.cls = .type "function" := by
    have ht' : (K.lookup fD).map (·.cls) = some (.type "function") := T.tD
    cases z : K.lookup fD with
    | none => rw [z] at ht'; cases ht'
    | some of => rw [z] at ht'; exact ⟨of, K1 _ _ z, Option.some.inj ht'⟩
  have hsup : alongIn K "__init__" ((cd.mro.dropWhile (· != .ref C)).drop 1) = some (some (.ref fD)) := by
    have z := T.sup
    unfold ks_superIn at z
    rw [hcl] at z
    exact z
  refine ks_wpAny_getMethod_super e1 (looks_opaque K1 T.opq) (l₀ := cd.mro) ((looks_clsIn K1 hcl).andThen .now) rfl K1 hsup hof hofc hxC (by decide) ?_
  have I2 := met_new (g := fD) (C := x) I1
  refine callwith_cm I2 (base_none I1 (Nat.le_refl _)) T.fiD (thn ((pa X ⟨_, _, _, _, _, _, rfl⟩ rfl).run p4 _ _ _ H _ I2 hsp) fun us s3 ⟨ws, H2, I3, rv, q2⟩ => ⟨⟨pin_at I3, I3.kIn⟩, ?_⟩) (S.he _ _ _ _) (S.hpl _ _ _ _)
  refine thn (run_cm F (hr.deeper _) passF I3 rv q2) fun v s4 ⟨v4, H4, I4, r4, q4⟩ => ?_
  refine wpAt_of_wpAny (wpAny_execs_nil ?_)
  exact ⟨.non, H4, I4.os, I4.bare, I4.base, I4.hok, rfl, q4⟩
end Py
end
section
set_option Elab.async false
set_option linter.all false
set_option maxRecDepth 100000
set_option maxHeartbeats 4000000
/-! try with several clauses, each as a name. -/
namespace Py
open PySem L2 PySem.Spec PyProof.Rows

/-- what the clauses wish, one after the other; (class, slot of the name, suite) -/
def wishM (K : PySem.W.Frag) (Wo : WX) (D : Ends) : List (Value × Nat × (Addr → Value → Option Addr → TS)) → WX
  | [] => Wo
  | (c, i, ts) :: r => fun cls d σ H => ∃ b, PySem.W.exmOne K cls c = some b ∧
    (b = true → ∀ a, H a = none → ts a cls d { nx := fun σ' H' => D.nx (σ'.set i none) H', rt := D.rt, bk := fun σ' H' => D.bk (σ'.set i none) H', ct := fun σ' H' => D.ct (σ'.set i none) H' } (σ.set i (some (.ref a))) H) ∧ (b = false → wishM K Wo D r cls d σ H)
inductive ClausesOk (X : Cx) : List ExceptHandler → List (Value × Nat × (Addr → Value → Option Addr → TS)) → Prop
  | nil : ClausesOk X [] []
  | cons {x n : Str} {i : Nat} {c : Value} {ts : Addr → Value → Option Addr → TS} {b₀ : Stmt} {suite : List Stmt} {np p2 : Pos} {hds : List ExceptHandler} {l : List (Value × Nat × (Addr → Value → Option Addr → TS))} (hi : X.N[i]? = some n) (hln : X.env.kindOf n = some .local) (hc : Names X x c)
      (hsu : ∀ (a : Addr) (oe : Obj) (cls : Value) (d : Option Addr) (pn : List (Addr × Obj)), Zc cls d oe → (∃ vs, oe.data = .fields vs) → PSs (X.suite a ((a, oe) :: pn)) (b₀ :: suite) (ts a cls d)) (r : ClausesOk X hds l) :
      ClausesOk X (.ExceptHandler (some (.Name x np)) (some n) (b₀ :: suite) p2 :: hds) ((c, i, ts) :: l)
section
variable {X : Cx} {body : List Stmt} {h₀ : ExceptHandler} {hds : List ExceptHandler} {l : List (Value × Nat × (Addr → Value → Option Addr → TS))} {pos : Pos} {tb : WX → TS} {Wo : WX}
theorem ps_tryM (hs : X.stack = X.env :: X.outer) (hf : X.env.frame = some X.env.locals) (hN : X.N.Nodup) (tk : Takes X Wo)
    (hb : ∀ (W : WX) (pn : List (Addr × Obj)) (xe : Value → Shared → Prop), Takes (X.tr pn xe) W → PassesOwn (model X.prog X.w) X.A X.env xe → PSs (X.tr pn xe) body (tb W))
    (hh : ClausesOk X (h₀ :: hds) l) : PS X (.Try body (h₀ :: hds) [] [] pos) (fun D σ H => tb (wishM X.K Wo D l) D σ H) := by
  constructor
  intro pins s σ H D I h
  have ok := I.ok
  have hfr : X.A.frames = some (X.env :: X.outer) := by rw [ok.frames, hs]
  refine wpAny_Try_except ?_
  let xc : Value → Shared → Prop := fun e s₁ => wpAny (model X.prog X.w) X.A (noteFrame e X.env) (fun _ s₂ => wpAny (model X.prog X.w) X.A (setFlight e none) (fun _ s₃ =>
    wpAny (model X.prog X.w) X.A (handleBy e X.env (h₀ :: hds)) (SP X pins D) X.xe s₃) X.xe s₂) X.xe s₁
  have bodyOk := hb (wishM X.K Wo D l) (X.pn ++ pins) xc (fun u s' xx => ?_) PassesOwn.looking
  · refine wpAny_mono (bodyOk.run [] s σ H D (I.toTry _) h) (fun f s1 hsp => ?_) (fun e s1 he => he)
    cases f with
    | next =>
      obtain ⟨σ', H', J, q⟩ := hsp
      exact wpAny_execs_nil ⟨σ', H', J.ofTry ok, q⟩
    | ret u =>
      obtain ⟨v, σ', H', J, r, q⟩ := hsp
      exact ⟨v, σ', H', J.ofTry ok, r, q⟩
    | brk =>
      obtain ⟨σ', H', J, q⟩ := hsp
      exact ⟨σ', H', J.ofTry ok, q⟩
    | cont =>
      obtain ⟨σ', H', J, q⟩ := hsp
      exact ⟨σ', H', J.ofTry ok, q⟩
  · obtain ⟨a, B, sI, pins2, σ', H', cls, d, rfl, J0, nb, up, sky, na, os, ag, w⟩ := xx
    have J : Inv X pins σ' H' sI := J0.ofTry ok
    have sky2 : Sky B (X.env :: X.outer) a (Zc cls d) X.env.locals s'.heap := by rw [← hs]; exact sky
    show wpAny (model X.prog X.w) X.A (noteFrame (.ref a) X.env) _ _ _
    refine Sky.land Zc.steady hfr hf sky2 fun h3 fl3 up3 => ?_
    have J3 : Inv X pins σ' H' { s' with heap := h3 } := J.landed nb fl3.1 (up.trans up3) os ag
    obtain ⟨oe3, vs3, he3, hz3, hd3⟩ := fl3.there
    have out : a ∉ frs (X.env :: X.outer) := fun hm => by
      obtain ⟨_, o2, e2, hnf⟩ := fl3.2.2.1.mem hm
      rw [he3] at e2
      cases e2
      exact hnf _ hd3
    have nL : a ≠ X.env.locals := fun z => out (List.mem_filterMap.mpr ⟨X.env, List.mem_cons_self, by rw [hf, z]⟩)
    have nF : a ∉ X.fs := fun hm => by
      obtain ⟨e, he, q⟩ := List.mem_filterMap.mp hm
      exact out (List.mem_filterMap.mpr ⟨e, List.mem_cons_of_mem _ he, q⟩)
    have S3 := J3.suite he3 hd3 na nL nF
    have go : ∀ {hd2 : List ExceptHandler} {l2 : List (Value × Nat × (Addr → Value → Option Addr → TS))}, ClausesOk X hd2 l2 → wishM X.K Wo D l2 cls d σ' H' →
        wpAny (model X.prog X.w) X.A (handleBy (.ref a) X.env hd2) (SP X pins D) X.xe { s' with heap := h3 } := by
      intro hd2 l2 hk
      induction hk with
      | nil =>
        intro w
        refine wpAny_handleBy_nil ?_
        obtain ⟨k1, k2, k3, oe, vs, T, oT, ts2, g1, g2, g3, g4, g5⟩ := id fl3
        unfold PySem.passOn
        refine wpAny_bind (wpAny_field g1 g3 g4 ?_)
        rw [if_neg (show ¬ ((Value.ref T == Value.none) = true) from by simp)]
        have fin : wpAny (model X.prog X.w) X.A (setFlight (.ref a) X.env.frame) (fun _ s4 => wpAny (model X.prog X.w) X.A (throw (.ref a) : Sem Flow) (SP X pins D) X.xe s4) X.xe { s' with heap := h3 } := by
          rw [hf]
          refine HandSPX.setFlight_upZ fl3 fun h4 hh4 up4 => wpAny_throw (tk _ _ ?_)
          exact ⟨a, B, sI, pins, σ', H', cls, d, rfl, J, nb, (up.trans up3).trans up4, .inr (.inr (by rw [hs]; exact hh4)), na, os, ag, w⟩
        first
          | exact wpAny_bind (wpAny_pure (wpAny_bind fin))
          | exact wpAny_bind fin
      | @cons x n i c ts b₀ suite np p2 hds2 l2 hi hln hc hsu r ih =>
        intro w
        obtain ⟨b, hb1, hyes, hno⟩ := w
        refine wpAny_handleBy_cons (codeAny_handlers_test ?_) (by intro q; cases q)
        have LT : PySem.W.Looks (model X.prog X.w) h3 (typeOf (.ref a)) cls := fun A Q E s k q => wpAny_typeOf_ref (k _ _ he3) (by rw [hz3.1]; exact q)
        have LM := PySem.W.exm_one (M := model X.prog X.w) (J3.kIn) LT hb1
        have test : ∀ {Q E : Value → Shared → Prop}, Q c { s' with heap := h3 } → wpAny (model X.prog X.w) (X.A.mark (some (.ref a))) (eval (.Name x np) X.env) Q E { s' with heap := h3 } := fun {Q E} q => by
          obtain ⟨hg, hdbg, hm | ⟨hm, hv, hnn⟩⟩ := hc
          · exact ld_glob (X := X.suite a ((a, oe3) :: (X.pn ++ pins))) S3 hg hm q hdbg
          · exact ld_blt (X := X.suite a ((a, oe3) :: (X.pn ++ pins))) S3 hg hm hv q hnn hdbg
        refine test (LM.here ?_)
        cases b with
        | false =>
          show wpAny _ X.A (handleBy (.ref a) X.env hds2) _ _ _
          exact ih (hno rfl)
        | true =>
          refine codeAny_handlers_suite_as ?_
          refine HandSPX.lands_againZ fl3 fun h4 fl4 up4 => ?_
          have J4 : Inv X pins σ' H' { s' with heap := h4 } := J.landed nb fl4.1 ((up.trans up3).trans up4) os ag
          obtain ⟨oe4, vs4, he4, hz4, hd4⟩ := fl4.there
          have S4 := J4.suite he4 hd4 na nL nF
          refine store_ok (X := X.suite a ((a, oe4) :: (X.pn ++ pins))) (v := .ref a) S4 hN hi (.inl hln) rfl (fun s5 S5 => ?_) (.inr hln)
          refine wpAny_mono ((hsu a oe4 cls d (X.pn ++ pins) hz4 ⟨_, hd4⟩).run [] s5 _ H' _ S5 (hyes rfl a na)) (fun f s6 hsp => ?_) (fun _ _ z => False.elim z)
          have gone : ∀ {σ6 : L2.St} {H6 : Hp} {Q : Shared → Prop}, Inv (X.suite a ((a, oe4) :: (X.pn ++ pins))) [] σ6 H6 s6 → (∀ s7, Inv X pins (σ6.set i none) H6 s7 → Q s7) →
              wpAny (model X.prog X.w) X.A (do bindName X.env n .none; unbindBehindTheSuite X.env n p2) (fun _ s7 => Q s7) X.xe s6 := fun {σ6 H6 Q} S6 hq => gone_ok (S6.unsuite ok) hN hi hln hq
          cases f with
          | next =>
            obtain ⟨σ6, H6, S6, q6⟩ := hsp
            exact gone S6 fun s7 J7 => ⟨_, _, J7, q6⟩
          | ret u =>
            obtain ⟨v6, σ6, H6, S6, r6, q6⟩ := hsp
            exact gone S6 fun s7 J7 => ⟨_, _, _, J7, r6, q6⟩
          | brk =>
            obtain ⟨σ6, H6, S6, q6⟩ := hsp
            exact gone S6 fun s7 J7 => ⟨_, _, J7, q6⟩
          | cont =>
            obtain ⟨σ6, H6, S6, q6⟩ := hsp
            exact gone S6 fun s7 J7 => ⟨_, _, J7, q6⟩
    exact go hh w
end
/-- try: .. except x1 as n: .. except x2 as m: .. -/
def pTry2 (i j : Nat) (C1 C2 : Addr) (pb : PSm) (pc1 pc2 : Addr → Option Addr → PSm) : PSm := fun P sl S => pb { P with ex := fun x sl1 S1 =>
  (x.C = C1 ∧ i < sl1.length ∧ ∀ a d, pc1 a d ⟨fun sl2 S2 => P.nx (sl2.set i .un) S2, P.rt, fun sl2 S2 => P.bk (sl2.set i .un) S2, fun sl2 S2 => P.ct (sl2.set i .un) S2, fun _ _ _ => False⟩ (sl1.set i (.exc a d x)) S1) ∨
  (x.C = C2 ∧ j < sl1.length ∧ ∀ a d, pc2 a d ⟨fun sl2 S2 => P.nx (sl2.set j .un) S2, P.rt, fun sl2 S2 => P.bk (sl2.set j .un) S2, fun sl2 S2 => P.ct (sl2.set j .un) S2, fun _ _ _ => False⟩ (sl1.set j (.exc a d x)) S1) } sl S
section
variable {X : Cx} {W : WX} {x1 x2 n1 n2 : Str} {C1 C2 : Addr} {body suite1 suite2 : List Stmt} {b1 b2 : Stmt} {np1 np2 q1 q2 pos : Pos} {pb : PSm} {pc1 pc2 : Addr → Option Addr → PSm}
theorem ss_try2 (i j : Nat) (hs : X.stack = X.env :: X.outer) (hf : X.env.frame = some X.env.locals) (hN : X.N.Nodup) (g1 : X.mg x1 = some (.ref C1)) (g2 : X.mg x2 = some (.ref C2)) (t11 : PySem.W.exmOne X.K (.ref C1) (.ref C1) = some true) (t22 : PySem.W.exmOne X.K (.ref C2) (.ref C2) = some true)
    (t21 : PySem.W.exmOne X.K (.ref C2) (.ref C1) = some false) (tk : Takes X W)
    (hb : ∀ (W : WX) (pn : List (Addr × Obj)) (xe : Value → Shared → Prop), Takes (X.tr pn xe) W → PassesOwn (model X.prog X.w) X.A X.env xe → SB (X.tr pn xe) W body pb)
    (hs1 : ∀ (a : Addr) (oe : Obj) (d : Option Addr) (pn : List (Addr × Obj)), Zc (.ref C1) d oe → (∃ vs, oe.data = .fields vs) → SB (X.suite a ((a, oe) :: pn)) W0 (b1 :: suite1) (pc1 a d))
    (hs2 : ∀ (a : Addr) (oe : Obj) (d : Option Addr) (pn : List (Addr × Obj)), Zc (.ref C2) d oe → (∃ vs, oe.data = .fields vs) → SB (X.suite a ((a, oe) :: pn)) W0 (b2 :: suite2) (pc2 a d))
    (hi : X.N[i]? = some n1 := by rfl) (hj : X.N[j]? = some n2 := by rfl) (hl1 : X.env.kindOf n1 = some .local := by rfl) (hl2 : X.env.kindOf n2 = some .local := by rfl) (hg1 : Gl X x1 := by rfl) (hg2 : Gl X x2 := by rfl) (hd1 : (x1 == ("__debug__" : Str)) = false := by decide) (hd2 : (x2 == ("__debug__" : Str)) = false := by decide) :
    SS X W (.Try body [.ExceptHandler (some (.Name x1 np1)) (some n1) (b1 :: suite1) q1, .ExceptHandler (some (.Name x2 np2)) (some n2) (b2 :: suite2) q2] [] [] pos) (pTry2 i j C1 C2 pb pc1 pc2) :=
  ⟨PS.imp (ps_tryM (tb := fun W => rdS X.K W pb) (l := [(.ref C1, i, fun a cls d D σ H => cls = .ref C1 ∧ rdS X.K W0 (pc1 a d) D σ H), (.ref C2, j, fun a cls d D σ H => cls = .ref C2 ∧ rdS X.K W0 (pc2 a d) D σ H)]) hs hf hN tk (fun W pn xe t p => (hb W pn xe t p).ps)
      (.cons hi hl1 ⟨hg1, hd1, .inl g1⟩ (fun a oe cls d pn hz hf => ⟨fun pins s σ H D I ⟨e, q⟩ => by subst e; exact (hs1 a oe d pn hz hf).ps.run pins s σ H D I q⟩)
        (.cons hj hl2 ⟨hg2, hd2, .inl g2⟩ (fun a oe cls d pn hz hf => ⟨fun pins s σ H D I ⟨e, q⟩ => by subst e; exact (hs2 a oe d pn hz hf).ps.run pins s σ H D I q⟩) .nil))) fun D σ H h => by
    obtain ⟨g, F, sl, S, P, rel, hp, lk⟩ := h
    refine ⟨g, F, sl, S, _, rel, hp, ⟨lk.nx, lk.rt, lk.bk, lk.ct, fun x sl1 S1 d σ1 H1 F1 s1 rel1 er hq => ?_⟩⟩
    have fin : ∀ (i : Nat) (a : Addr), Lk X.K W0 g F1 { nx := fun σ' H' => D.nx (σ'.set i none) H', rt := D.rt, bk := fun σ' H' => D.bk (σ'.set i none) H', ct := fun σ' H' => D.ct (σ'.set i none) H' }
        ⟨fun sl2 S2 => P.nx (sl2.set i .un) S2, P.rt, fun sl2 S2 => P.bk (sl2.set i .un) S2, fun sl2 S2 => P.ct (sl2.set i .un) S2, fun _ _ _ => False⟩ := fun i a =>
      ⟨fun sl2 S2 σ2 H2 F2 s2 rel2 h2 => lk.nx _ S2 _ H2 F2 (s1.trans s2) (rel2.wipe1 i) h2, fun r S2 v H2 F2 s2 => lk.rt r S2 v H2 F2 (s1.trans s2), fun sl2 S2 σ2 H2 F2 s2 rel2 h2 => lk.bk _ S2 _ H2 F2 (s1.trans s2) (rel2.wipe1 i) h2, fun sl2 S2 σ2 H2 F2 s2 rel2 h2 => lk.ct _ S2 _ H2 F2 (s1.trans s2) (rel2.wipe1 i) h2, fun _ _ _ _ _ _ _ _ _ _ z => z.elim⟩
    rcases hq with ⟨hC, hl, hq⟩ | ⟨hC, hl, hq⟩
    · rw [hC]
      exact ⟨true, t11, fun _ a ha => ⟨rfl, g, F1, _, S1, _, rel1.exc hl er, hq a d, fin i a⟩, fun z => by cases z⟩
    · rw [hC]
      exact ⟨false, t21, fun z => (by cases z), fun _ => ⟨true, t22, fun _ a ha => ⟨rfl, g, F1, _, S1, _, rel1.exc hl er, hq a d, fin j a⟩, fun z => by cases z⟩⟩⟩
end
end Py
end
section
set_option Elab.async false
set_option linter.all false
set_option maxRecDepth 100000
set_option maxHeartbeats 4000000
/-! An __init__ that is super().__init__(..) alone, over pure data. -/
namespace Py
open PySem L2 PySem.Spec PyProof.Rows

theorem Rel.start1 {K : PySem.W.Frag} {H1 F : Hp} {dr : Option Addr} {S : List Int} {x dx C : Addr} (hx : H1 x = none) (hdx : H1 dx = none) (ne : dx ≠ x) (a1 : Same F H1) (a2 : ∀ a, dr = some a → H1 a = some (.lst (S.map V.int)) ∧ F a = none) :
    Rel K ⟨H1, F, dr⟩ F [.slf x C [] []] S [some (.ref x)] (upd (upd H1 dx (.own x)) x (.ins C dx [])) := by
  have fx : F x = none := by
    cases e : F x with
    | none => rfl
    | some o => rw [a1 _ _ e] at hx; cases hx
  have fdx : F dx = none := by
    cases e : F dx with
    | none => rfl
    | some o => rw [a1 _ _ e] at hdx; cases hdx
  have c0 : Cor ⟨H1, F, dr⟩ F S H1 := ⟨Same.refl _, fun a o e => .inl (by show F a ≠ none; rw [e]; exact fun z => nomatch z), a1, fun a o e _ => e, fun a e => ⟨(a2 a e).1, (a2 a e).2, by show H1 a ≠ none; rw [(a2 a e).1]; exact fun z => nomatch z⟩⟩
  have c1 : Cor ⟨H1, F, dr⟩ F S (upd H1 dx (.own x)) := c0.alloc hdx
  refine ⟨c1.alloc (by rw [upd_ne (fun z => ne z.symm)]; exact hx), rfl, fun i s e => ?_, fun i j di dj p hij h4 h5 => ?_⟩
  · match i, e with
    | 0, e =>
      cases e
      exact ⟨dx, [], rfl, upd_same, by rw [upd_ne ne]; exact upd_same, fx, fdx, hx, hdx, rfl, .nil⟩
    | i + 1, e => cases e
  · match i, h4 with
    | 0, h4 => cases h4
    | i + 1, h4 => cases h4
theorem ras_dr {K : PySem.W.Frag} {g g' : G} {F : Hp} (e : g.dr = g'.dr) : ∀ {rs : List Res} {vs : List V}, RAs K g F rs vs → RAs K g' F rs vs
  | _, _, .nil => .nil
  | r :: rs, v :: vs, .cons h t => .cons (by
      cases r with
      | dat d => exact h
      | own ds => exact h
      | drw => obtain ⟨a, h1, h2⟩ := h; exact ⟨a, by rw [← e]; exact h1, h2⟩) (ras_dr e t)
/-- what super().__init__(..) wants, as data -/
def spSupI (pa : PAx) (spec : PSpecI) (C : Addr) : PSpecI := fun rs S Q => rs = [] ∧ ∀ x, pa [.slf x C [] []] S (fun as S1 => spec as S1 Q) (fun _ _ => False)
theorem fnI_super {P : Program} {w : World} {K : PySem.W.Frag} {mg : Str → Option Value} {base : Heap} {k : Nat} {C fI fD : Addr} {q : Str} {st : Stmt} {fd fdD : FuncData} {psD : List Str} {e : Expr} {es : List Expr} {p0 p1 p2 p4 p5 : Pos} {spec : PSpecI} {pa : PAx}
    (T : OwnSup P K C fI fD q st fd) (S : SupTxt q st e es p0 p1 p2 p4 p5) (msg : mg "super" = none) (F : FnOk P w K mg base (L2.CX P w) k fD fdD psD (spOfI K C spec)) (hb : Binds K fdD psD [])
    (ha : ∀ X : Cx, (∃ q sc L f cd cc, X.env = PySem.W.ksEnv q sc L f cd cc) → X.K = K → SA X W0 (e :: es) pa) : FnOk P w K mg base (L2.CX P w) (k + 1) fI fd ["self"] (spOfI K C (spSupI pa spec C)) := by
  have FR : FnR P w K mg base (L2.CX P w) k fD (spOfI K C spec) := (F.raw hb .nil).imp fun vs H Q E h => by
    rw [List.append_nil]
    exact h
  refine (fn_super (t := rdA K W0 pa) T S msg FR fun X hX hK => ?_).imp fun vs H Q E h => ?_
  · have := (ha X hX hK).pa
    rw [hK] at this
    exact this
  · obtain ⟨x, dx, ws, H1, F, dr, St, rs, Q', rfl, hx, hdx, ne, rfl, a1, a2, a3, ⟨rfl, a4⟩, a5⟩ := h
    cases a3
    have rel := Rel.start1 (K := K) (C := C) hx hdx ne a1 a2
    refine ⟨x, dx, [], rfl, upd_same, ⟨H1, F, dr⟩, F, _, St, _, _, rel, a4 x, fun as S1 vs H2 F2 s2 rel2 ras h2 => ?_, fun _ _ _ _ _ _ _ _ z => z.elim⟩
    obtain ⟨dx2, ws2, e1, e2, e3, e4, e5, e6, e7, l, rl⟩ := rel2.slf (i := 0) rfl
    have ew : ws2 = [] := by
      cases ws2 with
      | nil => rfl
      | cons => cases l
    subst ew
    have hd2 : dx2 = dx := by
      have := s2.k x _ upd_same fun z => by
        have := (a2 x z).1
        rw [hx] at this
        cases this
      rw [e2] at this
      cases this
      rfl
    subst hd2
    let H3 : Hp := fun a => if a = x ∨ a = dx2 then none else H2 a
    have hH : H2 = upd (upd H3 dx2 (.own x)) x (.ins C dx2 []) := by
      funext a
      by_cases z : a = x
      · subst z; rw [upd_same]; exact e2
      · rw [upd_ne z]
        by_cases z2 : a = dx2
        · subst z2; rw [upd_same]; exact e3
        · rw [upd_ne z2]
          show _ = if a = x ∨ a = dx2 then none else H2 a
          rw [if_neg (by simp [z, z2])]
    have h3n : ∀ a o, H2 a = some o → a ≠ x → a ≠ dx2 → H3 a = some o := fun a o h n1 n2 => by
      show (if a = x ∨ a = dx2 then none else H2 a) = _
      rw [if_neg (by simp [n1, n2])]
      exact h
    have s3 : Same F2 H3 := fun a o h => h3n a o (rel2.cor.fh a o h) (ne_of_none h e4) (ne_of_none h e5)
    have ndr : ∀ a, dr = some a → a ≠ x ∧ a ≠ dx2 := fun a z => by
      have := (a2 a z).1
      exact ⟨fun y => (by rw [y, hx] at this; cases this), fun y => (by rw [y, hdx] at this; cases this)⟩
    refine ⟨x, dx2, vs, H3, F2, dr, S1, as, Q', rfl, if_pos (.inl rfl), if_pos (.inr rfl), ne, hH, s3, fun a z => ?_, ras_dr (g' := ⟨H3, F2, dr⟩) rfl ras, h2, fun ns ds S4 H4 F4 c4 r4 q4 => ?_⟩
    · obtain ⟨k1, k2, _⟩ := rel2.cor.st a z
      exact ⟨h3n a _ k1 (ndr a z).1 (ndr a z).2, k2⟩
    · refine a5 ns ds S4 H4 F4 ⟨s2.f.trans c4.f0, fun a o h => ?_, c4.fh, fun a o h q => ?_, fun a z => ⟨(c4.st a z).1, (c4.st a z).2.1, ?_⟩⟩ r4 q4
      · have back : ∀ b, H2 b = none → H1 b = none := fun b hb => by
          have := s2.d b hb
          cases y : H1 b with
          | none => rfl
          | some o =>
            have nb1 : b ≠ x := ne_of_none y hx
            have nb2 : b ≠ dx2 := ne_of_none y hdx
            rw [upd_ne nb1, upd_ne nb2, y] at this
            cases this
        rcases c4.fn a o h with z | z | z
        · cases y : F2 a with
          | none => exact absurd y z
          | some u =>
            have eu : u = o := by
              have := c4.f0 a u y
              rw [h] at this
              exact (Option.some.inj this).symm
            subst eu
            rcases s2.n a u y with z | z | z
            · exact .inl (by show F a ≠ none; rw [z]; exact fun y => nomatch y)
            · refine .inr (.inl ?_)
              show H1 a = none
              cases y : H1 a with
              | none => rfl
              | some v =>
                rw [upd_ne (ne_of_none y hx), upd_ne (ne_of_none y hdx), y] at z
                cases z
            · exact .inr (.inr z)
        · refine .inr (.inl ?_)
          have z : H3 a = none := z
          by_cases n1 : a = x
          · rw [n1]; exact hx
          by_cases n2 : a = dx2
          · rw [n2]; exact hdx
          have z : (if a = x ∨ a = dx2 then none else H2 a) = none := z
          rw [if_neg (by simp [n1, n2])] at z
          exact back a z
        · exact .inr (.inr z)
      · have h : H1 a = some o := h
        have n1 : a ≠ x := ne_of_none h hx
        have n2 : a ≠ dx2 := ne_of_none h hdx
        refine c4.h0 a o (h3n a o (s2.k a o ?_ q) n1 n2) q
        rw [upd_ne n1, upd_ne n2]
        exact h
      · show H1 a ≠ none
        rw [(a2 a z).1]
        exact fun y => nomatch y
end Py
end
section
set_option Elab.async false
set_option linter.all false
set_option maxRecDepth 100000
set_option maxHeartbeats 4000000
/-! Statements that are not reached; tuples added; global tuples. -/
namespace Py
open PySem L2 PySem.Spec PyProof.Rows

theorem only_of {l : List (Str × NameKind)} (h : (l.all fun y => decide (y.1 = "__class__") || (decide (y.2 ≠ .cell) && decide (y.2 ≠ .free))) = true) : ∀ x, (l.lookup x = some .cell ∨ l.lookup x = some .free) → x = "__class__" := fun x hx => by
  have hm : ∃ k, (x, k) ∈ l ∧ (k = .cell ∨ k = .free) := by
    rcases hx with z | z
    · exact ⟨_, PySem.mem_of_lookup z, .inl rfl⟩
    · exact ⟨_, PySem.mem_of_lookup z, .inr rfl⟩
  obtain ⟨k, hk, hc⟩ := hm
  have := List.all_eq_true.mp h (x, k) hk
  simp only [Bool.or_eq_true, Bool.and_eq_true, decide_eq_true_eq] at this
  rcases this with z | ⟨z1, z2⟩
  · exact z
  · rcases hc with z | z
    · exact absurd z z1
    · exact absurd z z2
def pDead : PSm := fun _ _ _ => False
@[simp] theorem pDead_eq {P : PEnds} {sl : List Slot} {S : List Int} : pDead P sl S = False := rfl
theorem ss_dead {X : Cx} {W : WX} {st : Stmt} : SS X W st pDead := ⟨⟨fun pins s σ H D I h => by
  obtain ⟨g, F, sl, S, P, rel, hp, lk⟩ := h
  exact hp.elim⟩⟩
theorem sb_dead {X : Cx} {W : WX} {st : List Stmt} : SB X W st pDead := ⟨⟨fun pins s σ H D I h => by
  obtain ⟨g, F, sl, S, P, rel, hp, lk⟩ := h
  exact hp.elim⟩⟩
@[simp] def fAddT : PF2 := fun a b Q => match a, b with
  | .tup xs, .tup ys => (xs ≠ [] ∧ xs.length + ys.length ≤ sizeLine) ∧ Q (.dat (.tup (xs ++ ys)))
  | _, _ => False
theorem sem_addT {K : PySem.W.Frag} : OpSem K (rCatT K) fAddT := fun g F sl S σ H v1 v2 d1 d2 Q Qr rel r1 r2 hf post => by
  cases r1 with
  | tup h1 q1 =>
    cases r2 with
    | tup h2 q2 =>
      obtain ⟨⟨hn, hz⟩, hq⟩ := hf
      rename_i vs xs a2 ws ys
      refine ⟨_, _, _, _, rfl, rfl, sqT_same rel.cor.fh h1, sqT_same rel.cor.fh h2, fun z => ?_, by rw [q1.length, q2.length]; exact hz, fun z => ?_, fun z p hp => ?_⟩
      · subst z
        cases q1
        exact hn rfl
      · subst z
        cases q2
        rw [List.append_nil] at hq
        exact post (.dat (.tup _)) _ H F Stp.refl rel (.tup h1 q1) trivial hq
      · have hf := rel.cor.free hp
        exact post (.dat (.tup _)) _ _ _ (Stp.allocF hp hf) (rel.allocF hp) (.tup (SqT.of upd_same) ((q1.append q2).mono (Same.upd_new hf))) trivial hq
    | _ => exact hf.elim
  | _ => exact hf.elim
theorem se_addT {X : Cx} {W : WX} {a b : Expr} {p q : PEx} {pos : Pos} (ha : SE X W a p) (hb : SE X W b q) : SE X W (.BinOp a .Add b pos) (pBin fAddT p q) := se_op op_catT sem_addT ha hb
/-- a global tuple -/
def GlobD (K : PySem.W.Frag) (mg : Str → Option Value) (x : Str) (d : D) : Prop := ∃ a, mg x = some (.ref a) ∧ ∀ F, Rp K F (.ref a) d
theorem se_globD {X : Cx} {W : WX} {x : Str} {d : D} {pos : Pos} (h : GlobD X.K X.mg x d) (hg : Gl X x := by rfl) (hd : (x == ("__debug__" : Str)) = false := by decide) : SE X W (.Name x pos) (pC d) := by
  obtain ⟨a, hm, r⟩ := h
  exact ⟨PE.imp (pe_glob (v := .ref a) hg hm rfl hd) (rd_c r)⟩
theorem rp_known {K : PySem.W.Frag} {F : Hp} {a : Addr} {dd : Option Addr} {its : List Value} {n : Nat} {sl : Array (Option Value)} {vs : List V} {ds : List D} (h : K.lookup a = some ⟨.type "tuple", dd, .seq its.toArray n, sl⟩) (hz : its.length ≤ 1000) (hv : Vals vs its) (r : RpL K F vs ds) : Rp K F (.ref a) (.tup ds) :=
  .tup (.inr ⟨_, _, _, h, rfl, rfl, by have := sizeLine_eq; simp; omega, by simpa using hv⟩) r
end Py
namespace L2
theorem Room.u65 {k : Nat} {A : PySem.Around} (r : Room k A) : A.units + 65 < PySem.cLine := by have := r.un; omega
theorem Room.u1 {k : Nat} {A : PySem.Around} (r : Room k A) : A.units + 1 < PySem.cLine := by have := r.un; omega
theorem Room.u0 {k : Nat} {A : PySem.Around} (r : Room k A) : A.units < PySem.cLine := by have := r.un; omega
end L2
namespace Py
open PySem L2
theorem CalI.mono {P : Program} {w : World} {K : PySem.W.Frag} {mg : Str → Option Value} {base : Heap} {j k : Nat} {C : Addr} {spec : PSpecI} (c : CalI P w K mg base j C spec) (h : j ≤ k) : CalI P w K mg base k C spec := by
  obtain ⟨f, fd, ps, M, F, q⟩ := c.ex
  exact ⟨f, fd, ps, M, F.mono h, q⟩
theorem CalM.mono {P : Program} {w : World} {K : PySem.W.Frag} {mg : Str → Option Value} {base : Heap} {j k : Nat} {C : Addr} {m : Str} {spec : PSpec} (c : CalM P w K mg base j C m spec) (h : j ≤ k) : CalM P w K mg base k C m spec := by
  obtain ⟨f, fd, ps, M, F, q⟩ := c.ex
  exact ⟨f, fd, ps, M, F.mono h, q⟩
theorem CalP.mono {P : Program} {w : World} {K : PySem.W.Frag} {mg : Str → Option Value} {base : Heap} {j k : Nat} {C : Addr} {m : Str} {spec : PSpec} (c : CalP P w K mg base j C m spec) (h : j ≤ k) : CalP P w K mg base k C m spec := by
  obtain ⟨pa, f, fd, ps, M, F, q⟩ := c.ex
  exact ⟨pa, f, fd, ps, M, F.mono h, q⟩
end Py
end
section
set_option Elab.async false
set_option linter.all false
set_option maxRecDepth 100000
/-! The facts of the top: classes, methods, global tuples. -/
namespace Py
open PySem PySem.W PySem.Spec PyProof.Rows L2

theorem kit_mk {K : Frag} {C D : Addr} (h2 : isClsIn K D = true) (h3 : typeIn K (.ref D) = some (.type "type")) (h4 : subIn K (.ref C) (.ref D) = some true) : kitOne K (.ref C) (.ref D) = some true := by
  have a3 : (clsIn K D).isSome = true := h2
  have a2 : ((clsIn K D).isSome && typeIn K (.ref D) == some (.type "type")) = true := by rw [a3, h3] <;> rfl
  show (if ((Value.ref C) == .ref D) = true then some true else (if ((clsIn K D).isSome && typeIn K (.ref D) == some (.type "type")) = true then subIn K (.ref C) (.ref D) else none)) = some true
  rw [if_pos a2, h4]
  split <;> rfl
theorem exm_not {K : Frag} {C D : Addr} (h1 : subIn K (.ref D) (.type "BaseException") = some true) (h2 : isClsIn K D = true) (h3 : typeIn K (.ref D) = some (.type "type")) (h4 : subIn K (.ref C) (.ref D) = some false) : exmOne K (.ref C) (.ref D) = some false := by
  have a1 : (subIn K (.ref D) (.type "BaseException") == some true) = true := by rw [h1] <;> rfl
  have a3 : (clsIn K D).isSome = true := h2
  have a2 : ((clsIn K D).isSome && typeIn K (.ref D) == some (.type "type")) = true := by rw [a3, h3] <;> rfl
  show (if (subIn K (.ref D) (.type "BaseException") == some true) = true then (if ((clsIn K D).isSome && typeIn K (.ref D) == some (.type "type")) = true then subIn K (.ref C) (.ref D) else none) else none) = some false
  rw [if_pos a1, if_pos a2, h4]
section
variable {K : Frag} {C f pa : Addr} {x qual : Str} {st : Stmt} {ps : List Str} {oc kV dc pm cd ct : Value} {od an : Option Addr} {sl : Array (Option Value)}
theorem ini_mk (mk : makesIn K C = true) (i : findIn K (.ref C) "__init__" = some (some (.ref f))) (fn : isFn K (.ref f) = true) (kp : keepIn K (.ref C) = true)
    (l : K.lookup f = some ⟨oc, od, .func (fnOf x qual (L2.defArgs st) (L2.defBody st) (L2.defScope st) .none kV dc pm an cd ct), sl⟩) (c : codeIn K cd qual = true) (k : keepIn K (.ref f) = true)
    (b : ∀ (kV doc pm : Value) (an : Option Addr) (cdv ct : Value) (us : List Value), us.length = ps.length → bindArgs (fnOf x qual (L2.defArgs st) (L2.defBody st) (L2.defScope st) .none kV doc pm an cdv ct) ⟨us, []⟩ = pure (ps.zip us)) : ∃ f fd, Mk K C f ∧ Fun K x qual st f fd ∧ Binds K fd ps [] :=
  ⟨f, _, ⟨mk, i, fn, kp⟩, L2.fun_mk l c k, (L2.fun_mk (st := st) l c k).binds b⟩
theorem met_mk {m : Str} (a : findIn K (.ref C) m = some (some (.ref f))) (fn : isFn K (.ref f) = true)
    (l : K.lookup f = some ⟨oc, od, .func (fnOf x qual (L2.defArgs st) (L2.defBody st) (L2.defScope st) .none kV dc pm an cd ct), sl⟩) (c : codeIn K cd qual = true) (k : keepIn K (.ref f) = true)
    (b : ∀ (kV doc pm : Value) (an : Option Addr) (cdv ct : Value) (us : List Value), us.length = ps.length → bindArgs (fnOf x qual (L2.defArgs st) (L2.defBody st) (L2.defScope st) .none kV doc pm an cdv ct) ⟨us, []⟩ = pure (ps.zip us)) : ∃ f fd, Meth K C m f ∧ Fun K x qual st f fd ∧ Binds K fd ps [] :=
  ⟨f, _, ⟨a, fn, k⟩, L2.fun_mk l c k, (L2.fun_mk (st := st) l c k).binds b⟩
theorem prop_mk {m : Str} {rest : List Value} (a : findIn K (.ref C) m = some (some (.ref pa))) (g : specialIn K (.ref pa) "__get__" = some (some (.builtin "property.__get__"))) (t : takesIn K (.ref pa) = some true) (r : recIn K pa "property" = some (.ref f :: rest))
    (l : K.lookup f = some ⟨oc, od, .func (fnOf x qual (L2.defArgs st) (L2.defBody st) (L2.defScope st) .none kV dc pm an cd ct), sl⟩) (c : codeIn K cd qual = true) (k : keepIn K (.ref f) = true)
    (b : ∀ (kV doc pm : Value) (an : Option Addr) (cdv ct : Value) (us : List Value), us.length = ps.length → bindArgs (fnOf x qual (L2.defArgs st) (L2.defBody st) (L2.defScope st) .none kV doc pm an cdv ct) ⟨us, []⟩ = pure (ps.zip us)) : ∃ pa f fd, PropOf K C m pa f ∧ Fun K x qual st f fd ∧ Binds K fd ps [] :=
  ⟨pa, f, _, ⟨a, g, t, ⟨rest, r⟩⟩, L2.fun_mk l c k, (L2.fun_mk (st := st) l c k).binds b⟩
end
theorem fun_m {K : Frag} {f : Addr} {x qual : Str} {st : Stmt} {ps : List Str} {oc kV dc pm cd ct : Value} {od an : Option Addr} {sl : Array (Option Value)}
    (l : K.lookup f = some ⟨oc, od, .func (fnOf x qual (L2.defArgs st) (L2.defBody st) (L2.defScope st) .none kV dc pm an cd ct), sl⟩) (c : codeIn K cd qual = true) (k : keepIn K (.ref f) = true)
    (b : ∀ (kV doc pm : Value) (an : Option Addr) (cdv ct : Value) (us : List Value), us.length = ps.length → bindArgs (fnOf x qual (L2.defArgs st) (L2.defBody st) (L2.defScope st) .none kV doc pm an cdv ct) ⟨us, []⟩ = pure (ps.zip us)) : ∃ fd, Fun K x qual st f fd ∧ Binds K fd ps [] :=
  ⟨_, L2.fun_mk l c k, (L2.fun_mk (st := st) l c k).binds b⟩
/-- an __init__ that calls the base's -/
theorem sup_mk {P : Program} {K : Frag} {h : Heap} {mg : Str → Option Value} {C D fI fD cda cc : Addr} {q qD : Str} {st stD : Stmt} {psD : List Str} {cdC cdD : ClassData} {c0 : Value} {d0 : Option Addr} {sl0 : Array (Option Value)} {oc ccl cl : Value} {od an cdd cld : Option Addr} {doc pm ct : Value} {osl ccs csl : Array (Option Value)} {vs : Array Value} {file : Str} {tf : Tok}
    {c9 : Value} {d9 : Option Addr} {sl9 : Array (Option Value)} (X : K.In h) (G : h.Ns mainGlobals mg) (mk : makesIn K C = true) (i : findIn K (.ref C) "__init__" = some (some (.ref fI))) (fn : isFn K (.ref fI) = true) (kp : keepIn K (.ref C) = true)
    (l1 : K.lookup fI = some ⟨oc, od, .func (ksFn "__init__" q (L2.defArgs st) (L2.defBody st) (L2.defScope st) .none .none doc pm an (.ref cda) ct cc), osl⟩) (c1 : codeIn K (.ref cda) q = true)
    (l2 : K.lookup cda = some ⟨ccl, cdd, .fields vs, ccs⟩) (v2 : vs[2]? = some (.str file tf)) (fe : ((P.main.file : Str) == file) = true) (l3 : K.lookup cc = some ⟨cl, cld, .cell (some (.ref C)), csl⟩)
    (lC : K.lookup C = some ⟨c0, d0, .cls cdC, sl0⟩) (lD : K.lookup D = some ⟨c9, d9, .cls cdD, sl9⟩) (mro : cdC.mro = .ref C :: cdD.mro) (iD : findIn K (.ref D) "__init__" = some (some (.ref fD))) (tD : typeIn K (.ref fD) = some (.type "function")) (fiD : fnIn K fD = true)
    (opq : nsIn K cStatics "thirdparty.any" = some none) (slf : mroIn K C (.ref C) = some true) (sn : nsIn K mainGlobals "super" = some none) (top : (P.main.scope.names.lookup ("super" : Str)).isSome = false)
    (F : ∃ fd, Fun K "__init__" qD stD fD fd ∧ Binds K fd psD [])
    (b : ∀ (doc pm : Value) (an : Option Addr) (cda : Addr) (ct : Value) (cc : Addr) (us : List Value), us.length = 1 → bindArgs (ksFn "__init__" q (L2.defArgs st) (L2.defBody st) (L2.defScope st) .none .none doc pm an (.ref cda) ct cc) ⟨us, []⟩ = pure ((["self"] : List Str).zip us)) :
    ∃ f fd fD fdD, Mk K C f ∧ OwnSup P K C f fD q st fd ∧ Fun K "__init__" qD stD fD fdD ∧ Binds K fdD psD [] ∧ Binds K fd ["self"] [] ∧ mg "super" = none := by
  obtain ⟨fdD, FD, bD⟩ := F
  have hC : clsIn K C = some cdC := by
    unfold clsIn
    rw [lC]
  have sup : ks_superIn K C C "__init__" = some (some (.ref fD)) := by
    unfold ks_superIn
    rw [hC]
    show alongIn K "__init__" ((cdC.mro.dropWhile (· != .ref C)).drop 1) = _
    rw [mro, ESX.drop_own C cdD.mro]
    have iD2 : (match K.lookup D with
      | some ⟨_, _, .cls cd, _⟩ => alongIn K "__init__" cd.mro
      | _ => none) = some (some (.ref fD)) := iD
    rw [lD] at iD2
    exact iD2
  exact ⟨fI, _, fD, fdD, ⟨mk, i, fn, kp⟩, ⟨⟨oc, ccl, cl, od, an, cdd, cld, doc, pm, ct, osl, ccs, csl, cda, cc, vs, file, tf, rfl, l1, c1, l2, v2, fe, l3⟩, ⟨c0, d0, cdC, sl0, lC⟩, sup, tD, fiD, opq, slf, sn, top⟩, FD, bD, Binds.all (b doc pm an cda ct cc), mg_none_of X G sn⟩
/-- a tuple of ints; a tuple of two ints and such a one; a tuple of one such -/
theorem gd_poly {K : Frag} {h : Heap} {mg : Str → Option Value} {x : Str} {a b c : Addr} {d1 d2 d3 : Option Addr} {n1 n2 n3 : Nat} {s1 s2 s3 : Array (Option Value)} {t1 t2 t3 t4 : Tok} {i j k l : Int} (X : K.In h) (G : h.Ns mainGlobals mg) (e : nsIn K mainGlobals x = some (some (.ref a)))
    (l1 : K.lookup a = some ⟨.type "tuple", d1, .seq #[.ref b] n1, s1⟩) (l2 : K.lookup b = some ⟨.type "tuple", d2, .seq #[.int i t1, .int j t2, .ref c] n2, s2⟩) (l3 : K.lookup c = some ⟨.type "tuple", d3, .seq #[.int k t3, .int l t4] n3, s3⟩) :
    GlobD K mg x (.tup [.tup [.int i, .int j, .tup [.int k, .int l]]]) :=
  ⟨a, mg_of X G e, fun F => rp_known (its := [.ref b]) (vs := [.ref b]) l1 (by simp) (.cons rfl .nil) (.cons
    (rp_known (its := [.int i t1, .int j t2, .ref c]) (vs := [.int i, .int j, .ref c]) l2 (by simp) (.cons ⟨_, rfl⟩ (.cons ⟨_, rfl⟩ (.cons rfl .nil))) (.cons (.int i) (.cons (.int j) (.cons
      (rp_known (its := [.int k t3, .int l t4]) (vs := [.int k, .int l]) l3 (by simp) (.cons ⟨_, rfl⟩ (.cons ⟨_, rfl⟩ .nil)) (.cons (.int k) (.cons (.int l) .nil))) .nil)))) .nil)⟩
end Py
end
section
set_option Elab.async false
set_option linter.all false
set_option maxRecDepth 100000
set_option maxHeartbeats 4000000
/-! The facts of the top by one kernel run: what the Bools say. -/
namespace Py
open PySem PySem.W PySem.Spec PyProof.Rows L2

theorem noV_eq {v : Value} (h : noV v = true) : v = .none := by cases v <;> first | rfl | cases h
theorem plB_of {K : Frag} {d : Fq} {a : Addr} (e : vw K a = d.val) (c : plB K a d.qual = true) :
    ∃ oc od osl kV doc pm an cdv ct, K.lookup a = some ⟨oc, od, .func (fnOf d.name d.qual (L2.defArgs d.st) (L2.defBody d.st) (L2.defScope d.st) .none kV doc pm an cdv ct), osl⟩ ∧ codeIn K cdv d.qual = true ∧ keepIn K (.ref a) = true := by
  have kp : ∀ {oc od fd osl}, K.lookup a = some ⟨oc, od, .func fd, osl⟩ → keepIn K (.ref a) = true := fun e => by
    simp [keepIn, e]
  unfold vw at e
  unfold plB at c
  cases q : K.lookup a with
  | none => rw [q] at c; cases c
  | some o =>
    obtain ⟨oc, od, dt, osl⟩ := o
    rw [q] at c e
    cases dt with
    | func fd =>
      have k1 := kp q
      obtain ⟨n1, n2, n3, n4, n5, n6, n7, n8, n9, n10, n11, n12, n13, n14, n15⟩ := fd
      have e2 : (some (n1, n2, n3, n4, n5, n6, n15) : VwT) = some (d.name, d.qual, L2.defArgs d.st, .stmts (L2.defBody d.st), L2.defScope d.st, mainGlobals, builtinsNs) := e
      simp only [Option.some.injEq, Prod.mk.injEq] at e2
      obtain ⟨h1, h2, h3, h4, h5, h6, h9⟩ := e2
      subst h1 h2 h3 h4 h5 h6 h9
      have c2 : (n7.isEmpty && (noV n8 && codeIn K n13 d.qual)) = true := c
      simp only [Bool.and_eq_true] at c2
      obtain ⟨c3, c4, c5⟩ := c2
      have h7 : n7 = [] := List.isEmpty_iff.mp c3
      have h8 := noV_eq c4
      subst h7 h8
      exact ⟨oc, od, osl, n9, n10, n11, n12, n13, n14, rfl, c5, k1⟩
    | _ => cases c
theorem fileB_of {P : Program} {o : Option Obj} (h : fileB P o = true) : ∃ (ccl : Value) (cdd : Option Addr) (vs : Array Value) (ccs : Array (Option Value)) (file : Str) (tf : Tok), o = some ⟨ccl, cdd, .fields vs, ccs⟩ ∧ vs[2]? = some (.str file tf) ∧ ((P.main.file : Str) == file) = true := by
  unfold fileB at h
  split at h
  · split at h
    · rename_i l
      exact ⟨_, _, _, _, _, _, rfl, l, h⟩
    · cases h
  · cases h
theorem cellB_of {o : Option Obj} {C : Addr} (h : cellB o C = true) : ∃ (cl : Value) (cld : Option Addr) (csl : Array (Option Value)), o = some ⟨cl, cld, .cell (some (.ref C)), csl⟩ := by
  unfold cellB at h
  split at h
  · have := beq_iff_eq.mp h
    subst this
    exact ⟨_, _, _, rfl⟩
  · cases h
/-- .. of a class's body that names __class__ -/
theorem celB_of {P : Program} {K : Frag} {d : Fq} {a C : Addr} (e : vw K a = d.val) (c : celB P K a d.qual C = true) :
    ∃ (oc ccl cl : Value) (od an cdd cld : Option Addr) (doc pm ct : Value) (osl ccs csl : Array (Option Value)) (cda cc : Addr) (vs : Array Value) (file : Str) (tf : Tok),
      K.lookup a = some ⟨oc, od, .func (ksFn d.name d.qual (L2.defArgs d.st) (L2.defBody d.st) (L2.defScope d.st) .none .none doc pm an (.ref cda) ct cc), osl⟩ ∧ codeIn K (.ref cda) d.qual = true ∧
      K.lookup cda = some ⟨ccl, cdd, .fields vs, ccs⟩ ∧ vs[2]? = some (.str file tf) ∧ ((P.main.file : Str) == file) = true ∧ K.lookup cc = some ⟨cl, cld, .cell (some (.ref C)), csl⟩ := by
  unfold vw at e
  unfold celB at c
  cases q : K.lookup a with
  | none => rw [q] at c; cases c
  | some o =>
    obtain ⟨oc, od, dt, osl⟩ := o
    rw [q] at c e
    cases dt with
    | func fd =>
      obtain ⟨n1, n2, n3, n4, n5, n6, n7, n8, n9, n10, n11, n12, n13, n14, n15⟩ := fd
      have e2 : (some (n1, n2, n3, n4, n5, n6, n15) : VwT) = some (d.name, d.qual, L2.defArgs d.st, .stmts (L2.defBody d.st), L2.defScope d.st, mainGlobals, builtinsNs) := e
      simp only [Option.some.injEq, Prod.mk.injEq] at e2
      obtain ⟨h1, h2, h3, h4, h5, h6, h9⟩ := e2
      subst h1 h2 h3 h4 h5 h6 h9
      simp only at c
      split at c
      · rename_i x cc cda
        simp only [Bool.and_eq_true] at c
        obtain ⟨c1, c2, c3, c4, c5, c6⟩ := c
        have h1 := beq_iff_eq.mp c1
        have h8 := noV_eq c2
        have h9 := noV_eq c3
        subst h1 h8 h9
        obtain ⟨ccl, cdd, vs, ccs, file, tf, l5, l6, l7⟩ := fileB_of c5
        obtain ⟨cl, cld, csl, l8⟩ := cellB_of c6
        exact ⟨oc, ccl, cl, od, _, cdd, cld, _, _, _, osl, ccs, csl, cda, cc, vs, file, tf, rfl, c4, l5, l6, l7, l8⟩
      · cases c
    | _ => cases c
theorem clsB_of {K : Frag} {C D : Addr} (c : clsB K C D = true) : ∃ nm qq N bs sn sub ab col dd k0 k1 k2 k3 k5, K.lookup C = some (excClassObj nm qq C N bs (errTail D) true sn sub ab col dd k0 k1 k2 k3 k5 "Exception.__new__") := by
  unfold clsB at c
  cases q : K.lookup C with
  | none => rw [q] at c; cases c
  | some o =>
    rw [q] at c
    obtain ⟨oc, dd, dt, sl⟩ := o
    cases oc with
    | type t =>
      cases dt with
      | cls cd =>
        simp only [Bool.and_eq_true, decide_eq_true_eq, Bool.not_eq_true'] at c
        obtain ⟨c1, c2, c3, c4, c5⟩ := c
        have := beq_iff_eq.mp c1
        subst this
        obtain ⟨m1, m2, m3, m4, m5, m6, m7, m8, m9, m10, m11⟩ := cd
        simp only at c2 c3 c4
        subst c2 c3 c4
        obtain ⟨l⟩ := sl
        simp only at c5
        split at c5
        · have := beq_iff_eq.mp c5
          subst this
          exact ⟨_, _, _, _, _, _, _, _, _, _, _, _, _, _, rfl⟩
        · cases c5
      | _ => cases c
    | _ => cases c
theorem errB_of {P : Program} {K : Frag} {d : Fq} {C D fI : Addr} (e : vw K fI = d.val) (nm : d.name = "__init__") (c : errB P K C D fI d.qual = true) (top : (P.main.scope.names.lookup ("super" : Str)).isSome = false) : ErrCls P K C D fI d.qual d.st := by
  unfold errB at c
  simp only [Bool.and_eq_true, decide_eq_true_eq] at c
  obtain ⟨c1, c2, c3, c4, c5, c6, c7, c8, c9, c10, c11, c12, c13, c14, c15, c16⟩ := c
  obtain ⟨oc, ccl, cl, od, an, cdd, cld, doc, pm, ct, osl, ccs, csl, cda, cc, vs, file, tf, l1, k1, l2, v2, fe, l3⟩ := celB_of e c15
  rw [nm] at l1
  exact ⟨clsB_of c2, He.eqO_ok c3, He.eqO_ok c4, c5, c6, He.eqO_ok c7, He.eqO_ok c1, c8, c9, c10, c11, He.eqO_ok c12, He.eqO_ok c13, c14, ⟨oc, ccl, cl, od, an, cdd, cld, doc, pm, ct, osl, ccs, csl, cda, cc, vs, file, tf, l1, k1, l2, v2, fe, l3⟩, He.eqO_ok c16, top⟩
theorem mroB_of {K : Frag} {C D : Addr} (h : mroB K C D = true) : ∃ c0 d0 cdC sl0 c9 d9 cdD sl9, K.lookup C = some ⟨c0, d0, .cls cdC, sl0⟩ ∧ K.lookup D = some ⟨c9, d9, .cls cdD, sl9⟩ ∧ cdC.mro = .ref C :: cdD.mro := by
  unfold mroB at h
  split at h
  · rename_i l1 l2
    exact ⟨_, _, _, _, _, _, _, _, l1, l2, of_decide_eq_true h⟩
  · cases h
theorem supB_of {P : Program} {K : Frag} {h : Heap} {mg : Str → Option Value} {d dD : Fq} {C D fI fD : Addr} {psD : List Str} (X : K.In h) (G : h.Ns mainGlobals mg) (e : vw K fI = d.val) (nm : d.name = "__init__") (eD : vw K fD = dD.val) (nmD : dD.name = "__init__") (c : supB P K C D fI fD d.qual = true) (cD : plB K fD dD.qual = true) (top : (P.main.scope.names.lookup ("super" : Str)).isSome = false)
    (bD : ∀ (kV doc pm : Value) (an : Option Addr) (cdv ct : Value) (us : List Value), us.length = psD.length → bindArgs (fnOf "__init__" dD.qual (L2.defArgs dD.st) (L2.defBody dD.st) (L2.defScope dD.st) .none kV doc pm an cdv ct) ⟨us, []⟩ = pure (psD.zip us))
    (b : ∀ (doc pm : Value) (an : Option Addr) (cda : Addr) (ct : Value) (cc : Addr) (us : List Value), us.length = 1 → bindArgs (ksFn "__init__" d.qual (L2.defArgs d.st) (L2.defBody d.st) (L2.defScope d.st) .none .none doc pm an (.ref cda) ct cc) ⟨us, []⟩ = pure ((["self"] : List Str).zip us)) :
    ∃ f fd fD fdD, Mk K C f ∧ OwnSup P K C f fD d.qual d.st fd ∧ Fun K "__init__" dD.qual dD.st fD fdD ∧ Binds K fdD psD [] ∧ Binds K fd ["self"] [] ∧ mg "super" = none := by
  unfold supB at c
  simp only [Bool.and_eq_true, decide_eq_true_eq] at c
  obtain ⟨c1, c2, c3, c4, c5, c6, c7, c8, c9, c10, c11, c12⟩ := c
  obtain ⟨oc, ccl, cl, od, an, cdd, cld, doc, pm, ct, osl, ccs, csl, cda, cc, vs, file, tf, l1, k1, l2, v2, fe, l3⟩ := celB_of e c5
  rw [nm] at l1
  obtain ⟨c0, d0, cdC, sl0, k9, d9, cdD, sl9, lC, lD, mro⟩ := mroB_of c6
  obtain ⟨oc', od', osl', kV', doc', pm', an', cdv', ct', lf, lc, lk⟩ := plB_of eD cD
  rw [nmD] at lf
  exact sup_mk X G c1 (He.eqO_ok c2) c3 c4 l1 k1 l2 v2 fe l3 lC lD mro (He.eqO_ok c7) c8 c9 (He.eqO_ok c10) c11 (He.eqO_ok c12) top (fun_m lf lc lk bD) b
section
variable {K : Frag} {h : Heap} {mg : Str → Option Value} {d : Fq} {C f : Addr} {ps : List Str} {x : Str}
theorem defQ (X : K.In h) (G : h.Ns mainGlobals mg) (e : vw K (He.ga K d.name) = d.val) (nm : d.qual = d.name) (g : gloB K d.name = true) (c : plB K (He.ga K d.name) d.qual = true)
    (b : ∀ (kV doc pm : Value) (an : Option Addr) (cdv ct : Value) (us : List Value), us.length = ps.length → bindArgs (fnOf d.name d.name (L2.defArgs d.st) (L2.defBody d.st) (L2.defScope d.st) .none kV doc pm an cdv ct) ⟨us, []⟩ = pure (ps.zip us)) : DefAt K mg d.name d.st ps := by
  obtain ⟨oc, od, osl, kV, doc, pm, an, cdv, ct, l, k1, k2⟩ := plB_of e c
  rw [nm] at l k1
  exact def_mk X G (He.eqO_ok g) l k1 k2 b
theorem metQ {m : Str} (e : vw K f = d.val) (nm : d.name = m) (a : He.eqO (findIn K (.ref C) m) (some (some (.ref f))) = true) (fn : isFn K (.ref f) = true) (c : plB K f d.qual = true)
    (b : ∀ (kV doc pm : Value) (an : Option Addr) (cdv ct : Value) (us : List Value), us.length = ps.length → bindArgs (fnOf m d.qual (L2.defArgs d.st) (L2.defBody d.st) (L2.defScope d.st) .none kV doc pm an cdv ct) ⟨us, []⟩ = pure (ps.zip us)) : ∃ f fd, Meth K C m f ∧ Fun K m d.qual d.st f fd ∧ Binds K fd ps [] := by
  obtain ⟨oc, od, osl, kV, doc, pm, an, cdv, ct, l, k1, k2⟩ := plB_of e c
  rw [nm] at l
  exact met_mk (He.eqO_ok a) fn l k1 k2 b
theorem iniQ (e : vw K f = d.val) (nm : d.name = "__init__") (mk : makesIn K C = true) (a : He.eqO (findIn K (.ref C) "__init__") (some (some (.ref f))) = true) (fn : isFn K (.ref f) = true) (kp : keepIn K (.ref C) = true) (c : plB K f d.qual = true)
    (b : ∀ (kV doc pm : Value) (an : Option Addr) (cdv ct : Value) (us : List Value), us.length = ps.length → bindArgs (fnOf "__init__" d.qual (L2.defArgs d.st) (L2.defBody d.st) (L2.defScope d.st) .none kV doc pm an cdv ct) ⟨us, []⟩ = pure (ps.zip us)) : ∃ f fd, Mk K C f ∧ Fun K "__init__" d.qual d.st f fd ∧ Binds K fd ps [] := by
  obtain ⟨oc, od, osl, kV, doc, pm, an, cdv, ct, l, k1, k2⟩ := plB_of e c
  rw [nm] at l
  exact ini_mk mk (He.eqO_ok a) fn kp l k1 k2 b
/-- the function behind a property -/
theorem proQ {m : Str} (e : vw K (pfA K C m) = d.val) (nm : d.name = m) (p : proB K C m = true) (c : plB K (pfA K C m) d.qual = true)
    (b : ∀ (kV doc pm : Value) (an : Option Addr) (cdv ct : Value) (us : List Value), us.length = ps.length → bindArgs (fnOf m d.qual (L2.defArgs d.st) (L2.defBody d.st) (L2.defScope d.st) .none kV doc pm an cdv ct) ⟨us, []⟩ = pure (ps.zip us)) : ∃ pa f fd, PropOf K C m pa f ∧ Fun K m d.qual d.st f fd ∧ Binds K fd ps [] := by
  obtain ⟨oc, od, osl, kV, doc, pm, an, cdv, ct, l, k1, k2⟩ := plB_of e c
  rw [nm] at l
  unfold proB at p
  simp only [Bool.and_eq_true, decide_eq_true_eq] at p
  obtain ⟨p1, p2, p3, p4⟩ := p
  cases q : recIn K (He.ma K C m) "property" with
  | none => rw [q] at p4; cases p4
  | some l4 =>
    rw [q] at p4
    cases l4 with
    | nil => cases p4
    | cons v r =>
      cases v with
      | ref f0 =>
        have ef : pfA K C m = f0 := by
          unfold pfA
          rw [q]
        rw [ef] at l k2
        exact prop_mk (He.eqO_ok p1) (He.eqO_ok p2) p3 q l k1 k2 b
      | _ => cases p4
/-- a tuple of one tuple of two ints and a tuple of two ints -/
theorem arr_of {a : Array Value} {l : List Value} (h : a.toList = l) : a = l.toArray := by rw [← h]
theorem polB_of {i j k l : Int} (X : K.In h) (G : h.Ns mainGlobals mg) (c : polB K x i j k l = true) : GlobD K mg x (.tup [.tup [.int i, .int j, .tup [.int k, .int l]]]) := by
  unfold polB at c
  simp only [Bool.and_eq_true] at c
  obtain ⟨g, c⟩ := c
  split at c
  · rename_i l1
    simp only [Bool.and_eq_true] at c
    obtain ⟨t1, c⟩ := c
    split at c
    · rename_i e1
      split at c
      · rename_i l2
        simp only [Bool.and_eq_true] at c
        obtain ⟨t2, c⟩ := c
        split at c
        · rename_i e2
          simp only [Bool.and_eq_true, decide_eq_true_eq] at c
          obtain ⟨i1, j1, c⟩ := c
          split at c
          · rename_i l3
            simp only [Bool.and_eq_true] at c
            obtain ⟨t3, c⟩ := c
            split at c
            · rename_i e3
              simp only [Bool.and_eq_true, decide_eq_true_eq] at c
              obtain ⟨k1, m1⟩ := c
              have t1 := beq_iff_eq.mp t1
              have t2 := beq_iff_eq.mp t2
              have t3 := beq_iff_eq.mp t3
              subst t1 t2 t3 i1 j1 k1 m1
              rw [arr_of e1] at l1
              rw [arr_of e2] at l2
              rw [arr_of e3] at l3
              exact gd_poly X G (He.eqO_ok g) l1 l2 l3
            · cases c
          · cases c
        · cases c
      · cases c
    · cases c
  · cases c
end
theorem ownB_of {K : Frag} {C : Addr} (c : ownB K C = true) : Cls K C ∧ OwnTy K C := by
  unfold ownB at c
  simp only [Bool.and_eq_true, decide_eq_true_eq] at c
  obtain ⟨c1, c2, c3, c4, c5, c6, c7, c8⟩ := c
  exact ⟨⟨c1, c2, c3, He.eqO_ok c4⟩, ownTy_mk ⟨c1, c2, c3, He.eqO_ok c4⟩ (He.eqO_ok c5) (He.eqO_ok c6) c7 c8⟩
theorem SaysQ.b {bs : List (Frag → Bool)} {fs : List Fq} {K : Frag} (c : SaysQ bs fs K) (i : Nat) {b : Frag → Bool} (h : bs[i]? = some b) : b K = true := by
  have e : (bs.all fun b => b K) = true := congrArg (fun z : AlQ => z.1) c
  exact List.all_eq_true.mp e b (List.mem_of_getElem? h)
theorem SaysQ.f {bs : List (Frag → Bool)} {fs : List Fq} {K : Frag} (c : SaysQ bs fs K) (i : Nat) {d : Fq} (h : fs[i]? = some d) : vw K (d.at_ K) = d.val := by
  have e : (fs.map fun d => vw K (d.at_ K)) = fs.map Fq.val := congrArg (fun z : AlQ => z.2) c
  have := congrArg (fun z => z[i]?) e
  simp only [List.getElem?_map, h, Option.map_some] at this
  exact Option.some.inj this
end Py
end
section
set_option Elab.async false
set_option linter.all false
set_option maxRecDepth 100000
/-! Binomials, factorials, the sums, sizes. -/
namespace K89
open PySem L2 Py
def ch : Nat → Nat → Nat
  | _, 0 => 1
  | 0, _ + 1 => 0
  | n + 1, k + 1 => ch n k + ch n (k + 1)
def fac : Nat → Nat
  | 0 => 1
  | n + 1 => fac n * (n + 1)
theorem fac_pos : ∀ n, 0 < fac n
  | 0 => by decide
  | n + 1 => Nat.mul_pos (fac_pos n) (Nat.succ_pos n)
theorem ch_zero (n : Nat) : ch n 0 = 1 := by cases n <;> rfl
theorem ch_gt : ∀ {n k : Nat}, n < k → ch n k = 0
  | 0, 0, h => by omega
  | 0, k + 1, _ => rfl
  | n + 1, 0, h => by omega
  | n + 1, k + 1, h => by
    show ch n k + ch n (k + 1) = 0
    rw [ch_gt (by omega), ch_gt (by omega)]
theorem ch_self : ∀ n, ch n n = 1
  | 0 => rfl
  | n + 1 => by
    show ch n n + ch n (n + 1) = 1
    rw [ch_self n, ch_gt (by omega)]
theorem ch_fac : ∀ (k m : Nat), ch (k + m) k * (fac k * fac m) = fac (k + m)
  | 0, m => by rw [ch_zero, Nat.zero_add]; simp [fac]
  | k + 1, 0 => by
    show ch (k + 1) (k + 1) * (fac (k + 1) * fac 0) = fac (k + 1)
    rw [ch_self]; simp [fac]
  | k + 1, m + 1 => by
    have h1 := ch_fac k (m + 1)
    have h2 := ch_fac (k + 1) m
    have e : k + 1 + (m + 1) = (k + m + 1) + 1 := by omega
    rw [show k + (m + 1) = k + m + 1 by omega] at h1
    rw [show k + 1 + m = k + m + 1 by omega] at h2
    rw [e]
    show (ch (k + m + 1) k + ch (k + m + 1) (k + 1)) * (fac (k + 1) * fac (m + 1)) = fac (k + m + 1) * (k + m + 1 + 1)
    have a1 : ch (k + m + 1) k * (fac (k + 1) * fac (m + 1)) = fac (k + m + 1) * (k + 1) := by
      rw [← h1]; show _ * (fac k * (k + 1) * _) = _; simp only [Nat.mul_assoc, Nat.mul_comm, Nat.mul_left_comm]
    have a2 : ch (k + m + 1) (k + 1) * (fac (k + 1) * fac (m + 1)) = fac (k + m + 1) * (m + 1) := by
      rw [← h2]; show _ * (_ * (fac m * (m + 1))) = _; simp only [Nat.mul_assoc, Nat.mul_comm, Nat.mul_left_comm]
    rw [Nat.add_mul, a1, a2, ← Nat.mul_add]
    congr 1
theorem ch_pos {n k : Nat} (h : k ≤ n) : 0 < ch n k := by
  have := ch_fac k (n - k)
  rw [show k + (n - k) = n by omega] at this
  have p := fac_pos n
  rw [← this] at p
  exact Nat.pos_of_mul_pos_right p
theorem ch_symm {n k : Nat} (h : k ≤ n) : ch n (n - k) = ch n k := by
  have h1 := ch_fac k (n - k)
  have h2 := ch_fac (n - k) k
  rw [show k + (n - k) = n by omega] at h1
  rw [show n - k + k = n by omega] at h2
  rw [Nat.mul_comm (fac (n - k))] at h2
  have p := Nat.mul_pos (fac_pos k) (fac_pos (n - k))
  exact Nat.eq_of_mul_eq_mul_right p (h2.trans h1.symm)
theorem ch_step {n k : Nat} (h : k ≤ n) : ch n k * (n - k) = ch n (k + 1) * (k + 1) := by
  by_cases e : k = n
  · subst e
    rw [ch_gt (Nat.lt_succ_self k)]
    simp
  · have h1 := ch_fac k (n - k)
    have h2 := ch_fac (k + 1) (n - k - 1)
    rw [show k + (n - k) = n by omega] at h1
    rw [show k + 1 + (n - k - 1) = n by omega] at h2
    have p := Nat.mul_pos (fac_pos k) (fac_pos (n - k - 1))
    refine Nat.eq_of_mul_eq_mul_right p ?_
    have e1 : fac (n - k) = fac (n - k - 1) * (n - k) := by
      rw [show n - k = (n - k - 1) + 1 by omega]; rfl
    have e2 : fac (k + 1) = fac k * (k + 1) := rfl
    calc ch n k * (n - k) * (fac k * fac (n - k - 1)) = ch n k * (fac k * (fac (n - k - 1) * (n - k))) := by simp only [Nat.mul_assoc, Nat.mul_comm, Nat.mul_left_comm]
      _ = fac n := by rw [← e1, h1]
      _ = ch n (k + 1) * (fac (k + 1) * fac (n - k - 1)) := h2.symm
      _ = ch n (k + 1) * (k + 1) * (fac k * fac (n - k - 1)) := by rw [e2]; simp only [Nat.mul_assoc, Nat.mul_comm, Nat.mul_left_comm]
theorem ch_step2 (n k : Nat) : ch (n + k) k * (n + k + 1) = ch (n + (k + 1)) (k + 1) * (k + 1) := by
  have h1 := ch_fac k n
  have h2 := ch_fac (k + 1) n
  rw [Nat.add_comm k n] at h1
  rw [show k + 1 + n = n + k + 1 by omega] at h2
  have p := Nat.mul_pos (fac_pos k) (fac_pos n)
  refine Nat.eq_of_mul_eq_mul_right p ?_
  have e2 : fac (k + 1) = fac k * (k + 1) := rfl
  calc ch (n + k) k * (n + k + 1) * (fac k * fac n) = ch (n + k) k * (fac k * fac n) * (n + k + 1) := by simp only [Nat.mul_assoc, Nat.mul_comm, Nat.mul_left_comm]
    _ = fac (n + k + 1) := by rw [h1]; rfl
    _ = ch (n + k + 1) (k + 1) * (fac (k + 1) * fac n) := h2.symm
    _ = ch (n + (k + 1)) (k + 1) * (k + 1) * (fac k * fac n) := by rw [e2, Nat.add_assoc]; simp only [Nat.mul_assoc, Nat.mul_comm, Nat.mul_left_comm]
theorem ch_le : ∀ n k, ch n k ≤ 2 ^ n
  | n, 0 => by rw [ch_zero]; exact Nat.one_le_two_pow
  | 0, k + 1 => Nat.zero_le _
  | n + 1, k + 1 => by
    have := ch_le n k
    have := ch_le n (k + 1)
    show ch n k + ch n (k + 1) ≤ 2 ^ (n + 1)
    rw [Nat.pow_succ]
    omega
/-! the kit's words -/
theorem factorialNat_eq (n : Nat) : Builtin.Math.factorialNat n = fac n := by
  induction n with
  | zero => rfl
  | succ n ih =>
    unfold Builtin.Math.factorialNat at *
    rw [List.range_succ, List.foldl_append, ih]
    rfl
theorem fall_eq (n m : Nat) : Builtin.Math.fallingProduct ((n + m : Nat) : Int) m * (fac n : Nat) = (fac (n + m) : Nat) := by
  induction m generalizing n with
  | zero => show (1 : Int) * _ = _; simp
  | succ m ih =>
    have h := ih (n + 1)
    rw [show n + 1 + m = n + (m + 1) by omega] at h
    have e : Builtin.Math.fallingProduct ((n + (m + 1) : Nat) : Int) (m + 1) = Builtin.Math.fallingProduct ((n + (m + 1) : Nat) : Int) m * (((n + (m + 1) : Nat) : Int) - (m : Int)) := by
      unfold Builtin.Math.fallingProduct
      rw [List.range_succ, List.foldl_append]
      rfl
    rw [e, ← h, show (((n + (m + 1) : Nat) : Int) - (m : Int)) = ((n + 1 : Nat) : Int) by omega]
    show _ = _ * ((fac n * (n + 1) : Nat) : Int)
    rw [Int.natCast_mul, Int.mul_assoc, Int.mul_comm ((n + 1 : Nat) : Int)]
theorem fall_ch {n m : Nat} (h : m ≤ n) : Builtin.Math.fallingProduct (n : Int) m = ((ch n m * fac m : Nat) : Int) := by
  have h1 := fall_eq (n - m) m
  rw [show n - m + m = n by omega] at h1
  have h2 := ch_fac m (n - m)
  rw [show m + (n - m) = n by omega] at h2
  have p : ((fac (n - m) : Nat) : Int) ≠ 0 := by have := fac_pos (n - m); omega
  refine Int.eq_of_mul_eq_mul_right p ?_
  rw [h1, ← h2]
  simp [Int.mul_assoc]
theorem mcComb_ch {n k : Nat} (h : k ≤ n) : PySem.W.mcComb n k = (ch n k : Nat) := by
  have hm : min (k : Int) ((n : Int) - k) = ((min k (n - k) : Nat) : Int) := by omega
  rw [PySem.W.mcComb_at (by omega) (by omega) hm, Int.toNat_natCast]
  have e1 := fall_ch (n := n) (m := min k (n - k)) (by omega)
  have e2 := fall_ch (n := min k (n - k)) (m := min k (n - k)) (by omega)
  rw [e1, e2, ch_self, Nat.one_mul, Int.natCast_mul, Int.mul_ediv_cancel _ (by have := fac_pos (min k (n - k)); omega)]
  by_cases q : k ≤ n - k
  · rw [Nat.min_eq_left q]
  · rw [Nat.min_eq_right (by omega), ch_symm h]
/-! the sums -/
def tm (a b : Nat) (c : Int) (n k : Nat) : Int := (ch n k : Int) ^ a * (ch (n + k) k : Int) ^ b * c ^ k
def PS (a b : Nat) (c : Int) (n : Nat) : Nat → Int
  | 0 => 0
  | j + 1 => PS a b c n j + tm a b c n j
def val (a b : Nat) (c : Int) (n : Nat) : Int := PS a b c n (n + 1)
def R (a b : Nat) (c : Int) (p n : Nat) : Int := val a b (c % p) n % p
def TB (a b : Nat) (c : Int) (p : Nat) : List Int := (List.range p).map (R a b c p)
/-! .. as the machine counts them -/
def vF (a b c n : Nat) : Nat → Nat → Nat → Nat → Nat → Nat → Nat
  | 0, _, total, _, _, _ => total
  | f + 1, k, total, one, two, pw => vF a b c n f (k + 1) (total + one ^ a * two ^ b * pw) (one * (n - k) / (k + 1)) (two * (n + k + 1) / (k + 1)) (pw * c)
theorem vF_eq {a b c n : Nat} : ∀ (f k total : Nat), k + f = n + 1 → (total : Int) = PS a b c n k → ((vF a b c n f k total (ch n k) (ch (n + k) k) (c ^ k) : Nat) : Int) = val a b c n
  | 0, k, total, h, e => by
    show (total : Int) = _
    rw [e, show k = n + 1 by omega]
    rfl
  | f + 1, k, total, h, e => by
    have h1 : ch n k * (n - k) / (k + 1) = ch n (k + 1) := by
      rw [ch_step (by omega), Nat.mul_div_cancel _ (Nat.succ_pos k)]
    have h2 : ch (n + k) k * (n + k + 1) / (k + 1) = ch (n + (k + 1)) (k + 1) := by
      rw [ch_step2, Nat.mul_div_cancel _ (Nat.succ_pos k)]
    show ((vF a b c n f (k + 1) (total + ch n k ^ a * ch (n + k) k ^ b * c ^ k) (ch n k * (n - k) / (k + 1)) (ch (n + k) k * (n + k + 1) / (k + 1)) (c ^ k * c) : Nat) : Int) = _
    rw [h1, h2, ← Nat.pow_succ]
    refine vF_eq f (k + 1) _ (by omega) ?_
    show _ = PS a b c n k + tm a b c n k
    rw [← e]
    simp [tm]
def vN (a b c n : Nat) : Nat := vF a b c n (n + 1) 0 0 1 1 1
theorem vN_eq (a b c n : Nat) : ((vN a b c n : Nat) : Int) = val a b c n := by
  have := vF_eq (a := a) (b := b) (c := c) (n := n) (n + 1) 0 0 (by omega) rfl
  rw [ch_zero, ch_zero, Nat.pow_zero] at this
  exact this
theorem R_eq (a b p n : Nat) (c : Int) (hp : 0 < p) : R a b c p n = ((vN a b (c % p).toNat n % p : Nat) : Int) := by
  have h : (((c % p).toNat : Nat) : Int) = c % p := Int.toNat_of_nonneg (Int.emod_nonneg _ (by omega))
  unfold R
  rw [Int.natCast_emod, vN_eq, h]
/-- how many of the first m the sum isn't divided -/
def cnt (a b c p : Nat) : Nat → Nat
  | 0 => 0
  | m + 1 => cnt a b c p m + if vN a b c m % p = 0 then 0 else 1
def PL : List Nat := [2, 3, 5, 7, 11, 13, 17, 19]
def okCount (a b p c : Nat) : Nat → Bool
  | 0 => true
  | w + 1 => okCount a b p c w && (decide (64 < p ^ (w + 1)) || decide (cnt a b c p (p ^ (w + 1)) = cnt a b c p p ^ (w + 1)))
def below (f : Nat → Bool) : Nat → Bool
  | 0 => true
  | n + 1 => below f n && f n
theorem below_at {f : Nat → Bool} : ∀ {n i : Nat}, below f n = true → i < n → f i = true
  | 0, i, _, h => by omega
  | n + 1, i, h, hi => by
    simp only [below, Bool.and_eq_true] at h
    by_cases e : i = n
    · rw [e]; exact h.2
    · exact below_at h.1 (by omega)
end K89
end
section
set_option Elab.async false
set_option linter.all false
set_option maxRecDepth 100000
/-! What the machine counts. -/
namespace K89
def chk (p : Nat) : Bool := below (fun c => below (fun a => below (fun b => okCount (a + 1) b p c 6) 5) 4) p
theorem chk2 : chk 2 = true := by decide +kernel
theorem chk3 : chk 3 = true := by decide +kernel
theorem chk5 : chk 5 = true := by decide +kernel
theorem chk7 : chk 7 = true := by decide +kernel
theorem chk11 : chk 11 = true := by decide +kernel
theorem chk13 : chk 13 = true := by decide +kernel
theorem chk17 : chk 17 = true := by decide +kernel
theorem chk19 : chk 19 = true := by decide +kernel
def TN (a b c p : Nat) : List Nat := (List.range p).map fun n => vN a b c n % p
def chkL (p : Nat) : Bool := decide ((TN 1 0 (p - 1) p).findIdx? (· == 0) = some 1) && decide ((TN 1 0 (p - 1) p).count 0 = p - 1) && decide ((TN 1 0 0 p).findIdx? (· == 0) = none) && decide ((TN 1 0 0 p).count 0 = 0)
theorem chkL_all : (PL.all chkL) = true := by decide +kernel
theorem chk_23 : ((TN 2 0 1 3).findIdx? (· == 0) = some 2) ∧ ((TN 1 0 1 3).findIdx? (· == 0) = none) := by decide +kernel
end K89
end
section
set_option linter.all false
set_option maxRecDepth 100000
/-! The promises of the defs. -/
namespace K89
open PySem L2 Py
structure Ad where
  BadInteger : Addr
  TooMuch : Addr
  IsZero : Addr
  Plain : Addr
  Pure : Addr
  Term2 : Addr
  Range : Addr
  Step : Addr
def isI : D → Bool
  | .int _ => true
  | _ => false
/-- at most n bits -/
def sb (n : Nat) (x : Int) : Prop := x.natAbs ≤ 2 ^ n
def n1 (x : Int) : D := .tup [.int x, .int 1]
def one2 : D := .tup [.tup [.int 0, .int 0, .tup [.int 1, .int 1]]]
def fd (Γ : Ad) : D := .obj Γ.Plain ["word", "base"] [.str "plain", .tup [.int 1, .int 1]]
def pureD (Γ : Ad) (c : Int) (T B : List (List Int)) : D := .obj Γ.Pure ["step", "s", "t", "square", "tops", "bottoms"] [fd Γ, n1 1, n1 c, tupD [0, 0, 0], .tup (T.map tupD), .tup (B.map tupD)]
def termD (Γ : Ad) (c : Int) (T B : List (List Int)) : D := .obj Γ.Term2 ["step", "top", "bottom", "pure"] [fd Γ, one2, one2, pureD Γ c T B]
def rangeD (Γ : Ad) : D := .obj Γ.Range ["low", "high", "start"] [.tup [.int 0, .int 0], .tup [.int 1, .int 0], .int 0]
def sizeF (w : List Int) (n k : Int) : Int := w.getD 0 0 * n + w.getD 1 0 * k + w.getD 2 0
/-- a form of the sums -/
def okF (w : List Int) : Prop := w = [1, 0, 0] ∨ w = [0, 1, 0] ∨ w = [1, 1, 0] ∨ w = [1, -1, 0]
def lessT : List (List Int) → List (List Int) → List (List Int)
  | [], _ => []
  | w :: r, left => if w ∈ left then lessT r (left.erase w) else w :: lessT r left
def topsL (a b : Nat) : List (List Int) := List.replicate (a - b) [1, 0, 0] ++ List.replicate b [1, 1, 0]
def botsL (a b : Nat) : List (List Int) := List.replicate (a + b) [0, 1, 0] ++ List.replicate a [1, -1, 0] ++ List.replicate (b - a) [1, 0, 0]
def facs (L : List (List Int)) (n k : Int) : Int := (L.map fun w => ((fac (sizeF w n k).toNat : Nat) : Int)).foldr (· * ·) 1
/-! the refusals -/
def okA : D → Bool
  | .int i => decide (1 ≤ i ∧ i ≤ 4)
  | _ => false
def okB : D → Bool
  | .int i => decide (0 ≤ i ∧ i ≤ 4)
  | _ => false
def dgBad (a b c : D) : Option D := if okA a = false then some a else if okB b = false then some b else if isI c = false then some c else none
def plBad : D → Option D
  | .int i => if i < 0 then some (.int i) else none
  | d => some d
def divs (i : Int) : Bool := (List.range' 2 13).any fun d => decide ((d : Int) < i) && decide (i % d = 0)
def prBad : D → Option D
  | .int i => if i < 2 ∨ 200 < i ∨ divs i = true then some (.int i) else none
  | d => some d
def refd (Γ : Ad) (E : PX → List Int → Prop) (S : List Int) (o : Option D) (k : Prop) : Prop := match o with
  | some d => E ⟨Γ.BadInteger, ["handed"], [d]⟩ S
  | none => k
def natD : D → Nat
  | .int i => i.toNat
  | _ => 0
def intD : D → Int
  | .int i => i
  | _ => 0
def fstD : Option Nat → D
  | none => .non
  | some j => .int j

def sp_nu_integer (Γ : Ad) : PSpec := fun rs S Q _ => ∃ d, rs = [.dat d] ∧ noObj d ∧ Q (.dat (.bl (isI d))) S
def sp_nu_gcd (Γ : Ad) : PSpec := fun rs S Q _ => ∃ a b : Int, rs = [.dat (.int a), .dat (.int b)] ∧ Q (.dat (.int (Int.gcd a b))) S
def sp_nu_low (Γ : Ad) : PSpec := fun rs S Q _ => ∃ a b x : Int, rs = [.dat (.int a), .dat (.int b)] ∧ 0 < b ∧ a = x * b ∧ sb 8000 b ∧ Q (.dat (n1 x)) S
def sp_number (Γ : Ad) : PSpec := fun rs S Q _ => ∃ (d : D) (x : Int), rs = [.dat d] ∧ (d = .int x ∨ d = n1 x) ∧ Q (.dat (n1 x)) S
def sp_plus (Γ : Ad) : PSpec := fun rs S Q _ => ∃ x y : Int, rs = [.dat (n1 x), .dat (n1 y)] ∧ sb 9000 x ∧ sb 9000 y ∧ Q (.dat (n1 (x + y))) S
def sp_nu_power (Γ : Ad) : PSpec := fun rs S Q _ => ∃ (x : Int) (e n : Nat), rs = [.dat (.int x), .dat (.int e)] ∧ sb n x ∧ n * e < 400000 ∧ Q (.dat (.int (x ^ e))) S
def sp_sw_step (Γ : Ad) : PSpec := fun rs S Q _ => rs = [.dat (fd Γ)] ∧ Q (.dat (fd Γ)) S
def sp_sw_power (Γ : Ad) : PSpec := fun rs S Q _ => ∃ (x : Int) (e n : Nat), rs = [.dat (n1 x), .dat (.int e)] ∧ sb n x ∧ n * e < 400000 ∧ e < 400000 ∧ Q (.dat (n1 (x ^ e))) S
def sp_pu_three (Γ : Ad) : PSpec := fun rs S Q _ => ∃ a b c : Int, rs = [.dat (tupD [a, b, c])] ∧ Q (.dat (.bl true)) S
def sp_pu_form (Γ : Ad) : PSpec := fun rs S Q _ => ∃ w, rs = [.dat (tupD w)] ∧ okF w ∧ Q (.dat (tupD w)) S
def sp_pu_forms (Γ : Ad) : PSpec := fun rs S Q _ => ∃ L : List (List Int), rs = [.dat (.lst (L.map tupD))] ∧ L.length ≤ 100 ∧ (∀ w ∈ L, okF w) ∧ Q (.dat (.tup ((sortT L).map tupD))) S
def sp_pu_square (Γ : Ad) : PSpec := fun rs S Q _ => rs = [.dat (fd Γ), .dat (tupD [0, 0, 0])] ∧ Q (.dat (tupD [0, 0, 0])) S
def sp_pu_less (Γ : Ad) : PSpec := fun rs S Q _ => ∃ L M : List (List Int), rs = [.dat (.tup (L.map tupD)), .dat (.tup (M.map tupD))] ∧ L.length ≤ 100 ∧ M.length ≤ 100 ∧ (∀ w ∈ L, okF w) ∧ (∀ w ∈ M, okF w) ∧ Q (.dat (.tup ((lessT L M).map tupD))) S
def sp_pu_size (Γ : Ad) : PSpec := fun rs S Q _ => ∃ (w : List Int) (n k : Int), rs = [.dat (tupD w), .dat (.int n), .dat (.int k)] ∧ okF w ∧ sb 64 n ∧ sb 64 k ∧ Q (.dat (.int (sizeF w n k))) S
def sp_pu_there (Γ : Ad) : PSpec := fun rs S Q _ => ∃ (L : List (List Int)) (n k : Int), rs = [.dat (.tup (L.map tupD)), .dat (.int n), .dat (.int k)] ∧ L.length ≤ 100 ∧ (∀ w ∈ L, okF w ∧ 0 ≤ sizeF w n k) ∧ sb 64 n ∧ sb 64 k ∧ Q (.dat (.bl true)) S
def sp_pu_falling (Γ : Ad) : PSpec := fun rs S Q _ => ∃ m : Int, rs = [.dat (fd Γ), .dat (.int m)] ∧ 0 ≤ m ∧ m ≤ 20000 ∧ Q (.dat (n1 ((fac m.toNat : Nat) : Int))) S
structure Num (c : Int) (T B : List (List Int)) (n k : Nat) (x : Int) : Prop where
  tl : T.length ≤ 20
  bl : B.length ≤ 20
  ne : T ≠ []
  tf : ∀ w ∈ T, okF w
  bf : ∀ w ∈ B, okF w
  cs : sb 70 c
  n12 : n ≤ 12
  kn : k ≤ n
  eq : c ^ k * facs T n k = x * facs B n k
def sp_pu_number (Γ : Ad) : PSpec := fun rs S Q _ => ∃ (c : Int) (T B : List (List Int)) (n k : Nat) (x : Int), rs = [.dat (pureD Γ c T B), .dat (.int n), .dat (.int k)] ∧ Num c T B n k x ∧ Q (.dat (n1 x)) S
def sp_i2_pair (Γ : Ad) : PSpec := fun rs S Q _ => rs = [.dat (n1 1)] ∧ Q (.dat (.bl true)) S
def sp_i2_fits (Γ : Ad) : PSpec := fun rs S Q _ => rs = [.dat (.tup [.int 0, .int 0, n1 1])] ∧ Q (.dat (.bl true)) S
def sp_i2_told (Γ : Ad) : PSpec := fun rs S Q _ => rs = [.dat (.int 1), .dat (.dct [[.inl 0, .inl 0]] [.int 1])] ∧ Q (.dat one2) S
def sp_i2_whole (Γ : Ad) : PSpec := fun rs S Q _ => rs = [.dat one2] ∧ Q (.dat (.tup [.int 1, .dct [[.inl 0, .inl 0]] [.int 1]])) S
def sp_i2_read (Γ : Ad) : PSpec := fun rs S Q _ => rs = [.dat one2] ∧ Q (.dat one2) S
def sp_i2_look (Γ : Ad) : PSpec := fun rs S Q _ => rs = [.dat (fd Γ), .dat one2] ∧ Q (.dat one2) S
def sp_i2_scaled (Γ : Ad) : PSpec := fun rs S Q _ => rs = [.dat one2, .dat (.int 1), .dat (.int 1)] ∧ Q (.dat one2) S
def sp_i2_value (Γ : Ad) : PSpec := fun rs S Q _ => ∃ n k : Int, rs = [.dat (fd Γ), .dat one2, .dat (.int n), .dat (.int k)] ∧ sb 64 n ∧ sb 64 k ∧ Q (.dat (n1 1)) S
def sp_t2_number (Γ : Ad) : PSpec := fun rs S Q _ => ∃ (c : Int) (T B : List (List Int)) (n k : Nat) (x : Int), rs = [.dat (termD Γ c T B), .dat (.int n), .dat (.int k)] ∧ Num c T B n k x ∧ sb 9000 x ∧ Q (.dat (n1 x)) S
def sp_full_term (Γ : Ad) : PSpec := fun rs S Q _ => ∃ (c : Int) (T B : List (List Int)), rs = [.dat (fd Γ), .dat one2, .dat (pureD Γ c T B)] ∧ Q (.dat (termD Γ c T B)) S
def sp_rg_pair (Γ : Ad) : PSpec := fun rs S Q _ => ∃ (a b : Int) (x : Str), rs = [.dat (.tup [.int a, .int b]), .dat (.str x)] ∧ Q (.dat (.tup [.int a, .int b])) S
def sp_rg_first (Γ : Ad) : PSpec := fun rs S Q _ => rs = [.dat (rangeD Γ)] ∧ Q (.dat (.int 0)) S
def sp_rg_below (Γ : Ad) : PSpec := fun rs S Q _ => ∃ s : Int, rs = [.dat (.int s), .dat (.int 0), .dat (.int 0)] ∧ 0 ≤ s ∧ s ≤ 4 ∧ Q (.dat .non) S
def sp_rg_gone (Γ : Ad) : PSpec := fun rs S Q _ => ∃ L : List (List Int), rs = [.dat (.tup (L.map tupD)), .dat (rangeD Γ)] ∧ L.length ≤ 100 ∧ (∀ w ∈ L, w = [1, 0, 0] ∨ w = [1, 1, 0]) ∧ Q (.dat .non) S
def sp_dg_look (Γ : Ad) : PSpec := fun rs S Q E => ∃ a b c, rs = [.dat a, .dat b, .dat c] ∧ noObj a ∧ noObj b ∧ noObj c ∧ refd Γ E S (dgBad a b c) (Q (.dat .non) S)
def sp_dg_look_place (Γ : Ad) : PSpec := fun rs S Q E => ∃ n, rs = [.dat n] ∧ noObj n ∧ refd Γ E S (plBad n) (Q (.dat .non) S)
def sp_dg_look_prime (Γ : Ad) : PSpec := fun rs S Q E => ∃ p, rs = [.dat p] ∧ noObj p ∧ refd Γ E S (prBad p) (Q (.dat .non) S)
def sp_dg_sum (Γ : Ad) : PSpec := fun rs S Q _ => ∃ (a b n : Nat) (c : Int), rs = [.dat (.int a), .dat (.int b), .dat (.int c), .dat (.int n)] ∧ a ≤ 4 ∧ b ≤ 4 ∧ n ≤ 400 ∧ sb 70 c ∧ Q (.dat (.int (val a b c n))) S
def sp_digit_value (Γ : Ad) : PSpec := fun rs S Q E => ∃ a b c n, rs = [.dat a, .dat b, .dat c, .dat n] ∧ noObj a ∧ noObj b ∧ noObj c ∧ noObj n ∧ refd Γ E S (dgBad a b c) (refd Γ E S (plBad n) (if 400 < intD n then E ⟨Γ.TooMuch, ["word", "most"], [.str "place", .int 400]⟩ S else sb 70 (intD c) ∧ ∀ v, Q (.dat (.int v)) S))
def sp_dg_rest (Γ : Ad) : PSpec := fun rs S Q _ => ∃ (a b n p : Nat) (c : Int), rs = [.dat (.int a), .dat (.int b), .dat (.int c), .dat (.int n), .dat (.int p)] ∧ a ≤ 4 ∧ b ≤ 4 ∧ n ≤ 200 ∧ 0 < p ∧ p ≤ 200 ∧ 0 ≤ c ∧ c < p ∧ Q (.dat (.int (val a b c n % p))) S
def sp_dg_table (Γ : Ad) : PSpec := fun rs S Q _ => ∃ (a b p : Nat) (c : Int), rs = [.dat (.int a), .dat (.int b), .dat (.int c), .dat (.int p)] ∧ a ≤ 4 ∧ b ≤ 4 ∧ 0 < p ∧ p ≤ 200 ∧ Q (.own ((TB a b c p).map .int)) S
def sp_dg_most (Γ : Ad) : PSpec := fun rs S Q _ => rs = [] ∧ Q (.dat (.int (10 ^ 400))) S
def sp_digit_mod (Γ : Ad) : PSpec := fun rs S Q E => ∃ a b c n p, rs = [.dat a, .dat b, .dat c, .dat n, .dat p] ∧ noObj a ∧ noObj b ∧ noObj c ∧ noObj n ∧ noObj p ∧ refd Γ E S (dgBad a b c) (refd Γ E S (plBad n) (refd Γ E S (prBad p) (if 10 ^ 400 ≤ intD n then E ⟨Γ.TooMuch, ["word", "most"], [.str "figures", .int 400]⟩ S else ∀ v, Q (.dat (.int v)) S)))
def sp_first_divided (Γ : Ad) : PSpec := fun rs S Q E => ∃ a b c p, rs = [.dat a, .dat b, .dat c, .dat p] ∧ noObj a ∧ noObj b ∧ noObj c ∧ noObj p ∧ refd Γ E S (dgBad a b c) (refd Γ E S (prBad p) (Q (.dat (fstD ((TB (natD a) (natD b) (intD c) (natD p)).findIdx? (· == 0)))) S))
def sp_count_undivided (Γ : Ad) : PSpec := fun rs S Q E => ∃ a b c p e, rs = [.dat a, .dat b, .dat c, .dat p, .dat e] ∧ noObj a ∧ noObj b ∧ noObj c ∧ noObj p ∧ noObj e ∧ refd Γ E S (dgBad a b c) (refd Γ E S (prBad p) (refd Γ E S (plBad e) (if 60 < intD e then E ⟨Γ.TooMuch, ["word", "most"], [.str "power", .int 60]⟩ S else Q (.dat (.int ((((natD p : Nat) : Int) - ((TB (natD a) (natD b) (intD c) (natD p)).count 0 : Nat)) ^ natD e))) S)))
def sp_digit_term (Γ : Ad) : PSpec := fun rs S Q E => ∃ a b c, rs = [.dat a, .dat b, .dat c] ∧ noObj a ∧ noObj b ∧ noObj c ∧ refd Γ E S (dgBad a b c) (if intD c = 0 then E ⟨Γ.IsZero, ["word"], [.str "number"]⟩ S else Q (.dat (.tup [termD Γ (intD c) (topsL (natD a) (natD b)) (botsL (natD a) (natD b)), rangeD Γ])) S)
def isT (Γ : Ad) (c : Int) (a b : Nat) (d : D) : Prop := d = termD Γ c (topsL a b) (botsL a b) ∧ 1 ≤ a ∧ a ≤ 4 ∧ b ≤ 4
def sp_sm_look_term (Γ : Ad) : PSpec := fun rs S Q _ => ∃ c a b d, rs = [.dat d] ∧ isT Γ c a b d ∧ Q (.dat .non) S
def sp_sm_look_kind (Γ : Ad) : PSpec := fun rs S Q _ => ∃ c a b d, rs = [.dat d, .dat (rangeD Γ)] ∧ isT Γ c a b d ∧ Q (.dat .non) S
def sp_sm_look_there (Γ : Ad) : PSpec := fun rs S Q _ => ∃ c a b d, rs = [.dat d, .dat (rangeD Γ)] ∧ isT Γ c a b d ∧ Q (.dat .non) S
def sp_sm_look (Γ : Ad) : PSpec := fun rs S Q _ => ∃ c a b d, rs = [.dat d, .dat (rangeD Γ)] ∧ isT Γ c a b d ∧ Q (.dat .non) S
def sp_sm_sum (Γ : Ad) : PSpec := fun rs S Q _ => ∃ (c : Int) (a b n : Nat) (d : D), rs = [.dat d, .dat (rangeD Γ), .dat (.int n)] ∧ isT Γ c a b d ∧ sb 70 c ∧ n ≤ 12 ∧ Q (.dat (n1 (val a b c n))) S
def sp_sum_value (Γ : Ad) : PSpec := fun rs S Q _ => ∃ (c : Int) (a b n : Nat) (d : D), rs = [.dat d, .dat (rangeD Γ), .dat (.int n)] ∧ isT Γ c a b d ∧ sb 70 c ∧ n ≤ 12 ∧ Q (.dat (n1 (val a b c n))) S
def sp__law_stream (Γ : Ad) : PSpec := fun rs S Q _ => ∃ ns : List Int, rs = [.dat (.frl (ns.map .int))] ∧ ns.length ≤ 63 ∧ ∀ l : List Int, Q (.own (l.map .int)) S
def sp__law_next (Γ : Ad) : PSpec := fun rs S Q _ => ∃ many : Int, rs = [.drw, .dat (.int many)] ∧ 0 < many ∧ ∀ (n : Int) S', 0 ≤ n → n < many → Q (.dat (.int n)) S'
def sp__law_int (Γ : Ad) : PSpec := fun rs S Q _ => ∃ d, rs = [.dat d] ∧ noObj d ∧ Q (.dat (.bl (isI d))) S
def sp__law_gcd (Γ : Ad) : PSpec := fun rs S Q _ => ∃ a : Int, rs = [.dat (.int a), .dat (.int 1)] ∧ Q (.dat (.int 1)) S
def sp__law_is_num (Γ : Ad) : PSpec := fun rs S Q _ => ∃ x : Int, rs = [.dat (n1 x)] ∧ Q (.dat (.bl true)) S
def sp__law_pow (Γ : Ad) : PSpec := fun rs S Q _ => ∃ (x : Int) (e n : Nat), rs = [.dat (.int x), .dat (.int e)] ∧ sb n x ∧ n * e < 400000 ∧ e < 400000 ∧ Q (.dat (.int (x ^ e))) S
def sp__law_digit_sum (Γ : Ad) : PSpec := fun rs S Q _ => ∃ (a b n : Nat) (c : Int), rs = [.dat (.int a), .dat (.int b), .dat (.int c), .dat (.int n)] ∧ a ≤ 4 ∧ b ≤ 4 ∧ n ≤ 400 ∧ sb 70 c ∧ Q (.dat (.int (val a b c n))) S
def sp__law_divided (Γ : Ad) : PSpec := fun rs S Q _ => ∃ (a b n p : Nat) (c : Int), rs = [.dat (.int a), .dat (.int b), .dat (.int c), .dat (.int p), .dat (.int n)] ∧ a ≤ 4 ∧ b ≤ 4 ∧ n ≤ 64 ∧ 0 < p ∧ p ≤ 200 ∧ Q (.dat (.bl (decide (R a b c p n = 0)))) S
def sp__law_first (Γ : Ad) : PSpec := fun rs S Q _ => ∃ (a b p : Nat) (c : Int), rs = [.dat (.int a), .dat (.int b), .dat (.int c), .dat (.int p)] ∧ a ≤ 4 ∧ b ≤ 4 ∧ 0 < p ∧ p ≤ 64 ∧ Q (.dat (fstD ((TB a b c p).findIdx? (· == 0)))) S
def sp__law_small_power (Γ : Ad) : PSpec := fun rs S Q _ => ∃ p : Nat, rs = [.dat (.int p)] ∧ p ∈ PL ∧ ∀ w : Nat, p ^ w ≤ 64 → w ≤ 6 → Q (.dat (.int w)) S
def sp__law_counts_ok (Γ : Ad) : PSpec := fun rs S Q _ => ∃ (a b p : Nat) (c : Int), rs = [.drw, .dat (.int a), .dat (.int b), .dat (.int c), .dat (.int p)] ∧ 1 ≤ a ∧ a ≤ 4 ∧ b ≤ 4 ∧ p ∈ PL ∧ ∀ S', Q (.dat (.bl true)) S'
def sp__law_first_is (Γ : Ad) : PSpec := fun rs S Q _ => ∃ (a b p : Nat) (c : Int) (d : D), rs = [.dat (.int a), .dat (.int b), .dat (.int c), .dat (.int p), .dat d] ∧ 1 ≤ a ∧ a ≤ 4 ∧ b ≤ 4 ∧ p ∈ PL ∧ d = fstD ((TB a b c p).findIdx? (· == 0)) ∧ Q (.dat (.bl true)) S
def sp__law_term_ok (Γ : Ad) : PSpec := fun rs S Q _ => ∃ (a b : Nat) (c : Int), rs = [.drw, .dat (.int a), .dat (.int b), .dat (.int c)] ∧ 1 ≤ a ∧ a ≤ 4 ∧ b ≤ 4 ∧ sb 70 c ∧ ∀ S', Q (.dat (.bl true)) S'
/-- what a refusal tells -/
def outI (o : Option D) (k : Option (List D)) : Option (List D) := match o with
  | some d => some [.str "integer", d]
  | none => k
def outc (door : Nat) (r0 r1 r2 r3 r4 : D) : Option (List D) := outI (dgBad r0 r1 r2) (match door with
  | 0 => outI (plBad r3) (if 400 < intD r3 then some [.str "place", .int 400] else none)
  | 1 => outI (plBad r3) (outI (prBad r4) (if 10 ^ 400 ≤ intD r3 then some [.str "figures", .int 400] else none))
  | 2 => outI (prBad r4) none
  | _ => outI (prBad r4) (outI (plBad r3) (if 60 < intD r3 then some [.str "power", .int 60] else none)))
def sp__law_refused (Γ : Ad) : PSpec := fun rs S Q _ => ∃ (door : Nat) (r0 r1 r2 r3 r4 : D), rs = [.dat (.int door), .dat (.lst [r0, r1, r2, r3, r4])] ∧ noObj r0 ∧ noObj r1 ∧ noObj r2 ∧ noObj r3 ∧ noObj r4 ∧ door < 5 ∧ (door = 4 → dgBad r0 r1 r2 ≠ none) ∧ sb 70 (intD r2) ∧ match outc door r0 r1 r2 r3 r4 with
  | some ds => Q (.own ds) S
  | none => Q (.dat .non) S
def sp__law_refusals_ok (Γ : Ad) : PSpec := fun rs S Q _ => rs = [.drw] ∧ ∀ S', Q (.dat (.bl true)) S'
def sp_law : PSpec := lawSpec
def sp_Step_init (Γ : Ad) : PSpecI := fun rs S Q => ∃ (x : Str) (d : D), rs = [.dat (.str x), .dat d] ∧ Q ["word", "base"] [.str x, d] S
def sp_Plain_init (Γ : Ad) : PSpecI := spSupI (pCons (pC (.str "plain")) (pCons (pTup (pCons (pC (.int 1)) (pCons (pC (.int 1)) pNil))) pNil)) (sp_Step_init Γ) Γ.Plain
def sp_Step_eq (Γ : Ad) : PSpec := fun rs S Q _ => rs = [.dat (fd Γ), .dat (fd Γ)] ∧ Q (.dat (.bl true)) S
def sp_Pure_init (Γ : Ad) : PSpecI := fun rs S Q => ∃ (c : Int) (L M : List (List Int)), rs = [.dat (fd Γ), .dat (.int 1), .dat (.int c), .dat (tupD [0, 0, 0]), .dat (.lst (L.map tupD)), .dat (.lst (M.map tupD))] ∧ c ≠ 0 ∧ L.length ≤ 100 ∧ M.length ≤ 100 ∧ (∀ w ∈ L, okF w) ∧ (∀ w ∈ M, okF w) ∧
  (lessT (sortT L) (sortT M)).length + (lessT (sortT M) (sortT L)).length ≤ 20 ∧ Q ["step", "s", "t", "square", "tops", "bottoms"] [fd Γ, n1 1, n1 c, tupD [0, 0, 0], .tup ((lessT (sortT L) (sortT M)).map tupD), .tup ((lessT (sortT M) (sortT L)).map tupD)] S
def sp_Term2_init (Γ : Ad) : PSpecI := fun rs S Q => ∃ (c : Int) (T B : List (List Int)), rs = [.dat (fd Γ), .dat one2, .dat one2, .dat (pureD Γ c T B)] ∧ Q ["step", "top", "bottom", "pure"] [fd Γ, one2, one2, pureD Γ c T B] S
def sp_Term2_full (Γ : Ad) : PSpec := fun rs S Q _ => ∃ (c : Int) (T B : List (List Int)), rs = [.dat (termD Γ c T B)] ∧ Q (.dat (.bl true)) S
def sp_Range_init (Γ : Ad) : PSpecI := fun rs S Q => rs = [.dat (.tup [.int 0, .int 0]), .dat (.tup [.int 1, .int 0]), .dat (.int 0)] ∧ Q ["low", "high", "start"] [.tup [.int 0, .int 0], .tup [.int 1, .int 0], .int 0] S
def sp_Range_ends (Γ : Ad) : PSpec := fun rs S Q _ => ∃ n : Int, rs = [.dat (rangeD Γ), .dat (.int n)] ∧ sb 64 n ∧ Q (.dat (.tup [.int 0, .int n])) S
end K89
end
section
set_option Elab.async false
set_option linter.all false
set_option maxRecDepth 100000
/-! The readings of the defs (printed by gen2.py). -/
namespace K89
open PySem L2 Py
/-- nu_integer: slots 0 value -/
def p_nu_integer (Γ : Ad) : PSm := pSeq (pRet (pAndV (pIsi "int" (pVar 0)) (pNotV (pIsi "bool" (pVar 0))))) (pNext)
/-- nu_gcd: slots 0 a, 1 b -/
def p_nu_gcd (Γ : Ad) : PSm := pSeq (pAsg (pCB fAbs (pCons (pVar 0) (pNil))) (pgName 0)) (pSeq (pAsg (pCB fAbs (pCons (pVar 1) (pNil))) (pgName 1)) (pSeq (pWhile (pTst (pBin fNe (pVar 1) (pC (.int 0)))) (pSeq (pPar 0 1 (pCons (pVar 1) (pCons (pBin fMod (pVar 0) (pVar 1)) (pNil)))) (pNext))) (pSeq (pRetN 0) (pNext))))
/-- nu_low: slots 0 a, 1 b, 2 c -/
def p_nu_low (Γ : Ad) : PSm := pSeq (pAsg (pCall (sp_nu_gcd Γ) (pCons (pVar 0) (pCons (pVar 1) (pNil)))) (pgName 2)) (pSeq (pIf (pTst (pBin fLt (pVar 1) (pC (.int 0)))) (pSeq (pAsg (pNeg (pVar 2)) (pgName 2)) (pNext)) (pNext)) (pSeq (pRet (pTup (pCons (pBin fDiv (pVar 0) (pVar 2)) (pCons (pBin fDiv (pVar 1) (pVar 2)) (pNil))))) (pNext)))
/-- number: slots 0 value, 1 a, 2 b -/
def p_number (Γ : Ad) : PSm := pSeq (pIf (pTst (pCall (sp_nu_integer Γ) (pCons (pVar 0) (pNil)))) (pSeq (pRet (pTup (pCons (pCB fInt (pCons (pVar 0) (pNil))) (pCons (pC (.int 1)) (pNil))))) (pNext)) (pNext)) (pSeq (pIf (pAnd (pTst (pIsi2 "tuple" "list" (pVar 0))) (pTst (pBin fEq (pLen (pQVar 0)) (pC (.int 2))))) (pSeq (pAsg (pVar 0) (pgTup 2 (pgCons (pgName 1) (pgCons (pgName 2) (pgNil))))) (pSeq (pIf (pAnd (pTst (pCall (sp_nu_integer Γ) (pCons (pVar 1) (pNil)))) (pAnd (pTst (pCall (sp_nu_integer Γ) (pCons (pVar 2) (pNil)))) (pTst (pBin fGe (pVar 2) (pC (.int 1)))))) (pSeq (pRet (pCall (sp_nu_low Γ) (pCons (pVar 1) (pCons (pVar 2) (pNil))))) (pNext)) (pNext)) (pNext))) (pNext)) (pSeq (pDead) (pNext)))
/-- plus: slots 0 one, 1 other, 2 a, 3 b, 4 c, 5 d -/
def p_plus (Γ : Ad) : PSm := pSeq (pAsg (pCall (sp_number Γ) (pCons (pVar 0) (pNil))) (pgTup 2 (pgCons (pgName 2) (pgCons (pgName 3) (pgNil))))) (pSeq (pAsg (pCall (sp_number Γ) (pCons (pVar 1) (pNil))) (pgTup 2 (pgCons (pgName 4) (pgCons (pgName 5) (pgNil))))) (pSeq (pRet (pCall (sp_nu_low Γ) (pCons (pBin fAdd (pBin fMul (pVar 2) (pVar 5)) (pBin fMul (pVar 4) (pVar 3))) (pCons (pBin fMul (pVar 3) (pVar 5)) (pNil))))) (pNext)))
/-- nu_power: slots 0 base, 1 exponent, 2 told, 3 square, 4 left -/
def p_nu_power (Γ : Ad) : PSm := pSeq (pAsg (pC (.int 1)) (pgName 2)) (pSeq (pAsg (pVar 0) (pgName 3)) (pSeq (pAsg (pVar 1) (pgName 4)) (pSeq (pWhile (pTst (pBin fGt (pVar 4) (pC (.int 0)))) (pSeq (pIf (pTst (pBin fEq (pBin fMod (pVar 4) (pC (.int 2))) (pC (.int 1)))) (pSeq (pAsg (pBin fMul (pVar 2) (pVar 3)) (pgName 2)) (pNext)) (pNext)) (pSeq (pAsg (pBin fDiv (pVar 4) (pC (.int 2))) (pgName 4)) (pSeq (pIf (pTst (pBin fGt (pVar 4) (pC (.int 0)))) (pSeq (pAsg (pBin fMul (pVar 3) (pVar 3)) (pgName 3)) (pNext)) (pNext)) (pNext))))) (pSeq (pRetN 2) (pNext)))))
/-- sw_step: slots 0 value -/
def p_sw_step (Γ : Ad) : PSm := pSeq (pIf (pNotT (pTst (pIsC Γ.Plain (pVar 0)))) (pDead) (pNext)) (pSeq (pRetN 0) (pNext))
/-- sw_power: slots 0 base, 1 i, 2 a, 3 b -/
def p_sw_power (Γ : Ad) : PSm := pSeq (pAsg (pVar 0) (pgTup 2 (pgCons (pgName 2) (pgCons (pgName 3) (pgNil))))) (pSeq (pIf (pTst (pBin fGe (pVar 1) (pC (.int 0)))) (pSeq (pRet (pTup (pCons (pCall (sp_nu_power Γ) (pCons (pVar 2) (pCons (pVar 1) (pNil)))) (pCons (pCall (sp_nu_power Γ) (pCons (pVar 3) (pCons (pVar 1) (pNil)))) (pNil))))) (pNext)) (pNext)) (pDead))
/-- pu_three: slots 0 value -/
def p_pu_three (Γ : Ad) : PSm := pSeq (pIf (pOr (pNotT (pTst (pIsi2 "tuple" "list" (pVar 0)))) (pTst (pBin fNe (pLen (pQVar 0)) (pC (.int 3))))) (pSeq (pRet (pC (.bl false))) (pNext)) (pNext)) (pSeq (pRet (pAndV (pCall (sp_nu_integer Γ) (pCons (pIx (pQVar 0) (pC (.int 0))) (pNil))) (pAndV (pCall (sp_nu_integer Γ) (pCons (pIx (pQVar 0) (pC (.int 1))) (pNil))) (pCall (sp_nu_integer Γ) (pCons (pIx (pQVar 0) (pC (.int 2))) (pNil)))))) (pNext))
/-- pu_form: slots 0 value, 1 a, 2 b, 3 c -/
def p_pu_form (Γ : Ad) : PSm := pSeq (pIf (pNotT (pTst (pCall (sp_pu_three Γ) (pCons (pVar 0) (pNil))))) (pDead) (pNext)) (pSeq (pAsg (pVar 0) (pgTup 3 (pgCons (pgName 1) (pgCons (pgName 2) (pgCons (pgName 3) (pgNil)))))) (pSeq (pIf (pAnd (pTst (pBin fEq (pVar 1) (pC (.int 0)))) (pAnd (pTst (pBin fEq (pVar 2) (pC (.int 0)))) (pTst (pBin fLt (pVar 3) (pC (.int 0)))))) (pDead) (pNext)) (pSeq (pRet (pTup (pCons (pVar 1) (pCons (pVar 2) (pCons (pVar 3) (pNil)))))) (pNext))))
/-- pu_forms: slots 0 value, 1 w -/
def p_pu_forms (Γ : Ad) : PSm := pSeq (pIf (pNotT (pTst (pIsi2 "tuple" "list" (pVar 0)))) (pDead) (pNext)) (pSeq (pRet (pToT (pQOf (pCB (fSortT 3) (pCons (pLc 1 (pISeq (pVar 0)) (pYes) (pCall (sp_pu_form Γ) (pCons (pVar 1) (pNil)))) (pNil)))))) (pNext))
/-- pu_square: slots 0 step, 1 value, 2 e, 3 f, 4 g -/
def p_pu_square (Γ : Ad) : PSm := pSeq (pIf (pNotT (pTst (pCall (sp_pu_three Γ) (pCons (pVar 1) (pNil))))) (pDead) (pNext)) (pSeq (pAsg (pVar 1) (pgTup 3 (pgCons (pgName 2) (pgCons (pgName 3) (pgCons (pgName 4) (pgNil)))))) (pSeq (pIf (pAnd (pTst (pBin fEq (pFld Γ.Plain (pVar 0) "word") (pC (.str "plain")))) (pOr (pTst (pBin fNe (pVar 2) (pC (.int 0)))) (pOr (pTst (pBin fNe (pVar 3) (pC (.int 0)))) (pTst (pBin fNe (pVar 4) (pC (.int 0))))))) (pDead) (pNext)) (pSeq (pRet (pTup (pCons (pVar 2) (pCons (pVar 3) (pCons (pVar 4) (pNil)))))) (pNext))))
/-- pu_less: slots 0 forms, 1 others, 2 left, 3 told, 4 w -/
def p_pu_less (Γ : Ad) : PSm := pSeq (pAsg (pToL (pQVar 1)) (pgName 2)) (pSeq (pAsg (pLst (pNil)) (pgName 3)) (pSeq (pFor (pISeq (pVar 0)) (pgName 4) (pSeq (pIf (pTst (pInL false (pVar 4) (pQVar 2))) (pSeq (pRem 2 (pVar 4)) (pNext)) (pSeq (pApp 3 (pVar 4)) (pNext))) (pNext))) (pSeq (pRet (pToT (pQVar 3))) (pNext))))
/-- pu_size: slots 0 form, 1 n, 2 k -/
def p_pu_size (Γ : Ad) : PSm := pSeq (pRet (pBin fAdd (pBin fAdd (pBin fMul (pIx (pQVar 0) (pC (.int 0))) (pVar 1)) (pBin fMul (pIx (pQVar 0) (pC (.int 1))) (pVar 2))) (pIx (pQVar 0) (pC (.int 2))))) (pNext)
/-- pu_there: slots 0 tops, 1 n, 2 k, 3 w -/
def p_pu_there (Γ : Ad) : PSm := pSeq (pRet (pNotV (pCB fAny (pCons (pLc 3 (pISeq (pVar 0)) (pYes) (pBin fLt (pCall (sp_pu_size Γ) (pCons (pVar 3) (pCons (pVar 1) (pCons (pVar 2) (pNil))))) (pC (.int 0)))) (pNil))))) (pNext)
/-- pu_falling: slots 0 step, 1 m, 2 p, 3 q, 4 told, 5 up, 6 low, 7 _ -/
def p_pu_falling (Γ : Ad) : PSm := pSeq (pIf (pTst (pBin fEq (pFld Γ.Plain (pVar 0) "word") (pC (.str "plain")))) (pSeq (pRet (pTup (pCons (pCB fFac (pCons (pVar 1) (pNil))) (pCons (pC (.int 1)) (pNil))))) (pNext)) (pNext)) (pDead)
/-- pu_number: slots 0 pure, 1 n, 2 k, 3 one, 4 other, 5 up, 6 low, 7 w, 8 a, 9 b, 10 e, 11 f, 12 g -/
def p_pu_number (Γ : Ad) : PSm := pSeq (pIf (pNotT (pTst (pCall (sp_pu_there Γ) (pCons (pFld Γ.Pure (pVar 0) "tops") (pCons (pVar 1) (pCons (pVar 2) (pNil))))))) (pSeq (pRet (pC .non)) (pNext)) (pNext)) (pSeq (pIf (pTst (pCB fAny (pCons (pLc 7 (pISeq (pBin fAddT (pFld Γ.Pure (pVar 0) "tops") (pFld Γ.Pure (pVar 0) "bottoms"))) (pYes) (pBin fGt (pCall (sp_pu_size Γ) (pCons (pVar 7) (pCons (pVar 1) (pCons (pVar 2) (pNil))))) (pC (.int 3000)))) (pNil)))) (pDead) (pNext)) (pSeq (pIf (pNotT (pTst (pCall (sp_pu_there Γ) (pCons (pFld Γ.Pure (pVar 0) "bottoms") (pCons (pVar 1) (pCons (pVar 2) (pNil))))))) (pSeq (pRet (pTup (pCons (pC (.int 0)) (pCons (pC (.int 1)) (pNil))))) (pNext)) (pNext)) (pSeq (pAsg (pCall (sp_sw_power Γ) (pCons (pFld Γ.Pure (pVar 0) "s") (pCons (pVar 1) (pNil)))) (pgName 3)) (pSeq (pAsg (pCall (sp_sw_power Γ) (pCons (pFld Γ.Pure (pVar 0) "t") (pCons (pVar 2) (pNil)))) (pgName 4)) (pSeq (pAsg (pBin fMul (pIx (pQVar 3) (pC (.int 0))) (pIx (pQVar 4) (pC (.int 0)))) (pgName 5)) (pSeq (pAsg (pBin fMul (pIx (pQVar 3) (pC (.int 1))) (pIx (pQVar 4) (pC (.int 1)))) (pgName 6)) (pSeq (pFor (pISeq (pFld Γ.Pure (pVar 0) "tops")) (pgName 7) (pSeq (pAsg (pCall (sp_pu_falling Γ) (pCons (pFld Γ.Pure (pVar 0) "step") (pCons (pCall (sp_pu_size Γ) (pCons (pVar 7) (pCons (pVar 1) (pCons (pVar 2) (pNil))))) (pNil)))) (pgTup 2 (pgCons (pgName 8) (pgCons (pgName 9) (pgNil))))) (pSeq (pAsg (pBin fMul (pVar 5) (pVar 8)) (pgName 5)) (pSeq (pAsg (pBin fMul (pVar 6) (pVar 9)) (pgName 6)) (pNext))))) (pSeq (pFor (pISeq (pFld Γ.Pure (pVar 0) "bottoms")) (pgName 7) (pSeq (pAsg (pCall (sp_pu_falling Γ) (pCons (pFld Γ.Pure (pVar 0) "step") (pCons (pCall (sp_pu_size Γ) (pCons (pVar 7) (pCons (pVar 1) (pCons (pVar 2) (pNil))))) (pNil)))) (pgTup 2 (pgCons (pgName 8) (pgCons (pgName 9) (pgNil))))) (pSeq (pAsg (pBin fMul (pVar 5) (pVar 9)) (pgName 5)) (pSeq (pAsg (pBin fMul (pVar 6) (pVar 8)) (pgName 6)) (pNext))))) (pSeq (pIf (pTst (pBin fEq (pFld Γ.Plain (pFld Γ.Pure (pVar 0) "step") "word") (pC (.str "base")))) (pDead) (pNext)) (pSeq (pRet (pCall (sp_nu_low Γ) (pCons (pVar 5) (pCons (pVar 6) (pNil))))) (pNext)))))))))))
/-- i2_pair: slots 0 value -/
def p_i2_pair (Γ : Ad) : PSm := pSeq (pIf (pOr (pNotT (pTst (pIsi2 "tuple" "list" (pVar 0)))) (pTst (pBin fNe (pLen (pQVar 0)) (pC (.int 2))))) (pSeq (pRet (pC (.bl false))) (pNext)) (pNext)) (pSeq (pRet (pAndV (pCall (sp_nu_integer Γ) (pCons (pIx (pQVar 0) (pC (.int 0))) (pNil))) (pAndV (pCall (sp_nu_integer Γ) (pCons (pIx (pQVar 0) (pC (.int 1))) (pNil))) (pBin fGe (pIx (pQVar 0) (pC (.int 1))) (pC (.int 1)))))) (pNext))
/-- i2_fits: slots 0 value -/
def p_i2_fits (Γ : Ad) : PSm := pSeq (pIf (pOr (pNotT (pTst (pIsi2 "tuple" "list" (pVar 0)))) (pTst (pBin fNe (pLen (pQVar 0)) (pC (.int 3))))) (pSeq (pRet (pC (.bl false))) (pNext)) (pNext)) (pSeq (pIf (pOr (pNotT (pTst (pCall (sp_nu_integer Γ) (pCons (pIx (pQVar 0) (pC (.int 0))) (pNil))))) (pNotT (pTst (pCall (sp_nu_integer Γ) (pCons (pIx (pQVar 0) (pC (.int 1))) (pNil)))))) (pSeq (pRet (pC (.bl false))) (pNext)) (pNext)) (pSeq (pRet (pOrV (pCall (sp_nu_integer Γ) (pCons (pIx (pQVar 0) (pC (.int 2))) (pNil))) (pCall (sp_i2_pair Γ) (pCons (pIx (pQVar 0) (pC (.int 2))) (pNil))))) (pNext)))
/-- i2_told: slots 0 bottom, 1 table, 2 at, 3 a -/
def p_i2_told (Γ : Ad) : PSm := pSeq (pRet (pToT (pQOf (pCB fSort1 (pCons (pLcG [2, 3] (pItems (pVar 1)) (pgTup 2 (pgCons (pgName 2) (pgCons (pgName 3) (pgNil)))) (pTst (pBin fNe (pVar 3) (pC (.int 0)))) (pTup (pCons (pIx (pQVar 2) (pC (.int 0))) (pCons (pIx (pQVar 2) (pC (.int 1))) (pCons (pCall (sp_nu_low Γ) (pCons (pVar 3) (pCons (pVar 0) (pNil)))) (pNil)))))) (pNil)))))) (pNext)
/-- i2_whole: slots 0 f, 1 bottom, 2 w, 3 i, 4 j, 5 a, 6 b -/
def p_i2_whole (Γ : Ad) : PSm := pSeq (pAsg (pC (.int 1)) (pgName 1)) (pSeq (pFor (pISeq (pVar 0)) (pgName 2) (pSeq (pAsg (pCB fLcm (pCons (pVar 1) (pCons (pIx (pQOf (pIx (pQVar 2) (pC (.int 2)))) (pC (.int 1))) (pNil)))) (pgName 1)) (pNext))) (pSeq (pRet (pTup (pCons (pVar 1) (pCons (pDc [3, 4, 5, 6] (pISeq (pVar 0)) (pgTup 3 (pgCons (pgName 3) (pgCons (pgName 4) (pgCons (pgTup 2 (pgCons (pgName 5) (pgCons (pgName 6) (pgNil)))) (pgNil))))) (pCons (pVar 3) (pCons (pVar 4) (pNil))) (pBin fMul (pVar 5) (pBin fDiv (pVar 1) (pVar 6)))) (pNil))))) (pNext)))
/-- i2_read: slots 0 value, 1 rows, 2 bottom, 3 part, 4 a, 5 b, 6 table, 7 i, 8 j -/
def p_i2_read (Γ : Ad) : PSm := pSeq (pIf (pNotT (pTst (pIsi2 "tuple" "list" (pVar 0)))) (pDead) (pNext)) (pSeq (pAsg (pLst (pNil)) (pgName 1)) (pSeq (pAsg (pC (.int 1)) (pgName 2)) (pSeq (pFor (pISeq (pVar 0)) (pgName 3) (pSeq (pIf (pNotT (pTst (pCall (sp_i2_fits Γ) (pCons (pVar 3) (pNil))))) (pDead) (pNext)) (pSeq (pAsg (pCall (sp_number Γ) (pCons (pIx (pQVar 3) (pC (.int 2))) (pNil))) (pgTup 2 (pgCons (pgName 4) (pgCons (pgName 5) (pgNil))))) (pSeq (pAsg (pCB fLcm (pCons (pVar 2) (pCons (pVar 5) (pNil)))) (pgName 2)) (pSeq (pApp 1 (pTup (pCons (pIx (pQVar 3) (pC (.int 0))) (pCons (pIx (pQVar 3) (pC (.int 1))) (pCons (pVar 4) (pCons (pVar 5) (pNil))))))) (pNext)))))) (pSeq (pDNew 6) (pSeq (pFrz 1 (pFor (pISeq (pVar 1)) (pgTup 4 (pgCons (pgName 7) (pgCons (pgName 8) (pgCons (pgName 4) (pgCons (pgName 5) (pgNil)))))) (pSeq (pDPut 6 (pCons (pVar 7) (pCons (pVar 8) (pNil))) (pBin fAdd (pDGet 6 (pCons (pVar 7) (pCons (pVar 8) (pNil))) (pC (.int 0))) (pBin fMul (pVar 4) (pBin fDiv (pVar 2) (pVar 5))))) (pNext)))) (pSeq (pDFrz 6 (pRet (pCall (sp_i2_told Γ) (pCons (pVar 2) (pCons (pVar 6) (pNil)))))) (pNext)))))))
/-- i2_look: slots 0 step, 1 value, 2 told, 3 w -/
def p_i2_look (Γ : Ad) : PSm := pSeq (pAsg (pCall (sp_i2_read Γ) (pCons (pVar 1) (pNil))) (pgName 2)) (pSeq (pIf (pAnd (pTst (pBin fEq (pFld Γ.Plain (pVar 0) "word") (pC (.str "plain")))) (pTst (pCB fAny (pCons (pLc 3 (pISeq (pVar 2)) (pYes) (pOrV (pBin fLt (pIx (pQVar 3) (pC (.int 0))) (pC (.int 0))) (pBin fLt (pIx (pQVar 3) (pC (.int 1))) (pC (.int 0))))) (pNil))))) (pDead) (pNext)) (pSeq (pRetN 2) (pNext)))
/-- i2_scaled: slots 0 f, 1 a, 2 b, 3 w -/
def p_i2_scaled (Γ : Ad) : PSm := pSeq (pIf (pTst (pBin fEq (pVar 1) (pC (.int 0)))) (pSeq (pRet (pTup (pNil))) (pNext)) (pNext)) (pSeq (pRet (pToT (pQOf (pLc 3 (pISeq (pVar 0)) (pYes) (pTup (pCons (pIx (pQVar 3) (pC (.int 0))) (pCons (pIx (pQVar 3) (pC (.int 1))) (pCons (pCall (sp_nu_low Γ) (pCons (pBin fMul (pIx (pQOf (pIx (pQVar 3) (pC (.int 2)))) (pC (.int 0))) (pVar 1)) (pCons (pBin fMul (pIx (pQOf (pIx (pQVar 3) (pC (.int 2)))) (pC (.int 1))) (pVar 2)) (pNil)))) (pNil))))))))) (pNext))
/-- i2_value: slots 0 step, 1 f, 2 n, 3 k, 4 bottom, 5 table, 6 told, 7 i, 8 j, 9 a, 10 rows, 11 low, 12 most, 13 p, 14 q, 15 e, 16 c, 17 d, 18 at, 19 w -/
def p_i2_value (Γ : Ad) : PSm := pSeq (pAsg (pCall (sp_i2_whole Γ) (pCons (pVar 1) (pNil))) (pgTup 2 (pgCons (pgName 4) (pgCons (pgName 5) (pgNil))))) (pSeq (pIf (pTst (pBin fEq (pFld Γ.Plain (pVar 0) "word") (pC (.str "plain")))) (pSeq (pAsg (pC (.int 0)) (pgName 6)) (pSeq (pFor (pItems (pVar 5)) (pgTup 2 (pgCons (pgTup 2 (pgCons (pgName 7) (pgCons (pgName 8) (pgNil)))) (pgCons (pgName 9) (pgNil)))) (pSeq (pAsg (pBin fAdd (pVar 6) (pBin fMul (pBin fMul (pVar 9) (pCall (sp_nu_power Γ) (pCons (pVar 2) (pCons (pVar 7) (pNil))))) (pCall (sp_nu_power Γ) (pCons (pVar 3) (pCons (pVar 8) (pNil)))))) (pgName 6)) (pNext))) (pSeq (pRet (pCall (sp_nu_low Γ) (pCons (pVar 6) (pCons (pVar 4) (pNil))))) (pNext)))) (pNext)) (pDead))
/-- t2_number: slots 0 term, 1 n, 2 k, 3 low, 4 one, 5 up -/
def p_t2_number (Γ : Ad) : PSm := pSeq (pIf (pNotT (pTst (pCall (sp_pu_there Γ) (pCons (pFld Γ.Pure (pFld Γ.Term2 (pVar 0) "pure") "tops") (pCons (pVar 1) (pCons (pVar 2) (pNil))))))) (pSeq (pRet (pC .non)) (pNext)) (pNext)) (pSeq (pAsg (pCall (sp_i2_value Γ) (pCons (pFld Γ.Term2 (pVar 0) "step") (pCons (pFld Γ.Term2 (pVar 0) "bottom") (pCons (pVar 1) (pCons (pVar 2) (pNil)))))) (pgName 3)) (pSeq (pIf (pTst (pBin fEq (pIx (pQVar 3) (pC (.int 0))) (pC (.int 0)))) (pSeq (pRet (pC .non)) (pNext)) (pNext)) (pSeq (pAsg (pCall (sp_pu_number Γ) (pCons (pFld Γ.Term2 (pVar 0) "pure") (pCons (pVar 1) (pCons (pVar 2) (pNil))))) (pgName 4)) (pSeq (pAsg (pCall (sp_i2_value Γ) (pCons (pFld Γ.Term2 (pVar 0) "step") (pCons (pFld Γ.Term2 (pVar 0) "top") (pCons (pVar 1) (pCons (pVar 2) (pNil)))))) (pgName 5)) (pSeq (pRet (pCall (sp_nu_low Γ) (pCons (pBin fMul (pBin fMul (pIx (pQVar 4) (pC (.int 0))) (pIx (pQVar 5) (pC (.int 0)))) (pIx (pQVar 3) (pC (.int 1)))) (pCons (pBin fMul (pBin fMul (pIx (pQVar 4) (pC (.int 1))) (pIx (pQVar 5) (pC (.int 1)))) (pIx (pQVar 3) (pC (.int 0)))) (pNil))))) (pNext))))))
/-- full_term: slots 0 step, 1 top, 2 pure -/
def p_full_term (Γ : Ad) : PSm := pSeq (pRet (pMake Γ.Term2 (sp_Term2_init Γ) (pCons (pVar 0) (pCons (pVar 1) (pCons (pC (.tup [.tup [.int 0, .int 0, .tup [.int 1, .int 1]]])) (pCons (pVar 2) (pNil))))))) (pNext)
/-- rg_pair: slots 0 value, 1 word, 2 a, 3 b -/
def p_rg_pair (Γ : Ad) : PSm := pSeq (pIf (pOr (pNotT (pTst (pIsi2 "tuple" "list" (pVar 0)))) (pTst (pBin fNe (pLen (pQVar 0)) (pC (.int 2))))) (pDead) (pNext)) (pSeq (pAsg (pVar 0) (pgTup 2 (pgCons (pgName 2) (pgCons (pgName 3) (pgNil))))) (pSeq (pIf (pOr (pNotT (pTst (pCall (sp_nu_integer Γ) (pCons (pVar 2) (pNil))))) (pNotT (pTst (pCall (sp_nu_integer Γ) (pCons (pVar 3) (pNil)))))) (pDead) (pNext)) (pSeq (pRet (pTup (pCons (pVar 2) (pCons (pVar 3) (pNil))))) (pNext))))
/-- rg_first: slots 0 stretch, 1 low, 2 high -/
def p_rg_first (Γ : Ad) : PSm := pSeq (pAsg (pMeth Γ.Range "ends" (sp_Range_ends Γ) (pVar 0) (pCons (pFld Γ.Range (pVar 0) "start") (pNil))) (pgTup 2 (pgCons (pgName 1) (pgCons (pgName 2) (pgNil))))) (pSeq (pIf (pTst (pBin fLe (pVar 1) (pVar 2))) (pSeq (pRet (pFld Γ.Range (pVar 0) "start")) (pNext)) (pNext)) (pDead))
/-- rg_below: slots 0 slope, 1 height, 2 first -/
def p_rg_below (Γ : Ad) : PSm := pSeq (pIf (pTst (pBin fLt (pBin fAdd (pBin fMul (pVar 0) (pVar 2)) (pVar 1)) (pC (.int 0)))) (pDead) (pNext)) (pSeq (pIf (pTst (pBin fGe (pVar 0) (pC (.int 0)))) (pSeq (pRet (pC .non)) (pNext)) (pNext)) (pDead))
/-- rg_gone: slots 0 forms, 1 stretch, 2 first, 3 found, 4 a, 5 b, 6 c, 7 p, 8 q, 9 n -/
def p_rg_gone (Γ : Ad) : PSm := pSeq (pAsg (pCall (sp_rg_first Γ) (pCons (pVar 1) (pNil))) (pgName 2)) (pSeq (pIf (pTst (pBin fIsN (pVar 2) (pC .non))) (pSeq (pRet (pC .non)) (pNext)) (pNext)) (pSeq (pAsg (pLst (pNil)) (pgName 3)) (pSeq (pFor (pISeq (pVar 0)) (pgTup 3 (pgCons (pgName 4) (pgCons (pgName 5) (pgCons (pgName 6) (pgNil))))) (pSeq (pFor (pISeq (pTup (pCons (pFld Γ.Range (pVar 1) "low") (pCons (pFld Γ.Range (pVar 1) "high") (pNil))))) (pgTup 2 (pgCons (pgName 7) (pgCons (pgName 8) (pgNil)))) (pSeq (pAsg (pCall (sp_rg_below Γ) (pCons (pBin fAdd (pVar 4) (pBin fMul (pVar 5) (pVar 7))) (pCons (pBin fAdd (pBin fMul (pVar 5) (pVar 8)) (pVar 6)) (pCons (pVar 2) (pNil))))) (pgName 9)) (pSeq (pIf (pTst (pBin fNotN (pVar 9) (pC .non))) (pDead) (pNext)) (pNext)))) (pNext))) (pSeq (pIf (pTst (pBin fEq (pLen (pQVar 3)) (pC (.int 0)))) (pSeq (pRet (pC .non)) (pNext)) (pNext)) (pDead)))))
/-- dg_look: slots 0 a, 1 b, 2 c -/
def p_dg_look (Γ : Ad) : PSm := pSeq (pIf (pOr (pNotT (pTst (pCall (sp_nu_integer Γ) (pCons (pVar 0) (pNil))))) (pOr (pTst (pBin fLt (pVar 0) (pC (.int 1)))) (pTst (pBin fGt (pVar 0) (pC (.int 4)))))) (pSeq (pRaise Γ.BadInteger ["handed"] (pCons (pVar 0) (pNil))) (pNext)) (pNext)) (pSeq (pIf (pOr (pNotT (pTst (pCall (sp_nu_integer Γ) (pCons (pVar 1) (pNil))))) (pOr (pTst (pBin fLt (pVar 1) (pC (.int 0)))) (pTst (pBin fGt (pVar 1) (pC (.int 4)))))) (pSeq (pRaise Γ.BadInteger ["handed"] (pCons (pVar 1) (pNil))) (pNext)) (pNext)) (pSeq (pIf (pNotT (pTst (pCall (sp_nu_integer Γ) (pCons (pVar 2) (pNil))))) (pSeq (pRaise Γ.BadInteger ["handed"] (pCons (pVar 2) (pNil))) (pNext)) (pNext)) (pNext)))
/-- dg_look_place: slots 0 n -/
def p_dg_look_place (Γ : Ad) : PSm := pSeq (pIf (pOr (pNotT (pTst (pCall (sp_nu_integer Γ) (pCons (pVar 0) (pNil))))) (pTst (pBin fLt (pVar 0) (pC (.int 0))))) (pSeq (pRaise Γ.BadInteger ["handed"] (pCons (pVar 0) (pNil))) (pNext)) (pNext)) (pNext)
/-- dg_look_prime: slots 0 p, 1 d -/
def p_dg_look_prime (Γ : Ad) : PSm := pSeq (pIf (pOr (pNotT (pTst (pCall (sp_nu_integer Γ) (pCons (pVar 0) (pNil))))) (pOr (pTst (pBin fLt (pVar 0) (pC (.int 2)))) (pTst (pBin fGt (pVar 0) (pC (.int 200)))))) (pSeq (pRaise Γ.BadInteger ["handed"] (pCons (pVar 0) (pNil))) (pNext)) (pNext)) (pSeq (pFor (pRng2 (pCons (pC (.int 2)) (pCons (pC (.int 15)) (pNil)))) (pgName 1) (pSeq (pIf (pAnd (pTst (pBin fLt (pVar 1) (pVar 0))) (pTst (pBin fEq (pBin fMod (pVar 0) (pVar 1)) (pC (.int 0))))) (pSeq (pRaise Γ.BadInteger ["handed"] (pCons (pVar 0) (pNil))) (pNext)) (pNext)) (pNext))) (pNext))
/-- dg_sum: slots 0 a, 1 b, 2 c, 3 n, 4 told, 5 factor, 6 k -/
def p_dg_sum (Γ : Ad) : PSm := pSeq (pAsg (pC (.int 0)) (pgName 4)) (pSeq (pAsg (pC (.int 1)) (pgName 5)) (pSeq (pFor (pRng1 (pCons (pBin fAdd (pVar 3) (pC (.int 1))) (pNil))) (pgName 6) (pSeq (pAsg (pBin fAdd (pVar 4) (pBin fMul (pBin fMul (pCall (sp_nu_power Γ) (pCons (pCB fCmb (pCons (pVar 3) (pCons (pVar 6) (pNil)))) (pCons (pVar 0) (pNil)))) (pCall (sp_nu_power Γ) (pCons (pCB fCmb (pCons (pBin fAdd (pVar 3) (pVar 6)) (pCons (pVar 6) (pNil)))) (pCons (pVar 1) (pNil))))) (pVar 5))) (pgName 4)) (pSeq (pAsg (pBin fMul (pVar 5) (pVar 2)) (pgName 5)) (pNext)))) (pSeq (pRetN 4) (pNext))))
/-- digit_value: slots 0 a, 1 b, 2 c, 3 n -/
def p_digit_value (Γ : Ad) : PSm := pSeq (pDrop (pCall (sp_dg_look Γ) (pCons (pVar 0) (pCons (pVar 1) (pCons (pVar 2) (pNil)))))) (pSeq (pDrop (pCall (sp_dg_look_place Γ) (pCons (pVar 3) (pNil)))) (pSeq (pIf (pTst (pBin fGt (pVar 3) (pC (.int 400)))) (pSeq (pRaise Γ.TooMuch ["word", "most"] (pCons (pC (.str "place")) (pCons (pC (.int 400)) (pNil)))) (pNext)) (pNext)) (pSeq (pRet (pCall (sp_dg_sum Γ) (pCons (pVar 0) (pCons (pVar 1) (pCons (pVar 2) (pCons (pVar 3) (pNil))))))) (pNext))))
/-- dg_rest: slots 0 a, 1 b, 2 c, 3 n, 4 p, 5 told, 6 factor, 7 k -/
def p_dg_rest (Γ : Ad) : PSm := pSeq (pAsg (pC (.int 0)) (pgName 5)) (pSeq (pAsg (pC (.int 1)) (pgName 6)) (pSeq (pFor (pRng1 (pCons (pBin fAdd (pVar 3) (pC (.int 1))) (pNil))) (pgName 7) (pSeq (pAsg (pBin fAdd (pVar 5) (pBin fMul (pBin fMul (pCall (sp_nu_power Γ) (pCons (pBin fMod (pCB fCmb (pCons (pVar 3) (pCons (pVar 7) (pNil)))) (pVar 4)) (pCons (pVar 0) (pNil)))) (pCall (sp_nu_power Γ) (pCons (pBin fMod (pCB fCmb (pCons (pBin fAdd (pVar 3) (pVar 7)) (pCons (pVar 7) (pNil)))) (pVar 4)) (pCons (pVar 1) (pNil))))) (pVar 6))) (pgName 5)) (pSeq (pAsg (pBin fMod (pBin fMul (pVar 6) (pVar 2)) (pVar 4)) (pgName 6)) (pNext)))) (pSeq (pRet (pBin fMod (pVar 5) (pVar 4))) (pNext))))
/-- dg_table: slots 0 a, 1 b, 2 c, 3 p, 4 n -/
def p_dg_table (Γ : Ad) : PSm := pSeq (pRet (pLc 4 (pRng1 (pCons (pVar 3) (pNil))) (pYes) (pCall (sp_dg_rest Γ) (pCons (pVar 0) (pCons (pVar 1) (pCons (pBin fMod (pVar 2) (pVar 3)) (pCons (pVar 4) (pCons (pVar 3) (pNil))))))))) (pNext)
/-- dg_most: slots 0 told -/
def p_dg_most (Γ : Ad) : PSm := pSeq (pAsg (pBin fPow (pC (.int 10)) (pC (.int 40))) (pgName 0)) (pSeq (pRet (pBin fPow (pVar 0) (pC (.int 10)))) (pNext))
/-- digit_mod: slots 0 a, 1 b, 2 c, 3 n, 4 p, 5 table, 6 told, 7 left -/
def p_digit_mod (Γ : Ad) : PSm := pSeq (pDrop (pCall (sp_dg_look Γ) (pCons (pVar 0) (pCons (pVar 1) (pCons (pVar 2) (pNil)))))) (pSeq (pDrop (pCall (sp_dg_look_place Γ) (pCons (pVar 3) (pNil)))) (pSeq (pDrop (pCall (sp_dg_look_prime Γ) (pCons (pVar 4) (pNil)))) (pSeq (pIf (pTst (pBin fGe (pVar 3) (pCall0 (sp_dg_most Γ)))) (pSeq (pRaise Γ.TooMuch ["word", "most"] (pCons (pC (.str "figures")) (pCons (pC (.int 400)) (pNil)))) (pNext)) (pNext)) (pSeq (pAsg (pCall (sp_dg_table Γ) (pCons (pVar 0) (pCons (pVar 1) (pCons (pVar 2) (pCons (pVar 4) (pNil)))))) (pgName 5)) (pSeq (pAsg (pC (.int 1)) (pgName 6)) (pSeq (pAsg (pVar 3) (pgName 7)) (pSeq (pWhile (pTst (pBin fGt (pVar 7) (pC (.int 0)))) (pSeq (pAsg (pBin fMod (pBin fMul (pVar 6) (pIx (pQVar 5) (pBin fMod (pVar 7) (pVar 4)))) (pVar 4)) (pgName 6)) (pSeq (pAsg (pBin fDiv (pVar 7) (pVar 4)) (pgName 7)) (pNext)))) (pSeq (pRetN 6) (pNext)))))))))
/-- first_divided: slots 0 a, 1 b, 2 c, 3 p, 4 table -/
def p_first_divided (Γ : Ad) : PSm := pSeq (pDrop (pCall (sp_dg_look Γ) (pCons (pVar 0) (pCons (pVar 1) (pCons (pVar 2) (pNil)))))) (pSeq (pDrop (pCall (sp_dg_look_prime Γ) (pCons (pVar 3) (pNil)))) (pSeq (pAsg (pCall (sp_dg_table Γ) (pCons (pVar 0) (pCons (pVar 1) (pCons (pVar 2) (pCons (pVar 3) (pNil)))))) (pgName 4)) (pSeq (pIf (pTst (pInL false (pC (.int 0)) (pQVar 4))) (pSeq (pRet (pIdx (pQVar 4) (pC (.int 0)))) (pNext)) (pNext)) (pSeq (pRet (pC .non)) (pNext)))))
/-- count_undivided: slots 0 a, 1 b, 2 c, 3 p, 4 exponent -/
def p_count_undivided (Γ : Ad) : PSm := pSeq (pDrop (pCall (sp_dg_look Γ) (pCons (pVar 0) (pCons (pVar 1) (pCons (pVar 2) (pNil)))))) (pSeq (pDrop (pCall (sp_dg_look_prime Γ) (pCons (pVar 3) (pNil)))) (pSeq (pIf (pOr (pNotT (pTst (pCall (sp_nu_integer Γ) (pCons (pVar 4) (pNil))))) (pTst (pBin fLt (pVar 4) (pC (.int 0))))) (pSeq (pRaise Γ.BadInteger ["handed"] (pCons (pVar 4) (pNil))) (pNext)) (pNext)) (pSeq (pIf (pTst (pBin fGt (pVar 4) (pC (.int 60)))) (pSeq (pRaise Γ.TooMuch ["word", "most"] (pCons (pC (.str "power")) (pCons (pC (.int 60)) (pNil)))) (pNext)) (pNext)) (pSeq (pRet (pCall (sp_nu_power Γ) (pCons (pBin fSub (pVar 3) (pCnt (pQOf (pCall (sp_dg_table Γ) (pCons (pVar 0) (pCons (pVar 1) (pCons (pVar 2) (pCons (pVar 3) (pNil))))))) (pC (.int 0)))) (pCons (pVar 4) (pNil))))) (pNext)))))
/-- digit_term: slots 0 a, 1 b, 2 c, 3 up, 4 tops, 5 bottoms, 6 pure -/
def p_digit_term (Γ : Ad) : PSm := pSeq (pDrop (pCall (sp_dg_look Γ) (pCons (pVar 0) (pCons (pVar 1) (pCons (pVar 2) (pNil)))))) (pSeq (pIf (pTst (pBin fEq (pVar 2) (pC (.int 0)))) (pSeq (pRaise Γ.IsZero ["word"] (pCons (pC (.str "number")) (pNil))) (pNext)) (pNext)) (pSeq (pAsg (pTup (pCons (pC (.int 1)) (pCons (pC (.int 0)) (pCons (pC (.int 0)) (pNil))))) (pgName 3)) (pSeq (pAsg (pBin fAdd (pBin fMul (pLst (pCons (pVar 3) (pNil))) (pVar 0)) (pBin fMul (pLst (pCons (pTup (pCons (pC (.int 1)) (pCons (pC (.int 1)) (pCons (pC (.int 0)) (pNil))))) (pNil))) (pVar 1))) (pgName 4)) (pSeq (pAsg (pBin fAdd (pBin fMul (pLst (pCons (pTup (pCons (pC (.int 0)) (pCons (pC (.int 1)) (pCons (pC (.int 0)) (pNil))))) (pCons (pTup (pCons (pC (.int 1)) (pCons (pNeg (pC (.int 1))) (pCons (pC (.int 0)) (pNil))))) (pNil)))) (pVar 0)) (pBin fMul (pLst (pCons (pTup (pCons (pC (.int 0)) (pCons (pC (.int 1)) (pCons (pC (.int 0)) (pNil))))) (pCons (pVar 3) (pNil)))) (pVar 1))) (pgName 5)) (pSeq (pFrz 4 (pFrz 5 (pAsg (pMake Γ.Pure (sp_Pure_init Γ) (pCons (pMake0 Γ.Plain (sp_Plain_init Γ)) (pCons (pC (.int 1)) (pCons (pVar 2) (pCons (pTup (pCons (pC (.int 0)) (pCons (pC (.int 0)) (pCons (pC (.int 0)) (pNil))))) (pCons (pVar 4) (pCons (pVar 5) (pNil)))))))) (pgName 6)))) (pSeq (pRet (pTup (pCons (pCall (sp_full_term Γ) (pCons (pMake0 Γ.Plain (sp_Plain_init Γ)) (pCons (pTup (pCons (pTup (pCons (pC (.int 0)) (pCons (pC (.int 0)) (pCons (pTup (pCons (pC (.int 1)) (pCons (pC (.int 1)) (pNil)))) (pNil))))) (pNil))) (pCons (pVar 6) (pNil))))) (pCons (pMake Γ.Range (sp_Range_init Γ) (pCons (pTup (pCons (pC (.int 0)) (pCons (pC (.int 0)) (pNil)))) (pCons (pTup (pCons (pC (.int 1)) (pCons (pC (.int 0)) (pNil)))) (pCons (pC (.int 0)) (pNil))))) (pNil))))) (pNext)))))))
/-- sm_look_term: slots 0 term -/
def p_sm_look_term (Γ : Ad) : PSm := pSeq (pIf (pOr (pNotT (pTst (pIsC Γ.Term2 (pVar 0)))) (pNotT (pTst (pProp Γ.Term2 (sp_Term2_full Γ) (pVar 0))))) (pDead) (pNext)) (pSeq (pIf (pTst (pBin fEq (pLen (pQOf (pFld Γ.Term2 (pVar 0) "top"))) (pC (.int 0)))) (pDead) (pNext)) (pNext))
/-- sm_look_kind: slots 0 term, 1 span -/
def p_sm_look_kind (Γ : Ad) : PSm := pSeq (pDrop (pCall (sp_sm_look_term Γ) (pCons (pVar 0) (pNil)))) (pSeq (pIf (pNotT (pTst (pIsC Γ.Range (pVar 1)))) (pDead) (pNext)) (pNext))
/-- sm_look_there: slots 0 term, 1 span, 2 gone -/
def p_sm_look_there (Γ : Ad) : PSm := pSeq (pAsg (pCall (sp_rg_gone Γ) (pCons (pFld Γ.Pure (pFld Γ.Term2 (pVar 0) "pure") "tops") (pCons (pVar 1) (pNil)))) (pgName 2)) (pSeq (pIf (pTst (pBin fNotN (pVar 2) (pC .non))) (pDead) (pNext)) (pNext))
/-- sm_look: slots 0 term, 1 span -/
def p_sm_look (Γ : Ad) : PSm := pSeq (pDrop (pCall (sp_sm_look_kind Γ) (pCons (pVar 0) (pCons (pVar 1) (pNil))))) (pSeq (pDrop (pCall (sp_sm_look_there Γ) (pCons (pVar 0) (pCons (pVar 1) (pNil))))) (pNext))
/-- sm_sum: slots 0 term, 1 span, 2 n, 3 low, 4 high, 5 told, 6 k -/
def p_sm_sum (Γ : Ad) : PSm := pSeq (pAsg (pMeth Γ.Range "ends" (sp_Range_ends Γ) (pVar 1) (pCons (pVar 2) (pNil))) (pgTup 2 (pgCons (pgName 3) (pgCons (pgName 4) (pgNil))))) (pSeq (pIf (pTst (pBin fGt (pBin fAdd (pBin fSub (pVar 4) (pVar 3)) (pC (.int 1))) (pC (.int 600)))) (pDead) (pNext)) (pSeq (pAsg (pTup (pCons (pC (.int 0)) (pCons (pC (.int 1)) (pNil)))) (pgName 5)) (pSeq (pFor (pRng2 (pCons (pVar 3) (pCons (pBin fAdd (pVar 4) (pC (.int 1))) (pNil)))) (pgName 6) (pSeq (pAsg (pCall (sp_plus Γ) (pCons (pVar 5) (pCons (pCall (sp_t2_number Γ) (pCons (pVar 0) (pCons (pVar 2) (pCons (pVar 6) (pNil))))) (pNil)))) (pgName 5)) (pNext))) (pSeq (pRetN 5) (pNext)))))
/-- sum_value: slots 0 term, 1 span, 2 n -/
def p_sum_value (Γ : Ad) : PSm := pSeq (pDrop (pCall (sp_sm_look Γ) (pCons (pVar 0) (pCons (pVar 1) (pNil))))) (pSeq (pIf (pNotT (pTst (pCall (sp_nu_integer Γ) (pCons (pVar 2) (pNil))))) (pDead) (pNext)) (pSeq (pIf (pTst (pBin fLt (pVar 2) (pFld Γ.Range (pVar 1) "start"))) (pDead) (pNext)) (pSeq (pRet (pCall (sp_sm_sum Γ) (pCons (pVar 0) (pCons (pVar 1) (pCons (pVar 2) (pNil)))))) (pNext))))
/-- _law_stream: slots 0 script, 1 row, 2 at, 3 cell, 4 turn, 5 seed -/
def p__law_stream (Γ : Ad) : PSm := pSeq (pAsg (pLst (pNil)) (pgName 1)) (pSeq (pFor (pRng1 (pCons (pCB fMin (pCons (pLen (pQVar 0)) (pCons (pC (.int 63)) (pNil)))) (pNil))) (pgName 2) (pSeq (pAsg (pCB fInt (pCons (pIx (pQVar 0) (pVar 2)) (pNil))) (pgName 3)) (pSeq (pIf (pTst (pBin fLt (pVar 3) (pC (.int 0)))) (pSeq (pAsg (pBin fSub (pC (.int 0)) (pVar 3)) (pgName 3)) (pNext)) (pNext)) (pSeq (pIf (pTst (pBin fGe (pVar 3) (pBin fPow (pC (.int 10)) (pC (.int 18))))) (pSeq (pFor (pRng1 (pCons (pC (.int 40)) (pNil))) (pgName 4) (pSeq (pApp 1 (pBin fMod (pCB fInt (pCons (pVar 3) (pNil))) (pC (.int 97)))) (pSeq (pAsg (pBin fDiv (pVar 3) (pC (.int 97))) (pgName 3)) (pNext)))) (pNext)) (pSeq (pAsg (pBin fMod (pCB fInt (pCons (pBin fAdd (pBin fAdd (pBin fMul (pVar 3) (pC (.int 7919))) (pBin fMul (pVar 2) (pC (.int 104729)))) (pC (.int 12289))) (pNil))) (pC (.int 1000003))) (pgName 5)) (pSeq (pFor (pRng1 (pCons (pC (.int 6)) (pNil))) (pgName 4) (pSeq (pAsg (pBin fMod (pCB fInt (pCons (pBin fAdd (pBin fAdd (pBin fAdd (pBin fMul (pVar 5) (pVar 5)) (pBin fMul (pVar 4) (pC (.int 6151)))) (pBin fMul (pVar 2) (pC (.int 31)))) (pC (.int 5))) (pNil))) (pC (.int 999983))) (pgName 5)) (pSeq (pApp 1 (pVar 5)) (pNext)))) (pNext)))) (pNext))))) (pSeq (pRev 1) (pSeq (pRetN 1) (pNext))))
/-- _law_next: slots 0 row, 1 many -/
def p__law_next (Γ : Ad) : PSm := pSeq (pIf (pTst (pBin fEq (pLenD 0) (pC (.int 0)))) (pSeq (pRet (pC (.int 0))) (pNext)) (pNext)) (pSeq (pRet (pBin fMod (pCB fInt (pCons (pPopD 0) (pNil))) (pVar 1))) (pNext))
/-- _law_int: slots 0 value -/
def p__law_int (Γ : Ad) : PSm := pSeq (pRet (pAndV (pIsi "int" (pVar 0)) (pNotV (pIsi "bool" (pVar 0))))) (pNext)
/-- _law_gcd: slots 0 one, 1 other, 2 turn, 3 rest -/
def p__law_gcd (Γ : Ad) : PSm := pSeq (pAsg (pCB fAbs (pCons (pVar 0) (pNil))) (pgName 0)) (pSeq (pAsg (pCB fAbs (pCons (pVar 1) (pNil))) (pgName 1)) (pSeq (pFor (pRng1 (pCons (pBin fAdd (pBin fMul (pC (.int 2)) (pBits (pVar 1))) (pC (.int 10))) (pNil))) (pgName 2) (pSeq (pIf (pTst (pBin fNe (pVar 1) (pC (.int 0)))) (pSeq (pAsg (pBin fMod (pVar 0) (pVar 1)) (pgName 3)) (pSeq (pAsg (pVar 1) (pgName 0)) (pSeq (pAsg (pVar 3) (pgName 1)) (pNext)))) (pNext)) (pNext))) (pSeq (pRetN 0) (pNext))))
/-- _law_is_num: slots 0 value -/
def p__law_is_num (Γ : Ad) : PSm := pSeq (pIf (pOr (pNotT (pTst (pIsi "tuple" (pVar 0)))) (pTst (pBin fNe (pLen (pQVar 0)) (pC (.int 2))))) (pSeq (pRet (pC (.bl false))) (pNext)) (pNext)) (pSeq (pIf (pOr (pNotT (pTst (pCall (sp__law_int Γ) (pCons (pIx (pQVar 0) (pC (.int 0))) (pNil))))) (pNotT (pTst (pCall (sp__law_int Γ) (pCons (pIx (pQVar 0) (pC (.int 1))) (pNil)))))) (pSeq (pRet (pC (.bl false))) (pNext)) (pNext)) (pSeq (pRet (pAndV (pBin fGe (pIx (pQVar 0) (pC (.int 1))) (pC (.int 1))) (pBin fEq (pCall (sp__law_gcd Γ) (pCons (pIx (pQVar 0) (pC (.int 0))) (pCons (pIx (pQVar 0) (pC (.int 1))) (pNil)))) (pC (.int 1))))) (pNext)))
/-- _law_pow: slots 0 base, 1 many, 2 made, 3 turn -/
def p__law_pow (Γ : Ad) : PSm := pSeq (pAsg (pC (.int 1)) (pgName 2)) (pSeq (pFor (pRng1 (pCons (pVar 1) (pNil))) (pgName 3) (pSeq (pAsg (pBin fMul (pVar 2) (pVar 0)) (pgName 2)) (pNext))) (pSeq (pRetN 2) (pNext)))
/-- _law_digit_sum: slots 0 a, 1 b, 2 c, 3 n, 4 total, 5 one, 6 two, 7 power_v, 8 k -/
def p__law_digit_sum (Γ : Ad) : PSm := pSeq (pAsg (pC (.int 0)) (pgName 4)) (pSeq (pAsg (pC (.int 1)) (pgName 5)) (pSeq (pAsg (pC (.int 1)) (pgName 6)) (pSeq (pAsg (pC (.int 1)) (pgName 7)) (pSeq (pFor (pRng1 (pCons (pBin fAdd (pVar 3) (pC (.int 1))) (pNil))) (pgName 8) (pSeq (pAsg (pBin fAdd (pVar 4) (pBin fMul (pBin fMul (pCall (sp__law_pow Γ) (pCons (pVar 5) (pCons (pVar 0) (pNil)))) (pCall (sp__law_pow Γ) (pCons (pVar 6) (pCons (pVar 1) (pNil))))) (pVar 7))) (pgName 4)) (pSeq (pAsg (pBin fDiv (pBin fMul (pVar 5) (pBin fSub (pVar 3) (pVar 8))) (pBin fAdd (pVar 8) (pC (.int 1)))) (pgName 5)) (pSeq (pAsg (pBin fDiv (pBin fMul (pVar 6) (pBin fAdd (pBin fAdd (pVar 3) (pVar 8)) (pC (.int 1)))) (pBin fAdd (pVar 8) (pC (.int 1)))) (pgName 6)) (pSeq (pAsg (pBin fMul (pVar 7) (pVar 2)) (pgName 7)) (pNext)))))) (pSeq (pRetN 4) (pNext))))))
/-- _law_divided: slots 0 a, 1 b, 2 c, 3 p, 4 n -/
def p__law_divided (Γ : Ad) : PSm := pSeq (pRet (pBin fEq (pBin fMod (pCB fInt (pCons (pCall (sp__law_digit_sum Γ) (pCons (pVar 0) (pCons (pVar 1) (pCons (pBin fMod (pCB fInt (pCons (pVar 2) (pNil))) (pVar 3)) (pCons (pVar 4) (pNil)))))) (pNil))) (pVar 3)) (pC (.int 0)))) (pNext)
/-- _law_first: slots 0 a, 1 b, 2 c, 3 p, 4 n -/
def p__law_first (Γ : Ad) : PSm := pSeq (pFor (pRng1 (pCons (pVar 3) (pNil))) (pgName 4) (pSeq (pIf (pTst (pCall (sp__law_divided Γ) (pCons (pVar 0) (pCons (pVar 1) (pCons (pVar 2) (pCons (pVar 3) (pCons (pVar 4) (pNil)))))))) (pSeq (pRetN 4) (pNext)) (pNext)) (pNext))) (pSeq (pRet (pC .non)) (pNext))
/-- _law_small_power: slots 0 p, 1 made, 2 count, 3 turn -/
def p__law_small_power (Γ : Ad) : PSm := pSeq (pAsg (pC (.int 1)) (pgName 1)) (pSeq (pAsg (pC (.int 0)) (pgName 2)) (pSeq (pFor (pRng1 (pCons (pC (.int 8)) (pNil))) (pgName 3) (pSeq (pIf (pTst (pBin fLe (pBin fMul (pVar 1) (pVar 0)) (pC (.int 64)))) (pSeq (pAsg (pBin fMul (pVar 1) (pVar 0)) (pgName 1)) (pSeq (pAsg (pBin fAdd (pVar 2) (pC (.int 1))) (pgName 2)) (pNext))) (pNext)) (pNext))) (pSeq (pRetN 2) (pNext))))
/-- _law_counts_ok: slots 0 draws, 1 a, 2 b, 3 c, 4 p, 5 power_v, 6 count, 7 n, 8 told, 9 digits, 10 great -/
def p__law_counts_ok (Γ : Ad) : PSm := pSeq (pAsg (pCall (sp__law_next Γ) (pCons (pVar 0) (pCons (pBin fAdd (pCall (sp__law_small_power Γ) (pCons (pVar 4) (pNil))) (pC (.int 1))) (pNil)))) (pgName 5)) (pSeq (pAsg (pC (.int 0)) (pgName 6)) (pSeq (pFor (pRng1 (pCons (pCall (sp__law_pow Γ) (pCons (pVar 4) (pCons (pVar 5) (pNil)))) (pNil))) (pgName 7) (pSeq (pIf (pNotT (pTst (pCall (sp__law_divided Γ) (pCons (pVar 1) (pCons (pVar 2) (pCons (pVar 3) (pCons (pVar 4) (pCons (pVar 7) (pNil))))))))) (pSeq (pAsg (pBin fAdd (pVar 6) (pC (.int 1))) (pgName 6)) (pNext)) (pNext)) (pNext))) (pSeq (pAsg (pCall (sp_count_undivided Γ) (pCons (pVar 1) (pCons (pVar 2) (pCons (pVar 3) (pCons (pVar 4) (pCons (pVar 5) (pNil))))))) (pgName 8)) (pSeq (pIf (pOr (pNotT (pTst (pCall (sp__law_int Γ) (pCons (pVar 8) (pNil))))) (pTst (pBin fNe (pVar 8) (pVar 6)))) (pSeq (pRet (pC (.bl false))) (pNext)) (pNext)) (pSeq (pAsg (pC (.int 0)) (pgName 9)) (pSeq (pFor (pRng1 (pCons (pVar 4) (pNil))) (pgName 7) (pSeq (pIf (pNotT (pTst (pCall (sp__law_divided Γ) (pCons (pVar 1) (pCons (pVar 2) (pCons (pVar 3) (pCons (pVar 4) (pCons (pVar 7) (pNil))))))))) (pSeq (pAsg (pBin fAdd (pVar 9) (pC (.int 1))) (pgName 9)) (pNext)) (pNext)) (pNext))) (pSeq (pAsg (pIx (pQOf (pLst (pCons (pC (.int 60)) (pCons (pC (.int 59)) (pCons (pC (.int 33)) (pCons (pC (.int 17)) (pNil))))))) (pCall (sp__law_next Γ) (pCons (pVar 0) (pCons (pC (.int 4)) (pNil))))) (pgName 10)) (pSeq (pAsg (pCall (sp_count_undivided Γ) (pCons (pVar 1) (pCons (pVar 2) (pCons (pVar 3) (pCons (pVar 4) (pCons (pVar 10) (pNil))))))) (pgName 8)) (pSeq (pRet (pAndV (pCall (sp__law_int Γ) (pCons (pVar 8) (pNil))) (pBin fEq (pVar 8) (pCall (sp__law_pow Γ) (pCons (pVar 9) (pCons (pVar 10) (pNil))))))) (pNext))))))))))
/-- _law_first_is: slots 0 a, 1 b, 2 c, 3 p, 4 due, 5 told -/
def p__law_first_is (Γ : Ad) : PSm := pSeq (pAsg (pCall (sp_first_divided Γ) (pCons (pVar 0) (pCons (pVar 1) (pCons (pVar 2) (pCons (pVar 3) (pNil)))))) (pgName 5)) (pSeq (pIf (pTst (pBin fIsN (pVar 4) (pC .non))) (pSeq (pRet (pBin fIsN (pVar 5) (pC .non))) (pNext)) (pNext)) (pSeq (pRet (pAndV (pCall (sp__law_int Γ) (pCons (pVar 5) (pNil))) (pBin fEq (pVar 5) (pVar 4)))) (pNext)))
/-- _law_term_ok: slots 0 draws, 1 a, 2 b, 3 c, 4 kept, 5 e, 6 made, 7 n, 8 told -/
def p__law_term_ok (Γ : Ad) : PSm := pSeq (pIf (pTst (pBin fEq (pVar 3) (pC (.int 0)))) (pSeq (pAsg (pC .non) (pgName 4)) (pSeq (pTry 5 Γ.IsZero (pSeq (pDrop (pCall (sp_digit_term Γ) (pCons (pVar 1) (pCons (pVar 2) (pCons (pVar 3) (pNil)))))) (pNext)) (fun a d => pSeq (pAsg (pExF 5 a d "word") (pgName 4)) (pNext))) (pSeq (pRet (pBin fEq (pVar 4) (pC (.str "number")))) (pNext)))) (pNext)) (pSeq (pAsg (pCall (sp_digit_term Γ) (pCons (pVar 1) (pCons (pVar 2) (pCons (pVar 3) (pNil))))) (pgName 6)) (pSeq (pIf (pOr (pNotT (pTst (pIsi "tuple" (pVar 6)))) (pTst (pBin fNe (pLen (pQVar 6)) (pC (.int 2))))) (pSeq (pRet (pC (.bl false))) (pNext)) (pNext)) (pSeq (pIf (pOr (pNotT (pTst (pIsC Γ.Term2 (pIx (pQVar 6) (pC (.int 0)))))) (pOr (pNotT (pTst (pIsC Γ.Range (pIx (pQVar 6) (pC (.int 1)))))) (pTst (pBin fNotB (pProp Γ.Term2 (sp_Term2_full Γ) (pIx (pQVar 6) (pC (.int 0)))) (pC (.bl true)))))) (pSeq (pRet (pC (.bl false))) (pNext)) (pNext)) (pSeq (pIf (pTst (pBin fNe (pFld Γ.Range (pIx (pQVar 6) (pC (.int 1))) "start") (pC (.int 0)))) (pSeq (pRet (pC (.bl false))) (pNext)) (pNext)) (pSeq (pFor (pISeq (pLst (pCons (pC (.int 0)) (pCons (pCall (sp__law_next Γ) (pCons (pVar 0) (pCons (pC (.int 12)) (pNil)))) (pNil))))) (pgName 7) (pSeq (pAsg (pCall (sp_sum_value Γ) (pCons (pIx (pQVar 6) (pC (.int 0))) (pCons (pIx (pQVar 6) (pC (.int 1))) (pCons (pVar 7) (pNil))))) (pgName 8)) (pSeq (pIf (pOr (pNotT (pTst (pCall (sp__law_is_num Γ) (pCons (pVar 8) (pNil))))) (pTst (pBin fNe (pVar 8) (pTup (pCons (pCall (sp__law_digit_sum Γ) (pCons (pVar 1) (pCons (pVar 2) (pCons (pVar 3) (pCons (pVar 7) (pNil)))))) (pCons (pC (.int 1)) (pNil))))))) (pSeq (pRet (pC (.bl false))) (pNext)) (pNext)) (pNext)))) (pSeq (pRet (pC (.bl true))) (pNext)))))))
/-- _law_refused: slots 0 door, 1 row, 2 kept, 3 e -/
def p__law_refused (Γ : Ad) : PSm := pSeq (pAsg (pC .non) (pgName 2)) (pSeq (pTry2 3 3 Γ.BadInteger Γ.TooMuch (pSeq (pIf (pTst (pBin fEq (pVar 0) (pC (.int 0)))) (pSeq (pDrop (pCall (sp_digit_value Γ) (pCons (pIx (pQVar 1) (pC (.int 0))) (pCons (pIx (pQVar 1) (pC (.int 1))) (pCons (pIx (pQVar 1) (pC (.int 2))) (pCons (pIx (pQVar 1) (pC (.int 3))) (pNil))))))) (pNext)) (pSeq (pIf (pTst (pBin fEq (pVar 0) (pC (.int 1)))) (pSeq (pDrop (pCall (sp_digit_mod Γ) (pCons (pIx (pQVar 1) (pC (.int 0))) (pCons (pIx (pQVar 1) (pC (.int 1))) (pCons (pIx (pQVar 1) (pC (.int 2))) (pCons (pIx (pQVar 1) (pC (.int 3))) (pCons (pIx (pQVar 1) (pC (.int 4))) (pNil)))))))) (pNext)) (pSeq (pIf (pTst (pBin fEq (pVar 0) (pC (.int 2)))) (pSeq (pDrop (pCall (sp_first_divided Γ) (pCons (pIx (pQVar 1) (pC (.int 0))) (pCons (pIx (pQVar 1) (pC (.int 1))) (pCons (pIx (pQVar 1) (pC (.int 2))) (pCons (pIx (pQVar 1) (pC (.int 4))) (pNil))))))) (pNext)) (pSeq (pIf (pTst (pBin fEq (pVar 0) (pC (.int 3)))) (pSeq (pDrop (pCall (sp_count_undivided Γ) (pCons (pIx (pQVar 1) (pC (.int 0))) (pCons (pIx (pQVar 1) (pC (.int 1))) (pCons (pIx (pQVar 1) (pC (.int 2))) (pCons (pIx (pQVar 1) (pC (.int 4))) (pCons (pIx (pQVar 1) (pC (.int 3))) (pNil)))))))) (pNext)) (pSeq (pDrop (pCall (sp_digit_term Γ) (pCons (pIx (pQVar 1) (pC (.int 0))) (pCons (pIx (pQVar 1) (pC (.int 1))) (pCons (pIx (pQVar 1) (pC (.int 2))) (pNil)))))) (pNext))) (pNext))) (pNext))) (pNext))) (pNext)) (fun a d => pSeq (pAsg (pLst (pCons (pC (.str "integer")) (pCons (pExF 3 a d "handed") (pNil)))) (pgName 2)) (pNext)) (fun a d => pSeq (pAsg (pLst (pCons (pExF 3 a d "word") (pCons (pExF 3 a d "most") (pNil)))) (pgName 2)) (pNext))) (pSeq (pRetN 2) (pNext)))
/-- _law_refusals_ok: slots 0 draws, 1 door, 2 bad, 3 good, 4 low -/
def p__law_refusals_ok (Γ : Ad) : PSm := pSeq (pAsg (pCall (sp__law_next Γ) (pCons (pVar 0) (pCons (pC (.int 5)) (pNil)))) (pgName 1)) (pSeq (pAsg (pIx (pQOf (pLst (pCons (pC (.int 0)) (pCons (pC (.int 5)) (pCons (pC (.bl true)) (pCons (pC .non) (pCons (pC (.str "1")) (pNil)))))))) (pCall (sp__law_next Γ) (pCons (pVar 0) (pCons (pC (.int 5)) (pNil))))) (pgName 2)) (pSeq (pIf (pTst (pBin fNe (pCall (sp__law_refused Γ) (pCons (pVar 1) (pCons (pLst (pCons (pVar 2) (pCons (pC (.int 9)) (pCons (pC (.str "c")) (pCons (pNeg (pC (.int 1))) (pCons (pC (.int 4)) (pNil))))))) (pNil)))) (pLst (pCons (pC (.str "integer")) (pCons (pVar 2) (pNil)))))) (pSeq (pRet (pC (.bl false))) (pNext)) (pNext)) (pSeq (pAsg (pIx (pQOf (pLst (pCons (pNeg (pC (.int 1))) (pCons (pC (.int 5)) (pCons (pC (.bl false)) (pCons (pC .non) (pNil))))))) (pCall (sp__law_next Γ) (pCons (pVar 0) (pCons (pC (.int 4)) (pNil))))) (pgName 2)) (pSeq (pIf (pTst (pBin fNe (pCall (sp__law_refused Γ) (pCons (pVar 1) (pCons (pLst (pCons (pC (.int 4)) (pCons (pVar 2) (pCons (pC (.str "c")) (pCons (pNeg (pC (.int 1))) (pCons (pC (.int 4)) (pNil))))))) (pNil)))) (pLst (pCons (pC (.str "integer")) (pCons (pVar 2) (pNil)))))) (pSeq (pRet (pC (.bl false))) (pNext)) (pNext)) (pSeq (pIf (pTst (pBin fNe (pCall (sp__law_refused Γ) (pCons (pVar 1) (pCons (pLst (pCons (pC (.int 1)) (pCons (pC (.int 4)) (pCons (pTup (pCons (pC (.int 1)) (pCons (pC (.int 1)) (pNil)))) (pCons (pNeg (pC (.int 1))) (pCons (pC (.int 4)) (pNil))))))) (pNil)))) (pLst (pCons (pC (.str "integer")) (pCons (pTup (pCons (pC (.int 1)) (pCons (pC (.int 1)) (pNil)))) (pNil)))))) (pSeq (pRet (pC (.bl false))) (pNext)) (pNext)) (pSeq (pAsg (pIx (pQOf (pLst (pCons (pC (.int 1)) (pCons (pC (.int 0)) (pCons (pNeg (pC (.int 2))) (pCons (pC (.int 4)) (pCons (pC (.int 169)) (pCons (pC (.int 187)) (pCons (pC (.int 201)) (pCons (pC (.int 211)) (pCons (pC (.bl true)) (pCons (pC .non) (pNil))))))))))))) (pCall (sp__law_next Γ) (pCons (pVar 0) (pCons (pC (.int 10)) (pNil))))) (pgName 2)) (pSeq (pAsg (pBin fAdd (pC (.int 1)) (pCall (sp__law_next Γ) (pCons (pVar 0) (pCons (pC (.int 3)) (pNil))))) (pgName 1)) (pSeq (pAsg (pC (.int 19)) (pgName 3)) (pSeq (pIf (pTst (pBin fEq (pCall (sp__law_next Γ) (pCons (pVar 0) (pCons (pC (.int 12)) (pNil)))) (pC (.int 11)))) (pSeq (pAsg (pC (.int 199)) (pgName 3)) (pNext)) (pNext)) (pSeq (pIf (pOr (pTst (pBin fNe (pCall (sp__law_refused Γ) (pCons (pVar 1) (pCons (pLst (pCons (pC (.int 1)) (pCons (pC (.int 0)) (pCons (pC (.int 2)) (pCons (pC (.int 3)) (pCons (pVar 2) (pNil))))))) (pNil)))) (pLst (pCons (pC (.str "integer")) (pCons (pVar 2) (pNil)))))) (pTst (pBin fNotN (pCall (sp__law_refused Γ) (pCons (pVar 1) (pCons (pLst (pCons (pC (.int 1)) (pCons (pC (.int 0)) (pCons (pC (.int 2)) (pCons (pC (.int 3)) (pCons (pVar 3) (pNil))))))) (pNil)))) (pC .non)))) (pSeq (pRet (pC (.bl false))) (pNext)) (pNext)) (pSeq (pAsg (pIx (pQOf (pLst (pCons (pNeg (pC (.int 1))) (pCons (pC .non) (pCons (pC (.bl true)) (pCons (pC (.str "0")) (pNil))))))) (pCall (sp__law_next Γ) (pCons (pVar 0) (pCons (pC (.int 4)) (pNil))))) (pgName 2)) (pSeq (pFor (pISeq (pLst (pCons (pC (.int 0)) (pCons (pC (.int 1)) (pCons (pC (.int 3)) (pNil)))))) (pgName 1) (pSeq (pIf (pTst (pBin fNe (pCall (sp__law_refused Γ) (pCons (pVar 1) (pCons (pLst (pCons (pC (.int 1)) (pCons (pC (.int 0)) (pCons (pC (.int 2)) (pCons (pVar 2) (pCons (pC (.int 3)) (pNil))))))) (pNil)))) (pLst (pCons (pC (.str "integer")) (pCons (pVar 2) (pNil)))))) (pSeq (pRet (pC (.bl false))) (pNext)) (pNext)) (pNext))) (pSeq (pIf (pOr (pTst (pBin fNotN (pCall (sp__law_refused Γ) (pCons (pC (.int 0)) (pCons (pLst (pCons (pC (.int 1)) (pCons (pC (.int 0)) (pCons (pC (.int 1)) (pCons (pC (.int 400)) (pCons (pC (.int 3)) (pNil))))))) (pNil)))) (pC .non))) (pTst (pBin fNe (pCall (sp__law_refused Γ) (pCons (pC (.int 0)) (pCons (pLst (pCons (pC (.int 1)) (pCons (pC (.int 0)) (pCons (pC (.int 1)) (pCons (pC (.int 401)) (pCons (pC (.int 3)) (pNil))))))) (pNil)))) (pLst (pCons (pC (.str "place")) (pCons (pC (.int 400)) (pNil))))))) (pSeq (pRet (pC (.bl false))) (pNext)) (pNext)) (pSeq (pIf (pOr (pTst (pBin fNotN (pCall (sp__law_refused Γ) (pCons (pC (.int 3)) (pCons (pLst (pCons (pC (.int 1)) (pCons (pC (.int 0)) (pCons (pC (.int 1)) (pCons (pC (.int 60)) (pCons (pC (.int 3)) (pNil))))))) (pNil)))) (pC .non))) (pTst (pBin fNe (pCall (sp__law_refused Γ) (pCons (pC (.int 3)) (pCons (pLst (pCons (pC (.int 1)) (pCons (pC (.int 0)) (pCons (pC (.int 1)) (pCons (pC (.int 61)) (pCons (pC (.int 3)) (pNil))))))) (pNil)))) (pLst (pCons (pC (.str "power")) (pCons (pC (.int 60)) (pNil))))))) (pSeq (pRet (pC (.bl false))) (pNext)) (pNext)) (pSeq (pAsg (pBin fMul (pBin fMul (pBin fMul (pBin fMul (pBin fMul (pBin fMul (pBin fPow (pC (.int 10)) (pC (.int 64))) (pBin fPow (pC (.int 10)) (pC (.int 64)))) (pBin fPow (pC (.int 10)) (pC (.int 64)))) (pBin fPow (pC (.int 10)) (pC (.int 64)))) (pBin fPow (pC (.int 10)) (pC (.int 64)))) (pBin fPow (pC (.int 10)) (pC (.int 64)))) (pBin fPow (pC (.int 10)) (pC (.int 16)))) (pgName 4)) (pSeq (pIf (pTst (pBin fNotN (pCall (sp__law_refused Γ) (pCons (pC (.int 1)) (pCons (pLst (pCons (pC (.int 1)) (pCons (pC (.int 0)) (pCons (pC (.int 1)) (pCons (pBin fSub (pVar 4) (pC (.int 1))) (pCons (pC (.int 3)) (pNil))))))) (pNil)))) (pC .non))) (pSeq (pRet (pC (.bl false))) (pNext)) (pNext)) (pSeq (pRet (pBin fEq (pCall (sp__law_refused Γ) (pCons (pC (.int 1)) (pCons (pLst (pCons (pC (.int 1)) (pCons (pC (.int 0)) (pCons (pC (.int 1)) (pCons (pVar 4) (pCons (pC (.int 3)) (pNil))))))) (pNil)))) (pLst (pCons (pC (.str "figures")) (pCons (pC (.int 400)) (pNil)))))) (pNext))))))))))))))))))
/-- law: slots 0 script, 1 draws, 2 a, 3 b, 4 c, 5 p, 6 first, 7 lift -/
def p_law (Γ : Ad) : PSm := pStrm 1 (pCall (sp__law_stream Γ) (pCons (pVar 0) (pNil))) (pSeq (pAsg (pBin fAdd (pC (.int 1)) (pCall (sp__law_next Γ) (pCons (pVar 1) (pCons (pC (.int 4)) (pNil))))) (pgName 2)) (pSeq (pAsg (pCall (sp__law_next Γ) (pCons (pVar 1) (pCons (pC (.int 5)) (pNil)))) (pgName 3)) (pSeq (pAsg (pBin fSub (pCall (sp__law_next Γ) (pCons (pVar 1) (pCons (pC (.int 13)) (pNil)))) (pC (.int 6))) (pgName 4)) (pSeq (pIf (pTst (pBin fEq (pCall (sp__law_next Γ) (pCons (pVar 1) (pCons (pC (.int 8)) (pNil)))) (pC (.int 7)))) (pSeq (pAsg (pBin fAdd (pBin fAdd (pBin fMul (pVar 4) (pBin fPow (pC (.int 10)) (pC (.int 19)))) (pBin fMul (pCall (sp__law_next Γ) (pCons (pVar 1) (pCons (pC (.int 97)) (pNil)))) (pBin fPow (pC (.int 10)) (pC (.int 9))))) (pCall (sp__law_next Γ) (pCons (pVar 1) (pCons (pC (.int 97)) (pNil))))) (pgName 4)) (pNext)) (pNext)) (pSeq (pAsg (pIx (pQOf (pLst (pCons (pC (.int 2)) (pCons (pC (.int 3)) (pCons (pC (.int 5)) (pCons (pC (.int 7)) (pCons (pC (.int 11)) (pCons (pC (.int 13)) (pCons (pC (.int 17)) (pCons (pC (.int 19)) (pNil))))))))))) (pCall (sp__law_next Γ) (pCons (pVar 1) (pCons (pC (.int 8)) (pNil))))) (pgName 5)) (pSeq (pAsg (pCall (sp__law_first Γ) (pCons (pVar 2) (pCons (pVar 3) (pCons (pVar 4) (pCons (pVar 5) (pNil)))))) (pgName 6)) (pSeq (pIf (pOr (pNotT (pTst (pCall (sp__law_first_is Γ) (pCons (pVar 2) (pCons (pVar 3) (pCons (pVar 4) (pCons (pVar 5) (pCons (pVar 6) (pNil))))))))) (pNotT (pTst (pCall (sp__law_counts_ok Γ) (pCons (pVar 1) (pCons (pVar 2) (pCons (pVar 3) (pCons (pVar 4) (pCons (pVar 5) (pNil)))))))))) (pSeq (pRet (pC (.bl false))) (pNext)) (pNext)) (pSeq (pAsg (pBin fSub (pCall (sp__law_next Γ) (pCons (pVar 1) (pCons (pC (.int 9)) (pNil)))) (pC (.int 4))) (pgName 7)) (pSeq (pIf (pOr (pNotT (pTst (pCall (sp__law_first_is Γ) (pCons (pC (.int 1)) (pCons (pC (.int 0)) (pCons (pBin fSub (pBin fMul (pVar 7) (pVar 5)) (pC (.int 1))) (pCons (pVar 5) (pCons (pC (.int 1)) (pNil))))))))) (pNotT (pTst (pCall (sp__law_first_is Γ) (pCons (pC (.int 1)) (pCons (pC (.int 0)) (pCons (pBin fMul (pVar 7) (pVar 5)) (pCons (pVar 5) (pCons (pC .non) (pNil)))))))))) (pSeq (pRet (pC (.bl false))) (pNext)) (pNext)) (pSeq (pIf (pOr (pTst (pBin fNe (pCall (sp_count_undivided Γ) (pCons (pC (.int 1)) (pCons (pC (.int 0)) (pCons (pBin fMul (pVar 7) (pVar 5)) (pCons (pVar 5) (pCons (pC (.int 3)) (pNil))))))) (pBin fMul (pBin fMul (pVar 5) (pVar 5)) (pVar 5)))) (pTst (pBin fNe (pCall (sp_count_undivided Γ) (pCons (pC (.int 1)) (pCons (pC (.int 0)) (pCons (pBin fSub (pBin fMul (pVar 7) (pVar 5)) (pC (.int 1))) (pCons (pVar 5) (pCons (pC (.int 3)) (pNil))))))) (pC (.int 1))))) (pSeq (pRet (pC (.bl false))) (pNext)) (pNext)) (pSeq (pIf (pOr (pNotT (pTst (pCall (sp__law_first_is Γ) (pCons (pC (.int 2)) (pCons (pC (.int 0)) (pCons (pC (.int 1)) (pCons (pC (.int 3)) (pCons (pC (.int 2)) (pNil))))))))) (pNotT (pTst (pCall (sp__law_first_is Γ) (pCons (pC (.int 1)) (pCons (pC (.int 0)) (pCons (pC (.int 1)) (pCons (pC (.int 3)) (pCons (pC .non) (pNil)))))))))) (pSeq (pRet (pC (.bl false))) (pNext)) (pNext)) (pSeq (pIf (pNotT (pTst (pCall (sp__law_term_ok Γ) (pCons (pVar 1) (pCons (pVar 2) (pCons (pVar 3) (pCons (pVar 4) (pNil)))))))) (pSeq (pRet (pC (.bl false))) (pNext)) (pNext)) (pSeq (pRet (pCall (sp__law_refusals_ok Γ) (pCons (pVar 1) (pNil)))) (pNext))))))))))))))
/-- Step_init: slots 0 self, 1 word, 2 base -/
def p_Step_init (Γ : Ad) : PSm := pSeq (pSetS Γ.Plain "word" (pVar 1)) (pSeq (pSetS Γ.Plain "base" (pVar 2)) (pNext))
/-- Step_eq: slots 0 self, 1 other -/
def p_Step_eq (Γ : Ad) : PSm := pSeq (pIf (pNotT (pTst (pIsC Γ.Plain (pVar 1)))) (pSeq (pRet (pC (.bl false))) (pNext)) (pNext)) (pSeq (pRet (pAndV (pBin fEq (pFld Γ.Plain (pVar 0) "word") (pFld Γ.Plain (pVar 1) "word")) (pBin fEq (pFld Γ.Plain (pVar 0) "base") (pFld Γ.Plain (pVar 1) "base")))) (pNext))
/-- Pure_init: slots 0 self, 1 step, 2 s, 3 t, 4 square, 5 tops, 6 bottoms, 7 ups, 8 downs -/
def p_Pure_init (Γ : Ad) : PSm := pSeq (pSetS Γ.Pure "step" (pCall (sp_sw_step Γ) (pCons (pVar 1) (pNil)))) (pSeq (pSetS Γ.Pure "s" (pCall (sp_number Γ) (pCons (pVar 2) (pNil)))) (pSeq (pSetS Γ.Pure "t" (pCall (sp_number Γ) (pCons (pVar 3) (pNil)))) (pSeq (pIf (pOr (pTst (pBin fEq (pIx (pQOf (pGetS 0 Γ.Pure "s")) (pC (.int 0))) (pC (.int 0)))) (pTst (pBin fEq (pIx (pQOf (pGetS 0 Γ.Pure "t")) (pC (.int 0))) (pC (.int 0))))) (pDead) (pNext)) (pSeq (pSetS Γ.Pure "square" (pCall (sp_pu_square Γ) (pCons (pVar 1) (pCons (pVar 4) (pNil))))) (pSeq (pAsg (pCall (sp_pu_forms Γ) (pCons (pVar 5) (pNil))) (pgName 7)) (pSeq (pAsg (pCall (sp_pu_forms Γ) (pCons (pVar 6) (pNil))) (pgName 8)) (pSeq (pSetS Γ.Pure "tops" (pCall (sp_pu_less Γ) (pCons (pVar 7) (pCons (pVar 8) (pNil))))) (pSeq (pSetS Γ.Pure "bottoms" (pCall (sp_pu_less Γ) (pCons (pVar 8) (pCons (pVar 7) (pNil))))) (pSeq (pIf (pTst (pBin fGt (pBin fAdd (pLen (pQOf (pGetS 0 Γ.Pure "tops"))) (pLen (pQOf (pGetS 0 Γ.Pure "bottoms")))) (pC (.int 20)))) (pDead) (pNext)) (pNext))))))))))
/-- Term2_init: slots 0 self, 1 step, 2 top, 3 bottom, 4 pure, 5 above, 6 below, 7 a, 8 b, 9 w -/
def p_Term2_init (Γ : Ad) : PSm := pSeq (pSetS Γ.Term2 "step" (pCall (sp_sw_step Γ) (pCons (pVar 1) (pNil)))) (pSeq (pAsg (pCall (sp_i2_look Γ) (pCons (pVar 1) (pCons (pVar 2) (pNil)))) (pgName 5)) (pSeq (pAsg (pCall (sp_i2_look Γ) (pCons (pVar 1) (pCons (pVar 3) (pNil)))) (pgName 6)) (pSeq (pIf (pTst (pBin fEq (pLen (pQVar 6)) (pC (.int 0)))) (pDead) (pNext)) (pSeq (pIf (pAnd (pTst (pBin fEq (pFld Γ.Plain (pVar 1) "word") (pC (.str "base")))) (pTst (pCB fAny (pCons (pLc 9 (pISeq (pVar 6)) (pYes) (pBin fNe (pIx (pQVar 9) (pC (.int 1))) (pC (.int 0)))) (pNil))))) (pDead) (pNext)) (pSeq (pIf (pNotT (pTst (pIsC Γ.Pure (pVar 4)))) (pDead) (pNext)) (pSeq (pIf (pNotT (pTst (pBin (fEqC Γ.Plain (sp_Step_eq Γ)) (pFld Γ.Pure (pVar 4) "step") (pVar 1)))) (pDead) (pNext)) (pSeq (pIf (pAnd (pTst (pBin fEq (pLen (pQVar 6)) (pC (.int 1)))) (pTst (pBin fEq (pSl (pQOf (pIx (pQVar 6) (pC (.int 0)))) (pNo) (pSo (pC (.int 2)))) (pTup (pCons (pC (.int 0)) (pCons (pC (.int 0)) (pNil))))))) (pSeq (pAsg (pIx (pQOf (pIx (pQVar 6) (pC (.int 0)))) (pC (.int 2))) (pgTup 2 (pgCons (pgName 7) (pgCons (pgName 8) (pgNil))))) (pSeq (pAsg (pCall (sp_i2_scaled Γ) (pCons (pVar 5) (pCons (pVar 8) (pCons (pVar 7) (pNil))))) (pgName 5)) (pSeq (pAsg (pC (.tup [.tup [.int 0, .int 0, .tup [.int 1, .int 1]]])) (pgName 6)) (pNext)))) (pNext)) (pSeq (pSetS Γ.Term2 "top" (pVar 5)) (pSeq (pSetS Γ.Term2 "bottom" (pVar 6)) (pSeq (pSetS Γ.Term2 "pure" (pVar 4)) (pNext)))))))))))
/-- Term2_full: slots 0 self -/
def p_Term2_full (Γ : Ad) : PSm := pSeq (pRet (pBin fEq (pFld Γ.Term2 (pVar 0) "bottom") (pC (.tup [.tup [.int 0, .int 0, .tup [.int 1, .int 1]]])))) (pNext)
/-- Range_init: slots 0 self, 1 low, 2 high, 3 start, 4 slope -/
def p_Range_init (Γ : Ad) : PSm := pSeq (pSetS Γ.Range "low" (pCall (sp_rg_pair Γ) (pCons (pVar 1) (pCons (pC (.str "low")) (pNil))))) (pSeq (pSetS Γ.Range "high" (pCall (sp_rg_pair Γ) (pCons (pVar 2) (pCons (pC (.str "high")) (pNil))))) (pSeq (pIf (pOr (pNotT (pTst (pCall (sp_nu_integer Γ) (pCons (pVar 3) (pNil))))) (pTst (pBin fLt (pVar 3) (pC (.int 0))))) (pDead) (pNext)) (pSeq (pSetS Γ.Range "start" (pVar 3)) (pSeq (pAsg (pBin fSub (pIx (pQOf (pGetS 0 Γ.Range "high")) (pC (.int 0))) (pIx (pQOf (pGetS 0 Γ.Range "low")) (pC (.int 0)))) (pgName 4)) (pSeq (pIf (pOr (pTst (pBin fLt (pVar 4) (pC (.int 0)))) (pTst (pBin fLt (pBin fSub (pBin fAdd (pBin fMul (pVar 4) (pVar 3)) (pIx (pQOf (pGetS 0 Γ.Range "high")) (pC (.int 1)))) (pIx (pQOf (pGetS 0 Γ.Range "low")) (pC (.int 1)))) (pNeg (pC (.int 1)))))) (pDead) (pNext)) (pNext))))))
/-- Range_ends: slots 0 self, 1 n -/
def p_Range_ends (Γ : Ad) : PSm := pSeq (pIf (pNotT (pTst (pCall (sp_nu_integer Γ) (pCons (pVar 1) (pNil))))) (pDead) (pNext)) (pSeq (pRet (pTup (pCons (pBin fAdd (pBin fMul (pIx (pQOf (pFld Γ.Range (pVar 0) "low")) (pC (.int 0))) (pVar 1)) (pIx (pQOf (pFld Γ.Range (pVar 0) "low")) (pC (.int 1)))) (pCons (pBin fAdd (pBin fMul (pIx (pQOf (pFld Γ.Range (pVar 0) "high")) (pC (.int 0))) (pVar 1)) (pIx (pQOf (pFld Γ.Range (pVar 0) "high")) (pC (.int 1)))) (pNil))))) (pNext))
end K89
end
section
set_option Elab.async false
set_option linter.all false
set_option maxRecDepth 100000
namespace K89
open PySem L2 Py
/-- the ends of a def's body -/
abbrev ends (Q : Res → List Int → Prop) (E : PX → List Int → Prop) : PEnds := ⟨fun _ S' => Q (.dat .non) S', Q, fun _ _ => False, fun _ _ => False, fun x _ S' => E x S'⟩
theorem at_nat {xs : List D} {i : Nat} {d : D} (h : xs[i]? = some d) : atI xs (i : Int) = some d := by
  have hl : i < xs.length := (List.getElem?_eq_some_iff.mp h).1
  unfold atI ixN
  rw [if_pos (by omega), if_pos (by omega)]
  simpa using h
@[simp] theorem at0 (a : D) (r : List D) : atI (a :: r) 0 = some a := at_nat (i := 0) rfl
@[simp] theorem at1 (a b : D) (r : List D) : atI (a :: b :: r) 1 = some b := at_nat (i := 1) rfl
@[simp] theorem at2 (a b c : D) (r : List D) : atI (a :: b :: c :: r) 2 = some c := at_nat (i := 2) rfl
theorem abs_eq (i : Int) : (if i < 0 then -i else i) = (i.natAbs : Int) := by split <;> omega
theorem sb_log {n : Nat} {x : Int} (h : sb n x) : x.natAbs.log2 ≤ n := by
  by_cases z : x.natAbs = 0
  · rw [z]; simp
  · by_cases q : x.natAbs = 2 ^ n
    · rw [q, Nat.log2_two_pow]; exact Nat.le_refl _
    · have h : x.natAbs < 2 ^ n := by unfold sb at h; omega
      exact Nat.le_of_lt ((Nat.log2_lt z).mpr h)
theorem sb_mono {m n : Nat} {x : Int} (h : sb m x) (l : m ≤ n) : sb n x := Nat.le_trans h (Nat.pow_le_pow_right (by decide) l)
theorem sb_mul {m n : Nat} {x y : Int} (h1 : sb m x) (h2 : sb n y) : sb (m + n) (x * y) := by
  unfold sb at *
  rw [Int.natAbs_mul, Nat.pow_add]
  exact Nat.mul_le_mul h1 h2
theorem sb_add {n : Nat} {x y : Int} (h1 : sb n x) (h2 : sb n y) : sb (n + 1) (x + y) := by
  unfold sb at *
  rw [Nat.pow_succ]
  have := Int.natAbs_add_le x y
  omega
theorem sb_pow {n : Nat} {x : Int} (h : sb n x) (e : Nat) : sb (n * e) (x ^ e) := by
  unfold sb at *
  rw [Int.natAbs_pow, Nat.pow_mul]
  exact Nat.pow_le_pow_left h e
theorem cmulb {m n : Nat} {x y : Int} (h1 : sb m x) (h2 : sb n y) (h : m + n < 1000000) : CMulW x y := by
  have := sb_log h1
  have := sb_log h2
  unfold CMulW
  omega
theorem sb_nat {n m : Nat} (h : m ≤ 2 ^ n) : sb n (m : Int) := by unfold sb; rw [Int.natAbs_natCast]; exact h
theorem pf_nu_integer (Γ : Ad) : ∀ rs S Q E, sp_nu_integer Γ rs S Q E → p_nu_integer Γ (ends Q E) (rs.map Res.slot ++ List.replicate (1 - rs.length) .un) S := by
  rintro rs S Q E ⟨d, rfl, h, q⟩
  cases d <;> simp_all [p_nu_integer, isI]
theorem pf__law_int (Γ : Ad) : ∀ rs S Q E, sp__law_int Γ rs S Q E → p__law_int Γ (ends Q E) (rs.map Res.slot ++ List.replicate (1 - rs.length) .un) S := by
  rintro rs S Q E ⟨d, rfl, h, q⟩
  cases d <;> simp_all [p__law_int, isI]
theorem pf_nu_gcd (Γ : Ad) : ∀ rs S Q E, sp_nu_gcd Γ rs S Q E → p_nu_gcd Γ (ends Q E) (rs.map Res.slot ++ List.replicate (2 - rs.length) .un) S := by
  rintro rs S Q E ⟨a, b, rfl, q⟩
  simp [p_nu_gcd, abs_eq]
  refine while_ind (fun m sl S' => ∃ x y : Nat, sl = [.dat (.int x), .dat (.int y)] ∧ S' = S ∧ Nat.gcd x y = Int.gcd a b ∧ m = y) b.natAbs ⟨a.natAbs, b.natAbs, rfl, rfl, rfl, rfl⟩ ?_
  rintro m sl S' N ⟨x, y, rfl, rfl, hg, rfl⟩ hN
  by_cases h : m = 0
  · subst h
    simp at hg ⊢
    rw [hg]
    exact q
  · have h2 : (m : Int) ≠ 0 := by omega
    simp [h, h2]
    refine hN (x % m) _ _ (Nat.mod_lt x (by omega)) ⟨m, x % m, ?_, rfl, ?_, rfl⟩
    · rw [Int.fmod_eq_emod_of_nonneg _ (by omega)]
      rfl
    · rw [← hg, Nat.gcd_comm x m, Nat.gcd_rec m x, Nat.gcd_comm]
theorem gcd_low {x b : Int} (h : 0 < b) : (Int.gcd (x * b) b : Int) = b := by
  rw [Int.gcd_mul_left_left]
  omega
theorem pf_nu_low (Γ : Ad) : ∀ rs S Q E, sp_nu_low Γ rs S Q E → p_nu_low Γ (ends Q E) (rs.map Res.slot ++ List.replicate (3 - rs.length) .un) S := by
  rintro rs S Q E ⟨a, b, x, rfl, hb, rfl, hf, q⟩
  have hz : (2 : Nat) ≤ sizeLine := by decide
  have hl := sb_log hf
  have c : CDv (x * b) b := ⟨by omega, by omega⟩
  have c2 : CDv b b := ⟨by omega, by omega⟩
  have e1 : (x * b).fdiv b = x := Int.mul_fdiv_cancel _ (by omega)
  have e2 : b.fdiv b = 1 := Int.fdiv_self (by omega)
  have nb : ¬ b < 0 := by omega
  simp [p_nu_low, sp_nu_gcd]
  refine ⟨_, _, ⟨rfl, rfl⟩, ?_⟩
  rw [gcd_low hb]
  simp [nb, c, c2, hz, e1, e2]
  exact q
theorem low1 (Γ : Ad) {x : Int} {S : List Int} {Q : Res → List Int → Prop} {E : PX → List Int → Prop} (q : Q (.dat (n1 x)) S) : sp_nu_low Γ [.dat (.int x), .dat (.int 1)] S Q E := ⟨x, 1, x, rfl, by decide, by simp, by unfold sb; exact Nat.one_le_two_pow, q⟩
theorem pf_number (Γ : Ad) : ∀ rs S Q E, sp_number Γ rs S Q E → p_number Γ (ends Q E) (rs.map Res.slot ++ List.replicate (3 - rs.length) .un) S := by
  rintro rs S Q E ⟨d, x, rfl, ok, q⟩
  have hz : (2 : Nat) ≤ sizeLine := by decide
  rcases ok with rfl | rfl
  · simp [p_number, sp_nu_integer, isI, hz]
    exact q
  · simp [p_number, sp_nu_integer, isI, n1]
    exact low1 Γ q
theorem pf_plus (Γ : Ad) : ∀ rs S Q E, sp_plus Γ rs S Q E → p_plus Γ (ends Q E) (rs.map Res.slot ++ List.replicate (6 - rs.length) .un) S := by
  rintro rs S Q E ⟨x, y, rfl, hx, hy, q⟩
  have o : sb 1 1 := by unfold sb; decide
  have c1 := cmulb hx o (by decide)
  have c2 := cmulb hy o (by decide)
  have c3 := cmulb o o (by decide)
  simp [p_plus]
  unfold sp_number
  refine ⟨_, _, rfl, .inr rfl, ?_⟩
  simp [n1]
  exact ⟨c1, c2, c3, low1 Γ q⟩
theorem pf_nu_power (Γ : Ad) : ∀ rs S Q E, sp_nu_power Γ rs S Q E → p_nu_power Γ (ends Q E) (rs.map Res.slot ++ List.replicate (5 - rs.length) .un) S := by
  rintro rs S Q E ⟨x, e, n, rfl, hx, hn, q⟩
  simp [p_nu_power]
  refine while_ind (fun m sl S' => ∃ i s l : Nat, ∃ y : Int, sl = [.dat (.int x), .dat (.int e), .dat (.int (x ^ i)), .dat (.int y), .dat (.int l)] ∧ S' = S ∧ (0 < l → y = x ^ s) ∧ i + s * l = e ∧ m = l) e ⟨0, 1, e, x, by rw [Int.pow_zero], rfl, fun _ => (Int.pow_one x).symm, by omega, rfl⟩ ?_
  rintro m sl S' N ⟨i, s, l, y, rfl, rfl, hy, he, rfl⟩ hN
  by_cases h : m = 0
  · subst h
    simp at he ⊢
    rw [he]
    exact q
  · have hp : 0 < m := by omega
    have ey := hy hp
    subst ey
    have hs : s ≤ e := by
      have := Nat.le_mul_of_pos_right s hp
      omega
    have hi : i ≤ e := by omega
    have bi : sb (n * i) (x ^ i) := sb_pow hx i
    have bs : sb (n * s) (x ^ s) := sb_pow hx s
    have l1 : n * i ≤ n * e := Nat.mul_le_mul_left n hi
    have l2 : n * s ≤ n * e := Nat.mul_le_mul_left n hs
    have c1 := cmulb bi bs (by omega)
    have c2 := cmulb bs bs (by omega)
    have e1 : (m : Int).fmod 2 = ((m % 2 : Nat) : Int) := by rw [Int.fmod_eq_emod_of_nonneg _ (by omega)]; rfl
    have e2 : (m : Int).fdiv 2 = ((m / 2 : Nat) : Int) := by rw [Int.fdiv_eq_ediv_of_nonneg _ (by omega)]; rfl
    have cd : CDv (m : Int) 2 := ⟨by decide, by decide⟩
    have hm : m / 2 < m := Nat.div_lt_self hp (by decide)
    have hh := Nat.div_add_mod m 2
    rcases Nat.mod_two_eq_zero_or_one m with q2 | q2
    · simp [h, hp, e1, e2, q2, cd]
      have he' : i + (2 * s) * (m / 2) = e := by
        rw [← he, Nat.mul_comm 2 s, Nat.mul_assoc, show 2 * (m / 2) = m by omega]
      by_cases z : 0 < m / 2
      · have z2 : (0 : Int) < (m : Int) / 2 := by omega
        simp [z2, c2]
        exact hN (m / 2) _ _ hm ⟨i, 2 * s, m / 2, x ^ s * x ^ s, by simp, rfl, fun _ => by rw [← Int.pow_add, Nat.two_mul], he', rfl⟩
      · have z2 : ¬ (0 : Int) < (m : Int) / 2 := by omega
        simp [z2]
        exact hN (m / 2) _ _ hm ⟨i, 2 * s, m / 2, x ^ s, by simp, rfl, fun z3 => absurd z3 z, he', rfl⟩
    · simp [h, hp, e1, e2, q2, cd, c1]
      have he' : (i + s) + (2 * s) * (m / 2) = e := by
        rw [← he, Nat.mul_comm 2 s, Nat.mul_assoc, show 2 * (m / 2) = m - 1 by omega, Nat.mul_sub, Nat.mul_one]
        have : s ≤ s * m := Nat.le_mul_of_pos_right s hp
        omega
      by_cases z : 0 < m / 2
      · have z2 : (0 : Int) < (m : Int) / 2 := by omega
        simp [z2, c2]
        exact hN (m / 2) _ _ hm ⟨i + s, 2 * s, m / 2, x ^ s * x ^ s, by simp [Int.pow_add], rfl, fun _ => by rw [← Int.pow_add, Nat.two_mul], he', rfl⟩
      · have z2 : ¬ (0 : Int) < (m : Int) / 2 := by omega
        simp [z2]
        exact hN (m / 2) _ _ hm ⟨i + s, 2 * s, m / 2, x ^ s, by simp [Int.pow_add], rfl, fun z3 => absurd z3 z, he', rfl⟩
theorem pf_sw_step (Γ : Ad) : ∀ rs S Q E, sp_sw_step Γ rs S Q E → p_sw_step Γ (ends Q E) (rs.map Res.slot ++ List.replicate (1 - rs.length) .un) S := by
  rintro rs S Q E ⟨rfl, q⟩
  simp [p_sw_step, fd]
  exact q
theorem pf_sw_power (Γ : Ad) : ∀ rs S Q E, sp_sw_power Γ rs S Q E → p_sw_power Γ (ends Q E) (rs.map Res.slot ++ List.replicate (4 - rs.length) .un) S := by
  rintro rs S Q E ⟨x, e, n, rfl, hx, hn, he, q⟩
  have hz : (2 : Nat) ≤ sizeLine := by decide
  simp [p_sw_power, n1, sp_nu_power, hz]
  refine ⟨x, e, ⟨rfl, rfl⟩, n, hx, hn, 1, e, ⟨rfl, rfl⟩, 1, by unfold sb; decide, by omega, ?_⟩
  rw [Int.one_pow]
  exact q
theorem pf__law_gcd (Γ : Ad) : ∀ rs S Q E, sp__law_gcd Γ rs S Q E → p__law_gcd Γ (ends Q E) (rs.map Res.slot ++ List.replicate (4 - rs.length) .un) S := by
  rintro rs S Q E ⟨a, rfl, q⟩
  have b1 : nBits 1 = 1 := by decide
  have c1 : CMulW 2 1 := cmulb (m := 1) (n := 1) (by unfold sb; decide) (by unfold sb; decide) (by decide)
  have s1 : sm62 12 := by unfold sm62; decide
  simp [p__law_gcd, abs_eq, b1, c1, s1]
  refine for_ind (fun i sl S' => S' = S ∧ ∃ t, (i = 0 ∧ sl = [.dat (.int a.natAbs), .dat (.int 1), t, .un]) ∨ (0 < i ∧ ∃ u, sl = [.dat (.int 1), .dat (.int 0), t, u])) ⟨rfl, .un, .inl ⟨rfl, rfl⟩⟩ ?_ ?_
  · rintro i d sl S' N hd ⟨rfl, t, ⟨rfl, rfl⟩ | ⟨hi, u, rfl⟩⟩ hN
    · simp
      exact hN _ _ ⟨rfl, _, .inr ⟨by omega, _, rfl⟩⟩
    · simp
      exact hN _ _ ⟨rfl, _, .inr ⟨by omega, _, rfl⟩⟩
  · rintro sl S' ⟨rfl, t, ⟨h0, rfl⟩ | ⟨hi, u, rfl⟩⟩
    · exact absurd h0 (by decide)
    · simp
      exact q
theorem pf__law_is_num (Γ : Ad) : ∀ rs S Q E, sp__law_is_num Γ rs S Q E → p__law_is_num Γ (ends Q E) (rs.map Res.slot ++ List.replicate (1 - rs.length) .un) S := by
  rintro rs S Q E ⟨x, rfl, q⟩
  simp [p__law_is_num, n1, sp__law_int, isI, sp__law_gcd]
  exact q
theorem pf__law_pow (Γ : Ad) : ∀ rs S Q E, sp__law_pow Γ rs S Q E → p__law_pow Γ (ends Q E) (rs.map Res.slot ++ List.replicate (4 - rs.length) .un) S := by
  rintro rs S Q E ⟨x, e, n, rfl, hx, hn, he, q⟩
  have s1 : sm62 (e : Int) := by unfold sm62; omega
  simp [p__law_pow, s1]
  refine for_ind (fun i sl S' => S' = S ∧ i ≤ e ∧ ∃ t, sl = [.dat (.int x), .dat (.int e), .dat (.int (x ^ i)), t]) ⟨rfl, by omega, .un, by simp⟩ ?_ ?_
  · rintro i d sl S' N hd ⟨rfl, hi, t, rfl⟩ hN
    have hi2 : i < e := by
      have := (List.getElem?_eq_some_iff.mp hd).1
      simpa [rng] using this
    have c := cmulb (sb_pow hx i) hx (by have := Nat.mul_le_mul_left n hi2; rw [Nat.mul_succ] at this; omega)
    simp [c]
    exact hN _ _ ⟨rfl, hi2, _, by rw [Int.pow_succ]⟩
  · rintro sl S' ⟨rfl, hi, t, rfl⟩
    simp [rng]
    exact q
end K89
end
section
set_option Elab.async false
set_option linter.all false
set_option maxRecDepth 100000
namespace K89
open PySem L2 Py
/-! forms as data -/
theorem pys_ints : ∀ ns : List Int, D.pys (ns.map .int) = ns.map PyData.int
  | [] => rfl
  | n :: r => by show PyData.int n :: D.pys (r.map .int) = _; rw [pys_ints r]; rfl
theorem tup_py (w : List Int) : (tupD w).py = .tuple (w.map PyData.int) := by show PyData.tuple (D.pys (w.map .int)) = _; rw [pys_ints]
theorem flats_ints : ∀ ns : List Int, D.flats (ns.map .int) = true
  | [] => rfl
  | n :: r => by simp [D.flats, D.flat, flats_ints r]
theorem tup_flat (w : List Int) : (tupD w).flat = true := by simp [tupD, D.flat, flats_ints w]
theorem lays_ints : ∀ ns : List Int, PyData.canLayAll0 (ns.map PyData.int) = true
  | [] => by simp [PyData.canLayAll0]
  | n :: r => by simp [PyData.canLayAll0, PyData.canLay0, lays_ints r]
theorem depth_ints : ∀ ns : List Int, PyData.depthAll (ns.map PyData.int) = 0
  | [] => by simp [PyData.depthAll]
  | n :: r => by simp [PyData.depthAll, PyData.depth, depth_ints r]
theorem tup_lay (w : List Int) : (tupD w).py.canLay0 = true := by rw [tup_py]; simp [PyData.canLay0, lays_ints w]
theorem tup_depth (w : List Int) : (tupD w).py.depth = 1 := by rw [tup_py]; simp [PyData.depth, depth_ints w]
theorem tup_shp (w : List Int) : shp (tupD w) := ⟨tup_flat w, by
  show ((tupD w).py.canLay0 && decide ((tupD w).py.depth ≤ 64)) = true
  rw [tup_lay, tup_depth]; rfl⟩
theorem pys_tups : ∀ L : List (List Int), D.pys (L.map tupD) = L.map fun w => (tupD w).py
  | [] => rfl
  | w :: r => by show (tupD w).py :: D.pys (r.map tupD) = _; rw [pys_tups r]; rfl
theorem flats_tups : ∀ L : List (List Int), D.flats (L.map tupD) = true
  | [] => rfl
  | w :: r => by simp [D.flats, tup_flat w, flats_tups r]
theorem lays_tups : ∀ L : List (List Int), PyData.canLayAll0 (L.map fun w => (tupD w).py) = true
  | [] => by simp [PyData.canLayAll0]
  | w :: r => by simp [PyData.canLayAll0, tup_lay w, lays_tups r]
theorem depth_tups : ∀ L : List (List Int), PyData.depthAll (L.map fun w => (tupD w).py) ≤ 1
  | [] => by simp [PyData.depthAll]
  | w :: r => by
    have h1 := depth_tups r
    have h2 := tup_depth w
    simp only [List.map_cons, PyData.depthAll]
    omega
theorem tups_shp (L : List (List Int)) : shpL (L.map tupD) := ⟨flats_tups L, by
  have h := depth_tups L
  have h2 : PyData.depth (.list (D.pys (L.map tupD))) ≤ 64 := by
    rw [pys_tups]; simp only [PyData.depth]; omega
  show (PyData.canLay0 (.list (D.pys (L.map tupD))) && decide (PyData.depth (.list (D.pys (L.map tupD))) ≤ 64)) = true
  rw [Bool.and_eq_true]
  exact ⟨by rw [pys_tups]; simp only [PyData.canLay0]; exact lays_tups L, decide_eq_true h2⟩⟩
theorem eqvAll_ints : ∀ x y : List Int, PyData.eqvAll (x.map PyData.int) (y.map PyData.int) = decide (x = y)
  | [], [] => by simp [PyData.eqvAll]
  | [], b :: y => by simp [PyData.eqvAll]
  | a :: x, [] => by simp [PyData.eqvAll]
  | a :: x, b :: y => by
    simp only [List.map_cons, PyData.eqvAll, PyData.eqv, eqvAll_ints x y]
    by_cases h : a = b <;> by_cases h2 : x = y <;> simp [h, h2]
theorem tup_eqv (w v : List Int) : PyData.eqv (tupD w).py (tupD v).py = decide (w = v) := by
  rw [tup_py, tup_py]
  simp only [PyData.eqv, eqvAll_ints]
theorem any_tups (w : List Int) : ∀ L : List (List Int), ((D.pys (L.map tupD)).any fun z => PyData.eqv z (tupD w).py) = decide (w ∈ L)
  | [] => by rw [pys_tups]; simp
  | v :: r => by
    have h := any_tups w r
    show (PyData.eqv (tupD v).py (tupD w).py || (D.pys (r.map tupD)).any fun z => PyData.eqv z (tupD w).py) = _
    rw [h, tup_eqv]
    by_cases e : v = w
    · subst e; simp
    · have e2 : ¬ w = v := fun z => e z.symm
      simp [e, e2]
theorem place_tups {w : List Int} : ∀ {L : List (List Int)}, w ∈ L → ∃ j, SeqAt.dataPlace (D.pys (L.map tupD)) (tupD w).py = some j ∧ (L.map tupD).eraseIdx j = (L.erase w).map tupD
  | [], h => absurd h (by simp)
  | v :: r, h => by
    unfold SeqAt.dataPlace
    show ∃ j, List.findIdx? _ ((tupD v).py :: D.pys (r.map tupD)) = some j ∧ _
    rw [List.findIdx?_cons, tup_eqv]
    by_cases e : v = w
    · subst e
      exact ⟨0, by simp, by simp⟩
    · have hm : w ∈ r := by
        rcases List.mem_cons.mp h with z | z
        · exact absurd z.symm e
        · exact z
      obtain ⟨j, h1, h2⟩ := place_tups hm
      unfold SeqAt.dataPlace at h1
      refine ⟨j + 1, by simp [e, h1], ?_⟩
      rw [List.erase_cons_tail (by simpa using e)]
      simp [h2]
theorem tupsI_map : ∀ L : List (List Int), tupsI (L.map tupD) = some L
  | [] => rfl
  | w :: r => by
    show tupsI (D.tup (w.map .int) :: r.map tupD) = _
    simp only [tupsI, intsD_map, tupsI_map r]
theorem okF_len {w : List Int} (h : okF w) : w.length = 3 := by rcases h with rfl | rfl | rfl | rfl <;> rfl
/-! the defs -/
theorem pf_pu_three (Γ : Ad) : ∀ rs S Q E, sp_pu_three Γ rs S Q E → p_pu_three Γ (ends Q E) (rs.map Res.slot ++ List.replicate (1 - rs.length) .un) S := by
  rintro rs S Q E ⟨a, b, c, rfl, q⟩
  simp [p_pu_three, tupD, sp_nu_integer, isI]
  exact q
theorem pf_pu_form (Γ : Ad) : ∀ rs S Q E, sp_pu_form Γ rs S Q E → p_pu_form Γ (ends Q E) (rs.map Res.slot ++ List.replicate (4 - rs.length) .un) S := by
  rintro rs S Q E ⟨w, rfl, h, q⟩
  have hz : (3 : Nat) ≤ sizeLine := by decide
  rcases h with rfl | rfl | rfl | rfl <;>
  · simp [p_pu_form, tupD, sp_pu_three, hz]
    exact q
theorem pf_pu_forms (Γ : Ad) : ∀ rs S Q E, sp_pu_forms Γ rs S Q E → p_pu_forms Γ (ends Q E) (rs.map Res.slot ++ List.replicate (2 - rs.length) .un) S := by
  rintro rs S Q E ⟨L, rfl, hl, h, q⟩
  have hz : (100 : Nat) ≤ sizeLine := by decide
  have hl2 : L.length ≤ sizeLine := by omega
  simp [p_pu_forms, hl2]
  refine lc_map id (fun d hd N hN => ?_) ?_
  · obtain ⟨w, hw, rfl⟩ := List.mem_map.mp hd
    simp
    unfold sp_pu_form
    exact ⟨w, rfl, h w hw, hN⟩
  · simp [tupsI_map]
    exact ⟨fun w hw => okF_len (h w hw), q⟩
theorem pf_pu_square (Γ : Ad) : ∀ rs S Q E, sp_pu_square Γ rs S Q E → p_pu_square Γ (ends Q E) (rs.map Res.slot ++ List.replicate (5 - rs.length) .un) S := by
  rintro rs S Q E ⟨rfl, q⟩
  have hz : (3 : Nat) ≤ sizeLine := by decide
  have e1 : fEqD (.str "plain") (.str "plain") = fun Q => Q (.dat (.bl true)) := by
    funext Q
    refine propext ⟨fun h => h.2.2, fun h => ⟨⟨rfl, by decide +kernel⟩, ⟨rfl, by decide +kernel⟩, h⟩⟩
  simp [p_pu_square, tupD, sp_pu_three, hz, fd, e1]
  exact q
theorem pf_pu_less (Γ : Ad) : ∀ rs S Q E, sp_pu_less Γ rs S Q E → p_pu_less Γ (ends Q E) (rs.map Res.slot ++ List.replicate (5 - rs.length) .un) S := by
  rintro rs S Q E ⟨L, M, rfl, hl, hm, h1, h2, q⟩
  have hz : (100 : Nat) < sizeLine := by decide
  simp [p_pu_less]
  refine for_ind (fun i sl S' => S' = S ∧ ∃ (left told : List (List Int)) (t : Slot), sl = [.dat (.tup (L.map tupD)), .dat (.tup (M.map tupD)), .own (left.map tupD), .own (told.map tupD), t] ∧ told.length ≤ i ∧ told ++ lessT (L.drop i) left = lessT L M) ⟨rfl, M, [], .un, rfl, Nat.le_refl 0, rfl⟩ ?_ ?_
  · rintro i d sl S' N hd ⟨rfl, left, told, t, rfl, ht, he⟩ hN
    have hi : i < L.length := by simpa using (List.getElem?_eq_some_iff.mp hd).1
    have ed : d = tupD L[i] := by
      rw [List.getElem?_map, List.getElem?_eq_getElem hi] at hd
      exact (Option.some.inj hd).symm
    subst ed
    rw [List.drop_eq_getElem_cons hi] at he
    simp only [lessT] at he
    simp [tup_shp, tups_shp, any_tups]
    by_cases hw : L[i] ∈ left
    · rw [if_pos hw] at he
      obtain ⟨j, e1, e2⟩ := place_tups hw
      simp [hw, e1, e2, tup_shp, tups_shp]
      exact hN _ _ ⟨rfl, _, _, _, rfl, by omega, he⟩
    · rw [if_neg hw] at he
      have tl : told.length < sizeLine := by omega
      simp [hw, tl]
      exact hN _ _ ⟨rfl, left, told ++ [L[i]], .dat (tupD L[i]), by simp, by simp; omega, by rw [← he]; simp⟩
  · rintro sl S' ⟨rfl, left, told, t, rfl, ht, he⟩
    simp [lessT] at he ⊢
    rw [he]
    exact q
theorem pf_pu_size (Γ : Ad) : ∀ rs S Q E, sp_pu_size Γ rs S Q E → p_pu_size Γ (ends Q E) (rs.map Res.slot ++ List.replicate (3 - rs.length) .un) S := by
  rintro rs S Q E ⟨w, n, k, rfl, h, hn, hk, q⟩
  have s0 : sb 1 0 := by unfold sb; decide
  have s1 : sb 1 1 := by unfold sb; decide
  have s2 : sb 1 (-1) := by unfold sb; decide
  have a0 := cmulb s0 hn (by decide)
  have a1 := cmulb s1 hn (by decide)
  have b0 := cmulb s0 hk (by decide)
  have b1 := cmulb s1 hk (by decide)
  have b2 := cmulb s2 hk (by decide)
  rcases h with rfl | rfl | rfl | rfl
  all_goals
    simp [sizeF] at q
    simp [p_pu_size, tupD, a0, a1, b0, b1, b2]
    exact q
theorem pf_pu_there (Γ : Ad) : ∀ rs S Q E, sp_pu_there Γ rs S Q E → p_pu_there Γ (ends Q E) (rs.map Res.slot ++ List.replicate (4 - rs.length) .un) S := by
  rintro rs S Q E ⟨L, n, k, rfl, hl, h, hn, hk, q⟩
  have hz : (100 : Nat) < sizeLine := by decide
  have hl2 : L.length ≤ sizeLine := by omega
  simp [p_pu_there, hl2]
  refine lc_map (fun _ => .bl false) (fun d hd N hN => ?_) ?_
  · obtain ⟨w, hw, rfl⟩ := List.mem_map.mp hd
    simp
    unfold sp_pu_size
    refine ⟨w, n, k, rfl, (h w hw).1, hn, hk, ?_⟩
    have := (h w hw).2
    have : ¬ sizeF w n k < 0 := by omega
    simp [this]
    exact hN
  · have e : ∀ xs : List D, blsD (xs.map fun _ => .bl false) = some (xs.map fun _ => false) := by
      intro xs
      induction xs with
      | nil => rfl
      | cons x r ih => simp [blsD] at ih ⊢; simp [ih]
    simp [fAny]
    have e2 := e (L.map tupD)
    simp at e2
    have e3 : ∀ xs : List (List Int), (xs.any fun x => false) = false := fun xs => by simp
    simp [e2, e3]
    exact q
theorem pf_pu_falling (Γ : Ad) : ∀ rs S Q E, sp_pu_falling Γ rs S Q E → p_pu_falling Γ (ends Q E) (rs.map Res.slot ++ List.replicate (8 - rs.length) .un) S := by
  rintro rs S Q E ⟨m, rfl, h0, h1, q⟩
  have hz : (2 : Nat) ≤ sizeLine := by decide
  have cf : CFac m := ⟨h0, h1⟩
  have e1 : fEqD (.str "plain") (.str "plain") = fun Q => Q (.dat (.bl true)) := by
    funext Q
    refine propext ⟨fun h => h.2.2, fun h => ⟨⟨rfl, by decide +kernel⟩, ⟨rfl, by decide +kernel⟩, h⟩⟩
  simp [p_pu_falling, fd, e1, cf, hz, factorialNat_eq]
  exact q
end K89
end
section
set_option Elab.async false
set_option linter.all false
set_option maxRecDepth 100000
namespace K89
open PySem L2 Py
def t_pu_number_10 (Γ : Ad) : PSm := pSeq (pAsg (pBin fMul (pVar 6) (pVar 9)) (pgName 6)) (pNext)
def t_pu_number_9 (Γ : Ad) : PSm := pSeq (pAsg (pBin fMul (pVar 5) (pVar 8)) (pgName 5)) (t_pu_number_10 Γ)
def t_pu_number_8 (Γ : Ad) : PSm := pSeq (pAsg (pCall (sp_pu_falling Γ) (pCons (pFld Γ.Pure (pVar 0) "step") (pCons (pCall (sp_pu_size Γ) (pCons (pVar 7) (pCons (pVar 1) (pCons (pVar 2) (pNil))))) (pNil)))) (pgTup 2 (pgCons (pgName 8) (pgCons (pgName 9) (pgNil))))) (t_pu_number_9 Γ)
def t_pu_number_14 (Γ : Ad) : PSm := pSeq (pAsg (pBin fMul (pVar 6) (pVar 8)) (pgName 6)) (pNext)
def t_pu_number_13 (Γ : Ad) : PSm := pSeq (pAsg (pBin fMul (pVar 5) (pVar 9)) (pgName 5)) (t_pu_number_14 Γ)
def t_pu_number_12 (Γ : Ad) : PSm := pSeq (pAsg (pCall (sp_pu_falling Γ) (pCons (pFld Γ.Pure (pVar 0) "step") (pCons (pCall (sp_pu_size Γ) (pCons (pVar 7) (pCons (pVar 1) (pCons (pVar 2) (pNil))))) (pNil)))) (pgTup 2 (pgCons (pgName 8) (pgCons (pgName 9) (pgNil))))) (t_pu_number_13 Γ)
def t_pu_number_16 (Γ : Ad) : PSm := pSeq (pRet (pCall (sp_nu_low Γ) (pCons (pVar 5) (pCons (pVar 6) (pNil))))) (pNext)
def t_pu_number_15 (Γ : Ad) : PSm := pSeq (pIf (pTst (pBin fEq (pFld Γ.Plain (pFld Γ.Pure (pVar 0) "step") "word") (pC (.str "base")))) (pDead) (pNext)) (t_pu_number_16 Γ)
def t_pu_number_11 (Γ : Ad) : PSm := pSeq (pFor (pISeq (pFld Γ.Pure (pVar 0) "bottoms")) (pgName 7) (t_pu_number_12 Γ)) (t_pu_number_15 Γ)
def t_pu_number_7 (Γ : Ad) : PSm := pSeq (pFor (pISeq (pFld Γ.Pure (pVar 0) "tops")) (pgName 7) (t_pu_number_8 Γ)) (t_pu_number_11 Γ)
def t_pu_number_6 (Γ : Ad) : PSm := pSeq (pAsg (pBin fMul (pIx (pQVar 3) (pC (.int 1))) (pIx (pQVar 4) (pC (.int 1)))) (pgName 6)) (t_pu_number_7 Γ)
def t_pu_number_5 (Γ : Ad) : PSm := pSeq (pAsg (pBin fMul (pIx (pQVar 3) (pC (.int 0))) (pIx (pQVar 4) (pC (.int 0)))) (pgName 5)) (t_pu_number_6 Γ)
def t_pu_number_4 (Γ : Ad) : PSm := pSeq (pAsg (pCall (sp_sw_power Γ) (pCons (pFld Γ.Pure (pVar 0) "t") (pCons (pVar 2) (pNil)))) (pgName 4)) (t_pu_number_5 Γ)
def t_pu_number_3 (Γ : Ad) : PSm := pSeq (pAsg (pCall (sp_sw_power Γ) (pCons (pFld Γ.Pure (pVar 0) "s") (pCons (pVar 1) (pNil)))) (pgName 3)) (t_pu_number_4 Γ)
def t_pu_number_2 (Γ : Ad) : PSm := pSeq (pIf (pNotT (pTst (pCall (sp_pu_there Γ) (pCons (pFld Γ.Pure (pVar 0) "bottoms") (pCons (pVar 1) (pCons (pVar 2) (pNil))))))) (pSeq (pRet (pTup (pCons (pC (.int 0)) (pCons (pC (.int 1)) (pNil))))) (pNext)) (pNext)) (t_pu_number_3 Γ)
def t_pu_number_1 (Γ : Ad) : PSm := pSeq (pIf (pTst (pCB fAny (pCons (pLc 7 (pISeq (pBin fAddT (pFld Γ.Pure (pVar 0) "tops") (pFld Γ.Pure (pVar 0) "bottoms"))) (pYes) (pBin fGt (pCall (sp_pu_size Γ) (pCons (pVar 7) (pCons (pVar 1) (pCons (pVar 2) (pNil))))) (pC (.int 3000)))) (pNil)))) (pDead) (pNext)) (t_pu_number_2 Γ)
theorem e_pu_number (Γ : Ad) : p_pu_number Γ = pSeq (pIf (pNotT (pTst (pCall (sp_pu_there Γ) (pCons (pFld Γ.Pure (pVar 0) "tops") (pCons (pVar 1) (pCons (pVar 2) (pNil))))))) (pSeq (pRet (pC .non)) (pNext)) (pNext)) (t_pu_number_1 Γ) := rfl
def t_i2_read_7 (Γ : Ad) : PSm := pSeq (pApp 1 (pTup (pCons (pIx (pQVar 3) (pC (.int 0))) (pCons (pIx (pQVar 3) (pC (.int 1))) (pCons (pVar 4) (pCons (pVar 5) (pNil))))))) (pNext)
def t_i2_read_6 (Γ : Ad) : PSm := pSeq (pAsg (pCB fLcm (pCons (pVar 2) (pCons (pVar 5) (pNil)))) (pgName 2)) (t_i2_read_7 Γ)
def t_i2_read_5 (Γ : Ad) : PSm := pSeq (pAsg (pCall (sp_number Γ) (pCons (pIx (pQVar 3) (pC (.int 2))) (pNil))) (pgTup 2 (pgCons (pgName 4) (pgCons (pgName 5) (pgNil))))) (t_i2_read_6 Γ)
def t_i2_read_4 (Γ : Ad) : PSm := pSeq (pIf (pNotT (pTst (pCall (sp_i2_fits Γ) (pCons (pVar 3) (pNil))))) (pDead) (pNext)) (t_i2_read_5 Γ)
def t_i2_read_10 (Γ : Ad) : PSm := pSeq (pDPut 6 (pCons (pVar 7) (pCons (pVar 8) (pNil))) (pBin fAdd (pDGet 6 (pCons (pVar 7) (pCons (pVar 8) (pNil))) (pC (.int 0))) (pBin fMul (pVar 4) (pBin fDiv (pVar 2) (pVar 5))))) (pNext)
def t_i2_read_11 (Γ : Ad) : PSm := pSeq (pDFrz 6 (pRet (pCall (sp_i2_told Γ) (pCons (pVar 2) (pCons (pVar 6) (pNil)))))) (pNext)
def t_i2_read_9 (Γ : Ad) : PSm := pSeq (pFrz 1 (pFor (pISeq (pVar 1)) (pgTup 4 (pgCons (pgName 7) (pgCons (pgName 8) (pgCons (pgName 4) (pgCons (pgName 5) (pgNil)))))) (t_i2_read_10 Γ))) (t_i2_read_11 Γ)
def t_i2_read_8 (Γ : Ad) : PSm := pSeq (pDNew 6) (t_i2_read_9 Γ)
def t_i2_read_3 (Γ : Ad) : PSm := pSeq (pFor (pISeq (pVar 0)) (pgName 3) (t_i2_read_4 Γ)) (t_i2_read_8 Γ)
def t_i2_read_2 (Γ : Ad) : PSm := pSeq (pAsg (pC (.int 1)) (pgName 2)) (t_i2_read_3 Γ)
def t_i2_read_1 (Γ : Ad) : PSm := pSeq (pAsg (pLst (pNil)) (pgName 1)) (t_i2_read_2 Γ)
theorem e_i2_read (Γ : Ad) : p_i2_read Γ = pSeq (pIf (pNotT (pTst (pIsi2 "tuple" "list" (pVar 0)))) (pDead) (pNext)) (t_i2_read_1 Γ) := rfl
def t_i2_value_4 (Γ : Ad) : PSm := pSeq (pAsg (pBin fAdd (pVar 6) (pBin fMul (pBin fMul (pVar 9) (pCall (sp_nu_power Γ) (pCons (pVar 2) (pCons (pVar 7) (pNil))))) (pCall (sp_nu_power Γ) (pCons (pVar 3) (pCons (pVar 8) (pNil)))))) (pgName 6)) (pNext)
def t_i2_value_5 (Γ : Ad) : PSm := pSeq (pRet (pCall (sp_nu_low Γ) (pCons (pVar 6) (pCons (pVar 4) (pNil))))) (pNext)
def t_i2_value_3 (Γ : Ad) : PSm := pSeq (pFor (pItems (pVar 5)) (pgTup 2 (pgCons (pgTup 2 (pgCons (pgName 7) (pgCons (pgName 8) (pgNil)))) (pgCons (pgName 9) (pgNil)))) (t_i2_value_4 Γ)) (t_i2_value_5 Γ)
def t_i2_value_2 (Γ : Ad) : PSm := pSeq (pAsg (pC (.int 0)) (pgName 6)) (t_i2_value_3 Γ)
def t_i2_value_6 (Γ : Ad) : PSm := pDead
def t_i2_value_1 (Γ : Ad) : PSm := pSeq (pIf (pTst (pBin fEq (pFld Γ.Plain (pVar 0) "word") (pC (.str "plain")))) (t_i2_value_2 Γ) (pNext)) (t_i2_value_6 Γ)
theorem e_i2_value (Γ : Ad) : p_i2_value Γ = pSeq (pAsg (pCall (sp_i2_whole Γ) (pCons (pVar 1) (pNil))) (pgTup 2 (pgCons (pgName 4) (pgCons (pgName 5) (pgNil))))) (t_i2_value_1 Γ) := rfl
def t_t2_number_5 (Γ : Ad) : PSm := pSeq (pRet (pCall (sp_nu_low Γ) (pCons (pBin fMul (pBin fMul (pIx (pQVar 4) (pC (.int 0))) (pIx (pQVar 5) (pC (.int 0)))) (pIx (pQVar 3) (pC (.int 1)))) (pCons (pBin fMul (pBin fMul (pIx (pQVar 4) (pC (.int 1))) (pIx (pQVar 5) (pC (.int 1)))) (pIx (pQVar 3) (pC (.int 0)))) (pNil))))) (pNext)
def t_t2_number_4 (Γ : Ad) : PSm := pSeq (pAsg (pCall (sp_i2_value Γ) (pCons (pFld Γ.Term2 (pVar 0) "step") (pCons (pFld Γ.Term2 (pVar 0) "top") (pCons (pVar 1) (pCons (pVar 2) (pNil)))))) (pgName 5)) (t_t2_number_5 Γ)
def t_t2_number_3 (Γ : Ad) : PSm := pSeq (pAsg (pCall (sp_pu_number Γ) (pCons (pFld Γ.Term2 (pVar 0) "pure") (pCons (pVar 1) (pCons (pVar 2) (pNil))))) (pgName 4)) (t_t2_number_4 Γ)
def t_t2_number_2 (Γ : Ad) : PSm := pSeq (pIf (pTst (pBin fEq (pIx (pQVar 3) (pC (.int 0))) (pC (.int 0)))) (pSeq (pRet (pC .non)) (pNext)) (pNext)) (t_t2_number_3 Γ)
def t_t2_number_1 (Γ : Ad) : PSm := pSeq (pAsg (pCall (sp_i2_value Γ) (pCons (pFld Γ.Term2 (pVar 0) "step") (pCons (pFld Γ.Term2 (pVar 0) "bottom") (pCons (pVar 1) (pCons (pVar 2) (pNil)))))) (pgName 3)) (t_t2_number_2 Γ)
theorem e_t2_number (Γ : Ad) : p_t2_number Γ = pSeq (pIf (pNotT (pTst (pCall (sp_pu_there Γ) (pCons (pFld Γ.Pure (pFld Γ.Term2 (pVar 0) "pure") "tops") (pCons (pVar 1) (pCons (pVar 2) (pNil))))))) (pSeq (pRet (pC .non)) (pNext)) (pNext)) (t_t2_number_1 Γ) := rfl
def t_rg_gone_6 (Γ : Ad) : PSm := pSeq (pIf (pTst (pBin fNotN (pVar 9) (pC .non))) (pDead) (pNext)) (pNext)
def t_rg_gone_5 (Γ : Ad) : PSm := pSeq (pAsg (pCall (sp_rg_below Γ) (pCons (pBin fAdd (pVar 4) (pBin fMul (pVar 5) (pVar 7))) (pCons (pBin fAdd (pBin fMul (pVar 5) (pVar 8)) (pVar 6)) (pCons (pVar 2) (pNil))))) (pgName 9)) (t_rg_gone_6 Γ)
def t_rg_gone_4 (Γ : Ad) : PSm := pSeq (pFor (pISeq (pTup (pCons (pFld Γ.Range (pVar 1) "low") (pCons (pFld Γ.Range (pVar 1) "high") (pNil))))) (pgTup 2 (pgCons (pgName 7) (pgCons (pgName 8) (pgNil)))) (t_rg_gone_5 Γ)) (pNext)
def t_rg_gone_8 (Γ : Ad) : PSm := pDead
def t_rg_gone_7 (Γ : Ad) : PSm := pSeq (pIf (pTst (pBin fEq (pLen (pQVar 3)) (pC (.int 0)))) (pSeq (pRet (pC .non)) (pNext)) (pNext)) (t_rg_gone_8 Γ)
def t_rg_gone_3 (Γ : Ad) : PSm := pSeq (pFor (pISeq (pVar 0)) (pgTup 3 (pgCons (pgName 4) (pgCons (pgName 5) (pgCons (pgName 6) (pgNil))))) (t_rg_gone_4 Γ)) (t_rg_gone_7 Γ)
def t_rg_gone_2 (Γ : Ad) : PSm := pSeq (pAsg (pLst (pNil)) (pgName 3)) (t_rg_gone_3 Γ)
def t_rg_gone_1 (Γ : Ad) : PSm := pSeq (pIf (pTst (pBin fIsN (pVar 2) (pC .non))) (pSeq (pRet (pC .non)) (pNext)) (pNext)) (t_rg_gone_2 Γ)
theorem e_rg_gone (Γ : Ad) : p_rg_gone Γ = pSeq (pAsg (pCall (sp_rg_first Γ) (pCons (pVar 1) (pNil))) (pgName 2)) (t_rg_gone_1 Γ) := rfl
def t_dg_look_prime_2 (Γ : Ad) : PSm := pSeq (pIf (pAnd (pTst (pBin fLt (pVar 1) (pVar 0))) (pTst (pBin fEq (pBin fMod (pVar 0) (pVar 1)) (pC (.int 0))))) (pSeq (pRaise Γ.BadInteger [ "handed" ] (pCons (pVar 0) (pNil))) (pNext)) (pNext)) (pNext)
def t_dg_look_prime_1 (Γ : Ad) : PSm := pSeq (pFor (pRng2 (pCons (pC (.int 2)) (pCons (pC (.int 15)) (pNil)))) (pgName 1) (t_dg_look_prime_2 Γ)) (pNext)
theorem e_dg_look_prime (Γ : Ad) : p_dg_look_prime Γ = pSeq (pIf (pOr (pNotT (pTst (pCall (sp_nu_integer Γ) (pCons (pVar 0) (pNil))))) (pOr (pTst (pBin fLt (pVar 0) (pC (.int 2)))) (pTst (pBin fGt (pVar 0) (pC (.int 200)))))) (pSeq (pRaise Γ.BadInteger [ "handed" ] (pCons (pVar 0) (pNil))) (pNext)) (pNext)) (t_dg_look_prime_1 Γ) := rfl
def t_digit_mod_9 (Γ : Ad) : PSm := pSeq (pAsg (pBin fDiv (pVar 7) (pVar 4)) (pgName 7)) (pNext)
def t_digit_mod_8 (Γ : Ad) : PSm := pSeq (pAsg (pBin fMod (pBin fMul (pVar 6) (pIx (pQVar 5) (pBin fMod (pVar 7) (pVar 4)))) (pVar 4)) (pgName 6)) (t_digit_mod_9 Γ)
def t_digit_mod_10 (Γ : Ad) : PSm := pSeq (pRetN 6) (pNext)
def t_digit_mod_7 (Γ : Ad) : PSm := pSeq (pWhile (pTst (pBin fGt (pVar 7) (pC (.int 0)))) (t_digit_mod_8 Γ)) (t_digit_mod_10 Γ)
def t_digit_mod_6 (Γ : Ad) : PSm := pSeq (pAsg (pVar 3) (pgName 7)) (t_digit_mod_7 Γ)
def t_digit_mod_5 (Γ : Ad) : PSm := pSeq (pAsg (pC (.int 1)) (pgName 6)) (t_digit_mod_6 Γ)
def t_digit_mod_4 (Γ : Ad) : PSm := pSeq (pAsg (pCall (sp_dg_table Γ) (pCons (pVar 0) (pCons (pVar 1) (pCons (pVar 2) (pCons (pVar 4) (pNil)))))) (pgName 5)) (t_digit_mod_5 Γ)
def t_digit_mod_3 (Γ : Ad) : PSm := pSeq (pIf (pTst (pBin fGe (pVar 3) (pCall0 (sp_dg_most Γ)))) (pSeq (pRaise Γ.TooMuch [ "word" , "most" ] (pCons (pC (.str "figures")) (pCons (pC (.int 400)) (pNil)))) (pNext)) (pNext)) (t_digit_mod_4 Γ)
def t_digit_mod_2 (Γ : Ad) : PSm := pSeq (pDrop (pCall (sp_dg_look_prime Γ) (pCons (pVar 4) (pNil)))) (t_digit_mod_3 Γ)
def t_digit_mod_1 (Γ : Ad) : PSm := pSeq (pDrop (pCall (sp_dg_look_place Γ) (pCons (pVar 3) (pNil)))) (t_digit_mod_2 Γ)
theorem e_digit_mod (Γ : Ad) : p_digit_mod Γ = pSeq (pDrop (pCall (sp_dg_look Γ) (pCons (pVar 0) (pCons (pVar 1) (pCons (pVar 2) (pNil)))))) (t_digit_mod_1 Γ) := rfl
def t_digit_term_6 (Γ : Ad) : PSm := pSeq (pRet (pTup (pCons (pCall (sp_full_term Γ) (pCons (pMake0 Γ.Plain (sp_Plain_init Γ)) (pCons (pTup (pCons (pTup (pCons (pC (.int 0)) (pCons (pC (.int 0)) (pCons (pTup (pCons (pC (.int 1)) (pCons (pC (.int 1)) (pNil)))) (pNil))))) (pNil))) (pCons (pVar 6) (pNil))))) (pCons (pMake Γ.Range (sp_Range_init Γ) (pCons (pTup (pCons (pC (.int 0)) (pCons (pC (.int 0)) (pNil)))) (pCons (pTup (pCons (pC (.int 1)) (pCons (pC (.int 0)) (pNil)))) (pCons (pC (.int 0)) (pNil))))) (pNil))))) (pNext)
def t_digit_term_5 (Γ : Ad) : PSm := pSeq (pFrz 4 (pFrz 5 (pAsg (pMake Γ.Pure (sp_Pure_init Γ) (pCons (pMake0 Γ.Plain (sp_Plain_init Γ)) (pCons (pC (.int 1)) (pCons (pVar 2) (pCons (pTup (pCons (pC (.int 0)) (pCons (pC (.int 0)) (pCons (pC (.int 0)) (pNil))))) (pCons (pVar 4) (pCons (pVar 5) (pNil)))))))) (pgName 6)))) (t_digit_term_6 Γ)
def t_digit_term_4 (Γ : Ad) : PSm := pSeq (pAsg (pBin fAdd (pBin fMul (pLst (pCons (pTup (pCons (pC (.int 0)) (pCons (pC (.int 1)) (pCons (pC (.int 0)) (pNil))))) (pCons (pTup (pCons (pC (.int 1)) (pCons (pNeg (pC (.int 1))) (pCons (pC (.int 0)) (pNil))))) (pNil)))) (pVar 0)) (pBin fMul (pLst (pCons (pTup (pCons (pC (.int 0)) (pCons (pC (.int 1)) (pCons (pC (.int 0)) (pNil))))) (pCons (pVar 3) (pNil)))) (pVar 1))) (pgName 5)) (t_digit_term_5 Γ)
def t_digit_term_3 (Γ : Ad) : PSm := pSeq (pAsg (pBin fAdd (pBin fMul (pLst (pCons (pVar 3) (pNil))) (pVar 0)) (pBin fMul (pLst (pCons (pTup (pCons (pC (.int 1)) (pCons (pC (.int 1)) (pCons (pC (.int 0)) (pNil))))) (pNil))) (pVar 1))) (pgName 4)) (t_digit_term_4 Γ)
def t_digit_term_2 (Γ : Ad) : PSm := pSeq (pAsg (pTup (pCons (pC (.int 1)) (pCons (pC (.int 0)) (pCons (pC (.int 0)) (pNil))))) (pgName 3)) (t_digit_term_3 Γ)
def t_digit_term_1 (Γ : Ad) : PSm := pSeq (pIf (pTst (pBin fEq (pVar 2) (pC (.int 0)))) (pSeq (pRaise Γ.IsZero [ "word" ] (pCons (pC (.str "number")) (pNil))) (pNext)) (pNext)) (t_digit_term_2 Γ)
theorem e_digit_term (Γ : Ad) : p_digit_term Γ = pSeq (pDrop (pCall (sp_dg_look Γ) (pCons (pVar 0) (pCons (pVar 1) (pCons (pVar 2) (pNil)))))) (t_digit_term_1 Γ) := rfl
def t_count_undivided_4 (Γ : Ad) : PSm := pSeq (pRet (pCall (sp_nu_power Γ) (pCons (pBin fSub (pVar 3) (pCnt (pQOf (pCall (sp_dg_table Γ) (pCons (pVar 0) (pCons (pVar 1) (pCons (pVar 2) (pCons (pVar 3) (pNil))))))) (pC (.int 0)))) (pCons (pVar 4) (pNil))))) (pNext)
def t_count_undivided_3 (Γ : Ad) : PSm := pSeq (pIf (pTst (pBin fGt (pVar 4) (pC (.int 60)))) (pSeq (pRaise Γ.TooMuch [ "word" , "most" ] (pCons (pC (.str "power")) (pCons (pC (.int 60)) (pNil)))) (pNext)) (pNext)) (t_count_undivided_4 Γ)
def t_count_undivided_2 (Γ : Ad) : PSm := pSeq (pIf (pOr (pNotT (pTst (pCall (sp_nu_integer Γ) (pCons (pVar 4) (pNil))))) (pTst (pBin fLt (pVar 4) (pC (.int 0))))) (pSeq (pRaise Γ.BadInteger [ "handed" ] (pCons (pVar 4) (pNil))) (pNext)) (pNext)) (t_count_undivided_3 Γ)
def t_count_undivided_1 (Γ : Ad) : PSm := pSeq (pDrop (pCall (sp_dg_look_prime Γ) (pCons (pVar 3) (pNil)))) (t_count_undivided_2 Γ)
theorem e_count_undivided (Γ : Ad) : p_count_undivided Γ = pSeq (pDrop (pCall (sp_dg_look Γ) (pCons (pVar 0) (pCons (pVar 1) (pCons (pVar 2) (pNil)))))) (t_count_undivided_1 Γ) := rfl
def t_first_divided_4 (Γ : Ad) : PSm := pSeq (pRet (pC .non)) (pNext)
def t_first_divided_3 (Γ : Ad) : PSm := pSeq (pIf (pTst (pInL false (pC (.int 0)) (pQVar 4))) (pSeq (pRet (pIdx (pQVar 4) (pC (.int 0)))) (pNext)) (pNext)) (t_first_divided_4 Γ)
def t_first_divided_2 (Γ : Ad) : PSm := pSeq (pAsg (pCall (sp_dg_table Γ) (pCons (pVar 0) (pCons (pVar 1) (pCons (pVar 2) (pCons (pVar 3) (pNil)))))) (pgName 4)) (t_first_divided_3 Γ)
def t_first_divided_1 (Γ : Ad) : PSm := pSeq (pDrop (pCall (sp_dg_look_prime Γ) (pCons (pVar 3) (pNil)))) (t_first_divided_2 Γ)
theorem e_first_divided (Γ : Ad) : p_first_divided Γ = pSeq (pDrop (pCall (sp_dg_look Γ) (pCons (pVar 0) (pCons (pVar 1) (pCons (pVar 2) (pNil)))))) (t_first_divided_1 Γ) := rfl
def t_sm_sum_4 (Γ : Ad) : PSm := pSeq (pAsg (pCall (sp_plus Γ) (pCons (pVar 5) (pCons (pCall (sp_t2_number Γ) (pCons (pVar 0) (pCons (pVar 2) (pCons (pVar 6) (pNil))))) (pNil)))) (pgName 5)) (pNext)
def t_sm_sum_5 (Γ : Ad) : PSm := pSeq (pRetN 5) (pNext)
def t_sm_sum_3 (Γ : Ad) : PSm := pSeq (pFor (pRng2 (pCons (pVar 3) (pCons (pBin fAdd (pVar 4) (pC (.int 1))) (pNil)))) (pgName 6) (t_sm_sum_4 Γ)) (t_sm_sum_5 Γ)
def t_sm_sum_2 (Γ : Ad) : PSm := pSeq (pAsg (pTup (pCons (pC (.int 0)) (pCons (pC (.int 1)) (pNil)))) (pgName 5)) (t_sm_sum_3 Γ)
def t_sm_sum_1 (Γ : Ad) : PSm := pSeq (pIf (pTst (pBin fGt (pBin fAdd (pBin fSub (pVar 4) (pVar 3)) (pC (.int 1))) (pC (.int 600)))) (pDead) (pNext)) (t_sm_sum_2 Γ)
theorem e_sm_sum (Γ : Ad) : p_sm_sum Γ = pSeq (pAsg (pMeth Γ.Range "ends" (sp_Range_ends Γ) (pVar 1) (pCons (pVar 2) (pNil))) (pgTup 2 (pgCons (pgName 3) (pgCons (pgName 4) (pgNil))))) (t_sm_sum_1 Γ) := rfl
def t_sum_value_3 (Γ : Ad) : PSm := pSeq (pRet (pCall (sp_sm_sum Γ) (pCons (pVar 0) (pCons (pVar 1) (pCons (pVar 2) (pNil)))))) (pNext)
def t_sum_value_2 (Γ : Ad) : PSm := pSeq (pIf (pTst (pBin fLt (pVar 2) (pFld Γ.Range (pVar 1) "start"))) (pDead) (pNext)) (t_sum_value_3 Γ)
def t_sum_value_1 (Γ : Ad) : PSm := pSeq (pIf (pNotT (pTst (pCall (sp_nu_integer Γ) (pCons (pVar 2) (pNil))))) (pDead) (pNext)) (t_sum_value_2 Γ)
theorem e_sum_value (Γ : Ad) : p_sum_value Γ = pSeq (pDrop (pCall (sp_sm_look Γ) (pCons (pVar 0) (pCons (pVar 1) (pNil))))) (t_sum_value_1 Γ) := rfl
def t__law_stream_6 (Γ : Ad) : PSm := pSeq (pAsg (pBin fDiv (pVar 3) (pC (.int 97))) (pgName 3)) (pNext)
def t__law_stream_5 (Γ : Ad) : PSm := pSeq (pFor (pRng1 (pCons (pC (.int 40)) (pNil))) (pgName 4) (pSeq (pApp 1 (pBin fMod (pCB fInt (pCons (pVar 3) (pNil))) (pC (.int 97)))) (t__law_stream_6 Γ))) (pNext)
def t__law_stream_10 (Γ : Ad) : PSm := pSeq (pApp 1 (pVar 5)) (pNext)
def t__law_stream_9 (Γ : Ad) : PSm := pSeq (pAsg (pBin fMod (pCB fInt (pCons (pBin fAdd (pBin fAdd (pBin fAdd (pBin fMul (pVar 5) (pVar 5)) (pBin fMul (pVar 4) (pC (.int 6151)))) (pBin fMul (pVar 2) (pC (.int 31)))) (pC (.int 5))) (pNil))) (pC (.int 999983))) (pgName 5)) (t__law_stream_10 Γ)
def t__law_stream_8 (Γ : Ad) : PSm := pSeq (pFor (pRng1 (pCons (pC (.int 6)) (pNil))) (pgName 4) (t__law_stream_9 Γ)) (pNext)
def t__law_stream_7 (Γ : Ad) : PSm := pSeq (pAsg (pBin fMod (pCB fInt (pCons (pBin fAdd (pBin fAdd (pBin fMul (pVar 3) (pC (.int 7919))) (pBin fMul (pVar 2) (pC (.int 104729)))) (pC (.int 12289))) (pNil))) (pC (.int 1000003))) (pgName 5)) (t__law_stream_8 Γ)
def t__law_stream_4 (Γ : Ad) : PSm := pSeq (pIf (pTst (pBin fGe (pVar 3) (pBin fPow (pC (.int 10)) (pC (.int 18))))) (t__law_stream_5 Γ) (t__law_stream_7 Γ)) (pNext)
def t__law_stream_3 (Γ : Ad) : PSm := pSeq (pIf (pTst (pBin fLt (pVar 3) (pC (.int 0)))) (pSeq (pAsg (pBin fSub (pC (.int 0)) (pVar 3)) (pgName 3)) (pNext)) (pNext)) (t__law_stream_4 Γ)
def t__law_stream_2 (Γ : Ad) : PSm := pSeq (pAsg (pCB fInt (pCons (pIx (pQVar 0) (pVar 2)) (pNil))) (pgName 3)) (t__law_stream_3 Γ)
def t__law_stream_12 (Γ : Ad) : PSm := pSeq (pRetN 1) (pNext)
def t__law_stream_11 (Γ : Ad) : PSm := pSeq (pRev 1) (t__law_stream_12 Γ)
def t__law_stream_1 (Γ : Ad) : PSm := pSeq (pFor (pRng1 (pCons (pCB fMin (pCons (pLen (pQVar 0)) (pCons (pC (.int 63)) (pNil)))) (pNil))) (pgName 2) (t__law_stream_2 Γ)) (t__law_stream_11 Γ)
theorem e__law_stream (Γ : Ad) : p__law_stream Γ = pSeq (pAsg (pLst (pNil)) (pgName 1)) (t__law_stream_1 Γ) := rfl
def t__law_digit_sum_8 (Γ : Ad) : PSm := pSeq (pAsg (pBin fMul (pVar 7) (pVar 2)) (pgName 7)) (pNext)
def t__law_digit_sum_7 (Γ : Ad) : PSm := pSeq (pAsg (pBin fDiv (pBin fMul (pVar 6) (pBin fAdd (pBin fAdd (pVar 3) (pVar 8)) (pC (.int 1)))) (pBin fAdd (pVar 8) (pC (.int 1)))) (pgName 6)) (t__law_digit_sum_8 Γ)
def t__law_digit_sum_6 (Γ : Ad) : PSm := pSeq (pAsg (pBin fDiv (pBin fMul (pVar 5) (pBin fSub (pVar 3) (pVar 8))) (pBin fAdd (pVar 8) (pC (.int 1)))) (pgName 5)) (t__law_digit_sum_7 Γ)
def t__law_digit_sum_5 (Γ : Ad) : PSm := pSeq (pAsg (pBin fAdd (pVar 4) (pBin fMul (pBin fMul (pCall (sp__law_pow Γ) (pCons (pVar 5) (pCons (pVar 0) (pNil)))) (pCall (sp__law_pow Γ) (pCons (pVar 6) (pCons (pVar 1) (pNil))))) (pVar 7))) (pgName 4)) (t__law_digit_sum_6 Γ)
def t__law_digit_sum_9 (Γ : Ad) : PSm := pSeq (pRetN 4) (pNext)
def t__law_digit_sum_4 (Γ : Ad) : PSm := pSeq (pFor (pRng1 (pCons (pBin fAdd (pVar 3) (pC (.int 1))) (pNil))) (pgName 8) (t__law_digit_sum_5 Γ)) (t__law_digit_sum_9 Γ)
def t__law_digit_sum_3 (Γ : Ad) : PSm := pSeq (pAsg (pC (.int 1)) (pgName 7)) (t__law_digit_sum_4 Γ)
def t__law_digit_sum_2 (Γ : Ad) : PSm := pSeq (pAsg (pC (.int 1)) (pgName 6)) (t__law_digit_sum_3 Γ)
def t__law_digit_sum_1 (Γ : Ad) : PSm := pSeq (pAsg (pC (.int 1)) (pgName 5)) (t__law_digit_sum_2 Γ)
theorem e__law_digit_sum (Γ : Ad) : p__law_digit_sum Γ = pSeq (pAsg (pC (.int 0)) (pgName 4)) (t__law_digit_sum_1 Γ) := rfl
def t__law_counts_ok_3 (Γ : Ad) : PSm := pSeq (pIf (pNotT (pTst (pCall (sp__law_divided Γ) (pCons (pVar 1) (pCons (pVar 2) (pCons (pVar 3) (pCons (pVar 4) (pCons (pVar 7) (pNil))))))))) (pSeq (pAsg (pBin fAdd (pVar 6) (pC (.int 1))) (pgName 6)) (pNext)) (pNext)) (pNext)
def t__law_counts_ok_8 (Γ : Ad) : PSm := pSeq (pIf (pNotT (pTst (pCall (sp__law_divided Γ) (pCons (pVar 1) (pCons (pVar 2) (pCons (pVar 3) (pCons (pVar 4) (pCons (pVar 7) (pNil))))))))) (pSeq (pAsg (pBin fAdd (pVar 9) (pC (.int 1))) (pgName 9)) (pNext)) (pNext)) (pNext)
def t__law_counts_ok_11 (Γ : Ad) : PSm := pSeq (pRet (pAndV (pCall (sp__law_int Γ) (pCons (pVar 8) (pNil))) (pBin fEq (pVar 8) (pCall (sp__law_pow Γ) (pCons (pVar 9) (pCons (pVar 10) (pNil))))))) (pNext)
def t__law_counts_ok_10 (Γ : Ad) : PSm := pSeq (pAsg (pCall (sp_count_undivided Γ) (pCons (pVar 1) (pCons (pVar 2) (pCons (pVar 3) (pCons (pVar 4) (pCons (pVar 10) (pNil))))))) (pgName 8)) (t__law_counts_ok_11 Γ)
def t__law_counts_ok_9 (Γ : Ad) : PSm := pSeq (pAsg (pIx (pQOf (pLst (pCons (pC (.int 60)) (pCons (pC (.int 59)) (pCons (pC (.int 33)) (pCons (pC (.int 17)) (pNil))))))) (pCall (sp__law_next Γ) (pCons (pVar 0) (pCons (pC (.int 4)) (pNil))))) (pgName 10)) (t__law_counts_ok_10 Γ)
def t__law_counts_ok_7 (Γ : Ad) : PSm := pSeq (pFor (pRng1 (pCons (pVar 4) (pNil))) (pgName 7) (t__law_counts_ok_8 Γ)) (t__law_counts_ok_9 Γ)
def t__law_counts_ok_6 (Γ : Ad) : PSm := pSeq (pAsg (pC (.int 0)) (pgName 9)) (t__law_counts_ok_7 Γ)
def t__law_counts_ok_5 (Γ : Ad) : PSm := pSeq (pIf (pOr (pNotT (pTst (pCall (sp__law_int Γ) (pCons (pVar 8) (pNil))))) (pTst (pBin fNe (pVar 8) (pVar 6)))) (pSeq (pRet (pC (.bl false))) (pNext)) (pNext)) (t__law_counts_ok_6 Γ)
def t__law_counts_ok_4 (Γ : Ad) : PSm := pSeq (pAsg (pCall (sp_count_undivided Γ) (pCons (pVar 1) (pCons (pVar 2) (pCons (pVar 3) (pCons (pVar 4) (pCons (pVar 5) (pNil))))))) (pgName 8)) (t__law_counts_ok_5 Γ)
def t__law_counts_ok_2 (Γ : Ad) : PSm := pSeq (pFor (pRng1 (pCons (pCall (sp__law_pow Γ) (pCons (pVar 4) (pCons (pVar 5) (pNil)))) (pNil))) (pgName 7) (t__law_counts_ok_3 Γ)) (t__law_counts_ok_4 Γ)
def t__law_counts_ok_1 (Γ : Ad) : PSm := pSeq (pAsg (pC (.int 0)) (pgName 6)) (t__law_counts_ok_2 Γ)
theorem e__law_counts_ok (Γ : Ad) : p__law_counts_ok Γ = pSeq (pAsg (pCall (sp__law_next Γ) (pCons (pVar 0) (pCons (pBin fAdd (pCall (sp__law_small_power Γ) (pCons (pVar 4) (pNil))) (pC (.int 1))) (pNil)))) (pgName 5)) (t__law_counts_ok_1 Γ) := rfl
def t__law_term_ok_3 (Γ : Ad) : PSm := pSeq (pRet (pBin fEq (pVar 4) (pC (.str "number")))) (pNext)
def t__law_term_ok_2 (Γ : Ad) : PSm := pSeq (pTry 5 Γ.IsZero (pSeq (pDrop (pCall (sp_digit_term Γ) (pCons (pVar 1) (pCons (pVar 2) (pCons (pVar 3) (pNil)))))) (pNext)) (fun a d => pSeq (pAsg (pExF 5 a d "word") (pgName 4)) (pNext))) (t__law_term_ok_3 Γ)
def t__law_term_ok_1 (Γ : Ad) : PSm := pSeq (pAsg (pC .non) (pgName 4)) (t__law_term_ok_2 Γ)
def t__law_term_ok_10 (Γ : Ad) : PSm := pSeq (pIf (pOr (pNotT (pTst (pCall (sp__law_is_num Γ) (pCons (pVar 8) (pNil))))) (pTst (pBin fNe (pVar 8) (pTup (pCons (pCall (sp__law_digit_sum Γ) (pCons (pVar 1) (pCons (pVar 2) (pCons (pVar 3) (pCons (pVar 7) (pNil)))))) (pCons (pC (.int 1)) (pNil))))))) (pSeq (pRet (pC (.bl false))) (pNext)) (pNext)) (pNext)
def t__law_term_ok_9 (Γ : Ad) : PSm := pSeq (pAsg (pCall (sp_sum_value Γ) (pCons (pIx (pQVar 6) (pC (.int 0))) (pCons (pIx (pQVar 6) (pC (.int 1))) (pCons (pVar 7) (pNil))))) (pgName 8)) (t__law_term_ok_10 Γ)
def t__law_term_ok_11 (Γ : Ad) : PSm := pSeq (pRet (pC (.bl true))) (pNext)
def t__law_term_ok_8 (Γ : Ad) : PSm := pSeq (pFor (pISeq (pLst (pCons (pC (.int 0)) (pCons (pCall (sp__law_next Γ) (pCons (pVar 0) (pCons (pC (.int 12)) (pNil)))) (pNil))))) (pgName 7) (t__law_term_ok_9 Γ)) (t__law_term_ok_11 Γ)
def t__law_term_ok_7 (Γ : Ad) : PSm := pSeq (pIf (pTst (pBin fNe (pFld Γ.Range (pIx (pQVar 6) (pC (.int 1))) "start") (pC (.int 0)))) (pSeq (pRet (pC (.bl false))) (pNext)) (pNext)) (t__law_term_ok_8 Γ)
def t__law_term_ok_6 (Γ : Ad) : PSm := pSeq (pIf (pOr (pNotT (pTst (pIsC Γ.Term2 (pIx (pQVar 6) (pC (.int 0)))))) (pOr (pNotT (pTst (pIsC Γ.Range (pIx (pQVar 6) (pC (.int 1)))))) (pTst (pBin fNotB (pProp Γ.Term2 (sp_Term2_full Γ) (pIx (pQVar 6) (pC (.int 0)))) (pC (.bl true)))))) (pSeq (pRet (pC (.bl false))) (pNext)) (pNext)) (t__law_term_ok_7 Γ)
def t__law_term_ok_5 (Γ : Ad) : PSm := pSeq (pIf (pOr (pNotT (pTst (pIsi "tuple" (pVar 6)))) (pTst (pBin fNe (pLen (pQVar 6)) (pC (.int 2))))) (pSeq (pRet (pC (.bl false))) (pNext)) (pNext)) (t__law_term_ok_6 Γ)
def t__law_term_ok_4 (Γ : Ad) : PSm := pSeq (pAsg (pCall (sp_digit_term Γ) (pCons (pVar 1) (pCons (pVar 2) (pCons (pVar 3) (pNil))))) (pgName 6)) (t__law_term_ok_5 Γ)
theorem e__law_term_ok (Γ : Ad) : p__law_term_ok Γ = pSeq (pIf (pTst (pBin fEq (pVar 3) (pC (.int 0)))) (t__law_term_ok_1 Γ) (pNext)) (t__law_term_ok_4 Γ) := rfl
def t__law_refused_2 (Γ : Ad) : PSm := pSeq (pDrop (pCall (sp_digit_value Γ) (pCons (pIx (pQVar 1) (pC (.int 0))) (pCons (pIx (pQVar 1) (pC (.int 1))) (pCons (pIx (pQVar 1) (pC (.int 2))) (pCons (pIx (pQVar 1) (pC (.int 3))) (pNil))))))) (pNext)
def t__law_refused_4 (Γ : Ad) : PSm := pSeq (pDrop (pCall (sp_digit_mod Γ) (pCons (pIx (pQVar 1) (pC (.int 0))) (pCons (pIx (pQVar 1) (pC (.int 1))) (pCons (pIx (pQVar 1) (pC (.int 2))) (pCons (pIx (pQVar 1) (pC (.int 3))) (pCons (pIx (pQVar 1) (pC (.int 4))) (pNil)))))))) (pNext)
def t__law_refused_6 (Γ : Ad) : PSm := pSeq (pDrop (pCall (sp_first_divided Γ) (pCons (pIx (pQVar 1) (pC (.int 0))) (pCons (pIx (pQVar 1) (pC (.int 1))) (pCons (pIx (pQVar 1) (pC (.int 2))) (pCons (pIx (pQVar 1) (pC (.int 4))) (pNil))))))) (pNext)
def t__law_refused_8 (Γ : Ad) : PSm := pSeq (pDrop (pCall (sp_count_undivided Γ) (pCons (pIx (pQVar 1) (pC (.int 0))) (pCons (pIx (pQVar 1) (pC (.int 1))) (pCons (pIx (pQVar 1) (pC (.int 2))) (pCons (pIx (pQVar 1) (pC (.int 4))) (pCons (pIx (pQVar 1) (pC (.int 3))) (pNil)))))))) (pNext)
def t__law_refused_9 (Γ : Ad) : PSm := pSeq (pDrop (pCall (sp_digit_term Γ) (pCons (pIx (pQVar 1) (pC (.int 0))) (pCons (pIx (pQVar 1) (pC (.int 1))) (pCons (pIx (pQVar 1) (pC (.int 2))) (pNil)))))) (pNext)
def t__law_refused_7 (Γ : Ad) : PSm := pSeq (pIf (pTst (pBin fEq (pVar 0) (pC (.int 3)))) (t__law_refused_8 Γ) (t__law_refused_9 Γ)) (pNext)
def t__law_refused_5 (Γ : Ad) : PSm := pSeq (pIf (pTst (pBin fEq (pVar 0) (pC (.int 2)))) (t__law_refused_6 Γ) (t__law_refused_7 Γ)) (pNext)
def t__law_refused_3 (Γ : Ad) : PSm := pSeq (pIf (pTst (pBin fEq (pVar 0) (pC (.int 1)))) (t__law_refused_4 Γ) (t__law_refused_5 Γ)) (pNext)
def t__law_refused_10 (Γ : Ad) : PSm := pSeq (pRetN 2) (pNext)
def t__law_refused_1 (Γ : Ad) : PSm := pSeq (pTry2 3 3 Γ.BadInteger Γ.TooMuch (pSeq (pIf (pTst (pBin fEq (pVar 0) (pC (.int 0)))) (t__law_refused_2 Γ) (t__law_refused_3 Γ)) (pNext)) (fun a d => pSeq (pAsg (pLst (pCons (pC (.str "integer")) (pCons (pExF 3 a d "handed") (pNil)))) (pgName 2)) (pNext)) (fun a d => pSeq (pAsg (pLst (pCons (pExF 3 a d "word") (pCons (pExF 3 a d "most") (pNil)))) (pgName 2)) (pNext))) (t__law_refused_10 Γ)
theorem e__law_refused (Γ : Ad) : p__law_refused Γ = pSeq (pAsg (pC .non) (pgName 2)) (t__law_refused_1 Γ) := rfl
def t__law_refusals_ok_13 (Γ : Ad) : PSm := pSeq (pIf (pTst (pBin fNe (pCall (sp__law_refused Γ) (pCons (pVar 1) (pCons (pLst (pCons (pC (.int 1)) (pCons (pC (.int 0)) (pCons (pC (.int 2)) (pCons (pVar 2) (pCons (pC (.int 3)) (pNil))))))) (pNil)))) (pLst (pCons (pC (.str "integer")) (pCons (pVar 2) (pNil)))))) (pSeq (pRet (pC (.bl false))) (pNext)) (pNext)) (pNext)
def t__law_refusals_ok_18 (Γ : Ad) : PSm := pSeq (pRet (pBin fEq (pCall (sp__law_refused Γ) (pCons (pC (.int 1)) (pCons (pLst (pCons (pC (.int 1)) (pCons (pC (.int 0)) (pCons (pC (.int 1)) (pCons (pVar 4) (pCons (pC (.int 3)) (pNil))))))) (pNil)))) (pLst (pCons (pC (.str "figures")) (pCons (pC (.int 400)) (pNil)))))) (pNext)
def t__law_refusals_ok_17 (Γ : Ad) : PSm := pSeq (pIf (pTst (pBin fNotN (pCall (sp__law_refused Γ) (pCons (pC (.int 1)) (pCons (pLst (pCons (pC (.int 1)) (pCons (pC (.int 0)) (pCons (pC (.int 1)) (pCons (pBin fSub (pVar 4) (pC (.int 1))) (pCons (pC (.int 3)) (pNil))))))) (pNil)))) (pC .non))) (pSeq (pRet (pC (.bl false))) (pNext)) (pNext)) (t__law_refusals_ok_18 Γ)
def t__law_refusals_ok_16 (Γ : Ad) : PSm := pSeq (pAsg (pBin fMul (pBin fMul (pBin fMul (pBin fMul (pBin fMul (pBin fMul (pBin fPow (pC (.int 10)) (pC (.int 64))) (pBin fPow (pC (.int 10)) (pC (.int 64)))) (pBin fPow (pC (.int 10)) (pC (.int 64)))) (pBin fPow (pC (.int 10)) (pC (.int 64)))) (pBin fPow (pC (.int 10)) (pC (.int 64)))) (pBin fPow (pC (.int 10)) (pC (.int 64)))) (pBin fPow (pC (.int 10)) (pC (.int 16)))) (pgName 4)) (t__law_refusals_ok_17 Γ)
def t__law_refusals_ok_15 (Γ : Ad) : PSm := pSeq (pIf (pOr (pTst (pBin fNotN (pCall (sp__law_refused Γ) (pCons (pC (.int 3)) (pCons (pLst (pCons (pC (.int 1)) (pCons (pC (.int 0)) (pCons (pC (.int 1)) (pCons (pC (.int 60)) (pCons (pC (.int 3)) (pNil))))))) (pNil)))) (pC .non))) (pTst (pBin fNe (pCall (sp__law_refused Γ) (pCons (pC (.int 3)) (pCons (pLst (pCons (pC (.int 1)) (pCons (pC (.int 0)) (pCons (pC (.int 1)) (pCons (pC (.int 61)) (pCons (pC (.int 3)) (pNil))))))) (pNil)))) (pLst (pCons (pC (.str "power")) (pCons (pC (.int 60)) (pNil))))))) (pSeq (pRet (pC (.bl false))) (pNext)) (pNext)) (t__law_refusals_ok_16 Γ)
def t__law_refusals_ok_14 (Γ : Ad) : PSm := pSeq (pIf (pOr (pTst (pBin fNotN (pCall (sp__law_refused Γ) (pCons (pC (.int 0)) (pCons (pLst (pCons (pC (.int 1)) (pCons (pC (.int 0)) (pCons (pC (.int 1)) (pCons (pC (.int 400)) (pCons (pC (.int 3)) (pNil))))))) (pNil)))) (pC .non))) (pTst (pBin fNe (pCall (sp__law_refused Γ) (pCons (pC (.int 0)) (pCons (pLst (pCons (pC (.int 1)) (pCons (pC (.int 0)) (pCons (pC (.int 1)) (pCons (pC (.int 401)) (pCons (pC (.int 3)) (pNil))))))) (pNil)))) (pLst (pCons (pC (.str "place")) (pCons (pC (.int 400)) (pNil))))))) (pSeq (pRet (pC (.bl false))) (pNext)) (pNext)) (t__law_refusals_ok_15 Γ)
def t__law_refusals_ok_12 (Γ : Ad) : PSm := pSeq (pFor (pISeq (pLst (pCons (pC (.int 0)) (pCons (pC (.int 1)) (pCons (pC (.int 3)) (pNil)))))) (pgName 1) (t__law_refusals_ok_13 Γ)) (t__law_refusals_ok_14 Γ)
def t__law_refusals_ok_11 (Γ : Ad) : PSm := pSeq (pAsg (pIx (pQOf (pLst (pCons (pNeg (pC (.int 1))) (pCons (pC .non) (pCons (pC (.bl true)) (pCons (pC (.str "0")) (pNil))))))) (pCall (sp__law_next Γ) (pCons (pVar 0) (pCons (pC (.int 4)) (pNil))))) (pgName 2)) (t__law_refusals_ok_12 Γ)
def t__law_refusals_ok_10 (Γ : Ad) : PSm := pSeq (pIf (pOr (pTst (pBin fNe (pCall (sp__law_refused Γ) (pCons (pVar 1) (pCons (pLst (pCons (pC (.int 1)) (pCons (pC (.int 0)) (pCons (pC (.int 2)) (pCons (pC (.int 3)) (pCons (pVar 2) (pNil))))))) (pNil)))) (pLst (pCons (pC (.str "integer")) (pCons (pVar 2) (pNil)))))) (pTst (pBin fNotN (pCall (sp__law_refused Γ) (pCons (pVar 1) (pCons (pLst (pCons (pC (.int 1)) (pCons (pC (.int 0)) (pCons (pC (.int 2)) (pCons (pC (.int 3)) (pCons (pVar 3) (pNil))))))) (pNil)))) (pC .non)))) (pSeq (pRet (pC (.bl false))) (pNext)) (pNext)) (t__law_refusals_ok_11 Γ)
def t__law_refusals_ok_9 (Γ : Ad) : PSm := pSeq (pIf (pTst (pBin fEq (pCall (sp__law_next Γ) (pCons (pVar 0) (pCons (pC (.int 12)) (pNil)))) (pC (.int 11)))) (pSeq (pAsg (pC (.int 199)) (pgName 3)) (pNext)) (pNext)) (t__law_refusals_ok_10 Γ)
def t__law_refusals_ok_8 (Γ : Ad) : PSm := pSeq (pAsg (pC (.int 19)) (pgName 3)) (t__law_refusals_ok_9 Γ)
def t__law_refusals_ok_7 (Γ : Ad) : PSm := pSeq (pAsg (pBin fAdd (pC (.int 1)) (pCall (sp__law_next Γ) (pCons (pVar 0) (pCons (pC (.int 3)) (pNil))))) (pgName 1)) (t__law_refusals_ok_8 Γ)
def t__law_refusals_ok_6 (Γ : Ad) : PSm := pSeq (pAsg (pIx (pQOf (pLst (pCons (pC (.int 1)) (pCons (pC (.int 0)) (pCons (pNeg (pC (.int 2))) (pCons (pC (.int 4)) (pCons (pC (.int 169)) (pCons (pC (.int 187)) (pCons (pC (.int 201)) (pCons (pC (.int 211)) (pCons (pC (.bl true)) (pCons (pC .non) (pNil))))))))))))) (pCall (sp__law_next Γ) (pCons (pVar 0) (pCons (pC (.int 10)) (pNil))))) (pgName 2)) (t__law_refusals_ok_7 Γ)
def t__law_refusals_ok_5 (Γ : Ad) : PSm := pSeq (pIf (pTst (pBin fNe (pCall (sp__law_refused Γ) (pCons (pVar 1) (pCons (pLst (pCons (pC (.int 1)) (pCons (pC (.int 4)) (pCons (pTup (pCons (pC (.int 1)) (pCons (pC (.int 1)) (pNil)))) (pCons (pNeg (pC (.int 1))) (pCons (pC (.int 4)) (pNil))))))) (pNil)))) (pLst (pCons (pC (.str "integer")) (pCons (pTup (pCons (pC (.int 1)) (pCons (pC (.int 1)) (pNil)))) (pNil)))))) (pSeq (pRet (pC (.bl false))) (pNext)) (pNext)) (t__law_refusals_ok_6 Γ)
def t__law_refusals_ok_4 (Γ : Ad) : PSm := pSeq (pIf (pTst (pBin fNe (pCall (sp__law_refused Γ) (pCons (pVar 1) (pCons (pLst (pCons (pC (.int 4)) (pCons (pVar 2) (pCons (pC (.str "c")) (pCons (pNeg (pC (.int 1))) (pCons (pC (.int 4)) (pNil))))))) (pNil)))) (pLst (pCons (pC (.str "integer")) (pCons (pVar 2) (pNil)))))) (pSeq (pRet (pC (.bl false))) (pNext)) (pNext)) (t__law_refusals_ok_5 Γ)
def t__law_refusals_ok_3 (Γ : Ad) : PSm := pSeq (pAsg (pIx (pQOf (pLst (pCons (pNeg (pC (.int 1))) (pCons (pC (.int 5)) (pCons (pC (.bl false)) (pCons (pC .non) (pNil))))))) (pCall (sp__law_next Γ) (pCons (pVar 0) (pCons (pC (.int 4)) (pNil))))) (pgName 2)) (t__law_refusals_ok_4 Γ)
def t__law_refusals_ok_2 (Γ : Ad) : PSm := pSeq (pIf (pTst (pBin fNe (pCall (sp__law_refused Γ) (pCons (pVar 1) (pCons (pLst (pCons (pVar 2) (pCons (pC (.int 9)) (pCons (pC (.str "c")) (pCons (pNeg (pC (.int 1))) (pCons (pC (.int 4)) (pNil))))))) (pNil)))) (pLst (pCons (pC (.str "integer")) (pCons (pVar 2) (pNil)))))) (pSeq (pRet (pC (.bl false))) (pNext)) (pNext)) (t__law_refusals_ok_3 Γ)
def t__law_refusals_ok_1 (Γ : Ad) : PSm := pSeq (pAsg (pIx (pQOf (pLst (pCons (pC (.int 0)) (pCons (pC (.int 5)) (pCons (pC (.bl true)) (pCons (pC .non) (pCons (pC (.str "1")) (pNil)))))))) (pCall (sp__law_next Γ) (pCons (pVar 0) (pCons (pC (.int 5)) (pNil))))) (pgName 2)) (t__law_refusals_ok_2 Γ)
theorem e__law_refusals_ok (Γ : Ad) : p__law_refusals_ok Γ = pSeq (pAsg (pCall (sp__law_next Γ) (pCons (pVar 0) (pCons (pC (.int 5)) (pNil)))) (pgName 1)) (t__law_refusals_ok_1 Γ) := rfl
def t_law_4 (Γ : Ad) : PSm := pSeq (pAsg (pBin fAdd (pBin fAdd (pBin fMul (pVar 4) (pBin fPow (pC (.int 10)) (pC (.int 19)))) (pBin fMul (pCall (sp__law_next Γ) (pCons (pVar 1) (pCons (pC (.int 97)) (pNil)))) (pBin fPow (pC (.int 10)) (pC (.int 9))))) (pCall (sp__law_next Γ) (pCons (pVar 1) (pCons (pC (.int 97)) (pNil))))) (pgName 4)) (pNext)
def t_law_13 (Γ : Ad) : PSm := pSeq (pRet (pCall (sp__law_refusals_ok Γ) (pCons (pVar 1) (pNil)))) (pNext)
def t_law_12 (Γ : Ad) : PSm := pSeq (pIf (pNotT (pTst (pCall (sp__law_term_ok Γ) (pCons (pVar 1) (pCons (pVar 2) (pCons (pVar 3) (pCons (pVar 4) (pNil)))))))) (pSeq (pRet (pC (.bl false))) (pNext)) (pNext)) (t_law_13 Γ)
def t_law_11 (Γ : Ad) : PSm := pSeq (pIf (pOr (pNotT (pTst (pCall (sp__law_first_is Γ) (pCons (pC (.int 2)) (pCons (pC (.int 0)) (pCons (pC (.int 1)) (pCons (pC (.int 3)) (pCons (pC (.int 2)) (pNil))))))))) (pNotT (pTst (pCall (sp__law_first_is Γ) (pCons (pC (.int 1)) (pCons (pC (.int 0)) (pCons (pC (.int 1)) (pCons (pC (.int 3)) (pCons (pC .non) (pNil)))))))))) (pSeq (pRet (pC (.bl false))) (pNext)) (pNext)) (t_law_12 Γ)
def t_law_10 (Γ : Ad) : PSm := pSeq (pIf (pOr (pTst (pBin fNe (pCall (sp_count_undivided Γ) (pCons (pC (.int 1)) (pCons (pC (.int 0)) (pCons (pBin fMul (pVar 7) (pVar 5)) (pCons (pVar 5) (pCons (pC (.int 3)) (pNil))))))) (pBin fMul (pBin fMul (pVar 5) (pVar 5)) (pVar 5)))) (pTst (pBin fNe (pCall (sp_count_undivided Γ) (pCons (pC (.int 1)) (pCons (pC (.int 0)) (pCons (pBin fSub (pBin fMul (pVar 7) (pVar 5)) (pC (.int 1))) (pCons (pVar 5) (pCons (pC (.int 3)) (pNil))))))) (pC (.int 1))))) (pSeq (pRet (pC (.bl false))) (pNext)) (pNext)) (t_law_11 Γ)
def t_law_9 (Γ : Ad) : PSm := pSeq (pIf (pOr (pNotT (pTst (pCall (sp__law_first_is Γ) (pCons (pC (.int 1)) (pCons (pC (.int 0)) (pCons (pBin fSub (pBin fMul (pVar 7) (pVar 5)) (pC (.int 1))) (pCons (pVar 5) (pCons (pC (.int 1)) (pNil))))))))) (pNotT (pTst (pCall (sp__law_first_is Γ) (pCons (pC (.int 1)) (pCons (pC (.int 0)) (pCons (pBin fMul (pVar 7) (pVar 5)) (pCons (pVar 5) (pCons (pC .non) (pNil)))))))))) (pSeq (pRet (pC (.bl false))) (pNext)) (pNext)) (t_law_10 Γ)
def t_law_8 (Γ : Ad) : PSm := pSeq (pAsg (pBin fSub (pCall (sp__law_next Γ) (pCons (pVar 1) (pCons (pC (.int 9)) (pNil)))) (pC (.int 4))) (pgName 7)) (t_law_9 Γ)
def t_law_7 (Γ : Ad) : PSm := pSeq (pIf (pOr (pNotT (pTst (pCall (sp__law_first_is Γ) (pCons (pVar 2) (pCons (pVar 3) (pCons (pVar 4) (pCons (pVar 5) (pCons (pVar 6) (pNil))))))))) (pNotT (pTst (pCall (sp__law_counts_ok Γ) (pCons (pVar 1) (pCons (pVar 2) (pCons (pVar 3) (pCons (pVar 4) (pCons (pVar 5) (pNil)))))))))) (pSeq (pRet (pC (.bl false))) (pNext)) (pNext)) (t_law_8 Γ)
def t_law_6 (Γ : Ad) : PSm := pSeq (pAsg (pCall (sp__law_first Γ) (pCons (pVar 2) (pCons (pVar 3) (pCons (pVar 4) (pCons (pVar 5) (pNil)))))) (pgName 6)) (t_law_7 Γ)
def t_law_5 (Γ : Ad) : PSm := pSeq (pAsg (pIx (pQOf (pLst (pCons (pC (.int 2)) (pCons (pC (.int 3)) (pCons (pC (.int 5)) (pCons (pC (.int 7)) (pCons (pC (.int 11)) (pCons (pC (.int 13)) (pCons (pC (.int 17)) (pCons (pC (.int 19)) (pNil))))))))))) (pCall (sp__law_next Γ) (pCons (pVar 1) (pCons (pC (.int 8)) (pNil))))) (pgName 5)) (t_law_6 Γ)
def t_law_3 (Γ : Ad) : PSm := pSeq (pIf (pTst (pBin fEq (pCall (sp__law_next Γ) (pCons (pVar 1) (pCons (pC (.int 8)) (pNil)))) (pC (.int 7)))) (t_law_4 Γ) (pNext)) (t_law_5 Γ)
def t_law_2 (Γ : Ad) : PSm := pSeq (pAsg (pBin fSub (pCall (sp__law_next Γ) (pCons (pVar 1) (pCons (pC (.int 13)) (pNil)))) (pC (.int 6))) (pgName 4)) (t_law_3 Γ)
def t_law_1 (Γ : Ad) : PSm := pSeq (pAsg (pCall (sp__law_next Γ) (pCons (pVar 1) (pCons (pC (.int 5)) (pNil)))) (pgName 3)) (t_law_2 Γ)
theorem e_law (Γ : Ad) : p_law Γ = pStrm 1 (pCall (sp__law_stream Γ) (pCons (pVar 0) (pNil))) (pSeq (pAsg (pBin fAdd (pC (.int 1)) (pCall (sp__law_next Γ) (pCons (pVar 1) (pCons (pC (.int 4)) (pNil))))) (pgName 2)) (t_law_1 Γ)) := rfl
def t_Pure_init_9 (Γ : Ad) : PSm := pSeq (pIf (pTst (pBin fGt (pBin fAdd (pLen (pQOf (pGetS 0 Γ.Pure "tops"))) (pLen (pQOf (pGetS 0 Γ.Pure "bottoms")))) (pC (.int 20)))) (pDead) (pNext)) (pNext)
def t_Pure_init_8 (Γ : Ad) : PSm := pSeq (pSetS Γ.Pure "bottoms" (pCall (sp_pu_less Γ) (pCons (pVar 8) (pCons (pVar 7) (pNil))))) (t_Pure_init_9 Γ)
def t_Pure_init_7 (Γ : Ad) : PSm := pSeq (pSetS Γ.Pure "tops" (pCall (sp_pu_less Γ) (pCons (pVar 7) (pCons (pVar 8) (pNil))))) (t_Pure_init_8 Γ)
def t_Pure_init_6 (Γ : Ad) : PSm := pSeq (pAsg (pCall (sp_pu_forms Γ) (pCons (pVar 6) (pNil))) (pgName 8)) (t_Pure_init_7 Γ)
def t_Pure_init_5 (Γ : Ad) : PSm := pSeq (pAsg (pCall (sp_pu_forms Γ) (pCons (pVar 5) (pNil))) (pgName 7)) (t_Pure_init_6 Γ)
def t_Pure_init_4 (Γ : Ad) : PSm := pSeq (pSetS Γ.Pure "square" (pCall (sp_pu_square Γ) (pCons (pVar 1) (pCons (pVar 4) (pNil))))) (t_Pure_init_5 Γ)
def t_Pure_init_3 (Γ : Ad) : PSm := pSeq (pIf (pOr (pTst (pBin fEq (pIx (pQOf (pGetS 0 Γ.Pure "s")) (pC (.int 0))) (pC (.int 0)))) (pTst (pBin fEq (pIx (pQOf (pGetS 0 Γ.Pure "t")) (pC (.int 0))) (pC (.int 0))))) (pDead) (pNext)) (t_Pure_init_4 Γ)
def t_Pure_init_2 (Γ : Ad) : PSm := pSeq (pSetS Γ.Pure "t" (pCall (sp_number Γ) (pCons (pVar 3) (pNil)))) (t_Pure_init_3 Γ)
def t_Pure_init_1 (Γ : Ad) : PSm := pSeq (pSetS Γ.Pure "s" (pCall (sp_number Γ) (pCons (pVar 2) (pNil)))) (t_Pure_init_2 Γ)
theorem e_Pure_init (Γ : Ad) : p_Pure_init Γ = pSeq (pSetS Γ.Pure "step" (pCall (sp_sw_step Γ) (pCons (pVar 1) (pNil)))) (t_Pure_init_1 Γ) := rfl
def t_Term2_init_10 (Γ : Ad) : PSm := pSeq (pAsg (pC (.tup [.tup [.int 0, .int 0, .tup [.int 1, .int 1]]])) (pgName 6)) (pNext)
def t_Term2_init_9 (Γ : Ad) : PSm := pSeq (pAsg (pCall (sp_i2_scaled Γ) (pCons (pVar 5) (pCons (pVar 8) (pCons (pVar 7) (pNil))))) (pgName 5)) (t_Term2_init_10 Γ)
def t_Term2_init_8 (Γ : Ad) : PSm := pSeq (pAsg (pIx (pQOf (pIx (pQVar 6) (pC (.int 0)))) (pC (.int 2))) (pgTup 2 (pgCons (pgName 7) (pgCons (pgName 8) (pgNil))))) (t_Term2_init_9 Γ)
def t_Term2_init_13 (Γ : Ad) : PSm := pSeq (pSetS Γ.Term2 "pure" (pVar 4)) (pNext)
def t_Term2_init_12 (Γ : Ad) : PSm := pSeq (pSetS Γ.Term2 "bottom" (pVar 6)) (t_Term2_init_13 Γ)
def t_Term2_init_11 (Γ : Ad) : PSm := pSeq (pSetS Γ.Term2 "top" (pVar 5)) (t_Term2_init_12 Γ)
def t_Term2_init_7 (Γ : Ad) : PSm := pSeq (pIf (pAnd (pTst (pBin fEq (pLen (pQVar 6)) (pC (.int 1)))) (pTst (pBin fEq (pSl (pQOf (pIx (pQVar 6) (pC (.int 0)))) (pNo) (pSo (pC (.int 2)))) (pTup (pCons (pC (.int 0)) (pCons (pC (.int 0)) (pNil))))))) (t_Term2_init_8 Γ) (pNext)) (t_Term2_init_11 Γ)
def t_Term2_init_6 (Γ : Ad) : PSm := pSeq (pIf (pNotT (pTst (pBin (fEqC Γ.Plain (sp_Step_eq Γ)) (pFld Γ.Pure (pVar 4) "step") (pVar 1)))) (pDead) (pNext)) (t_Term2_init_7 Γ)
def t_Term2_init_5 (Γ : Ad) : PSm := pSeq (pIf (pNotT (pTst (pIsC Γ.Pure (pVar 4)))) (pDead) (pNext)) (t_Term2_init_6 Γ)
def t_Term2_init_4 (Γ : Ad) : PSm := pSeq (pIf (pAnd (pTst (pBin fEq (pFld Γ.Plain (pVar 1) "word") (pC (.str "base")))) (pTst (pCB fAny (pCons (pLc 9 (pISeq (pVar 6)) (pYes) (pBin fNe (pIx (pQVar 9) (pC (.int 1))) (pC (.int 0)))) (pNil))))) (pDead) (pNext)) (t_Term2_init_5 Γ)
def t_Term2_init_3 (Γ : Ad) : PSm := pSeq (pIf (pTst (pBin fEq (pLen (pQVar 6)) (pC (.int 0)))) (pDead) (pNext)) (t_Term2_init_4 Γ)
def t_Term2_init_2 (Γ : Ad) : PSm := pSeq (pAsg (pCall (sp_i2_look Γ) (pCons (pVar 1) (pCons (pVar 3) (pNil)))) (pgName 6)) (t_Term2_init_3 Γ)
def t_Term2_init_1 (Γ : Ad) : PSm := pSeq (pAsg (pCall (sp_i2_look Γ) (pCons (pVar 1) (pCons (pVar 2) (pNil)))) (pgName 5)) (t_Term2_init_2 Γ)
theorem e_Term2_init (Γ : Ad) : p_Term2_init Γ = pSeq (pSetS Γ.Term2 "step" (pCall (sp_sw_step Γ) (pCons (pVar 1) (pNil)))) (t_Term2_init_1 Γ) := rfl
def t_Range_init_5 (Γ : Ad) : PSm := pSeq (pIf (pOr (pTst (pBin fLt (pVar 4) (pC (.int 0)))) (pTst (pBin fLt (pBin fSub (pBin fAdd (pBin fMul (pVar 4) (pVar 3)) (pIx (pQOf (pGetS 0 Γ.Range "high")) (pC (.int 1)))) (pIx (pQOf (pGetS 0 Γ.Range "low")) (pC (.int 1)))) (pNeg (pC (.int 1)))))) (pDead) (pNext)) (pNext)
def t_Range_init_4 (Γ : Ad) : PSm := pSeq (pAsg (pBin fSub (pIx (pQOf (pGetS 0 Γ.Range "high")) (pC (.int 0))) (pIx (pQOf (pGetS 0 Γ.Range "low")) (pC (.int 0)))) (pgName 4)) (t_Range_init_5 Γ)
def t_Range_init_3 (Γ : Ad) : PSm := pSeq (pSetS Γ.Range "start" (pVar 3)) (t_Range_init_4 Γ)
def t_Range_init_2 (Γ : Ad) : PSm := pSeq (pIf (pOr (pNotT (pTst (pCall (sp_nu_integer Γ) (pCons (pVar 3) (pNil))))) (pTst (pBin fLt (pVar 3) (pC (.int 0))))) (pDead) (pNext)) (t_Range_init_3 Γ)
def t_Range_init_1 (Γ : Ad) : PSm := pSeq (pSetS Γ.Range "high" (pCall (sp_rg_pair Γ) (pCons (pVar 2) (pCons (pC (.str "high")) (pNil))))) (t_Range_init_2 Γ)
theorem e_Range_init (Γ : Ad) : p_Range_init Γ = pSeq (pSetS Γ.Range "low" (pCall (sp_rg_pair Γ) (pCons (pVar 1) (pCons (pC (.str "low")) (pNil))))) (t_Range_init_1 Γ) := rfl
@[simp] theorem ne_s_step : ((Str.ofString "s") == (Str.ofString "step")) = false := by decide +kernel
@[simp] theorem ne_t_step : ((Str.ofString "t") == (Str.ofString "step")) = false := by decide +kernel
@[simp] theorem ne_t_s : ((Str.ofString "t") == (Str.ofString "s")) = false := by decide +kernel
@[simp] theorem ne_square_step : ((Str.ofString "square") == (Str.ofString "step")) = false := by decide +kernel
@[simp] theorem ne_square_s : ((Str.ofString "square") == (Str.ofString "s")) = false := by decide +kernel
@[simp] theorem ne_square_t : ((Str.ofString "square") == (Str.ofString "t")) = false := by decide +kernel
@[simp] theorem ne_tops_step : ((Str.ofString "tops") == (Str.ofString "step")) = false := by decide +kernel
@[simp] theorem ne_tops_s : ((Str.ofString "tops") == (Str.ofString "s")) = false := by decide +kernel
@[simp] theorem ne_tops_t : ((Str.ofString "tops") == (Str.ofString "t")) = false := by decide +kernel
@[simp] theorem ne_tops_square : ((Str.ofString "tops") == (Str.ofString "square")) = false := by decide +kernel
@[simp] theorem ne_bottoms_step : ((Str.ofString "bottoms") == (Str.ofString "step")) = false := by decide +kernel
@[simp] theorem ne_bottoms_s : ((Str.ofString "bottoms") == (Str.ofString "s")) = false := by decide +kernel
@[simp] theorem ne_bottoms_t : ((Str.ofString "bottoms") == (Str.ofString "t")) = false := by decide +kernel
@[simp] theorem ne_bottoms_square : ((Str.ofString "bottoms") == (Str.ofString "square")) = false := by decide +kernel
@[simp] theorem ne_bottoms_tops : ((Str.ofString "bottoms") == (Str.ofString "tops")) = false := by decide +kernel
@[simp] theorem ne_top_step : ((Str.ofString "top") == (Str.ofString "step")) = false := by decide +kernel
@[simp] theorem ne_bottom_step : ((Str.ofString "bottom") == (Str.ofString "step")) = false := by decide +kernel
@[simp] theorem ne_bottom_top : ((Str.ofString "bottom") == (Str.ofString "top")) = false := by decide +kernel
@[simp] theorem ne_pure_step : ((Str.ofString "pure") == (Str.ofString "step")) = false := by decide +kernel
@[simp] theorem ne_pure_top : ((Str.ofString "pure") == (Str.ofString "top")) = false := by decide +kernel
@[simp] theorem ne_pure_bottom : ((Str.ofString "pure") == (Str.ofString "bottom")) = false := by decide +kernel
@[simp] theorem ne_high_low : ((Str.ofString "high") == (Str.ofString "low")) = false := by decide +kernel
@[simp] theorem ne_start_low : ((Str.ofString "start") == (Str.ofString "low")) = false := by decide +kernel
@[simp] theorem ne_start_high : ((Str.ofString "start") == (Str.ofString "high")) = false := by decide +kernel
@[simp] theorem ne_base_word : ((Str.ofString "base") == (Str.ofString "word")) = false := by decide +kernel
end K89
end
section
set_option Elab.async false
set_option linter.all false
set_option maxRecDepth 100000
namespace K89
open PySem L2 Py
theorem fac_small : ∀ {m : Nat}, m ≤ 24 → fac m ≤ 2 ^ (5 * m)
  | 0, _ => by decide
  | m + 1, h => by
    have := fac_small (m := m) (by omega)
    show fac m * (m + 1) ≤ 2 ^ (5 * (m + 1))
    rw [show 5 * (m + 1) = 5 * m + 5 from rfl, Nat.pow_add]
    exact Nat.mul_le_mul this (by omega)
theorem facs_append (A B : List (List Int)) (n k : Int) : facs (A ++ B) n k = facs A n k * facs B n k := by
  induction A with
  | nil => simp [facs]
  | cons w r ih =>
    show _ * facs (r ++ B) n k = (_ * facs r n k) * facs B n k
    rw [ih, Int.mul_assoc]
theorem facs_one (w : List Int) (n k : Int) : facs [w] n k = ((fac (sizeF w n k).toNat : Nat) : Int) := by simp [facs]
theorem facs_pos (A : List (List Int)) (n k : Int) : 0 < facs A n k := by
  induction A with
  | nil => simp [facs]
  | cons w r ih =>
    show 0 < ((fac (sizeF w n k).toNat : Nat) : Int) * facs r n k
    have := fac_pos (sizeF w n k).toNat
    exact Int.mul_pos (by omega) ih
theorem facs_take {L : List (List Int)} {i : Nat} (h : i < L.length) (n k : Int) : facs (L.take (i + 1)) n k = facs (L.take i) n k * ((fac (sizeF L[i] n k).toNat : Nat) : Int) := by
  rw [List.take_add_one, List.getElem?_eq_getElem h]
  show facs (L.take i ++ [L[i]]) n k = _
  rw [facs_append, facs_one]
theorem okF_size {w : List Int} {n k : Nat} (h : okF w) (hk : k ≤ n) (hn : n ≤ 12) : 0 ≤ sizeF w n k ∧ sizeF w n k ≤ 24 := by
  rcases h with rfl | rfl | rfl | rfl <;> simp [sizeF] <;> omega
theorem facs_sb {A : List (List Int)} {n k : Nat} (h : ∀ w ∈ A, okF w) (hk : k ≤ n) (hn : n ≤ 12) : sb (120 * A.length) (facs A n k) := by
  induction A with
  | nil => unfold sb; simp [facs]
  | cons w r ih =>
    have h1 := ih fun v hv => h v (List.mem_cons_of_mem _ hv)
    have h2 := okF_size (h w List.mem_cons_self) hk hn
    have h3 : sb 120 ((fac (sizeF w n k).toNat : Nat) : Int) := sb_nat (Nat.le_trans (fac_small (m := (sizeF w n k).toNat) (by omega)) (Nat.pow_le_pow_right (by decide) (by omega)))
    have := sb_mul h3 h1
    show sb (120 * (r.length + 1)) (_ * facs r n k)
    exact sb_mono this (by omega)
theorem sb_small {n : Nat} (h : n ≤ 100) : sb 64 (n : Int) := sb_nat (by omega)
theorem eq_plain : fEqD (.str "plain") (.str "plain") = fun Q => Q (.dat (.bl true)) := by
  funext Q
  exact propext ⟨fun h => h.2.2, fun h => ⟨⟨rfl, by decide +kernel⟩, ⟨rfl, by decide +kernel⟩, h⟩⟩
theorem eq_base : fEqD (.str "plain") (.str "base") = fun Q => Q (.dat (.bl false)) := by
  funext Q
  have e : PyData.eqv (D.str "plain").py (D.str "base").py = false := by decide +kernel
  refine propext ⟨fun h => ?_, fun h => ⟨⟨rfl, by decide +kernel⟩, ⟨rfl, by decide +kernel⟩, ?_⟩⟩
  · have := h.2.2; rw [e] at this; exact this
  · rw [e]; exact h
theorem any_false (L : List (List Int)) (Q : Res → Prop) : fAny [.lst ((L.map tupD).map fun _ => .bl false)] Q = Q (.dat (.bl false)) := by
  have e : ∀ xs : List (List Int), blsD ((xs.map tupD).map fun _ => .bl false) = some (xs.map fun _ => false) := by
    intro xs
    induction xs with
    | nil => rfl
    | cons x r ih =>
      show (blsD ((r.map tupD).map fun _ => .bl false)).map (false :: ·) = _
      rw [ih]
      rfl
  have e2 : (L.map fun _ => false).any id = false := by simp
  have e3 : ∀ o : Option (List Bool), o = some (L.map fun _ => false) → (match o with
    | some l => Q (.dat (.bl (l.any id)))
    | none => False) = Q (.dat (.bl false)) := by
    rintro o rfl
    simp only [e2]
  exact e3 _ (e L)
theorem pf_pu_number (Γ : Ad) : ∀ rs S Q E, sp_pu_number Γ rs S Q E → p_pu_number Γ (ends Q E) (rs.map Res.slot ++ List.replicate (13 - rs.length) .un) S := by
  rintro rs S Q E ⟨c, T, B, n, k, x, rfl, h, q⟩
  obtain ⟨htl, hbl, hne, htf, hbf, hc, hn, hk, he⟩ := h
  have hz : (100 : Nat) < sizeLine := by decide
  have n64 : sb 64 (n : Int) := sb_small (by omega)
  have k64 : sb 64 (k : Int) := sb_small (by omega)
  have hne2 : T.map tupD ≠ [] := by simpa using hne
  have hlen : T.length + B.length ≤ sizeLine := by omega
  have o1 : sb 1 1 := by unfold sb; decide
  have there : ∀ L : List (List Int), L.length ≤ 20 → (∀ w ∈ L, okF w) → ∀ (Q' : Res → List Int → Prop) (E' : PX → List Int → Prop), Q' (.dat (.bl true)) S → sp_pu_there Γ [.dat (.tup (L.map tupD)), .dat (.int n), .dat (.int k)] S Q' E' := fun L h1 h2 Q' E' hq => ⟨L, n, k, rfl, by omega, fun w hw => ⟨h2 w hw, (okF_size (h2 w hw) hk hn).1⟩, n64, k64, hq⟩
  rw [e_pu_number]
  simp [pureD, List.lookup]
  refine there T htl htf _ _ ?_
  simp [t_pu_number_1, hne, hlen, pureD, List.lookup]
  rw [← List.map_append]
  refine lc_map (fun _ => .bl false) (fun d hd N hN => ?_) ?_
  · obtain ⟨w, hw, rfl⟩ := List.mem_map.mp hd
    have hw2 : okF w := by
      rcases List.mem_append.mp hw with z | z
      · exact htf w z
      · exact hbf w z
    simp
    refine ⟨w, n, k, rfl, hw2, n64, k64, ?_⟩
    have := (okF_size hw2 hk hn).2
    have : ¬ (3000 : Int) < sizeF w n k := by omega
    simp [this]
    exact hN
  rw [any_false]
  simp [t_pu_number_2, pureD, List.lookup]
  refine there B hbl hbf _ _ ?_
  simp [t_pu_number_3, pureD, List.lookup]
  refine ⟨1, n, 1, rfl, o1, by omega, by omega, ?_⟩
  rw [Int.one_pow]
  simp [t_pu_number_4, pureD, List.lookup]
  refine ⟨c, k, 70, rfl, hc, by omega, by omega, ?_⟩
  have p1 : sb 900 (c ^ k) := sb_mono (sb_pow hc k) (by omega)
  have c1 := cmulb o1 p1 (by decide)
  have c2 := cmulb o1 o1 (by decide)
  simp [t_pu_number_5, t_pu_number_6, t_pu_number_7, n1, c1, c2, pureD, List.lookup]
  have f1 : sb 2400 (facs T n k) := sb_mono (facs_sb htf hk hn) (by omega)
  have f2 : sb 2400 (facs B n k) := sb_mono (facs_sb hbf hk hn) (by omega)
  have tk : ∀ (L : List (List Int)) (i : Nat), L.length ≤ 20 → (∀ w ∈ L, okF w) → sb 2400 (facs (L.take i) n k) := fun L i h1 h2 => by
    have := facs_sb (A := L.take i) (fun w hw => h2 w (List.mem_of_mem_take hw)) hk hn
    refine sb_mono this ?_
    rw [List.length_take]
    omega
  have fsb : ∀ w, okF w → sb 120 ((fac (sizeF w n k).toNat : Nat) : Int) := fun w hw => by
    have := okF_size hw hk hn
    exact sb_nat (Nat.le_trans (fac_small (m := (sizeF w n k).toNat) (by omega)) (Nat.pow_le_pow_right (by decide) (by omega)))
  refine for_ind (fun i sl S' => S' = S ∧ ∃ s7 s8 s9 : Py.Slot, sl = [.dat (pureD Γ c T B), .dat (.int n), .dat (.int k), .dat (n1 1), .dat (n1 (c ^ k)), .dat (.int (c ^ k * facs (T.take i) n k)), .dat (.int 1), s7, s8, s9, .un, .un, .un]) ⟨rfl, .un, .un, .un, by simp [facs, n1, pureD]⟩ ?_ ?_
  · rintro i d sl S' N hd ⟨rfl, s7, s8, s9, rfl⟩ hN
    have hi : i < T.length := by simpa using (List.getElem?_eq_some_iff.mp hd).1
    have ed : d = tupD T[i] := by
      rw [List.getElem?_map, List.getElem?_eq_getElem hi] at hd
      exact (Option.some.inj hd).symm
    subst ed
    have hw := htf T[i] (List.getElem_mem hi)
    have sz := okF_size hw hk hn
    simp [t_pu_number_8, pureD, List.lookup]
    refine ⟨T[i], n, k, rfl, hw, n64, k64, ?_⟩
    refine ⟨_, rfl, sz.1, by omega, ?_⟩
    have c3 := cmulb (sb_mul p1 (tk T i htl htf)) (fsb _ hw) (by decide)
    simp [t_pu_number_9, t_pu_number_10, n1, c3, c2]
    refine hN _ _ ⟨rfl, .dat (tupD T[i]), .dat (.int (fac (sizeF T[i] n k).toNat)), .dat (.int 1), ?_⟩
    rw [facs_take hi]
    simp [n1, pureD, Int.mul_assoc]
  rintro sl S' ⟨rfl, s7, s8, s9, rfl⟩
  simp [t_pu_number_11, pureD, List.lookup]
  refine for_ind (fun i sl S'' => S'' = S' ∧ ∃ s7 s8 s9 : Py.Slot, sl = [.dat (pureD Γ c T B), .dat (.int n), .dat (.int k), .dat (n1 1), .dat (n1 (c ^ k)), .dat (.int (c ^ k * facs T n k)), .dat (.int (facs (B.take i) n k)), s7, s8, s9, .un, .un, .un]) ⟨rfl, s7, s8, s9, by simp [facs, n1, pureD]⟩ ?_ ?_
  · rintro i d sl S'' N hd ⟨rfl, s7, s8, s9, rfl⟩ hN
    have hi : i < B.length := by simpa using (List.getElem?_eq_some_iff.mp hd).1
    have ed : d = tupD B[i] := by
      rw [List.getElem?_map, List.getElem?_eq_getElem hi] at hd
      exact (Option.some.inj hd).symm
    subst ed
    have hw := hbf B[i] (List.getElem_mem hi)
    have sz := okF_size hw hk hn
    simp [t_pu_number_12, pureD, List.lookup]
    refine ⟨B[i], n, k, rfl, hw, n64, k64, ?_⟩
    refine ⟨_, rfl, sz.1, by omega, ?_⟩
    have c3 := cmulb (tk B i hbl hbf) (fsb _ hw) (by decide)
    have c4 := cmulb (sb_mul p1 f1) o1 (by decide)
    simp [t_pu_number_13, t_pu_number_14, n1, c3, c4]
    refine hN _ _ ⟨rfl, .dat (tupD B[i]), .dat (.int (fac (sizeF B[i] n k).toNat)), .dat (.int 1), ?_⟩
    rw [facs_take hi]
    simp [n1, pureD]
  rintro sl S'' ⟨rfl, s7, s8, s9, rfl⟩
  simp [t_pu_number_15, t_pu_number_16, eq_base, pureD, List.lookup, fd]
  exact ⟨_, _, x, rfl, facs_pos B n k, he, sb_mono f2 (by decide), q⟩
end K89
end
section
set_option Elab.async false
set_option linter.all false
set_option maxRecDepth 100000
namespace K89
open PySem L2 Py
/-- the ends of an __init__'s body -/
abbrev endsI (Γ : Ad) (C a : Addr) (Q : List Str → List D → List Int → Prop) : PEnds := ⟨fun sl S' => ∃ ns ds rest, sl = .slf a C ns ds :: rest ∧ Q ns ds S', fun _ _ => False, fun _ _ => False, fun _ _ => False, fun _ _ _ => False⟩
theorem z2 : (2 : Nat) ≤ sizeLine := by decide
theorem z3 : (3 : Nat) ≤ sizeLine := by decide
theorem z4 : (4 : Nat) ≤ sizeLine := by decide
theorem z1 : (1 : Nat) ≤ sizeLine := by decide
theorem z5 : (5 : Nat) ≤ sizeLine := by decide
theorem z0 : (0 : Nat) < sizeLine := by decide
theorem pf_i2_pair (Γ : Ad) : ∀ rs S Q E, sp_i2_pair Γ rs S Q E → p_i2_pair Γ (ends Q E) (rs.map Res.slot ++ List.replicate (1 - rs.length) .un) S := by
  rintro rs S Q E ⟨rfl, q⟩
  simp [p_i2_pair, n1, sp_nu_integer, isI]
  exact q
theorem pf_i2_fits (Γ : Ad) : ∀ rs S Q E, sp_i2_fits Γ rs S Q E → p_i2_fits Γ (ends Q E) (rs.map Res.slot ++ List.replicate (1 - rs.length) .un) S := by
  rintro rs S Q E ⟨rfl, q⟩
  simp [p_i2_fits, n1, sp_nu_integer, isI, sp_i2_pair]
  exact q
theorem c11 : CMulW 1 1 := cmulb (m := 1) (n := 1) (by unfold sb; decide) (by unfold sb; decide) (by decide)
theorem pf_i2_told (Γ : Ad) : ∀ rs S Q E, sp_i2_told Γ rs S Q E → p_i2_told Γ (ends Q E) (rs.map Res.slot ++ List.replicate (4 - rs.length) .un) S := by
  rintro rs S Q E ⟨rfl, q⟩
  simp [p_i2_told, pLcG, lcRunG, wipeS, z1]
  refine low1 Γ ?_
  simp [n1, z3]
  exact q
theorem pf_i2_whole (Γ : Ad) : ∀ rs S Q E, sp_i2_whole Γ rs S Q E → p_i2_whole Γ (ends Q E) (rs.map Res.slot ++ List.replicate (7 - rs.length) .un) S := by
  rintro rs S Q E ⟨rfl, q⟩
  have cl : CLcm 1 1 := by unfold CLcm; decide
  have cd : CDv 1 1 := by unfold CDv; decide
  simp [p_i2_whole, one2, forRun, cl, pDc, dcRun, wipeS, z1, z2, cd, c11]
  exact q
theorem pf_i2_read (Γ : Ad) : ∀ rs S Q E, sp_i2_read Γ rs S Q E → p_i2_read Γ (ends Q E) (rs.map Res.slot ++ List.replicate (9 - rs.length) .un) S := by
  rintro rs S Q E ⟨rfl, q⟩
  have cl : CLcm 1 1 := by unfold CLcm; decide
  have cd : CDv 1 1 := by unfold CDv; decide
  rw [e_i2_read]
  simp [one2, t_i2_read_1, t_i2_read_2, t_i2_read_3, forRun]
  simp [t_i2_read_4, sp_i2_fits, n1, t_i2_read_5, sp_number]
  simp [t_i2_read_6, cl, t_i2_read_7, z4, z0]
  simp [t_i2_read_8, t_i2_read_9, forRun, t_i2_read_10, z2, z0, cd, c11, t_i2_read_11]
  unfold sp_i2_told
  exact ⟨rfl, q⟩
theorem pf_i2_look (Γ : Ad) : ∀ rs S Q E, sp_i2_look Γ rs S Q E → p_i2_look Γ (ends Q E) (rs.map Res.slot ++ List.replicate (4 - rs.length) .un) S := by
  rintro rs S Q E ⟨rfl, q⟩
  simp [p_i2_look, sp_i2_read, fd, eq_plain]
  simp [one2, z1, lcRun, fAny, blsD]
  exact q
theorem pf_i2_scaled (Γ : Ad) : ∀ rs S Q E, sp_i2_scaled Γ rs S Q E → p_i2_scaled Γ (ends Q E) (rs.map Res.slot ++ List.replicate (4 - rs.length) .un) S := by
  rintro rs S Q E ⟨rfl, q⟩
  simp [p_i2_scaled, one2, z1, lcRun, c11]
  refine low1 Γ ?_
  simp [n1, z3]
  exact q
theorem pf_i2_value (Γ : Ad) : ∀ rs S Q E, sp_i2_value Γ rs S Q E → p_i2_value Γ (ends Q E) (rs.map Res.slot ++ List.replicate (20 - rs.length) .un) S := by
  rintro rs S Q E ⟨n, k, rfl, hn, hk, q⟩
  rw [e_i2_value]
  simp [sp_i2_whole, t_i2_value_1, fd, eq_plain, t_i2_value_2, t_i2_value_3, forRun, t_i2_value_4]
  refine ⟨n, 0, 64, rfl, hn, by omega, ?_⟩
  simp [c11]
  refine ⟨k, 0, 64, rfl, hk, by omega, ?_⟩
  simp [c11, t_i2_value_5]
  exact low1 Γ q
theorem pf_t2_number (Γ : Ad) : ∀ rs S Q E, sp_t2_number Γ rs S Q E → p_t2_number Γ (ends Q E) (rs.map Res.slot ++ List.replicate (6 - rs.length) .un) S := by
  rintro rs S Q E ⟨c, T, B, n, k, x, rfl, h, hx, q⟩
  have o1 : sb 1 1 := by unfold sb; decide
  have n64 : sb 64 (n : Int) := sb_small (by have := h.n12; omega)
  have k64 : sb 64 (k : Int) := sb_small (by have := h.n12; have := h.kn; omega)
  have c1 := cmulb hx o1 (by decide)
  rw [e_t2_number]
  simp [termD, pureD, List.lookup]
  refine ⟨T, n, k, rfl, by have := h.tl; omega, fun w hw => ⟨h.tf w hw, (okF_size (h.tf w hw) h.kn h.n12).1⟩, n64, k64, ?_⟩
  simp [t_t2_number_1, List.lookup]
  refine ⟨n, k, rfl, n64, k64, ?_⟩
  simp [t_t2_number_2, t_t2_number_3, n1, List.lookup]
  refine ⟨c, T, B, n, k, x, rfl, h, ?_⟩
  simp [t_t2_number_4, List.lookup]
  refine ⟨n, k, rfl, n64, k64, ?_⟩
  simp [t_t2_number_5, n1, c1, c11]
  exact low1 Γ q
theorem pf_full_term (Γ : Ad) : ∀ rs S Q E, sp_full_term Γ rs S Q E → p_full_term Γ (ends Q E) (rs.map Res.slot ++ List.replicate (3 - rs.length) .un) S := by
  rintro rs S Q E ⟨c, T, B, rfl, q⟩
  simp [p_full_term]
  exact ⟨c, T, B, rfl, q⟩
theorem pf_rg_pair (Γ : Ad) : ∀ rs S Q E, sp_rg_pair Γ rs S Q E → p_rg_pair Γ (ends Q E) (rs.map Res.slot ++ List.replicate (4 - rs.length) .un) S := by
  rintro rs S Q E ⟨a, b, x, rfl, q⟩
  simp [p_rg_pair, sp_nu_integer, isI, z2]
  exact q
theorem pf_rg_first (Γ : Ad) : ∀ rs S Q E, sp_rg_first Γ rs S Q E → p_rg_first Γ (ends Q E) (rs.map Res.slot ++ List.replicate (3 - rs.length) .un) S := by
  rintro rs S Q E ⟨rfl, q⟩
  have e1 : ((Str.ofString "ends") = (Str.ofString "low")) = False := by simp; decide +kernel
  have e2 : ((Str.ofString "ends") = (Str.ofString "high")) = False := by simp; decide +kernel
  have e3 : ((Str.ofString "ends") = (Str.ofString "start")) = False := by simp; decide +kernel
  simp [p_rg_first, rangeD, List.lookup, e1, e2, e3]
  refine ⟨0, rfl, by unfold sb; decide, ?_⟩
  simp [List.lookup]
  exact q
theorem pf_rg_below (Γ : Ad) : ∀ rs S Q E, sp_rg_below Γ rs S Q E → p_rg_below Γ (ends Q E) (rs.map Res.slot ++ List.replicate (3 - rs.length) .un) S := by
  rintro rs S Q E ⟨s, rfl, h0, h4, q⟩
  have c : CMulW s 0 := cmulb (m := 3) (n := 1) (by unfold sb; omega) (by unfold sb; decide) (by decide)
  simp [p_rg_below, c, h0]
  exact q
theorem pf_rg_gone (Γ : Ad) : ∀ rs S Q E, sp_rg_gone Γ rs S Q E → p_rg_gone Γ (ends Q E) (rs.map Res.slot ++ List.replicate (10 - rs.length) .un) S := by
  rintro rs S Q E ⟨L, rfl, hl, h, q⟩
  have s0 : sb 1 0 := by unfold sb; decide
  have s1 : sb 1 1 := by unfold sb; decide
  have c10 : CMulW 1 0 := cmulb s1 s0 (by decide)
  have c01 : CMulW 0 1 := cmulb s0 s1 (by decide)
  have c00 : CMulW 0 0 := cmulb s0 s0 (by decide)
  rw [e_rg_gone]
  simp [sp_rg_first, t_rg_gone_1, t_rg_gone_2, t_rg_gone_3]
  refine for_ind (fun i sl S' => S' = S ∧ ∃ s4 s5 s6 s7 s8 s9 : Py.Slot, sl = [.dat (.tup (L.map tupD)), .dat (rangeD Γ), .dat (.int 0), .own [], s4, s5, s6, s7, s8, s9]) ⟨rfl, _, _, _, _, _, _, rfl⟩ ?_ ?_
  · rintro i d sl S' N hd ⟨rfl, s4, s5, s6, s7, s8, s9, rfl⟩ hN
    obtain ⟨w, hw, rfl⟩ := List.mem_map.mp (List.mem_of_getElem? hd)
    have fin : ∀ s4 s5 s6 s7 s8 s9 : Py.Slot, N [.dat (.tup (L.map tupD)), .dat (rangeD Γ), .dat (.int 0), .own [], s4, s5, s6, s7, s8, s9] S' := fun _ _ _ _ _ _ => hN _ _ ⟨rfl, _, _, _, _, _, _, rfl⟩
    rcases h w hw with rfl | rfl
    · simp [tupD, t_rg_gone_4, rangeD, List.lookup, z2, forRun, t_rg_gone_5, t_rg_gone_6, c00, c10, c01, c11]
      refine ⟨1, rfl, by decide, by decide, ?_⟩
      simp [c00, c10, c01, c11]
      refine ⟨1, rfl, by decide, by decide, ?_⟩
      simp
      exact fin _ _ _ _ _ _
    · simp [tupD, t_rg_gone_4, rangeD, List.lookup, z2, forRun, t_rg_gone_5, t_rg_gone_6, c00, c10, c01, c11]
      refine ⟨1, rfl, by decide, by decide, ?_⟩
      simp [c00, c10, c01, c11]
      refine ⟨2, rfl, by decide, by decide, ?_⟩
      simp
      exact fin _ _ _ _ _ _
  · rintro sl S' ⟨rfl, s4, s5, s6, s7, s8, s9, rfl⟩
    simp [t_rg_gone_7]
    exact q
theorem pf_Step_eq (Γ : Ad) : ∀ rs S Q E, sp_Step_eq Γ rs S Q E → p_Step_eq Γ (ends Q E) (rs.map Res.slot ++ List.replicate (2 - rs.length) .un) S := by
  rintro rs S Q E ⟨rfl, q⟩
  have e : shp (.tup [.int 1, .int 1]) := tup_shp [1, 1]
  have e2 : PyData.eqv (D.tup [.int 1, .int 1]).py (D.tup [.int 1, .int 1]).py = true := by decide +kernel
  have e3 : shp (.str "plain") := ⟨rfl, by decide +kernel⟩
  have e4 : PyData.eqv (D.str "plain").py (D.str "plain").py = true := by decide +kernel
  simp [p_Step_eq, fd, List.lookup, fEqD, e, e2, e3, e4]
  exact q
theorem pf_Term2_full (Γ : Ad) : ∀ rs S Q E, sp_Term2_full Γ rs S Q E → p_Term2_full Γ (ends Q E) (rs.map Res.slot ++ List.replicate (1 - rs.length) .un) S := by
  rintro rs S Q E ⟨c, T, B, rfl, q⟩
  have e : shp one2 := ⟨by decide +kernel, by decide +kernel⟩
  have e2 : PyData.eqv one2.py one2.py = true := by decide +kernel
  simp [p_Term2_full, termD, List.lookup]
  show fEqD one2 one2 _
  simp [fEqD, e, e2]
  exact q
theorem pf_Range_ends (Γ : Ad) : ∀ rs S Q E, sp_Range_ends Γ rs S Q E → p_Range_ends Γ (ends Q E) (rs.map Res.slot ++ List.replicate (2 - rs.length) .un) S := by
  rintro rs S Q E ⟨n, rfl, hn, q⟩
  have c0 : CMulW 0 n := cmulb (m := 1) (by unfold sb; decide) hn (by decide)
  have c1 : CMulW 1 n := cmulb (m := 1) (by unfold sb; decide) hn (by decide)
  simp [p_Range_ends, sp_nu_integer, isI, rangeD, List.lookup, c0, c1, z2]
  exact q
end K89
end
section
set_option Elab.async false
set_option linter.all false
set_option maxRecDepth 100000
namespace K89
open PySem L2 Py
theorem pf_Step_init (Γ : Ad) : ∀ rs S Q a, sp_Step_init Γ rs S Q → p_Step_init Γ (endsI Γ Γ.Plain a Q) (.slf a Γ.Plain [] [] :: (rs.map Res.slot ++ List.replicate (3 - 1 - rs.length) .un)) S := by
  rintro rs S Q a ⟨x, d, rfl, q⟩
  have e : ((Str.ofString "base") = (Str.ofString "word")) = False := by simp; decide +kernel
  simp [p_Step_init, e]
  exact ⟨_, _, ⟨rfl, rfl⟩, q⟩
theorem plain_mk (Γ : Ad) {S : List Int} {Q : List Str → List D → List Int → Prop} (q : Q ["word", "base"] [.str "plain", .tup [.int 1, .int 1]] S) : sp_Plain_init Γ [] S Q := by
  unfold sp_Plain_init spSupI
  refine ⟨rfl, fun x => ?_⟩
  simp [z2]
  exact ⟨_, _, rfl, q⟩
theorem pf_Term2_init (Γ : Ad) : ∀ rs S Q a, sp_Term2_init Γ rs S Q → p_Term2_init Γ (endsI Γ Γ.Term2 a Q) (.slf a Γ.Term2 [] [] :: (rs.map Res.slot ++ List.replicate (10 - 1 - rs.length) .un)) S := by
  rintro rs S Q a ⟨c, T, B, rfl, q⟩
  have e1 : ((Str.ofString "top") = (Str.ofString "step")) = False := by simp; decide +kernel
  have e2 : ((Str.ofString "bottom") = (Str.ofString "step")) = False := by simp; decide +kernel
  have e3 : ((Str.ofString "bottom") = (Str.ofString "top")) = False := by simp; decide +kernel
  have e4 : ((Str.ofString "pure") = (Str.ofString "step")) = False := by simp; decide +kernel
  have e5 : ((Str.ofString "pure") = (Str.ofString "top")) = False := by simp; decide +kernel
  have e6 : ((Str.ofString "pure") = (Str.ofString "bottom")) = False := by simp; decide +kernel
  have ec : ∀ x y z : D, cutD [x, y, z] none (some 2) = [x, y] := fun _ _ _ => rfl
  have s1 : shp (.tup [.int 0, .int 0]) := tup_shp [0, 0]
  have s2 : PyData.eqv (D.tup [.int 0, .int 0]).py (D.tup [.int 0, .int 0]).py = true := by decide +kernel
  rw [e_Term2_init]
  simp [sp_sw_step, t_Term2_init_1, sp_i2_look, t_Term2_init_2, t_Term2_init_3]
  simp [one2, t_Term2_init_4, fd, eq_base]
  simp [t_Term2_init_5, pureD, t_Term2_init_6, List.lookup, fd, sp_Step_eq]
  simp [t_Term2_init_7, fEqD, pSl, ec, s1, s2, z2, t_Term2_init_8, t_Term2_init_9, sp_i2_scaled, one2]
  simp [t_Term2_init_10, t_Term2_init_11, t_Term2_init_12, t_Term2_init_13, e1, e2, e3, e4, e5, e6]
  exact ⟨_, _, ⟨rfl, rfl⟩, q⟩
theorem pf_Range_init (Γ : Ad) : ∀ rs S Q a, sp_Range_init Γ rs S Q → p_Range_init Γ (endsI Γ Γ.Range a Q) (.slf a Γ.Range [] [] :: (rs.map Res.slot ++ List.replicate (5 - 1 - rs.length) .un)) S := by
  rintro rs S Q a ⟨rfl, q⟩
  have e1 : ((Str.ofString "high") = (Str.ofString "low")) = False := by simp; decide +kernel
  have e2 : ((Str.ofString "start") = (Str.ofString "low")) = False := by simp; decide +kernel
  have e3 : ((Str.ofString "start") = (Str.ofString "high")) = False := by simp; decide +kernel
  have c : CMulW 1 0 := cmulb (m := 1) (n := 1) (by unfold sb; decide) (by unfold sb; decide) (by decide)
  rw [e_Range_init]
  simp [sp_rg_pair, t_Range_init_1, e1, t_Range_init_2, sp_nu_integer, isI, t_Range_init_3, e2, e3, t_Range_init_4, List.lookup, t_Range_init_5, c]
  refine ⟨0, 0, ⟨rfl, rfl⟩, 1, 0, ⟨rfl, rfl⟩, by decide, by simpa using c, by decide, ?_⟩
  exact ⟨_, _, ⟨rfl, rfl⟩, q⟩
theorem pf_Pure_init (Γ : Ad) : ∀ rs S Q a, sp_Pure_init Γ rs S Q → p_Pure_init Γ (endsI Γ Γ.Pure a Q) (.slf a Γ.Pure [] [] :: (rs.map Res.slot ++ List.replicate (9 - 1 - rs.length) .un)) S := by
  rintro rs S Q a ⟨c, L, M, rfl, hc, hl, hm, h1, h2, h3, q⟩
  have e1 : ((Str.ofString "s") = (Str.ofString "step")) = False := by simp; decide +kernel
  have e2 : ((Str.ofString "t") = (Str.ofString "step")) = False := by simp; decide +kernel
  have e3 : ((Str.ofString "t") = (Str.ofString "s")) = False := by simp; decide +kernel
  have e4 : ((Str.ofString "square") = (Str.ofString "step")) = False := by simp; decide +kernel
  have e5 : ((Str.ofString "square") = (Str.ofString "s")) = False := by simp; decide +kernel
  have e6 : ((Str.ofString "square") = (Str.ofString "t")) = False := by simp; decide +kernel
  have e7 : ((Str.ofString "tops") = (Str.ofString "step")) = False := by simp; decide +kernel
  have e8 : ((Str.ofString "tops") = (Str.ofString "s")) = False := by simp; decide +kernel
  have e9 : ((Str.ofString "tops") = (Str.ofString "t")) = False := by simp; decide +kernel
  have e10 : ((Str.ofString "tops") = (Str.ofString "square")) = False := by simp; decide +kernel
  have e11 : ((Str.ofString "bottoms") = (Str.ofString "step")) = False := by simp; decide +kernel
  have e12 : ((Str.ofString "bottoms") = (Str.ofString "s")) = False := by simp; decide +kernel
  have e13 : ((Str.ofString "bottoms") = (Str.ofString "t")) = False := by simp; decide +kernel
  have e14 : ((Str.ofString "bottoms") = (Str.ofString "square")) = False := by simp; decide +kernel
  have e15 : ((Str.ofString "bottoms") = (Str.ofString "tops")) = False := by simp; decide +kernel
  have pl := (sortT_perm L).length_eq
  have pm := (sortT_perm M).length_eq
  have ol : ∀ w ∈ sortT L, okF w := fun w hw => h1 w ((sortT_perm L).mem_iff.mp hw)
  have om : ∀ w ∈ sortT M, okF w := fun w hw => h2 w ((sortT_perm M).mem_iff.mp hw)
  have n20 : ¬ (20 : Int) < ((lessT (sortT L) (sortT M)).length : Int) + ((lessT (sortT M) (sortT L)).length : Int) := by omega
  rw [e_Pure_init]
  simp [sp_sw_step, t_Pure_init_1, e1]
  refine ⟨.int 1, 1, rfl, .inl rfl, ?_⟩
  simp [t_Pure_init_2, e1, e2, e3]
  refine ⟨.int c, c, rfl, .inl rfl, ?_⟩
  simp [t_Pure_init_3, e1, e2, e3, List.lookup, n1, hc, t_Pure_init_4, sp_pu_square, e4, e5, e6]
  simp [t_Pure_init_5]
  refine ⟨L, rfl, hl, h1, ?_⟩
  simp [t_Pure_init_6]
  refine ⟨M, rfl, hm, h2, ?_⟩
  simp [t_Pure_init_7]
  refine ⟨_, _, rfl, by omega, by omega, ol, om, ?_⟩
  simp [e7, e8, e9, e10, t_Pure_init_8]
  refine ⟨_, _, rfl, by omega, by omega, om, ol, ?_⟩
  simp [e11, e12, e13, e14, e15, t_Pure_init_9, List.lookup, n20]
  exact ⟨by omega, _, _, ⟨rfl, rfl⟩, q⟩
end K89
end
section
set_option Elab.async false
set_option linter.all false
set_option maxRecDepth 100000
namespace K89
open PySem L2 Py
theorem rng_get {a s : Int} {n i : Nat} {d : D} (h : (rng a s n)[i]? = some d) : i < n ∧ d = .int (a + (i : Int) * s) := by
  have hl := (List.getElem?_eq_some_iff.mp h).1
  have hn : i < n := by simpa [rng] using hl
  refine ⟨hn, ?_⟩
  simp [rng, hn] at h
  exact h.symm
theorem rng_len (a s : Int) (n : Nat) : (rng a s n).length = n := by simp [rng]
theorem pf_dg_look (Γ : Ad) : ∀ rs S Q E, sp_dg_look Γ rs S Q E → p_dg_look Γ (ends Q E) (rs.map Res.slot ++ List.replicate (3 - rs.length) .un) S := by
  rintro rs S Q E ⟨a, b, c, rfl, ha, hb, hc, q⟩
  unfold dgBad at q
  have key : isI a = false ∨ isI a = true := by cases isI a <;> simp
  rcases key with ka | ka
  · have ea : okA a = false := by cases a <;> simp_all [isI, okA]
    simp [ea, refd] at q
    simp [p_dg_look, sp_nu_integer, ka]
    exact ⟨ha, q⟩
  obtain ⟨i, rfl⟩ : ∃ i, a = .int i := by cases a <;> simp_all [isI]
  by_cases hi : ¬ (1 ≤ i ∧ i ≤ 4)
  · simp [okA, hi, refd] at q
    simp [p_dg_look, sp_nu_integer, isI]
    by_cases h1 : i < 1
    · simp [h1]; exact q
    · have h4 : 4 < i := by omega
      simp [h1, h4]; exact q
  have hi := Decidable.not_not.mp hi
  have n1 : ¬ i < 1 := by omega
  have n4 : ¬ 4 < i := by omega
  have key : isI b = false ∨ isI b = true := by cases isI b <;> simp
  rcases key with kb | kb
  · have eb : okB b = false := by cases b <;> simp_all [isI, okB]
    simp [okA, hi, eb, refd] at q
    simp [p_dg_look, sp_nu_integer, isI, n1, n4]
    simp [isI] at kb
    simp [kb]
    exact ⟨hb, q⟩
  obtain ⟨j, rfl⟩ : ∃ j, b = .int j := by cases b <;> simp_all [isI]
  by_cases hj : ¬ (0 ≤ j ∧ j ≤ 4)
  · simp [okA, hi, okB, hj, refd] at q
    simp [p_dg_look, sp_nu_integer, isI, n1, n4]
    by_cases h1 : j < 0
    · simp [h1]; exact q
    · have h4 : 4 < j := by omega
      simp [h1, h4]; exact q
  have hj := Decidable.not_not.mp hj
  have m1 : ¬ j < 0 := by omega
  have m4 : ¬ 4 < j := by omega
  have key : isI c = false ∨ isI c = true := by cases isI c <;> simp
  rcases key with kc | kc
  · simp [okA, hi, okB, hj, kc, refd] at q
    simp [p_dg_look, sp_nu_integer, isI, n1, n4, m1, m4]
    simp [isI] at kc
    simp [kc]
    exact ⟨hc, q⟩
  · simp [okA, hi, okB, hj, kc, refd] at q
    simp [p_dg_look, sp_nu_integer, isI, n1, n4, m1, m4]
    simp [isI] at kc
    simp [kc]
    exact ⟨hc, q⟩
theorem pf_dg_look_place (Γ : Ad) : ∀ rs S Q E, sp_dg_look_place Γ rs S Q E → p_dg_look_place Γ (ends Q E) (rs.map Res.slot ++ List.replicate (1 - rs.length) .un) S := by
  rintro rs S Q E ⟨n, rfl, hn, q⟩
  cases n with
  | int i =>
    by_cases h : i < 0
    · simp [plBad, h, refd] at q
      simp [p_dg_look_place, sp_nu_integer, isI, h]; exact q
    · simp [plBad, h, refd] at q
      simp [p_dg_look_place, sp_nu_integer, isI, h]; exact q
  | obj => exact hn.elim
  | dct => exact hn.elim
  | _ => simp [plBad, refd] at q; simp [p_dg_look_place, sp_nu_integer, isI]; exact q
theorem divs_iff (i : Int) : divs i = true ↔ ∃ k : Nat, k < 13 ∧ (2 + k : Int) < i ∧ i % (2 + k : Int) = 0 := by
  unfold divs
  rw [List.any_eq_true]
  constructor
  · rintro ⟨x, hx, h⟩
    obtain ⟨k, hk, rfl⟩ := List.mem_range'.mp hx
    simp at h
    exact ⟨k, hk, by omega, h.2⟩
  · rintro ⟨k, hk, h1, h2⟩
    refine ⟨2 + 1 * k, List.mem_range'.mpr ⟨k, hk, rfl⟩, ?_⟩
    simp
    exact ⟨by omega, h2⟩
theorem pf_dg_look_prime (Γ : Ad) : ∀ rs S Q E, sp_dg_look_prime Γ rs S Q E → p_dg_look_prime Γ (ends Q E) (rs.map Res.slot ++ List.replicate (2 - rs.length) .un) S := by
  rintro rs S Q E ⟨p, rfl, hp, q⟩
  rw [e_dg_look_prime]
  cases p with
  | int i =>
    by_cases h : i < 2
    · simp [prBad, h, refd] at q
      simp [sp_nu_integer, isI, h]; exact q
    by_cases h2 : 200 < i
    · simp [prBad, h, h2, refd] at q
      simp [sp_nu_integer, isI, h, h2]; exact q
    have s2 : sm62 2 := by unfold sm62; decide
    have s15 : sm62 15 := by unfold sm62; decide
    simp [sp_nu_integer, isI, h, h2, t_dg_look_prime_1, s2, s15]
    refine for_ind (fun k sl S' => S' = S ∧ (∃ t, sl = [.dat (.int i), t]) ∧ ∀ m : Nat, m < k → ¬ ((2 + m : Int) < i ∧ i % (2 + m : Int) = 0)) ⟨rfl, ⟨_, rfl⟩, fun m hm => by omega⟩ ?_ ?_
    · rintro k d sl S' N hd ⟨rfl, ⟨t, rfl⟩, hk⟩ hN
      obtain ⟨hk13, rfl⟩ := rng_get hd
      have nz : (2 + (k : Int)) ≠ 0 := by omega
      have e1 : i.fmod (2 + (k : Int)) = i % (2 + (k : Int)) := Int.fmod_eq_emod_of_nonneg _ (by omega)
      simp [t_dg_look_prime_2, nz, e1]
      by_cases a1 : (2 + (k : Int)) < i
      · by_cases a2 : i % (2 + (k : Int)) = 0
        · have : divs i = true := (divs_iff i).mpr ⟨k, hk13, a1, a2⟩
          simp [prBad, h, h2, this, refd] at q
          simp [a1, a2]
          exact q
        · simp [a1, a2]
          exact hN _ _ ⟨rfl, ⟨_, rfl⟩, fun m hm => by
            by_cases e : m = k
            · subst e; exact fun z => a2 z.2
            · exact hk m (by omega)⟩
      · simp [a1]
        exact hN _ _ ⟨rfl, ⟨_, rfl⟩, fun m hm => by
          by_cases e : m = k
          · subst e; exact fun z => a1 z.1
          · exact hk m (by omega)⟩
    · rintro sl S' ⟨rfl, ⟨t, rfl⟩, hk⟩
      rw [rng_len] at hk
      have : divs i = false := by
        rw [← Bool.not_eq_true, divs_iff]
        rintro ⟨k, h1, h2, h3⟩
        exact hk k h1 ⟨h2, h3⟩
      simp [prBad, h, h2, this, refd] at q
      simp
      exact q
  | obj => exact hp.elim
  | dct => exact hp.elim
  | _ => simp [prBad, refd] at q; simp [sp_nu_integer, isI]; exact q
theorem ch_sb (n k m : Nat) (h : n ≤ m) : sb m ((ch n k : Nat) : Int) := sb_nat (Nat.le_trans (ch_le n k) (Nat.pow_le_pow_right (by decide) h))
theorem tm_sb {a b n k : Nat} {c : Int} (ha : a ≤ 4) (hb : b ≤ 4) (hn : n ≤ 400) (hk : k ≤ n) (hc : sb 70 c) : sb 40000 (tm a b c n k) := by
  unfold tm
  have h1 := sb_pow (ch_sb n k 400 hn) a
  have h2 := sb_pow (ch_sb (n + k) k 800 (by omega)) b
  have h3 := sb_pow hc k
  refine sb_mono (sb_mul (sb_mul h1 h2) h3) ?_
  have : 400 * a ≤ 400 * 4 := Nat.mul_le_mul_left _ ha
  have : 800 * b ≤ 800 * 4 := Nat.mul_le_mul_left _ hb
  have : 70 * k ≤ 70 * 400 := Nat.mul_le_mul_left _ (by omega)
  omega
theorem comb_ok {n k : Nat} (h : k ≤ n) (hn : n ≤ 10000) : CCmb (n : Int) (k : Int) := ⟨by omega, by omega, by omega, .inr (by omega)⟩
theorem pf_dg_sum (Γ : Ad) : ∀ rs S Q E, sp_dg_sum Γ rs S Q E → p_dg_sum Γ (ends Q E) (rs.map Res.slot ++ List.replicate (7 - rs.length) .un) S := by
  rintro rs S Q E ⟨a, b, n, c, rfl, ha, hb, hn, hc, q⟩
  have sn : sm62 ((n : Int) + 1) := by unfold sm62; omega
  have tn : ((n : Int) + 1).toNat = n + 1 := by omega
  simp [p_dg_sum, sn, tn]
  refine for_ind (fun k sl S' => S' = S ∧ ∃ t, sl = [.dat (.int a), .dat (.int b), .dat (.int c), .dat (.int n), .dat (.int (PS a b c n k)), .dat (.int (c ^ k)), t]) ⟨rfl, .un, by simp [PS]⟩ ?_ ?_
  · rintro k d sl S' N hd ⟨rfl, t, rfl⟩ hN
    obtain ⟨hk, rfl⟩ := rng_get hd
    have hk : k ≤ n := by omega
    have e2 : ((n : Int) + (k : Int)) = ((n + k : Nat) : Int) := by omega
    have m1 := mcComb_ch hk
    have m2 : PySem.W.mcComb ((n : Int) + (k : Int)) (k : Int) = ((ch (n + k) k : Nat) : Int) := by rw [e2]; exact mcComb_ch (by omega)
    have o1 : CCmb (n : Int) (k : Int) := comb_ok hk (by omega)
    have o2 : CCmb ((n : Int) + (k : Int)) (k : Int) := by rw [e2]; exact comb_ok (by omega) (by omega)
    have b1 := sb_pow (ch_sb n k 400 hn) a
    have b2 := sb_pow (ch_sb (n + k) k 800 (by omega)) b
    have b3 := sb_pow hc k
    have : 400 * a ≤ 400 * 4 := Nat.mul_le_mul_left _ ha
    have : 800 * b ≤ 800 * 4 := Nat.mul_le_mul_left _ hb
    have : 70 * k ≤ 70 * 400 := Nat.mul_le_mul_left _ (by omega)
    have c1 := cmulb b1 b2 (by omega)
    have c2 := cmulb (sb_mul b1 b2) b3 (by omega)
    have c3 := cmulb b3 hc (by omega)
    simp [o1, o2, m1, m2]
    refine ⟨_, a, 400, rfl, ch_sb n k 400 hn, by omega, ?_⟩
    simp [o1, o2, m1, m2]
    refine ⟨_, b, 800, rfl, ch_sb (n + k) k 800 (by omega), by omega, ?_⟩
    simp [c1, c2, c3]
    exact hN _ _ ⟨rfl, .dat (.int k), by simp [PS, tm, Int.pow_succ]⟩
  · rintro sl S' ⟨rfl, t, rfl⟩
    rw [rng_len]
    simp
    exact q
end K89
end
section
set_option Elab.async false
set_option linter.all false
set_option maxRecDepth 100000
namespace K89
open PySem L2 Py
theorem cg_pow {p x y : Int} (h : x % p = y % p) : ∀ e : Nat, x ^ e % p = y ^ e % p
  | 0 => by simp
  | e + 1 => by rw [Int.pow_succ, Int.pow_succ, Int.mul_emod, cg_pow h e, h, ← Int.mul_emod]
theorem cg_mul {p x y u v : Int} (h : x % p = y % p) (g : u % p = v % p) : (x * u) % p = (y * v) % p := by rw [Int.mul_emod, h, g, ← Int.mul_emod]
theorem cg_add {p x y u v : Int} (h : x % p = y % p) (g : u % p = v % p) : (x + u) % p = (y + v) % p := by rw [Int.add_emod, h, g, ← Int.add_emod]
theorem sb_mod {x : Int} {p : Nat} (hp : 0 < p) (h : p ≤ 200) : sb 8 (x % p) := by
  have h1 := Int.emod_nonneg x (b := (p : Int)) (by omega)
  have h2 := Int.emod_lt_of_pos x (b := (p : Int)) (by omega)
  unfold sb
  omega
theorem pf_dg_rest (Γ : Ad) : ∀ rs S Q E, sp_dg_rest Γ rs S Q E → p_dg_rest Γ (ends Q E) (rs.map Res.slot ++ List.replicate (8 - rs.length) .un) S := by
  rintro rs S Q E ⟨a, b, n, p, c, rfl, ha, hb, hn, hp, hp2, hc0, hcp, q⟩
  have sn : sm62 ((n : Int) + 1) := by unfold sm62; omega
  have tn : ((n : Int) + 1).toNat = n + 1 := by omega
  have np : (p : Int) ≠ 0 := by omega
  have np' : p ≠ 0 := by omega
  have fm : ∀ x : Int, x.fmod p = x % p := fun x => Int.fmod_eq_emod_of_nonneg _ (by omega)
  simp [p_dg_rest, sn, tn]
  refine for_ind (fun k sl S' => S' = S ∧ ∃ (t : Py.Slot) (u f : Int), sl = [.dat (.int a), .dat (.int b), .dat (.int c), .dat (.int n), .dat (.int p), .dat (.int u), .dat (.int f), t] ∧ u % p = PS a b c n k % p ∧ f % p = c ^ k % p ∧ sb 8 f) ⟨rfl, .un, 0, 1, by simp, rfl, by simp, by unfold sb; decide⟩ ?_ ?_
  · rintro k d sl S' N hd ⟨rfl, t, u, f, rfl, hu, hf, bf⟩ hN
    obtain ⟨hk, rfl⟩ := rng_get hd
    have hk : k ≤ n := by omega
    have e2 : ((n : Int) + (k : Int)) = ((n + k : Nat) : Int) := by omega
    have m1 := mcComb_ch hk
    have m2 : PySem.W.mcComb ((n : Int) + (k : Int)) (k : Int) = ((ch (n + k) k : Nat) : Int) := by rw [e2]; exact mcComb_ch (by omega)
    have o1 : CCmb (n : Int) (k : Int) := comb_ok hk (by omega)
    have o2 : CCmb ((n : Int) + (k : Int)) (k : Int) := by rw [e2]; exact comb_ok (by omega) (by omega)
    have b1 := sb_pow (sb_mod (x := ((ch n k : Nat) : Int)) hp hp2) a
    have b2 := sb_pow (sb_mod (x := ((ch (n + k) k : Nat) : Int)) hp hp2) b
    have : 8 * a ≤ 8 * 4 := Nat.mul_le_mul_left _ ha
    have : 8 * b ≤ 8 * 4 := Nat.mul_le_mul_left _ hb
    have c1 := cmulb b1 b2 (by omega)
    have c2 := cmulb (sb_mul b1 b2) bf (by omega)
    have bc : sb 8 c := by unfold sb; omega
    have c3 := cmulb bf bc (by omega)
    simp only [Int.natCast_emod] at *
    simp [o1, o2, m1, m2, np', fm]
    refine ⟨_, a, 8, rfl, sb_mod hp hp2, by omega, ?_⟩
    simp [o1, o2, m1, m2, np', fm]
    refine ⟨_, b, 8, rfl, sb_mod hp hp2, by omega, ?_⟩
    simp [c1, c2, c3, np', fm]
    refine hN _ _ ⟨rfl, _, _, _, rfl, ?_, ?_, sb_mod hp hp2⟩
    · show _ = (PS a b c n k + tm a b c n k) % (p : Int)
      refine cg_add hu (cg_mul (cg_mul (cg_pow (Int.emod_emod_of_dvd _ (Int.dvd_refl _)) a) (cg_pow (Int.emod_emod_of_dvd _ (Int.dvd_refl _)) b)) hf)
    · rw [Int.emod_emod_of_dvd _ (Int.dvd_refl _), Int.pow_succ]
      exact cg_mul hf rfl
  · rintro sl S' ⟨rfl, t, u, f, rfl, hu, hf, bf⟩
    rw [rng_len] at hu
    simp [np', fm, hu]
    exact q
theorem pf_dg_table (Γ : Ad) : ∀ rs S Q E, sp_dg_table Γ rs S Q E → p_dg_table Γ (ends Q E) (rs.map Res.slot ++ List.replicate (5 - rs.length) .un) S := by
  rintro rs S Q E ⟨a, b, p, c, rfl, ha, hb, hp, hp2, q⟩
  have sp : sm62 (p : Int) := by unfold sm62; omega
  have np' : p ≠ 0 := by omega
  have hz : (200 : Nat) ≤ sizeLine := by decide
  have hl : (rng 0 1 p).length ≤ sizeLine := by rw [rng_len]; omega
  have fm : ∀ x : Int, x.fmod p = x % p := fun x => Int.fmod_eq_emod_of_nonneg _ (by omega)
  simp [p_dg_table, sp, hl]
  refine lc_rng (fun j => .int (R a b c p j)) (fun j hj N hN => ?_) ?_
  · simp [np', fm]
    refine ⟨a, b, j, p, c % p, rfl, ha, hb, by omega, hp, hp2, Int.emod_nonneg _ (by omega), Int.emod_lt_of_pos _ (by omega), ?_⟩
    exact hN
  · have e : (List.range p).map (fun j => D.int (R a b c p j)) = (TB a b c p).map .int := by simp [TB]
    rw [e]
    exact q
theorem ten400 : ((10 : Int) ^ 40) ^ 10 = 10 ^ 400 := by rw [← Int.pow_mul]
theorem pf_dg_most (Γ : Ad) : ∀ rs S Q E, sp_dg_most Γ rs S Q E → p_dg_most Γ (ends Q E) (rs.map Res.slot ++ List.replicate (1 - rs.length) .un) S := by
  rintro rs S Q E ⟨rfl, q⟩
  have c1 : CPw 10 40 := by unfold CPw; decide +kernel
  have c2 : CPw ((10 : Int) ^ 40) 10 := by unfold CPw; decide +kernel
  have c2' : CPw 10000000000000000000000000000000000000000 10 := c2
  rw [← ten400] at q
  simp [p_dg_most, c1, c2']
  exact q
theorem refd_imp {Γ : Ad} {E E' : PX → List Int → Prop} {S : List Int} {o : Option D} {k k' : Prop} (h : refd Γ E S o k) (he : ∀ x, E x S → E' x S) (f : o = none → k → k') : refd Γ E' S o k' := by
  cases o with
  | some d => exact he _ h
  | none => exact f rfl h
theorem dgBad_none {a b c : D} (h : dgBad a b c = none) : ∃ (i j : Nat) (z : Int), a = .int i ∧ 1 ≤ i ∧ i ≤ 4 ∧ b = .int j ∧ j ≤ 4 ∧ c = .int z := by
  unfold dgBad at h
  split at h
  · cases h
  split at h
  · cases h
  split at h
  · cases h
  rename_i h1 h2 h3
  cases a <;> simp [okA] at h1
  cases b <;> simp [okB] at h2
  cases c <;> simp [isI] at h3
  rename_i i j z
  exact ⟨i.toNat, j.toNat, z, by congr 1; omega, by omega, by omega, by congr 1; omega, by omega, rfl⟩
theorem plBad_none {n : D} (h : plBad n = none) : ∃ m : Nat, n = .int m := by
  cases n <;> simp [plBad] at h
  rename_i i
  exact ⟨i.toNat, by congr 1; omega⟩
theorem prBad_none {n : D} (h : prBad n = none) : ∃ p : Nat, n = .int p ∧ 2 ≤ p ∧ p ≤ 200 := by
  cases n <;> simp [prBad] at h
  rename_i i
  exact ⟨i.toNat, by congr 1; omega, by omega, by omega⟩
theorem pf_digit_value (Γ : Ad) : ∀ rs S Q E, sp_digit_value Γ rs S Q E → p_digit_value Γ (ends Q E) (rs.map Res.slot ++ List.replicate (4 - rs.length) .un) S := by
  rintro rs S Q E ⟨a, b, c, n, rfl, ha, hb, hc, hn, q⟩
  simp [p_digit_value]
  refine ⟨a, b, c, rfl, ha, hb, hc, refd_imp q (fun _ h => h) fun e q1 => ?_⟩
  refine ⟨n, rfl, hn, refd_imp q1 (fun _ h => h) fun e2 q2 => ?_⟩
  obtain ⟨i, j, z, rfl, h1, h4, rfl, hj, rfl⟩ := dgBad_none e
  obtain ⟨m, rfl⟩ := plBad_none e2
  simp [intD] at q2
  by_cases h : (400 : Int) < (m : Int)
  · simp [h] at q2 ⊢
    exact q2
  · simp [h] at q2 ⊢
    exact ⟨i, j, m, z, rfl, by omega, by omega, by omega, q2.1, q2.2 _⟩
theorem at_neg {xs : List D} {i : Int} {j : Nat} (e : i = (j : Nat)) {d : D} (h : xs[j]? = some d) : atI xs i = some d := by subst e; exact at_nat h
theorem tb_get {a b p j : Nat} {c : Int} (h : j < p) : ((TB a b c p).map D.int)[j]? = some (.int (R a b c p j)) := by
  simp [TB, h]
theorem pf_digit_mod (Γ : Ad) : ∀ rs S Q E, sp_digit_mod Γ rs S Q E → p_digit_mod Γ (ends Q E) (rs.map Res.slot ++ List.replicate (8 - rs.length) .un) S := by
  rintro rs S Q E ⟨a, b, c, n, p, rfl, ha, hb, hc, hn, hp, q⟩
  rw [e_digit_mod]
  simp
  refine ⟨a, b, c, rfl, ha, hb, hc, refd_imp q (fun _ h => h) fun e q1 => ?_⟩
  simp [t_digit_mod_1]
  refine ⟨n, rfl, hn, refd_imp q1 (fun _ h => h) fun e2 q2 => ?_⟩
  simp [t_digit_mod_2]
  refine ⟨p, rfl, hp, refd_imp q2 (fun _ h => h) fun e3 q3 => ?_⟩
  obtain ⟨i, j, z, rfl, h1, h4, rfl, hj, rfl⟩ := dgBad_none e
  obtain ⟨m, rfl⟩ := plBad_none e2
  obtain ⟨p, rfl, p2, p200⟩ := prBad_none e3
  simp [t_digit_mod_3, sp_dg_most]
  by_cases h : (10 : Int) ^ 400 ≤ (m : Int)
  · rw [if_pos (show 10 ^ 400 ≤ intD (.int m) from h)] at q3
    rw [if_pos h]
    exact q3
  · rw [if_neg (show ¬ 10 ^ 400 ≤ intD (.int m) from h)] at q3
    rw [if_neg h]
    have np' : p ≠ 0 := by omega
    have fm : ∀ x : Int, x.fmod p = x % p := fun x => Int.fmod_eq_emod_of_nonneg _ (by omega)
    have fdv : ∀ x : Int, x.fdiv p = x / p := fun x => Int.fdiv_eq_ediv_of_nonneg _ (by omega)
    have cd : ∀ x : Int, CDv x p := fun x => ⟨by omega, by
      have : (p : Int).natAbs.log2 ≤ 8 := sb_log (n := 8) (by unfold sb; omega)
      omega⟩
    simp [t_digit_mod_4]
    refine ⟨i, j, p, z, rfl, by omega, by omega, by omega, p200, ?_⟩
    simp [t_digit_mod_5, t_digit_mod_6, t_digit_mod_7]
    refine while_ind (fun k sl S' => S' = S ∧ ∃ (l : Nat) (u : Int), sl = [.dat (.int i), .dat (.int j), .dat (.int z), .dat (.int m), .dat (.int p), .own ((TB i j z p).map .int), .dat (.int u), .dat (.int l)] ∧ sb 8 u ∧ k = l) m ⟨rfl, m, 1, rfl, by unfold sb; decide, rfl⟩ ?_
    rintro k sl S' N ⟨rfl, l, u, rfl, bu, rfl⟩ hN
    by_cases hk : (0 : Int) < (k : Int)
    · have ea : atI ((TB i j z p).map D.int) ((k : Int) % (p : Int)) = some (.int (R i j z p (k % p))) := at_neg (j := k % p) (by simp) (tb_get (Nat.mod_lt _ (by omega)))
      have br : sb 8 (R i j z p (k % p)) := sb_mod (by omega) p200
      have cm := cmulb bu br (by decide)
      have hk2 : 0 < k := by omega
      simp [hk2, t_digit_mod_8, np', fm, ea, cm, t_digit_mod_9, cd, fdv]
      exact hN (k / p) _ _ (Nat.div_lt_self hk2 (by omega)) ⟨rfl, k / p, u * R i j z p (k % p) % p, by simp, sb_mod (by omega) p200, rfl⟩
    · have hk2 : ¬ 0 < k := by omega
      simp [hk2, t_digit_mod_10]
      exact q3 _
theorem any_int (T : List Int) : ((D.pys (T.map D.int)).any fun z => PyData.eqv z (D.int 0).py) = T.any (· == 0) := by
  rw [pys_ints, List.any_map]
  congr 1
theorem place_int (T : List Int) : SeqAt.dataPlace (D.pys (T.map D.int)) (D.int 0).py = T.findIdx? (· == 0) := by
  unfold SeqAt.dataPlace
  rw [pys_ints, List.findIdx?_map]
  congr 1
theorem ints_shp (T : List Int) : shpL (T.map D.int) := ⟨flats_ints T, by rw [pys_ints]; exact PySem.W.ke_shaped_ints T⟩
theorem int_shp (i : Int) : shp (.int i) := ⟨rfl, by rfl⟩
theorem pf_first_divided (Γ : Ad) : ∀ rs S Q E, sp_first_divided Γ rs S Q E → p_first_divided Γ (ends Q E) (rs.map Res.slot ++ List.replicate (5 - rs.length) .un) S := by
  rintro rs S Q E ⟨a, b, c, p, rfl, ha, hb, hc, hp, q⟩
  rw [e_first_divided]
  simp
  refine ⟨a, b, c, rfl, ha, hb, hc, refd_imp q (fun _ h => h) fun e q1 => ?_⟩
  simp [t_first_divided_1]
  refine ⟨p, rfl, hp, refd_imp q1 (fun _ h => h) fun e3 q2 => ?_⟩
  obtain ⟨i, j, z, rfl, h1, h4, rfl, hj, rfl⟩ := dgBad_none e
  obtain ⟨p, rfl, p2, p200⟩ := prBad_none e3
  simp [t_first_divided_2]
  refine ⟨i, j, p, z, rfl, by omega, by omega, by omega, p200, ?_⟩
  simp only [natD, intD, Int.toNat_natCast] at q2
  have ia : ∀ T : List Int, T.any (· == 0) = (T.findIdx? (· == 0)).isSome := fun T => by rw [List.findIdx?_isSome]
  cases ef : (TB i j z p).findIdx? (· == 0) with
  | none =>
    rw [ef] at q2
    have e0 := ia (TB i j z p)
    rw [ef] at e0
    simp [t_first_divided_3, any_int, ints_shp, int_shp, t_first_divided_4, e0]
    exact q2
  | some k =>
    rw [ef] at q2
    have e0 := ia (TB i j z p)
    rw [ef] at e0
    simp [t_first_divided_3, any_int, place_int, ints_shp, int_shp, e0, ef]
    exact q2
theorem pf_count_undivided (Γ : Ad) : ∀ rs S Q E, sp_count_undivided Γ rs S Q E → p_count_undivided Γ (ends Q E) (rs.map Res.slot ++ List.replicate (5 - rs.length) .un) S := by
  rintro rs S Q E ⟨a, b, c, p, w, rfl, ha, hb, hc, hp, hw, q⟩
  rw [e_count_undivided]
  simp
  refine ⟨a, b, c, rfl, ha, hb, hc, refd_imp q (fun _ h => h) fun e q1 => ?_⟩
  simp [t_count_undivided_1]
  refine ⟨p, rfl, hp, refd_imp q1 (fun _ h => h) fun e3 q2 => ?_⟩
  obtain ⟨i, j, z, rfl, h1, h4, rfl, hj, rfl⟩ := dgBad_none e
  obtain ⟨p, rfl, p2, p200⟩ := prBad_none e3
  cases w with
  | int v =>
    by_cases hv : v < 0
    · simp [plBad, hv, refd] at q2
      simp [t_count_undivided_2, sp_nu_integer, isI, hv]
      exact q2
    simp [plBad, hv, refd, intD] at q2
    by_cases h60 : 60 < v
    · simp [h60] at q2
      simp [t_count_undivided_2, sp_nu_integer, isI, hv, t_count_undivided_3, h60]
      exact q2
    simp [h60, natD] at q2
    simp [t_count_undivided_2, sp_nu_integer, isI, hv, t_count_undivided_3, h60, t_count_undivided_4]
    refine ⟨i, j, p, z, rfl, by omega, by omega, by omega, p200, ?_⟩
    have cl : (TB i j z p).count 0 ≤ p := by
      have := List.count_le_length (a := 0) (l := TB i j z p)
      simpa [TB] using this
    simp [intsD_map]
    refine ⟨(p : Int) - ((TB i j z p).count 0 : Nat), v.toNat, 8, by simp; omega, by unfold sb; omega, by omega, ?_⟩
    exact q2
  | obj => exact hw.elim
  | dct => exact hw.elim
  | _ => simp [plBad, refd] at q2; simp [t_count_undivided_2, sp_nu_integer, isI]; exact q2
end K89
end
section
set_option Elab.async false
set_option linter.all false
set_option maxRecDepth 100000
namespace K89
open PySem L2 Py
instance (w : List Int) : Decidable (okF w) := by unfold okF; infer_instance
def La (a b : Nat) : List (List Int) := (List.replicate a [[1, 0, 0]]).flatten ++ (List.replicate b [[1, 1, 0]]).flatten
def Ma (a b : Nat) : List (List Int) := (List.replicate a [[0, 1, 0], [1, -1, 0]]).flatten ++ (List.replicate b [[0, 1, 0], [1, 0, 0]]).flatten
structure FOk (a b : Nat) : Prop where
  l1 : (La a b).length ≤ 100
  l2 : (Ma a b).length ≤ 100
  o1 : ∀ w ∈ La a b, okF w
  o2 : ∀ w ∈ Ma a b, okF w
  ft : lessT (sortT (La a b)) (sortT (Ma a b)) = topsL a b
  fb : lessT (sortT (Ma a b)) (sortT (La a b)) = botsL a b
  fn : (topsL a b).length + (botsL a b).length ≤ 20
theorem fok_all : ∀ a, a < 5 → ∀ b, b < 5 → ((La a b).length ≤ 100 ∧ (Ma a b).length ≤ 100 ∧ (∀ w ∈ La a b, okF w) ∧ (∀ w ∈ Ma a b, okF w) ∧ lessT (sortT (La a b)) (sortT (Ma a b)) = topsL a b ∧ lessT (sortT (Ma a b)) (sortT (La a b)) = botsL a b ∧ (topsL a b).length + (botsL a b).length ≤ 20) := by decide +kernel
theorem fok {a b : Nat} (ha : a ≤ 4) (hb : b ≤ 4) : FOk a b := by
  obtain ⟨h1, h2, h3, h4, h5, h6, h7⟩ := fok_all a (by omega) b (by omega)
  exact ⟨h1, h2, h3, h4, h5, h6, h7⟩
theorem la_map (a b : Nat) : (List.replicate a [D.tup [.int 1, .int 0, .int 0]]).flatten ++ (List.replicate b [D.tup [.int 1, .int 1, .int 0]]).flatten = (La a b).map tupD := by
  simp [La, List.map_flatten, tupD]
theorem ma_map (a b : Nat) : (List.replicate a [D.tup [.int 0, .int 1, .int 0], D.tup [.int 1, .int (-1), .int 0]]).flatten ++ (List.replicate b [D.tup [.int 0, .int 1, .int 0], D.tup [.int 1, .int 0, .int 0]]).flatten = (Ma a b).map tupD := by
  simp [Ma, List.map_flatten, tupD]
theorem pf_digit_term (Γ : Ad) : ∀ rs S Q E, sp_digit_term Γ rs S Q E → p_digit_term Γ (ends Q E) (rs.map Res.slot ++ List.replicate (7 - rs.length) .un) S := by
  rintro rs S Q E ⟨a, b, c, rfl, ha, hb, hc, q⟩
  rw [e_digit_term]
  simp
  refine ⟨a, b, c, rfl, ha, hb, hc, refd_imp q (fun _ h => h) fun e q1 => ?_⟩
  obtain ⟨i, j, z, rfl, h1, h4, rfl, hj, rfl⟩ := dgBad_none e
  have F := fok h4 hj
  have zi : (i : Int) < 9223372036854775808 := by omega
  have zj : (j : Int) < 9223372036854775808 := by omega
  have zi2 : -9223372036854775808 ≤ (i : Int) := by omega
  have zj2 : -9223372036854775808 ≤ (j : Int) := by omega
  have hz : (100 : Nat) ≤ sizeLine := by decide
  have u1 : i ≤ sizeLine := by omega
  have u2 : j ≤ sizeLine := by omega
  have u3 : i + j ≤ sizeLine := by omega
  have u4 : 2 * i ≤ sizeLine := by omega
  have u5 : 2 * j ≤ sizeLine := by omega
  have u6 : i * 2 + j * 2 ≤ sizeLine := by omega
  simp only [intD, natD, Int.toNat_natCast] at q1
  by_cases hz0 : z = 0
  · simp [hz0] at q1
    simp [t_digit_term_1, hz0]
    exact q1
  simp [hz0] at q1
  simp [t_digit_term_1, hz0, t_digit_term_2, z3, t_digit_term_3, z1, zi, zj, zi2, zj2, u1, u2, u3]
  simp [t_digit_term_4, z3, z2, zi, zj, zi2, zj2, u1, u2, u3, u4, u5, u6]
  simp [t_digit_term_5]
  refine plain_mk Γ ?_
  simp [z3]
  refine ⟨z, La i j, Ma i j, ?_, hz0, F.l1, F.l2, F.o1, F.o2, ?_, ?_⟩
  · simp [La, Ma, tupD, fd, List.map_flatten]
  · rw [F.ft, F.fb]
    exact F.fn
  rw [F.ft, F.fb]
  simp [t_digit_term_6]
  refine plain_mk Γ ?_
  simp [z1, z2, z3]
  refine ⟨z, topsL i j, botsL i j, rfl, ?_⟩
  simp [z2, sp_Range_init]
  exact q1
theorem facs_rep (w : List Int) (n k : Int) : ∀ m : Nat, facs (List.replicate m w) n k = ((fac (sizeF w n k).toNat ^ m : Nat) : Int)
  | 0 => by simp [facs]
  | m + 1 => by
    rw [List.replicate_succ]
    show _ * facs (List.replicate m w) n k = _
    rw [facs_rep w n k m, Nat.pow_succ]
    simp [Int.mul_comm]
theorem num_eq {a b n k : Nat} (c : Int) (hk : k ≤ n) : c ^ k * facs (topsL a b) n k = tm a b c n k * facs (botsL a b) n k := by
  have s1 : (sizeF [1, 0, 0] (n : Int) (k : Int)).toNat = n := by simp [sizeF]
  have s2 : (sizeF [1, 1, 0] (n : Int) (k : Int)).toNat = n + k := by simp [sizeF]; omega
  have s3 : (sizeF [0, 1, 0] (n : Int) (k : Int)).toNat = k := by simp [sizeF]
  have s4 : (sizeF [1, -1, 0] (n : Int) (k : Int)).toNat = n - k := by simp [sizeF]; omega
  have e1 : facs (topsL a b) n k = ((fac n ^ (a - b) * fac (n + k) ^ b : Nat) : Int) := by
    unfold topsL
    rw [facs_append, facs_rep, facs_rep, s1, s2, Int.natCast_mul]
  have e2 : facs (botsL a b) n k = ((fac k ^ (a + b) * fac (n - k) ^ a * fac n ^ (b - a) : Nat) : Int) := by
    unfold botsL
    rw [facs_append, facs_append, facs_rep, facs_rep, facs_rep, s1, s3, s4, Int.natCast_mul, Int.natCast_mul]
  have c1 : ch n k * (fac k * fac (n - k)) = fac n := by
    have := ch_fac k (n - k)
    rwa [show k + (n - k) = n by omega] at this
  have c2 : ch (n + k) k * (fac k * fac n) = fac (n + k) := by
    have := ch_fac k n
    rwa [Nat.add_comm k n] at this
  have key : fac n ^ (a - b) * fac (n + k) ^ b = ch n k ^ a * ch (n + k) k ^ b * (fac k ^ (a + b) * fac (n - k) ^ a * fac n ^ (b - a)) := by
    have p : 0 < fac n ^ b := Nat.pow_pos (fac_pos n)
    refine Nat.eq_of_mul_eq_mul_right p ?_
    have l : fac n ^ (a - b) * fac n ^ b = fac n ^ a * fac n ^ (b - a) := by
      rw [← Nat.pow_add, ← Nat.pow_add]
      congr 1
      omega
    calc fac n ^ (a - b) * fac (n + k) ^ b * fac n ^ b = (fac n ^ (a - b) * fac n ^ b) * fac (n + k) ^ b := by ac_rfl
      _ = fac n ^ a * fac n ^ (b - a) * fac (n + k) ^ b := by rw [l]
      _ = (ch n k * (fac k * fac (n - k))) ^ a * fac n ^ (b - a) * (ch (n + k) k * (fac k * fac n)) ^ b := by rw [c1, c2]
      _ = ch n k ^ a * ch (n + k) k ^ b * (fac k ^ (a + b) * fac (n - k) ^ a * fac n ^ (b - a)) * fac n ^ b := by
        rw [Nat.mul_pow, Nat.mul_pow, Nat.mul_pow, Nat.mul_pow, Nat.pow_add]
        ac_rfl
  rw [e1, e2, key]
  unfold tm
  simp only [Int.natCast_mul, Int.natCast_pow]
  ac_rfl
theorem tm_sb2 {a b n k : Nat} {c : Int} (ha : a ≤ 4) (hb : b ≤ 4) (hn : n ≤ 12) (hk : k ≤ n) (hc : sb 70 c) : sb 1000 (tm a b c n k) := by
  unfold tm
  have h1 := sb_pow (ch_sb n k 12 hn) a
  have h2 := sb_pow (ch_sb (n + k) k 24 (by omega)) b
  have h3 := sb_pow hc k
  refine sb_mono (sb_mul (sb_mul h1 h2) h3) ?_
  omega
theorem ps_sb {a b n : Nat} {c : Int} (ha : a ≤ 4) (hb : b ≤ 4) (hn : n ≤ 12) (hc : sb 70 c) : ∀ j, j ≤ n + 1 → sb (1000 + j) (PS a b c n j)
  | 0, _ => by unfold sb; simp [PS]
  | j + 1, h => sb_add (ps_sb ha hb hn hc j (by omega)) (sb_mono (tm_sb2 ha hb hn (by omega) hc) (Nat.le_add_right 1000 j))
theorem pf_sm_look_term (Γ : Ad) : ∀ rs S Q E, sp_sm_look_term Γ rs S Q E → p_sm_look_term Γ (ends Q E) (rs.map Res.slot ++ List.replicate (1 - rs.length) .un) S := by
  rintro rs S Q E ⟨c, a, b, d, rfl, ⟨rfl, h⟩, q⟩
  simp [p_sm_look_term, termD, List.lookup]
  refine ⟨c, topsL a b, botsL a b, rfl, ?_⟩
  simp [one2]
  exact q
theorem pf_sm_look_kind (Γ : Ad) : ∀ rs S Q E, sp_sm_look_kind Γ rs S Q E → p_sm_look_kind Γ (ends Q E) (rs.map Res.slot ++ List.replicate (2 - rs.length) .un) S := by
  rintro rs S Q E ⟨c, a, b, d, rfl, h, q⟩
  simp [p_sm_look_kind]
  refine ⟨c, a, b, d, rfl, h, ?_⟩
  simp [rangeD]
  exact q
theorem pf_sm_look_there (Γ : Ad) : ∀ rs S Q E, sp_sm_look_there Γ rs S Q E → p_sm_look_there Γ (ends Q E) (rs.map Res.slot ++ List.replicate (3 - rs.length) .un) S := by
  rintro rs S Q E ⟨c, a, b, d, rfl, ⟨rfl, h1, h2, h3⟩, q⟩
  simp [p_sm_look_there, termD, pureD, List.lookup]
  refine ⟨topsL a b, rfl, by simp [topsL]; omega, ?_, ?_⟩
  · intro w hw
    unfold topsL at hw
    rcases List.mem_append.mp hw with z | z
    · exact .inl (List.eq_of_mem_replicate z)
    · exact .inr (List.eq_of_mem_replicate z)
  · simp
    exact q
theorem pf_sm_look (Γ : Ad) : ∀ rs S Q E, sp_sm_look Γ rs S Q E → p_sm_look Γ (ends Q E) (rs.map Res.slot ++ List.replicate (2 - rs.length) .un) S := by
  rintro rs S Q E ⟨c, a, b, d, rfl, h, q⟩
  simp [p_sm_look]
  refine ⟨c, a, b, d, rfl, h, ?_⟩
  simp
  refine ⟨c, a, b, d, rfl, h, ?_⟩
  simp
  exact q
theorem num_mk {a b n k : Nat} {c : Int} (h1 : 1 ≤ a) (ha : a ≤ 4) (hb : b ≤ 4) (hn : n ≤ 12) (hk : k ≤ n) (hc : sb 70 c) : Num c (topsL a b) (botsL a b) n k (tm a b c n k) where
  tl := by simp [topsL]; omega
  bl := by simp [botsL]; omega
  ne := by
    intro z
    have : (topsL a b).length = 0 := by rw [z]; rfl
    simp [topsL] at this
    omega
  tf := fun w hw => by
    unfold topsL at hw
    rcases List.mem_append.mp hw with z | z
    · exact .inl (List.eq_of_mem_replicate z)
    · exact .inr (.inr (.inl (List.eq_of_mem_replicate z)))
  bf := fun w hw => by
    unfold botsL at hw
    rcases List.mem_append.mp hw with z | z
    · rcases List.mem_append.mp z with z | z
      · exact .inr (.inl (List.eq_of_mem_replicate z))
      · exact .inr (.inr (.inr (List.eq_of_mem_replicate z)))
    · exact .inl (List.eq_of_mem_replicate z)
  cs := hc
  n12 := hn
  kn := hk
  eq := num_eq c hk
theorem en1 : ((Str.ofString "ends") = (Str.ofString "low")) = False := by simp; decide +kernel
theorem en2 : ((Str.ofString "ends") = (Str.ofString "high")) = False := by simp; decide +kernel
theorem en3 : ((Str.ofString "ends") = (Str.ofString "start")) = False := by simp; decide +kernel
theorem pf_sm_sum (Γ : Ad) : ∀ rs S Q E, sp_sm_sum Γ rs S Q E → p_sm_sum Γ (ends Q E) (rs.map Res.slot ++ List.replicate (7 - rs.length) .un) S := by
  rintro rs S Q E ⟨c, a, b, n, d, rfl, ⟨rfl, h1, h2, h3⟩, hc, hn, q⟩
  have n600 : ¬ (600 : Int) < (n : Int) + 1 := by omega
  have s0 : sm62 0 := by unfold sm62; decide
  have s1 : sm62 ((n : Int) + 1) := by unfold sm62; omega
  have tn : ((n : Int) + 1).toNat = n + 1 := by omega
  rw [e_sm_sum]
  simp [rangeD, en1, en2, en3]
  refine ⟨n, rfl, sb_small (by omega), ?_⟩
  simp [t_sm_sum_1, n600, t_sm_sum_2, z2, t_sm_sum_3, s0, s1, tn]
  refine for_ind (fun k sl S' => S' = S ∧ ∃ t : Py.Slot, sl = [.dat (termD Γ c (topsL a b) (botsL a b)), .dat (rangeD Γ), .dat (.int n), .dat (.int 0), .dat (.int n), .dat (n1 (PS a b c n k)), t]) ⟨rfl, .un, by simp [PS, n1, rangeD]⟩ ?_ ?_
  · rintro k d sl S' N hd ⟨rfl, t, rfl⟩ hN
    obtain ⟨hk, rfl⟩ := rng_get hd
    have hk : k ≤ n := by omega
    simp [t_sm_sum_4]
    refine ⟨c, _, _, n, k, _, rfl, num_mk h1 h2 h3 hn hk hc, sb_mono (tm_sb2 h2 h3 hn hk hc) (by decide), ?_⟩
    simp
    refine ⟨_, _, rfl, sb_mono (ps_sb h2 h3 hn hc k (by omega)) (by omega), sb_mono (tm_sb2 h2 h3 hn hk hc) (by decide), ?_⟩
    simp
    exact hN _ _ ⟨rfl, .dat (.int k), by simp [PS]⟩
  · rintro sl S' ⟨rfl, t, rfl⟩
    rw [rng_len]
    simp [t_sm_sum_5]
    exact q
theorem pf_sum_value (Γ : Ad) : ∀ rs S Q E, sp_sum_value Γ rs S Q E → p_sum_value Γ (ends Q E) (rs.map Res.slot ++ List.replicate (3 - rs.length) .un) S := by
  rintro rs S Q E ⟨c, a, b, n, d, rfl, h, hc, hn, q⟩
  have n0 : ¬ (n : Int) < 0 := by omega
  rw [e_sum_value]
  simp
  refine ⟨c, a, b, d, rfl, h, ?_⟩
  simp [t_sum_value_1, sp_nu_integer, isI, t_sum_value_2, rangeD, List.lookup, n0, t_sum_value_3]
  exact ⟨c, a, b, n, d, rfl, h, hc, hn, q⟩
end K89
end
section
set_option Elab.async false
set_option linter.all false
set_option maxRecDepth 100000
namespace K89
open PySem L2 Py
def sz (b : Nat) (i : Int) : Prop := i.natAbs < 2 ^ b
theorem cmul {a b : Nat} {i j : Int} (h1 : sz a i) (h2 : sz b j) (h : a + b < 1000000) : CMulW i j := cmulb (Nat.le_of_lt h1) (Nat.le_of_lt h2) h
theorem sm62_nat {n : Nat} (h : n ≤ 1000000) : sm62 (n : Int) := by
  unfold sm62
  constructor <;> omega
theorem snoc_int (l : List Int) (x : Int) : l.map D.int ++ [D.int x] = (l ++ [x]).map D.int := by simp
theorem strm_a {P : PEnds} {a0 a2 : D} {s5 : Py.Slot} {S : List Int} {l : List Int} {cell : Int} {s4 : Py.Slot} (hl : l.length ≤ 4000) (h : ∀ (l' : List Int) (cell' : Int) (s4' : Py.Slot), l'.length ≤ l.length + 40 → P.nx [.dat a0, .own (l'.map .int), .dat a2, .dat (.int cell'), s4', s5] S) :
    forRun (pgName 4) (pSeq (pApp 1 (pBin fMod (pCB fInt (pCons (pVar 3) pNil)) (pC (.int 97)))) (pSeq (pAsg (pBin fDiv (pVar 3) (pC (.int 97))) (pgName 3)) pNext)) P (rng 0 1 40) [.dat a0, .own (l.map .int), .dat a2, .dat (.int cell), s4, s5] S := by
  have hz : (10000 : Nat) < sizeLine := by decide
  refine for_ind (fun i sl S' => S' = S ∧ i ≤ 40 ∧ ∃ (l' : List Int) (cell' : Int) (s4' : Py.Slot), sl = [.dat a0, .own (l'.map .int), .dat a2, .dat (.int cell'), s4', s5] ∧ l'.length ≤ l.length + i) ⟨rfl, by omega, l, cell, s4, rfl, by omega⟩ ?_ ?_
  · rintro i d sl S' N hi ⟨rfl, hi40, l', cell', s4', rfl, hl'⟩ hN
    have hil := (rng_get hi).1
    have cd : CDv cell' 97 := ⟨by decide, by decide⟩
    simp [cd]
    refine ⟨by omega, ?_⟩
    rw [snoc_int]
    exact hN _ _ ⟨rfl, by omega, _, _, _, rfl, by simp; omega⟩
  · rintro sl S' ⟨rfl, hi40, l', cell', s4', rfl, hl'⟩
    rw [rng_len] at hl'
    exact h l' cell' s4' hl'
theorem strm_b {P : PEnds} {a0 a3 : D} {at' : Nat} {S : List Int} {l : List Int} {seed : Int} {s4 : Py.Slot} (hl : l.length ≤ 4000) (ha : at' ≤ 100) (hs : 0 ≤ seed ∧ seed < 2000000) (h : ∀ (l' : List Int) (seed' : Int) (s4' : Py.Slot), l'.length ≤ l.length + 6 → P.nx [.dat a0, .own (l'.map .int), .dat (.int at'), .dat a3, s4', .dat (.int seed')] S) :
    forRun (pgName 4) (pSeq (pAsg (pBin fMod (pCB fInt (pCons (pBin fAdd (pBin fAdd (pBin fAdd (pBin fMul (pVar 5) (pVar 5)) (pBin fMul (pVar 4) (pC (.int 6151)))) (pBin fMul (pVar 2) (pC (.int 31)))) (pC (.int 5))) pNil)) (pC (.int 999983))) (pgName 5)) (pSeq (pApp 1 (pVar 5)) pNext)) P (rng 0 1 6) [.dat a0, .own (l.map .int), .dat (.int at'), .dat a3, s4, .dat (.int seed)] S := by
  have hz : (10000 : Nat) < sizeLine := by decide
  refine for_ind (fun i sl S' => S' = S ∧ i ≤ 6 ∧ ∃ (l' : List Int) (seed' : Int) (s4' : Py.Slot), sl = [.dat a0, .own (l'.map .int), .dat (.int at'), .dat a3, s4', .dat (.int seed')] ∧ l'.length ≤ l.length + i ∧ 0 ≤ seed' ∧ seed' < 2000000) ⟨rfl, by omega, l, seed, s4, rfl, by omega, hs⟩ ?_ ?_
  · rintro i d sl S' N hi ⟨rfl, hi40, l', seed', s4', rfl, hl', s0, s1⟩ hN
    obtain ⟨hil, rfl⟩ := rng_get hi
    have z1 : sz 30 seed' := by
      show _ < 1073741824
      omega
    have c1 := cmul z1 z1 (by decide)
    have c2 : CMulW (i : Int) 6151 := cmul (a := 30) (b := 30) (show _ < 1073741824 by omega) (show _ < _ by decide) (by decide)
    have c3 : CMulW (at' : Int) 31 := cmul (a := 30) (b := 30) (show _ < 1073741824 by omega) (show _ < _ by decide) (by decide)
    simp [c1, c2, c3]
    refine ⟨by omega, ?_⟩
    rw [snoc_int]
    refine hN _ _ ⟨rfl, by omega, _, _, _, rfl, by simp; omega, Int.fmod_nonneg_of_pos _ (by decide), ?_⟩
    exact Int.lt_trans (Int.fmod_lt_of_pos _ (by decide : (0 : Int) < 999983)) (by decide)
  · rintro sl S' ⟨rfl, hi40, l', seed', s4', rfl, hl', _⟩
    rw [rng_len] at hl'
    exact h l' seed' s4' hl'
theorem pf__law_stream (Γ : Ad) : ∀ rs S Q E, sp__law_stream Γ rs S Q E → p__law_stream Γ (ends Q E) (rs.map Res.slot ++ List.replicate (6 - rs.length) .un) S := by
  rintro rs S Q E ⟨ns, rfl, h63, q⟩
  have hz0 : (0 : Nat) ≤ sizeLine := by decide
  have mn : (if (63 : Int) < (ns.length : Int) then (63 : Int) else (ns.length : Int)) = (ns.length : Int) := by rw [if_neg (by omega)]
  have c18 : CPw 10 18 := by unfold CPw; decide +kernel
  have s40 : sm62 40 := by unfold sm62; decide
  have s6 : sm62 6 := by unfold sm62; decide
  simp [p__law_stream, mn]
  refine ⟨sm62_nat (by omega), ?_⟩
  refine for_ind (fun i sl S' => S' = S ∧ ∃ (l : List Int) (s2 s3 s4 s5 : Py.Slot), sl = [.dat (.frl (ns.map .int)), .own (l.map .int), s2, s3, s4, s5] ∧ l.length ≤ 40 * i) ⟨rfl, [], .un, .un, .un, .un, rfl, by simp⟩ ?_ ?_
  · rintro i d sl S' N hi ⟨rfl, l, s2, s3, s4, s5, rfl, hl⟩ hN
    obtain ⟨hil, rfl⟩ := rng_get hi
    have hin : i < ns.length := by simpa using hil
    have ea : atI (ns.map D.int) (i : Int) = some (.int ns[i]) := at_nat (by rw [List.getElem?_map, List.getElem?_eq_getElem hin]; rfl)
    have hN' : ∀ (l' : List Int) s2 s3 s4 s5, l'.length ≤ l.length + 40 → N [.dat (.frl (ns.map .int)), .own (l'.map .int), s2, s3, s4, s5] S' := fun l' s2 s3 s4 s5 h => hN _ _ ⟨rfl, l', s2, s3, s4, s5, rfl, by omega⟩
    have c2 : CMulW (i : Int) 104729 := cmul (a := 30) (b := 30) (show _ < 1073741824 by omega) (show _ < _ by decide) (by decide)
    have c1 : ∀ cell : Int, 0 ≤ cell → cell < 1000000000000000000 → CMulW cell 7919 := fun cell h1 h2 => cmul (a := 60) (b := 30) (show _ < 1152921504606846976 by omega) (show _ < _ by decide) (by decide)
    have sd : ∀ x : Int, 0 ≤ x.fmod 1000003 ∧ x.fmod 1000003 < 2000000 := fun x => ⟨Int.fmod_nonneg_of_pos _ (by decide), Int.lt_trans (Int.fmod_lt_of_pos _ (by decide : (0 : Int) < 1000003)) (by decide)⟩
    simp [ea, c18, c2, s40, s6]
    by_cases hneg : ns[i] < 0
    · rw [if_pos hneg]
      by_cases hb : 1000000000000000000 ≤ -ns[i]
      · rw [if_pos hb]
        exact strm_a (by omega) fun l' cell' s4' h => hN' l' _ _ _ _ h
      · rw [if_neg hb]
        exact ⟨c1 _ (by omega) (by omega), strm_b (by omega) (by omega) (sd _) fun l' seed' s4' h => hN' l' _ _ _ _ (by omega)⟩
    · rw [if_neg hneg]
      by_cases hb : 1000000000000000000 ≤ ns[i]
      · rw [if_pos hb]
        exact strm_a (by omega) fun l' cell' s4' h => hN' l' _ _ _ _ h
      · rw [if_neg hb]
        exact ⟨c1 _ (by omega) (by omega), strm_b (by omega) (by omega) (sd _) fun l' seed' s4' h => hN' l' _ _ _ _ (by omega)⟩
  · rintro sl S' ⟨rfl, l, s2, s3, s4, s5, rfl, hl⟩
    simp [pRev, ← List.map_reverse]
    exact q l.reverse
theorem pf__law_next (Γ : Ad) : ∀ rs S Q E, sp__law_next Γ rs S Q E → p__law_next Γ (ends Q E) (rs.map Res.slot ++ List.replicate (2 - rs.length) .un) S := by
  rintro rs S Q E ⟨many, rfl, h, q⟩
  have hne : many ≠ 0 := by omega
  cases hs : S.getLast? with
  | none =>
    have : S = [] := List.getLast?_eq_none_iff.mp hs
    subst this
    simp [p__law_next]
    exact q 0 [] (Int.le_refl 0) h
  | some n =>
    have : S ≠ [] := fun z => by rw [z] at hs; cases hs
    have hl : ¬ ((S.length : Int) = 0) := by
      have := List.length_pos_iff.mpr this
      omega
    simp [p__law_next, hl, pPopD, hs, hne, this]
    exact q _ _ (Int.fmod_nonneg_of_pos n h) (Int.fmod_lt_of_pos n h)
theorem pf__law_digit_sum (Γ : Ad) : ∀ rs S Q E, sp__law_digit_sum Γ rs S Q E → p__law_digit_sum Γ (ends Q E) (rs.map Res.slot ++ List.replicate (9 - rs.length) .un) S := by
  rintro rs S Q E ⟨a, b, n, c, rfl, ha, hb, hn, hc, q⟩
  have sn : sm62 ((n : Int) + 1) := by unfold sm62; omega
  have tn : ((n : Int) + 1).toNat = n + 1 := by omega
  rw [e__law_digit_sum]
  simp [t__law_digit_sum_1, t__law_digit_sum_2, t__law_digit_sum_3, t__law_digit_sum_4, sn, tn]
  refine for_ind (fun k sl S' => S' = S ∧ ∃ t : Py.Slot, sl = [.dat (.int a), .dat (.int b), .dat (.int c), .dat (.int n), .dat (.int (PS a b c n k)), .dat (.int (ch n k : Nat)), .dat (.int (ch (n + k) k : Nat)), .dat (.int (c ^ k)), t]) ⟨rfl, .un, by simp [PS, ch_zero]⟩ ?_ ?_
  · rintro k d sl S' N hd ⟨rfl, t, rfl⟩ hN
    obtain ⟨hk, rfl⟩ := rng_get hd
    have hk : k ≤ n := by omega
    have x1 := ch_sb n k 400 hn
    have x2 := ch_sb (n + k) k 800 (by omega)
    have b1 := sb_pow x1 a
    have b2 := sb_pow x2 b
    have b3 := sb_pow hc k
    have : 400 * a ≤ 400 * 4 := Nat.mul_le_mul_left _ ha
    have : 800 * b ≤ 800 * 4 := Nat.mul_le_mul_left _ hb
    have : 70 * k ≤ 70 * 400 := Nat.mul_le_mul_left _ (by omega)
    have c1 := cmulb b1 b2 (by omega)
    have c2 := cmulb (sb_mul b1 b2) b3 (by omega)
    have c3 := cmulb b3 hc (by omega)
    have nk : ((n : Int) - (k : Int)) = ((n - k : Nat) : Int) := by omega
    have c4 : CMulW ((ch n k : Nat) : Int) ((n : Int) - (k : Int)) := by rw [nk]; exact cmulb x1 (sb_nat (n := 9) (by omega)) (by decide)
    have c5 : CMulW ((ch (n + k) k : Nat) : Int) ((n : Int) + (k : Int) + 1) := by
      have : ((n : Int) + (k : Int) + 1) = ((n + k + 1 : Nat) : Int) := by omega
      rw [this]
      exact cmulb x2 (sb_nat (n := 10) (by omega)) (by decide)
    have cd : ∀ x : Int, CDv x ((k : Int) + 1) := fun x => ⟨by omega, by
      have : ((k : Int) + 1).natAbs.log2 ≤ 10 := sb_log (n := 10) (by unfold sb; omega)
      omega⟩
    have d1 : (((ch n k : Nat) : Int) * ((n : Int) - (k : Int))).fdiv ((k : Int) + 1) = ((ch n (k + 1) : Nat) : Int) := by
      rw [nk, ← Int.natCast_mul, ch_step hk, Int.natCast_mul]
      exact Int.mul_fdiv_cancel _ (by omega)
    have d2 : (((ch (n + k) k : Nat) : Int) * ((n : Int) + (k : Int) + 1)).fdiv ((k : Int) + 1) = ((ch (n + (k + 1)) (k + 1) : Nat) : Int) := by
      have : ((n : Int) + (k : Int) + 1) = ((n + k + 1 : Nat) : Int) := by omega
      rw [this, ← Int.natCast_mul, ch_step2, Int.natCast_mul]
      exact Int.mul_fdiv_cancel _ (by omega)
    simp [t__law_digit_sum_5]
    refine ⟨_, a, 400, rfl, x1, by omega, by omega, ?_⟩
    simp
    refine ⟨_, b, 800, rfl, x2, by omega, by omega, ?_⟩
    simp [c1, c2, t__law_digit_sum_6, t__law_digit_sum_7, t__law_digit_sum_8, c3, c4, c5, cd, d1, d2]
    refine hN _ _ ⟨rfl, .dat (.int k), ?_⟩
    show _ = [_, _, _, _, Py.Slot.dat (.int (PS a b c n k + tm a b c n k)), _, _, Py.Slot.dat (.int (c ^ (k + 1))), _]
    rw [Int.pow_succ]
    rfl
  · rintro sl S' ⟨rfl, t, rfl⟩
    rw [rng_len]
    simp [t__law_digit_sum_9]
    exact q
end K89
end
section
set_option Elab.async false
set_option linter.all false
set_option maxRecDepth 100000
namespace K89
open PySem L2 Py
theorem pf__law_divided (Γ : Ad) : ∀ rs S Q E, sp__law_divided Γ rs S Q E → p__law_divided Γ (ends Q E) (rs.map Res.slot ++ List.replicate (5 - rs.length) .un) S := by
  rintro rs S Q E ⟨a, b, n, p, c, rfl, ha, hb, hn, hp, hp2, q⟩
  have np' : p ≠ 0 := by omega
  have fm : ∀ x : Int, x.fmod p = x % p := fun x => Int.fmod_eq_emod_of_nonneg _ (by omega)
  simp [p__law_divided, np', fm]
  refine ⟨a, b, n, c % p, rfl, ha, hb, by omega, sb_mono (sb_mod hp hp2) (by decide), ?_⟩
  simp [np', fm]
  exact q
theorem find_at {a b p i : Nat} {c : Int} (hi : i < p) (h0 : R a b c p i = 0) (h : ∀ j, j < i → R a b c p j ≠ 0) : (TB a b c p).findIdx? (· == 0) = some i := by
  rw [List.findIdx?_eq_some_iff_getElem]
  refine ⟨by simp [TB, hi], by simp [TB, h0], fun j hj => ?_⟩
  simp [TB, h j hj]
theorem find_none {a b p : Nat} {c : Int} (h : ∀ j, j < p → R a b c p j ≠ 0) : (TB a b c p).findIdx? (· == 0) = none := by
  rw [List.findIdx?_eq_none_iff]
  intro x hx
  obtain ⟨j, hj, rfl⟩ := List.mem_map.mp hx
  simp [h j (List.mem_range.mp hj)]
theorem pf__law_first (Γ : Ad) : ∀ rs S Q E, sp__law_first Γ rs S Q E → p__law_first Γ (ends Q E) (rs.map Res.slot ++ List.replicate (5 - rs.length) .un) S := by
  rintro rs S Q E ⟨a, b, p, c, rfl, ha, hb, hp, hp2, q⟩
  have sp : sm62 (p : Int) := by unfold sm62; omega
  simp [p__law_first, sp]
  refine for_ind (fun k sl S' => S' = S ∧ (∃ t : Py.Slot, sl = [.dat (.int a), .dat (.int b), .dat (.int c), .dat (.int p), t]) ∧ ∀ j, j < k → R a b c p j ≠ 0) ⟨rfl, ⟨_, rfl⟩, fun j h => by omega⟩ ?_ ?_
  · rintro k d sl S' N hd ⟨rfl, ⟨t, rfl⟩, hk⟩ hN
    obtain ⟨hkp, rfl⟩ := rng_get hd
    simp
    refine ⟨a, b, k, p, c, rfl, ha, hb, by omega, hp, by omega, ?_⟩
    by_cases h : R a b c p k = 0
    · rw [find_at hkp h hk] at q
      simp [h]
      exact q
    · simp [h]
      exact hN _ _ ⟨rfl, ⟨_, rfl⟩, fun j hj => by
        by_cases e : j = k
        · subst e; exact h
        · exact hk j (by omega)⟩
  · rintro sl S' ⟨rfl, ⟨t, rfl⟩, hk⟩
    rw [rng_len] at hk
    rw [find_none hk] at q
    simp
    exact q
theorem pl_bd {p : Nat} (h : p ∈ PL) : 2 ≤ p ∧ p ≤ 19 := by
  simp [PL] at h
  omega
theorem pf__law_small_power (Γ : Ad) : ∀ rs S Q E, sp__law_small_power Γ rs S Q E → p__law_small_power Γ (ends Q E) (rs.map Res.slot ++ List.replicate (4 - rs.length) .un) S := by
  rintro rs S Q E ⟨p, rfl, hp, q⟩
  obtain ⟨p2, p19⟩ := pl_bd hp
  have s8 : sm62 8 := by unfold sm62; decide
  simp [p__law_small_power, s8]
  refine for_ind (fun k sl S' => S' = S ∧ ∃ (w : Nat) (t : Py.Slot), sl = [.dat (.int p), .dat (.int (p ^ w : Nat)), .dat (.int w), t] ∧ p ^ w ≤ 64) ⟨rfl, 0, .un, by simp, by simp⟩ ?_ ?_
  · rintro k d sl S' N hd ⟨rfl, w, t, rfl, hw⟩ hN
    have c1 : CMulW ((p ^ w : Nat) : Int) (p : Int) := cmulb (sb_nat (n := 6) hw) (sb_nat (n := 5) (by omega)) (by decide)
    have c2 : CMulW ((p : Int) ^ w) (p : Int) := by rw [← Int.natCast_pow]; exact c1
    have e : ((p : Int) ^ w * (p : Int)) = ((p ^ (w + 1) : Nat) : Int) := by rw [Nat.pow_succ]; simp
    simp [c2]
    by_cases h : ((p : Int) ^ w * (p : Int)) ≤ 64
    · rw [if_pos h]
      refine hN _ _ ⟨rfl, w + 1, .dat d, ?_, ?_⟩
      · rw [e]; simp
      · rw [e] at h; omega
    · rw [if_neg h]
      exact hN _ _ ⟨rfl, w, .dat d, by simp, hw⟩
  · rintro sl S' ⟨rfl, w, t, rfl, hw⟩
    simp
    refine q w hw ?_
    by_cases h : w ≤ 6
    · exact h
    · have h1 : 2 ^ w ≤ p ^ w := Nat.pow_le_pow_left p2 w
      have h2 : 2 ^ 7 ≤ 2 ^ w := Nat.pow_le_pow_right (by decide) (by omega)
      omega
/-! counts -/
def cI (a b : Nat) (c : Int) (p m : Nat) : Nat := cnt a b (c % p).toNat p m
theorem r_zero {a b p n : Nat} {c : Int} (hp : 0 < p) : (R a b c p n = 0) ↔ vN a b (c % p).toNat n % p = 0 := by
  rw [R_eq a b p n c hp]
  omega
theorem cI_succ {a b p m : Nat} {c : Int} (hp : 0 < p) : cI a b c p (m + 1) = cI a b c p m + if R a b c p m = 0 then 0 else 1 := by
  show cnt _ _ _ _ m + (if _ then 0 else 1) = _
  by_cases h : R a b c p m = 0
  · rw [if_pos h, if_pos ((r_zero hp).mp h)]; rfl
  · rw [if_neg h, if_neg (fun z => h ((r_zero hp).mpr z))]; rfl
theorem cI_count {a b p : Nat} {c : Int} (hp : 0 < p) : ∀ m, (((List.range m).map (R a b c p)).count 0) + cI a b c p m = m
  | 0 => rfl
  | m + 1 => by
    have h := cI_count (a := a) (b := b) (c := c) hp m
    rw [cI_succ hp, List.range_succ, List.map_append, List.count_append]
    by_cases z : R a b c p m = 0
    · simp [z]; omega
    · simp [z]; omega
theorem cI_le {a b p : Nat} {c : Int} (hp : 0 < p) (m : Nat) : cI a b c p m ≤ m := by
  have := cI_count (a := a) (b := b) (c := c) hp m
  omega
theorem okCount_at {a b p c : Nat} : ∀ {w v : Nat}, okCount a b p c v = true → w + 1 ≤ v → p ^ (w + 1) ≤ 64 → cnt a b c p (p ^ (w + 1)) = cnt a b c p p ^ (w + 1)
  | w, 0, _, h, _ => by omega
  | w, v + 1, h, hw, h64 => by
    simp only [okCount, Bool.and_eq_true, Bool.or_eq_true, decide_eq_true_eq] at h
    by_cases e : w = v
    · subst e
      rcases h.2 with z | z
      · omega
      · exact z
    · exact okCount_at h.1 (by omega) h64
theorem chk_all {p : Nat} (h : p ∈ PL) : chk p = true := by
  simp [PL] at h
  rcases h with rfl | rfl | rfl | rfl | rfl | rfl | rfl | rfl
  · exact chk2
  · exact chk3
  · exact chk5
  · exact chk7
  · exact chk11
  · exact chk13
  · exact chk17
  · exact chk19
theorem count_law {a b p w : Nat} {c : Int} (hp : p ∈ PL) (h1 : 1 ≤ a) (ha : a ≤ 4) (hb : b ≤ 4) (hw : w ≤ 6) (h64 : p ^ w ≤ 64) : cI a b c p (p ^ w) = cI a b c p p ^ w := by
  obtain ⟨p2, p19⟩ := pl_bd hp
  cases w with
  | zero =>
    have : vN a b (c % p).toNat 0 % p ≠ 0 := by
      have e : vN a b (c % p).toNat 0 = 1 := by
        show 0 + 1 ^ a * 1 ^ b * 1 = 1
        simp
      rw [e, Nat.mod_eq_of_lt (by omega)]
      decide
    show 0 + (if _ then 0 else 1) = 1
    rw [if_neg this]
  | succ w =>
    have hc : (c % p).toNat < p := by
      have h1 := Int.emod_nonneg c (b := (p : Int)) (by omega)
      have h2 := Int.emod_lt_of_pos c (b := (p : Int)) (by omega)
      omega
    have k1 := below_at (chk_all hp) hc
    have k2 := below_at k1 (i := a - 1) (by omega)
    have k3 := below_at k2 (i := b) (by omega)
    rw [show a - 1 + 1 = a by omega] at k3
    exact okCount_at k3 hw h64
/-! what is asked of the program here -/
theorem pr_ok {p : Nat} (h : p ∈ PL) : prBad (.int p) = none := by
  simp [PL] at h
  rcases h with rfl | rfl | rfl | rfl | rfl | rfl | rfl | rfl <;> decide +kernel
theorem dg_ok {a b : Nat} {c : Int} (h1 : 1 ≤ a) (ha : a ≤ 4) (hb : b ≤ 4) : dgBad (.int a) (.int b) (.int c) = none := by
  have e1 : okA (.int a) = true := by simp [okA]; omega
  have e2 : okB (.int b) = true := by simp [okB]; omega
  simp [dgBad, e1, e2, isI]
theorem count_ok (Γ : Ad) {a b p e : Nat} {c : Int} {S : List Int} {Q : Res → List Int → Prop} {E : PX → List Int → Prop} (hp : p ∈ PL) (h1 : 1 ≤ a) (ha : a ≤ 4) (hb : b ≤ 4) (he : e ≤ 60) (q : Q (.dat (.int ((cI a b c p p : Nat) ^ e : Nat))) S) : sp_count_undivided Γ [.dat (.int a), .dat (.int b), .dat (.int c), .dat (.int p), .dat (.int e)] S Q E := by
  refine ⟨_, _, _, _, _, rfl, trivial, trivial, trivial, trivial, trivial, ?_⟩
  have e3 : plBad (.int e) = none := by simp [plBad]
  rw [dg_ok h1 ha hb, pr_ok hp, e3]
  show if 60 < intD (.int e) then _ else _
  rw [if_neg (by simp only [intD]; omega)]
  have h := cI_count (a := a) (b := b) (c := c) (p := p) (by have := pl_bd hp; omega) p
  have e4 : (((natD (.int p) : Nat) : Int) - ((TB (natD (.int a)) (natD (.int b)) (intD (.int c)) (natD (.int p))).count 0 : Nat)) = ((cI a b c p p : Nat) : Int) := by
    simp only [natD, intD, Int.toNat_natCast, TB]
    omega
  rw [e4]
  simp only [natD, Int.toNat_natCast]
  rw [← Int.natCast_pow]
  exact q
theorem first_ok (Γ : Ad) {a b p : Nat} {c : Int} {S : List Int} {Q : Res → List Int → Prop} {E : PX → List Int → Prop} (hp : p ∈ PL) (h1 : 1 ≤ a) (ha : a ≤ 4) (hb : b ≤ 4) (q : Q (.dat (fstD ((TB a b c p).findIdx? (· == 0)))) S) : sp_first_divided Γ [.dat (.int a), .dat (.int b), .dat (.int c), .dat (.int p)] S Q E := by
  refine ⟨_, _, _, _, rfl, trivial, trivial, trivial, trivial, ?_⟩
  rw [dg_ok h1 ha hb, pr_ok hp]
  exact q
theorem pf__law_first_is (Γ : Ad) : ∀ rs S Q E, sp__law_first_is Γ rs S Q E → p__law_first_is Γ (ends Q E) (rs.map Res.slot ++ List.replicate (6 - rs.length) .un) S := by
  rintro rs S Q E ⟨a, b, p, c, d, rfl, h1, ha, hb, hp, rfl, q⟩
  simp [p__law_first_is]
  refine first_ok Γ hp h1 ha hb ?_
  cases h : (TB a b c p).findIdx? (· == 0) with
  | none => simp [fstD]; exact q
  | some j => simp [fstD, sp__law_int, isI]; exact q
theorem pf__law_counts_ok (Γ : Ad) : ∀ rs S Q E, sp__law_counts_ok Γ rs S Q E → p__law_counts_ok Γ (ends Q E) (rs.map Res.slot ++ List.replicate (11 - rs.length) .un) S := by
  rintro rs S Q E ⟨a, b, p, c, rfl, h1, ha, hb, hp, q⟩
  obtain ⟨p2, p19⟩ := pl_bd hp
  have sp : sm62 (p : Int) := by unfold sm62; omega
  have clp : cI a b c p p ≤ p := cI_le (by omega) p
  rw [e__law_counts_ok]
  simp
  refine ⟨p, rfl, hp, fun w hw h6 => ?_⟩
  simp
  refine ⟨_, rfl, by omega, fun v S1 v0 v1 => ?_⟩
  obtain ⟨v, rfl⟩ : ∃ n : Nat, v = (n : Int) := ⟨v.toNat, by omega⟩
  have hv : p ^ v ≤ 64 := Nat.le_trans (Nat.pow_le_pow_right (by omega) (by omega)) hw
  have hv2 : (p : Int) ^ v = ((p ^ v : Nat) : Int) := by simp
  have sv : sm62 ((p ^ v : Nat) : Int) := by unfold sm62; omega
  simp [t__law_counts_ok_1, t__law_counts_ok_2]
  refine ⟨(p : Int), v, 5, rfl, sb_nat (by omega), by omega, by omega, ?_⟩
  rw [hv2]
  show sm62 _ ∧ forRun _ _ _ (rng 0 1 ((p ^ v : Nat) : Int).toNat) _ _
  rw [Int.toNat_natCast]
  refine ⟨sv, ?_⟩
  refine for_ind (fun k sl S' => S' = S1 ∧ ∃ t : Py.Slot, sl = [.drw, .dat (.int a), .dat (.int b), .dat (.int c), .dat (.int p), .dat (.int v), .dat (.int (cI a b c p k)), t, .un, .un, .un]) ⟨rfl, .un, rfl⟩ ?_ ?_
  · rintro k d sl S' N hd ⟨rfl, t, rfl⟩ hN
    obtain ⟨hkp, rfl⟩ := rng_get hd
    simp [t__law_counts_ok_3]
    refine ⟨a, b, k, p, c, rfl, ha, hb, by omega, by omega, by omega, ?_⟩
    have hN := hN [.drw, .dat (.int a), .dat (.int b), .dat (.int c), .dat (.int p), .dat (.int v), .dat (.int (cI a b c p (k + 1))), .dat (.int k), .un, .un, .un] S' ⟨rfl, _, rfl⟩
    rw [cI_succ (by omega)] at hN
    by_cases h : R a b c p k = 0
    · simp [h] at hN ⊢
      exact hN
    · simp [h] at hN ⊢
      exact hN
  rintro sl S' ⟨rfl, t, rfl⟩
  rw [rng_len, count_law hp h1 ha hb (by omega) hv]
  simp [t__law_counts_ok_4]
  refine count_ok Γ hp h1 ha hb (by omega) ?_
  simp [t__law_counts_ok_5, sp__law_int, isI, t__law_counts_ok_6, t__law_counts_ok_7, sp]
  refine for_ind (fun k sl S'' => S'' = S' ∧ ∃ t : Py.Slot, sl = [.drw, .dat (.int a), .dat (.int b), .dat (.int c), .dat (.int p), .dat (.int v), .dat (.int ((cI a b c p p : Nat) ^ v : Nat)), t, .dat (.int ((cI a b c p p : Nat) ^ v : Nat)), .dat (.int (cI a b c p k)), .un]) ⟨rfl, t, by simp [cI, cnt]⟩ ?_ ?_
  · rintro k d sl S'' N hd ⟨rfl, t, rfl⟩ hN
    obtain ⟨hkp, rfl⟩ := rng_get hd
    simp [t__law_counts_ok_8]
    refine ⟨a, b, k, p, c, rfl, ha, hb, by omega, by omega, by omega, ?_⟩
    have hN := hN [.drw, .dat (.int a), .dat (.int b), .dat (.int c), .dat (.int p), .dat (.int v), .dat (.int ((cI a b c p p : Nat) ^ v : Nat)), .dat (.int k), .dat (.int ((cI a b c p p : Nat) ^ v : Nat)), .dat (.int (cI a b c p (k + 1))), .un] S'' ⟨rfl, _, rfl⟩
    rw [cI_succ (by omega)] at hN
    by_cases h : R a b c p k = 0
    · simp [h] at hN ⊢
      exact hN
    · simp [h] at hN ⊢
      exact hN
  rintro sl S'' ⟨rfl, t, rfl⟩
  rw [rng_len]
  have fin : ∀ (g : Nat) (S3 : List Int), g ≤ 60 → t__law_counts_ok_10 Γ (ends Q E) [.drw, .dat (.int a), .dat (.int b), .dat (.int c), .dat (.int p), .dat (.int v), .dat (.int ((cI a b c p p : Nat) ^ v : Nat)), t, .dat (.int ((cI a b c p p : Nat) ^ v : Nat)), .dat (.int (cI a b c p p)), .dat (.int g)] S3 := fun g S3 hg => by
    simp [t__law_counts_ok_10]
    refine count_ok Γ hp h1 ha hb hg ?_
    simp [t__law_counts_ok_11, sp__law_int, isI]
    refine ⟨((cI a b c p p : Nat) : Int), g, 5, rfl, sb_nat (by omega), by omega, by omega, ?_⟩
    simp
    exact q _
  simp [t__law_counts_ok_9, z4]
  refine ⟨_, rfl, by decide, fun i S3 i0 i4 => ?_⟩
  have : i = 0 ∨ i = 1 ∨ i = 2 ∨ i = 3 := by omega
  have fin60 := fin 60 S3 (by decide)
  have fin59 := fin 59 S3 (by decide)
  have fin33 := fin 33 S3 (by decide)
  have fin17 := fin 17 S3 (by decide)
  have a3 : ∀ a b c d : D, atI [a, b, c, d] 3 = some d := fun _ _ _ _ => rfl
  rcases this with rfl | rfl | rfl | rfl
  · simpa using fin60
  · simpa using fin59
  · simpa using fin33
  · simp [a3]
    simpa using fin17
end K89
end
section
set_option Elab.async false
set_option linter.all false
set_option maxRecDepth 100000
namespace K89
open PySem L2 Py
theorem eq_number : fEqD (.str "number") (.str "number") = fun Q => Q (.dat (.bl true)) := by
  funext Q
  exact propext ⟨fun h => h.2.2, fun h => ⟨⟨rfl, by decide +kernel⟩, ⟨rfl, by decide +kernel⟩, h⟩⟩
theorem n1_ne (x : Int) (Q : Res → Prop) : fNeD (n1 x) (n1 x) Q = Q (.dat (.bl false)) := by
  have e : PyData.eqv (n1 x).py (n1 x).py = true := by
    have := tup_eqv [x, 1] [x, 1]
    simpa [tupD, n1] using this
  have s : shp (n1 x) := tup_shp [x, 1]
  simp [fNeD, e, s]
theorem pf__law_term_ok (Γ : Ad) : ∀ rs S Q E, sp__law_term_ok Γ rs S Q E → p__law_term_ok Γ (ends Q E) (rs.map Res.slot ++ List.replicate (9 - rs.length) .un) S := by
  rintro rs S Q E ⟨a, b, c, rfl, h1, ha, hb, hc, q⟩
  rw [e__law_term_ok]
  by_cases h0 : c = 0
  · subst h0
    simp [t__law_term_ok_1, t__law_term_ok_2, pTry]
    refine ⟨_, _, _, rfl, trivial, trivial, trivial, ?_⟩
    rw [dg_ok h1 ha hb]
    simp [refd, intD, pExF, List.lookup, t__law_term_ok_3, eq_number]
    exact q S
  simp [h0, t__law_term_ok_4]
  refine ⟨_, _, _, rfl, trivial, trivial, trivial, ?_⟩
  rw [dg_ok h1 ha hb]
  simp [refd, intD, natD, h0, t__law_term_ok_5, t__law_term_ok_6, termD, rangeD]
  refine ⟨c, topsL a b, botsL a b, rfl, ?_⟩
  simp [t__law_term_ok_7, List.lookup, t__law_term_ok_8]
  refine ⟨_, rfl, by decide, fun n S1 n0 n12 => ?_⟩
  obtain ⟨n, rfl⟩ : ∃ m : Nat, n = (m : Int) := ⟨n.toNat, by omega⟩
  have one : ∀ (m : Nat) (s7 s8 : Py.Slot) (S2 : List Int) (P : PEnds), m ≤ 12 → (∀ s7 s8 : Py.Slot, P.nx [.drw, .dat (.int a), .dat (.int b), .dat (.int c), .un, .un, .dat (.tup [termD Γ c (topsL a b) (botsL a b), rangeD Γ]), s7, s8] S2) →
      t__law_term_ok_9 Γ P [.drw, .dat (.int a), .dat (.int b), .dat (.int c), .un, .un, .dat (.tup [termD Γ c (topsL a b) (botsL a b), rangeD Γ]), .dat (.int m), s8] S2 := fun m s7 s8 S2 P hm hp => by
    simp [t__law_term_ok_9]
    refine ⟨c, a, b, m, _, rfl, ⟨rfl, h1, ha, hb⟩, hc, hm, ?_⟩
    simp [t__law_term_ok_10, sp__law_is_num]
    refine ⟨⟨_, rfl⟩, a, b, m, c, rfl, ha, hb, by omega, hc, ?_⟩
    have e := n1_ne (val a b c m)
    simp only [n1] at e
    simp [z2, n1, e]
    exact hp _ _
  simp [z2, forRun]
  refine one 0 .un .un S1 _ (by decide) fun s7 s8 => ?_
  simp [forRun]
  refine one n s7 s8 S1 _ (by omega) fun s7 s8 => ?_
  simp [forRun, t__law_term_ok_11]
  exact q S1
/-! refusals -/
theorem refd_out {Γ : Ad} {E : PX → List Int → Prop} {S : List Int} {o : Option D} {k : Option (List D)} {k' : Prop} {Qf : Option (List D) → Prop} (q : Qf (outI o k)) (he : ∀ d, Qf (some [.str "integer", d]) → E ⟨Γ.BadInteger, ["handed"], [d]⟩ S) (f : o = none → Qf k → k') : refd Γ E S o k' := by
  cases o with
  | some d => exact he d q
  | none => exact f rfl q
def QO (Q : Res → List Int → Prop) (S : List Int) (o : Option (List D)) : Prop := match o with
  | some ds => Q (.own ds) S
  | none => Q (.dat .non) S
theorem pf__law_refused (Γ : Ad) : ∀ rs S Q E, sp__law_refused Γ rs S Q E → p__law_refused Γ (ends Q E) (rs.map Res.slot ++ List.replicate (4 - rs.length) .un) S := by
  rintro rs S Q E ⟨door, r0, r1, r2, r3, r4, rfl, h0, h1, h2, h3, h4, hd, hd4, hs, q⟩
  have q : QO Q S (outc door r0 r1 r2 r3 r4) := q
  have a3 : ∀ a b c d e : D, atI [a, b, c, d, e] 3 = some d := fun _ _ _ _ _ => rfl
  have a4 : ∀ a b c d e : D, atI [a, b, c, d, e] 4 = some e := fun _ _ _ _ _ => rfl
  have wm : ((Str.ofString "most") == (Str.ofString "word")) = false := by decide +kernel
  rw [e__law_refused]
  simp [t__law_refused_1, pTry2]
  have : door = 0 ∨ door = 1 ∨ door = 2 ∨ door = 3 ∨ door = 4 := by omega
  rcases this with rfl | rfl | rfl | rfl | rfl
  · simp [t__law_refused_2, a3, a4]
    refine ⟨r0, r1, r2, r3, rfl, h0, h1, h2, h3, refd_out (Qf := QO Q S) q (fun d hd => ?_) fun e0 q => refd_out (Qf := QO Q S) q (fun d hd => ?_) fun e1 q => ?_⟩
    · refine .inl ⟨rfl, fun a dd => ?_⟩
      simp [pExF, List.lookup, z2, t__law_refused_10]
      exact hd
    · refine .inl ⟨rfl, fun a dd => ?_⟩
      simp [pExF, List.lookup, z2, t__law_refused_10]
      exact hd
    · by_cases h : 400 < intD r3
      · rw [if_pos h] at q ⊢
        refine .inr ⟨rfl, fun a dd => ?_⟩
        simp [pExF, List.lookup, z2, t__law_refused_10, wm]
        exact q
      · rw [if_neg h] at q ⊢
        refine ⟨hs, fun v => ?_⟩
        simp [t__law_refused_10]
        exact q
  · simp [t__law_refused_3, t__law_refused_4, a3, a4]
    refine ⟨r0, r1, r2, r3, r4, rfl, h0, h1, h2, h3, h4, refd_out (Qf := QO Q S) q (fun d hd => ?_) fun e0 q => refd_out (Qf := QO Q S) q (fun d hd => ?_) fun e1 q => refd_out (Qf := QO Q S) q (fun d hd => ?_) fun e2 q => ?_⟩
    · refine .inl ⟨rfl, fun a dd => ?_⟩
      simp [pExF, List.lookup, z2, t__law_refused_10]
      exact hd
    · refine .inl ⟨rfl, fun a dd => ?_⟩
      simp [pExF, List.lookup, z2, t__law_refused_10]
      exact hd
    · refine .inl ⟨rfl, fun a dd => ?_⟩
      simp [pExF, List.lookup, z2, t__law_refused_10]
      exact hd
    · by_cases h : 10 ^ 400 ≤ intD r3
      · rw [if_pos h] at q ⊢
        refine .inr ⟨rfl, fun a dd => ?_⟩
        simp [pExF, List.lookup, z2, t__law_refused_10, wm]
        exact q
      · rw [if_neg h] at q ⊢
        intro v
        simp [t__law_refused_10]
        exact q
  · simp [t__law_refused_3, t__law_refused_5, t__law_refused_6, a3, a4]
    refine ⟨r0, r1, r2, r4, rfl, h0, h1, h2, h4, refd_out (Qf := QO Q S) q (fun d hd => ?_) fun e0 q => refd_out (Qf := QO Q S) q (fun d hd => ?_) fun e1 q => ?_⟩
    · refine .inl ⟨rfl, fun a dd => ?_⟩
      simp [pExF, List.lookup, z2, t__law_refused_10]
      exact hd
    · refine .inl ⟨rfl, fun a dd => ?_⟩
      simp [pExF, List.lookup, z2, t__law_refused_10]
      exact hd
    · simp [t__law_refused_10]
      exact q
  · simp [t__law_refused_3, t__law_refused_5, t__law_refused_7, t__law_refused_8, a3, a4]
    refine ⟨r0, r1, r2, r4, r3, rfl, h0, h1, h2, h4, h3, refd_out (Qf := QO Q S) q (fun d hd => ?_) fun e0 q => refd_out (Qf := QO Q S) q (fun d hd => ?_) fun e1 q => refd_out (Qf := QO Q S) q (fun d hd => ?_) fun e2 q => ?_⟩
    · refine .inl ⟨rfl, fun a dd => ?_⟩
      simp [pExF, List.lookup, z2, t__law_refused_10]
      exact hd
    · refine .inl ⟨rfl, fun a dd => ?_⟩
      simp [pExF, List.lookup, z2, t__law_refused_10]
      exact hd
    · refine .inl ⟨rfl, fun a dd => ?_⟩
      simp [pExF, List.lookup, z2, t__law_refused_10]
      exact hd
    · by_cases h : 60 < intD r3
      · rw [if_pos h] at q ⊢
        refine .inr ⟨rfl, fun a dd => ?_⟩
        simp [pExF, List.lookup, z2, t__law_refused_10, wm]
        exact q
      · rw [if_neg h] at q ⊢
        simp [t__law_refused_10]
        exact q
  · simp [t__law_refused_3, t__law_refused_5, t__law_refused_7, t__law_refused_9, a3, a4]
    refine ⟨r0, r1, r2, rfl, h0, h1, h2, refd_out (Qf := QO Q S) q (fun d hd => ?_) fun e0 q => absurd e0 (hd4 rfl)⟩
    refine .inl ⟨rfl, fun a dd => ?_⟩
    simp [pExF, List.lookup, z2, t__law_refused_10]
    exact hd
end K89
end
section
set_option Elab.async false
set_option linter.all false
set_option maxRecDepth 100000
namespace K89
open PySem L2 Py
/-- a bad one, told -/
structure Bd (d : D) : Prop where
  no : noObj d
  s : shp (.lst [.str "integer", d])
  e : PyData.eqv (D.lst [.str "integer", d]).py (D.lst [.str "integer", d]).py = true
theorem bd_ne {d : D} (h : Bd d) (Q : Res → Prop) : fNeD (.lst [.str "integer", d]) (.lst [.str "integer", d]) Q = Q (.dat (.bl false)) := by
  simp [fNeD, h.s, h.e]
theorem told_ne {a b : D} (s : shp (.lst [a, b])) (e : PyData.eqv (D.lst [a, b]).py (D.lst [a, b]).py = true) (Q : Res → Prop) : fNeD (.lst [a, b]) (.lst [a, b]) Q = Q (.dat (.bl false)) := by
  simp [fNeD, s, e]
theorem told_eq {a b : D} (s : shp (.lst [a, b])) (e : PyData.eqv (D.lst [a, b]).py (D.lst [a, b]).py = true) (Q : Res → Prop) : fEqD (.lst [a, b]) (.lst [a, b]) Q = Q (.dat (.bl true)) := by
  simp [fEqD, s, e]
theorem ok_integer : PyData.canLay0 (.str (Str.ofString "integer")) = true := by decide +kernel
theorem shp_of {d : D} (f : d.flat = true) (l : d.py.canLay0 = true) (h : d.py.depth ≤ 50) : shp (.lst [.str "integer", d]) := by
  refine ⟨by simp [D.flat, D.flats, f], ?_⟩
  have e := ok_integer
  have : max d.py.depth 0 + 1 ≤ 64 := by omega
  simp [SeqAt.shaped, D.py, D.pys, PyData.canLay0, PyData.canLayAll0, PyData.depth, PyData.depthAll, l] at e ⊢
  exact ⟨e, by omega⟩
theorem bd_int (i : Int) : Bd (.int i) := by
  refine ⟨trivial, shp_of (by simp [D.flat]) (by simp [D.py, PyData.canLay0]) (by simp [D.py, PyData.depth]), ?_⟩
  have e : ((Str.ofString "integer") == (Str.ofString "integer")) = true := by simp
  simp [D.py, D.pys, PyData.eqv, PyData.eqvAll]
theorem bd_bl (i : Bool) : Bd (.bl i) := by
  refine ⟨trivial, shp_of (by simp [D.flat]) (by simp [D.py, PyData.canLay0]) (by simp [D.py, PyData.depth]), ?_⟩
  simp [D.py, D.pys, PyData.eqv, PyData.eqvAll]
theorem bd_non : Bd .non := by
  refine ⟨trivial, shp_of (by simp [D.flat]) (by simp [D.py, PyData.canLay0]) (by simp [D.py, PyData.depth]), ?_⟩
  simp [D.py, D.pys, PyData.eqv, PyData.eqvAll]
theorem bd_s1 : Bd (.str "1") := ⟨trivial, ⟨rfl, by decide +kernel⟩, by simp [D.py, D.pys, PyData.eqv, PyData.eqvAll]⟩
theorem bd_s0 : Bd (.str "0") := ⟨trivial, ⟨rfl, by decide +kernel⟩, by simp [D.py, D.pys, PyData.eqv, PyData.eqvAll]⟩
theorem bd_11 : Bd (.tup [.int 1, .int 1]) := ⟨trivial, shp_of (tup_flat [1, 1]) (tup_lay [1, 1]) (by rw [show (D.tup [.int 1, .int 1]) = tupD [1, 1] from rfl, tup_depth]; decide), by simp [D.py, D.pys, PyData.eqv, PyData.eqvAll]⟩
section
variable {Γ : Ad} {door : Nat} {r0 r1 r2 r3 r4 : D} {S : List Int} {Q : Res → List Int → Prop} {E : PX → List Int → Prop}
theorem ref_some {ds : List D} {i : Int} (hi : i = (door : Int)) (h : outc door r0 r1 r2 r3 r4 = some ds) (h0 : noObj r0) (h1 : noObj r1) (h2 : noObj r2) (h3 : noObj r3) (h4 : noObj r4) (hd : door < 5) (k4 : door = 4 → dgBad r0 r1 r2 ≠ none) (hs : sb 70 (intD r2)) (q : Q (.own ds) S) :
    sp__law_refused Γ [.dat (.int i), .dat (.lst [r0, r1, r2, r3, r4])] S Q E := ⟨door, r0, r1, r2, r3, r4, by rw [hi], h0, h1, h2, h3, h4, hd, k4, hs, by rw [h]; exact q⟩
theorem ref_none {i : Int} (hi : i = (door : Int)) (h : outc door r0 r1 r2 r3 r4 = none) (h0 : noObj r0) (h1 : noObj r1) (h2 : noObj r2) (h3 : noObj r3) (h4 : noObj r4) (hd : door < 4) (hs : sb 70 (intD r2)) (q : Q (.dat .non) S) :
    sp__law_refused Γ [.dat (.int i), .dat (.lst [r0, r1, r2, r3, r4])] S Q E := ⟨door, r0, r1, r2, r3, r4, by rw [hi], h0, h1, h2, h3, h4, by omega, fun z => by omega, hs, by rw [h]; exact q⟩
end
theorem pr_some {i : Int} (h : (decide (i < 2) || decide (200 < i) || divs i) = true) : prBad (.int i) = some (.int i) := by
  simp at h
  have : i < 2 ∨ 200 < i ∨ divs i = true := by
    rcases h with (h | h) | h
    · exact .inl h
    · exact .inr (.inl h)
    · exact .inr (.inr h)
  exact if_pos this
theorem pr_none {i : Int} (h : (decide (i < 2) || decide (200 < i) || divs i) = false) : prBad (.int i) = none := by
  simp at h
  exact if_neg (by
    rintro (z | z | z)
    · omega
    · omega
    · rw [h.2] at z; cases z)
/-- the tests of the program by one bad value -/
theorem out_first {door : Nat} {r0 r1 r2 r3 r4 d : D} (h : dgBad r0 r1 r2 = some d) : outc door r0 r1 r2 r3 r4 = some [.str "integer", d] := by
  unfold outc
  rw [h]
  rfl
theorem dg_ok2 {b c : Int} (hb : b = 0) : dgBad (.int 1) (.int b) (.int c) = none := by
  subst hb
  rfl
theorem out_prime {door : Nat} {b c : Int} {m : Int} {d : D} (hb : b = 0) (hm : 0 ≤ m) (hd : door = 1 ∨ door = 2 ∨ door = 3) (h : prBad d = some d) : outc door (.int 1) (.int b) (.int c) (.int m) d = some [.str "integer", d] := by
  unfold outc
  have e : plBad (.int m) = none := if_neg (by omega)
  rw [dg_ok2 hb, h]
  rcases hd with rfl | rfl | rfl
  · show outI none (outI (plBad (.int m)) _) = _
    rw [e]; rfl
  · rfl
  · rfl
theorem out_good {door : Nat} {b c : Int} {m : Int} {d : D} (hb : b = 0) (hm : 0 ≤ m) (hm2 : m ≤ 60) (hd : door = 1 ∨ door = 2 ∨ door = 3) (h : prBad d = none) : outc door (.int 1) (.int b) (.int c) (.int m) d = none := by
  unfold outc
  have e : plBad (.int m) = none := if_neg (by omega)
  rw [dg_ok2 hb, h]
  rcases hd with rfl | rfl | rfl
  · show outI none (outI (plBad (.int m)) (outI none (if 10 ^ 400 ≤ m then _ else _))) = _
    have : ¬ (10 : Int) ^ 400 ≤ m := by
      have : (60 : Int) < 10 ^ 400 := by decide +kernel
      omega
    rw [e, if_neg this]; rfl
  · rfl
  · show outI none (outI none (outI (plBad (.int m)) (if 60 < m then _ else _))) = _
    rw [e, if_neg (by omega)]; rfl
theorem out_place {door : Nat} {b c : Int} {p d : D} (hb : b = 0) (hd : door = 0 ∨ door = 1 ∨ door = 3) (hp : prBad p = none) (h : plBad d = some d) : outc door (.int 1) (.int b) (.int c) d p = some [.str "integer", d] := by
  unfold outc
  rw [dg_ok2 hb, h, hp]
  rcases hd with rfl | rfl | rfl <;> rfl
theorem pr3 : prBad (.int 3) = none := pr_none (by decide +kernel)
theorem out_400 : outc 0 (.int 1) (.int 0) (.int 1) (.int 400) (.int 3) = none := rfl
theorem out_401 : outc 0 (.int 1) (.int 0) (.int 1) (.int 401) (.int 3) = some [.str "place", .int 400] := rfl
theorem out_60 : outc 3 (.int 1) (.int 0) (.int 1) (.int 60) (.int 3) = none := by
  unfold outc
  rw [dg_ok2 rfl, pr3]
  rfl
theorem out_61 : outc 3 (.int 1) (.int 0) (.int 1) (.int 61) (.int 3) = some [.str "power", .int 60] := by
  unfold outc
  rw [dg_ok2 rfl, pr3]
  rfl
theorem out_low {m : Int} (h : 0 ≤ m) (h2 : m < 10 ^ 400) : outc 1 (.int 1) (.int 0) (.int 1) (.int m) (.int 3) = none := by
  unfold outc
  have e : plBad (.int m) = none := if_neg (by omega)
  rw [dg_ok2 rfl, pr3]
  show outI none (outI (plBad (.int m)) (outI none (if 10 ^ 400 ≤ m then _ else _))) = _
  rw [e, if_neg (Int.not_le.mpr h2)]
  rfl
theorem out_high {m : Int} (h : 0 ≤ m) (h2 : 10 ^ 400 ≤ m) : outc 1 (.int 1) (.int 0) (.int 1) (.int m) (.int 3) = some [.str "figures", .int 400] := by
  unfold outc
  have e : plBad (.int m) = none := if_neg (by omega)
  rw [dg_ok2 rfl, pr3]
  show outI none (outI (plBad (.int m)) (outI none (if 10 ^ 400 ≤ m then _ else _))) = _
  rw [e, if_pos h2]
  rfl
end K89
end
section
set_option Elab.async false
set_option linter.all false
set_option maxRecDepth 100000
namespace K89
open PySem L2 Py
theorem cm_lit {x y : Int} (h : decide (x.natAbs.log2 + y.natAbs.log2 < 1000000) = true) : CMulW x y := by
  unfold CMulW
  exact of_decide_eq_true h
theorem G15 (sp : PSpec) (p : PSm) {Q : Res → List Int → Prop} {E : PX → List Int → Prop} (a b c : Py.Slot) (S : List Int)
    (H1 : ∀ (S : List Int) (Q : Res → List Int → Prop) (E : PX → List Int → Prop), Q (.dat .non) S → sp [.dat (.int 3), .dat (.lst [.int 1, .int 0, .int 1, .int 60, .int 3])] S Q E)
    (H2 : ∀ (S : List Int) (Q : Res → List Int → Prop) (E : PX → List Int → Prop), Q (.own [.str "power", .int 60]) S → sp [.dat (.int 3), .dat (.lst [.int 1, .int 0, .int 1, .int 61, .int 3])] S Q E)
    (h : p (ends Q E) [.drw, a, b, c, .un] S) : (pSeq (pIf (pOr (pTst (pBin fNotN (pCall (sp) (pCons (pC (.int 3)) (pCons (pLst (pCons (pC (.int 1)) (pCons (pC (.int 0)) (pCons (pC (.int 1)) (pCons (pC (.int 60)) (pCons (pC (.int 3)) (pNil))))))) (pNil)))) (pC .non))) (pTst (pBin fNe (pCall (sp) (pCons (pC (.int 3)) (pCons (pLst (pCons (pC (.int 1)) (pCons (pC (.int 0)) (pCons (pC (.int 1)) (pCons (pC (.int 61)) (pCons (pC (.int 3)) (pNil))))))) (pNil)))) (pLst (pCons (pC (.str "power")) (pCons (pC (.int 60)) (pNil))))))) (pSeq (pRet (pC (.bl false))) (pNext)) (pNext)) p) (ends Q E) [.drw, a, b, c, .un] S := by
  have e2 := told_ne (a := .str "power") (b := .int 60) ⟨rfl, by decide +kernel⟩ (by decide +kernel)
  simp [z5]
  refine H1 _ _ _ ?_
  simp [z5]
  refine H2 _ _ _ ?_
  simp [z2, e2]
  exact h
theorem K1 (Γ : Ad) : ∀ (S : List Int) (Q : Res → List Int → Prop) (E : PX → List Int → Prop), Q (.dat .non) S → sp__law_refused Γ [.dat (.int 3), .dat (.lst [.int 1, .int 0, .int 1, .int 60, .int 3])] S Q E := fun S Q E h => ref_none (door := 3) (by decide) out_60 trivial trivial trivial trivial trivial (by decide) (by unfold sb; decide) h
theorem K2 (Γ : Ad) : ∀ (S : List Int) (Q : Res → List Int → Prop) (E : PX → List Int → Prop), Q (.own [.str "power", .int 60]) S → sp__law_refused Γ [.dat (.int 3), .dat (.lst [.int 1, .int 0, .int 1, .int 61, .int 3])] S Q E := fun S Q E h => ref_some (door := 3) (by decide) out_61 trivial trivial trivial trivial trivial (by decide) (by decide) (by unfold sb; decide) h
theorem F15' (Γ : Ad) {Q : Res → List Int → Prop} {E : PX → List Int → Prop} (h : ∀ (a b c : Py.Slot) (S : List Int), t__law_refusals_ok_16 Γ (ends Q E) [.drw, a, b, c, .un] S) : ∀ (a b c : Py.Slot) (S : List Int), t__law_refusals_ok_15 Γ (ends Q E) [.drw, a, b, c, .un] S := fun a b c S =>
  G15 (sp__law_refused Γ) (t__law_refusals_ok_16 Γ) a b c S (K1 Γ) (K2 Γ) (h a b c S)
theorem sc (x : Str) : sb 70 (intD (.str x)) := by unfold sb; simp [intD]
section
variable (Γ : Ad) {Q : Res → List Int → Prop} {E : PX → List Int → Prop} (q : ∀ S' : List Int, Q (.dat (.bl true)) S')
include q
theorem F16 : ∀ (a b c : Py.Slot) (S : List Int), t__law_refusals_ok_16 Γ (ends Q E) [.drw, a, b, c, .un] S := fun a b c S => by
  have p1 : CPw 10 64 := by unfold CPw; decide +kernel
  have p2 : CPw 10 16 := by unfold CPw; decide +kernel
  simp [t__law_refusals_ok_16, p1, p2]
  refine ⟨cm_lit (by decide +kernel), cm_lit (by decide +kernel), cm_lit (by decide +kernel), cm_lit (by decide +kernel), cm_lit (by decide +kernel), cm_lit (by decide +kernel), ?_⟩
  simp [t__law_refusals_ok_17, z5]
  refine ref_none (door := 1) (by decide) (out_low (by decide +kernel) (by decide +kernel)) trivial trivial trivial trivial trivial (by decide) (by unfold sb; decide) ?_
  simp [t__law_refusals_ok_18, z5]
  refine ref_some (door := 1) (by decide) (out_high (by decide +kernel) (by decide +kernel)) trivial trivial trivial trivial trivial (by decide) (by decide) (by unfold sb; decide) ?_
  have e := told_eq (a := .str "figures") (b := .int 400) ⟨rfl, by decide +kernel⟩ (by decide +kernel)
  simp [z2, e]
  exact q _
theorem F14 : ∀ (a b c : Py.Slot) (S : List Int), t__law_refusals_ok_14 Γ (ends Q E) [.drw, a, b, c, .un] S := fun a b c S => by
  have e1 := told_ne (a := .str "place") (b := .int 400) ⟨rfl, by decide +kernel⟩ (by decide +kernel)
  simp [t__law_refusals_ok_14, z5]
  refine ref_none (door := 0) (by decide) out_400 trivial trivial trivial trivial trivial (by decide) (by unfold sb; decide) ?_
  simp [z5]
  refine ref_some (door := 0) (by decide) out_401 trivial trivial trivial trivial trivial (by decide) (by decide) (by unfold sb; decide) ?_
  simp [z2, e1]
  exact F15' Γ (F16 Γ (E := E) q) a b c S
omit q in
theorem F13 : ∀ (door : Nat) (d : D) (c : Py.Slot) (S : List Int) (P : PEnds), (door = 0 ∨ door = 1 ∨ door = 3) → Bd d → plBad d = some d → P.nx [.drw, .dat (.int door), .dat d, c, .un] S → t__law_refusals_ok_13 Γ P [.drw, .dat (.int door), .dat d, c, .un] S := fun door d c S P hd b hb hp => by
  simp [t__law_refusals_ok_13, z5]
  refine ref_some (door := door) rfl (out_place rfl hd pr3 hb) trivial trivial trivial b.no trivial (by omega) (by omega) (by unfold sb; decide) ?_
  simp [z2, bd_ne b]
  exact hp
theorem F12 : ∀ (d : D) (a c : Py.Slot) (S : List Int), Bd d → plBad d = some d → t__law_refusals_ok_12 Γ (ends Q E) [.drw, a, .dat d, c, .un] S := fun d a c S b hb => by
  simp [t__law_refusals_ok_12, z3, forRun]
  refine F13 Γ 0 d c S _ (.inl rfl) b hb ?_
  simp [forRun]
  refine F13 Γ 1 d c S _ (.inr (.inl rfl)) b hb ?_
  simp [forRun]
  refine F13 Γ 3 d c S _ (.inr (.inr rfl)) b hb ?_
  simp [forRun]
  exact (F14 Γ (E := E) q) _ _ _ S
theorem F11 : ∀ (a b c : Py.Slot) (S : List Int), t__law_refusals_ok_11 Γ (ends Q E) [.drw, a, b, c, .un] S := fun a b c S => by
  have a3 : ∀ a b c d : D, atI [a, b, c, d] 3 = some d := fun _ _ _ _ => rfl
  simp [t__law_refusals_ok_11, z4]
  refine ⟨_, rfl, by decide, fun i S1 i0 i4 => ?_⟩
  have : i = 0 ∨ i = 1 ∨ i = 2 ∨ i = 3 := by omega
  rcases this with rfl | rfl | rfl | rfl
  · simp; exact (F12 Γ (E := E) q) _ a c S1 (bd_int _) rfl
  · simp; exact (F12 Γ (E := E) q) _ a c S1 bd_non rfl
  · simp; exact (F12 Γ (E := E) q) _ a c S1 (bd_bl _) rfl
  · simp [a3]; exact (F12 Γ (E := E) q) _ a c S1 bd_s0 rfl
theorem F10 : ∀ (door : Nat) (d : D) (g : Int) (S : List Int), (door = 1 ∨ door = 2 ∨ door = 3) → Bd d → prBad d = some d → prBad (.int g) = none → t__law_refusals_ok_10 Γ (ends Q E) [.drw, .dat (.int door), .dat d, .dat (.int g), .un] S := fun door d g S hd b hb hg => by
  simp [t__law_refusals_ok_10, z5]
  refine ref_some (door := door) rfl (out_prime rfl (by decide) hd hb) trivial trivial trivial trivial b.no (by omega) (by omega) (by unfold sb; decide) ?_
  simp [z2, bd_ne b, z5]
  refine ref_none (door := door) rfl (out_good rfl (by decide) (by decide) hd hg) trivial trivial trivial trivial trivial (by omega) (by unfold sb; decide) ?_
  simp
  exact (F11 Γ (E := E) q) _ _ _ S
theorem F7 : ∀ (d : D) (a c : Py.Slot) (S : List Int), Bd d → prBad d = some d → t__law_refusals_ok_7 Γ (ends Q E) [.drw, a, .dat d, c, .un] S := fun d a c S b hb => by
  simp [t__law_refusals_ok_7]
  refine ⟨_, rfl, by decide, fun i S1 i0 i3 => ?_⟩
  obtain ⟨k, rfl⟩ : ∃ k : Nat, i = (k : Int) := ⟨i.toNat, by omega⟩
  have e : (1 : Int) + (k : Int) = ((1 + k : Nat) : Int) := by omega
  have p19 : prBad (.int 19) = none := pr_none (by decide +kernel)
  have p199 : prBad (.int 199) = none := pr_none (by decide +kernel)
  simp [t__law_refusals_ok_8, t__law_refusals_ok_9]
  refine ⟨_, rfl, by decide, fun j S2 j0 j12 => ?_⟩
  rw [e]
  by_cases hj : j = 11
  · simp [hj]
    exact (F10 Γ (E := E) q) (1 + k) d 199 S2 (by omega) b hb p199
  · simp [hj]
    exact (F10 Γ (E := E) q) (1 + k) d 19 S2 (by omega) b hb p19
theorem F6 : ∀ (a b c : Py.Slot) (S : List Int), t__law_refusals_ok_6 Γ (ends Q E) [.drw, a, b, c, .un] S := fun a b c S => by
  have b3 : ∀ x0 x1 x2 x3 x4 x5 x6 x7 x8 x9 : D, atI [x0, x1, x2, x3, x4, x5, x6, x7, x8, x9] 3 = some x3 := fun _ _ _ _ _ _ _ _ _ _ => rfl
  have b4 : ∀ x0 x1 x2 x3 x4 x5 x6 x7 x8 x9 : D, atI [x0, x1, x2, x3, x4, x5, x6, x7, x8, x9] 4 = some x4 := fun _ _ _ _ _ _ _ _ _ _ => rfl
  have b5 : ∀ x0 x1 x2 x3 x4 x5 x6 x7 x8 x9 : D, atI [x0, x1, x2, x3, x4, x5, x6, x7, x8, x9] 5 = some x5 := fun _ _ _ _ _ _ _ _ _ _ => rfl
  have b6 : ∀ x0 x1 x2 x3 x4 x5 x6 x7 x8 x9 : D, atI [x0, x1, x2, x3, x4, x5, x6, x7, x8, x9] 6 = some x6 := fun _ _ _ _ _ _ _ _ _ _ => rfl
  have b7 : ∀ x0 x1 x2 x3 x4 x5 x6 x7 x8 x9 : D, atI [x0, x1, x2, x3, x4, x5, x6, x7, x8, x9] 7 = some x7 := fun _ _ _ _ _ _ _ _ _ _ => rfl
  have b8 : ∀ x0 x1 x2 x3 x4 x5 x6 x7 x8 x9 : D, atI [x0, x1, x2, x3, x4, x5, x6, x7, x8, x9] 8 = some x8 := fun _ _ _ _ _ _ _ _ _ _ => rfl
  have b9 : ∀ x0 x1 x2 x3 x4 x5 x6 x7 x8 x9 : D, atI [x0, x1, x2, x3, x4, x5, x6, x7, x8, x9] 9 = some x9 := fun _ _ _ _ _ _ _ _ _ _ => rfl
  have z10 : (10 : Nat) ≤ sizeLine := by decide
  simp [t__law_refusals_ok_6, z10]
  refine ⟨_, rfl, by decide, fun i S1 i0 i9 => ?_⟩
  have : i = 0 ∨ i = 1 ∨ i = 2 ∨ i = 3 ∨ i = 4 ∨ i = 5 ∨ i = 6 ∨ i = 7 ∨ i = 8 ∨ i = 9 := by omega
  rcases this with rfl | rfl | rfl | rfl | rfl | rfl | rfl | rfl | rfl | rfl
  · simp; exact (F7 Γ (E := E) q) _ a c S1 (bd_int _) (pr_some (by decide +kernel))
  · simp; exact (F7 Γ (E := E) q) _ a c S1 (bd_int _) (pr_some (by decide +kernel))
  · simp; exact (F7 Γ (E := E) q) _ a c S1 (bd_int _) (pr_some (by decide +kernel))
  · simp [b3]; exact (F7 Γ (E := E) q) _ a c S1 (bd_int _) (pr_some (by decide +kernel))
  · simp [b4]; exact (F7 Γ (E := E) q) _ a c S1 (bd_int _) (pr_some (by decide +kernel))
  · simp [b5]; exact (F7 Γ (E := E) q) _ a c S1 (bd_int _) (pr_some (by decide +kernel))
  · simp [b6]; exact (F7 Γ (E := E) q) _ a c S1 (bd_int _) (pr_some (by decide +kernel))
  · simp [b7]; exact (F7 Γ (E := E) q) _ a c S1 (bd_int _) (pr_some (by decide +kernel))
  · simp [b8]; exact (F7 Γ (E := E) q) _ a c S1 (bd_bl _) rfl
  · simp [b9]; exact (F7 Γ (E := E) q) _ a c S1 bd_non rfl
theorem F4 : ∀ (door : Nat) (d : D) (c : Py.Slot) (S : List Int), door < 5 → Bd d → okB d = false → t__law_refusals_ok_4 Γ (ends Q E) [.drw, .dat (.int door), .dat d, c, .un] S := fun door d c S hd b hb => by
  have k1 : ∀ c : D, dgBad (.int 4) d c = some d := fun c => by
    unfold dgBad
    rw [if_neg (by decide), if_pos hb]
  have k2 : dgBad (.int 1) (.int 4) (.tup [.int 1, .int 1]) = some (.tup [.int 1, .int 1]) := rfl
  simp [t__law_refusals_ok_4, z5]
  refine ref_some (door := door) rfl (out_first (k1 _)) trivial b.no trivial trivial trivial hd (fun _ z => by rw [k1] at z; cases z) (sc _) ?_
  simp [z2, bd_ne b, t__law_refusals_ok_5, z5]
  refine ref_some (door := door) rfl (out_first k2) trivial trivial trivial trivial trivial hd (fun _ z => by rw [k2] at z; cases z) (by unfold sb; decide) ?_
  simp [z2, bd_ne bd_11]
  exact (F6 Γ (E := E) q) _ _ _ S
theorem F3 : ∀ (door : Nat) (b c : Py.Slot) (S : List Int), door < 5 → t__law_refusals_ok_3 Γ (ends Q E) [.drw, .dat (.int door), b, c, .un] S := fun door b c S hd => by
  have a3 : ∀ a b c d : D, atI [a, b, c, d] 3 = some d := fun _ _ _ _ => rfl
  simp [t__law_refusals_ok_3, z4]
  refine ⟨_, rfl, by decide, fun i S1 i0 i4 => ?_⟩
  have : i = 0 ∨ i = 1 ∨ i = 2 ∨ i = 3 := by omega
  rcases this with rfl | rfl | rfl | rfl
  · simp; exact (F4 Γ (E := E) q) door _ c S1 hd (bd_int _) rfl
  · simp; exact (F4 Γ (E := E) q) door _ c S1 hd (bd_int _) rfl
  · simp; exact (F4 Γ (E := E) q) door _ c S1 hd (bd_bl _) rfl
  · simp [a3]; exact (F4 Γ (E := E) q) door _ c S1 hd bd_non rfl
theorem F2 : ∀ (door : Nat) (d : D) (c : Py.Slot) (S : List Int), door < 5 → Bd d → okA d = false → t__law_refusals_ok_2 Γ (ends Q E) [.drw, .dat (.int door), .dat d, c, .un] S := fun door d c S hd b hb => by
  have k1 : ∀ b c : D, dgBad d b c = some d := fun _ c => by
    unfold dgBad
    rw [if_pos hb]
  simp [t__law_refusals_ok_2, z5]
  refine ref_some (door := door) rfl (out_first (k1 _ _)) b.no trivial trivial trivial trivial hd (fun _ z => by rw [k1] at z; cases z) (sc _) ?_
  simp [z2, bd_ne b]
  exact (F3 Γ (E := E) q) door _ _ S hd
end
theorem pf__law_refusals_ok (Γ : Ad) : ∀ rs S Q E, sp__law_refusals_ok Γ rs S Q E → p__law_refusals_ok Γ (ends Q E) (rs.map Res.slot ++ List.replicate (5 - rs.length) .un) S := by
  rintro rs S Q E ⟨rfl, q⟩
  rw [e__law_refusals_ok]
  simp
  refine ⟨_, rfl, by decide, fun i S1 i0 i5 => ?_⟩
  obtain ⟨k, rfl⟩ : ∃ k : Nat, i = (k : Int) := ⟨i.toNat, by omega⟩
  have a3 : ∀ a b c d e : D, atI [a, b, c, d, e] 3 = some d := fun _ _ _ _ _ => rfl
  have a4 : ∀ a b c d e : D, atI [a, b, c, d, e] 4 = some e := fun _ _ _ _ _ => rfl
  simp [t__law_refusals_ok_1, z5]
  refine ⟨_, rfl, by decide, fun i S2 j0 j5 => ?_⟩
  have : i = 0 ∨ i = 1 ∨ i = 2 ∨ i = 3 ∨ i = 4 := by omega
  rcases this with rfl | rfl | rfl | rfl | rfl
  · simp; exact (F2 Γ (E := E) q) k _ .un S2 (by omega) (bd_int _) rfl
  · simp; exact (F2 Γ (E := E) q) k _ .un S2 (by omega) (bd_int _) rfl
  · simp; exact (F2 Γ (E := E) q) k _ .un S2 (by omega) (bd_bl _) rfl
  · simp [a3]; exact (F2 Γ (E := E) q) k _ .un S2 (by omega) bd_non rfl
  · simp [a4]; exact (F2 Γ (E := E) q) k _ .un S2 (by omega) bd_s1 rfl
end K89
end
section
set_option Elab.async false
set_option linter.all false
set_option maxRecDepth 100000
namespace K89
open PySem L2 Py
theorem beq_nat (x : Nat) : (((x : Nat) : Int) == 0) = (x == 0) := by
  rw [Bool.eq_iff_iff, beq_iff_eq, beq_iff_eq]
  omega
theorem tb_tn {a b p : Nat} {c : Int} (hp : 0 < p) : TB a b c p = (TN a b (c % p).toNat p).map fun n => ((n : Nat) : Int) := by
  unfold TB TN
  rw [List.map_map]
  refine List.map_congr_left fun n _ => ?_
  exact R_eq a b p n c hp
theorem find_tn (L : List Nat) : (L.map fun n => ((n : Nat) : Int)).findIdx? (· == 0) = L.findIdx? (· == 0) := by
  rw [List.findIdx?_map]
  congr 1
  funext n
  show (((n : Nat) : Int) == 0) = (n == 0)
  exact beq_nat n
theorem count_tn (L : List Nat) : (L.map fun n => ((n : Nat) : Int)).count 0 = L.count 0 := by
  induction L with
  | nil => rfl
  | cons x r ih =>
    have e := beq_nat x
    rw [List.map_cons, List.count_cons, List.count_cons, ih, e]
theorem chkL_at {p : Nat} (h : p ∈ PL) : (TN 1 0 (p - 1) p).findIdx? (· == 0) = some 1 ∧ (TN 1 0 (p - 1) p).count 0 = p - 1 ∧ (TN 1 0 0 p).findIdx? (· == 0) = none ∧ (TN 1 0 0 p).count 0 = 0 := by
  have := List.all_eq_true.mp chkL_all p h
  simp only [chkL, Bool.and_eq_true, decide_eq_true_eq] at this
  exact ⟨this.1.1.1, this.1.1.2, this.1.2, this.2⟩
theorem lift_1 {p : Nat} (hp : 2 ≤ p) (l : Int) : ((l * p - 1) % (p : Int)).toNat = p - 1 := by
  have : (l * p - 1) % (p : Int) = p - 1 := by
    rw [show l * (p : Int) - 1 = (p - 1) + (p : Int) * (l - 1) by rw [Int.mul_sub, Int.mul_comm (p : Int) l]; omega, Int.add_mul_emod_self_left]
    exact Int.emod_eq_of_lt (by omega) (by omega)
  omega
theorem lift_0 {p : Nat} (l : Int) : ((l * p) % (p : Int)).toNat = 0 := by
  rw [Int.mul_emod_left]
  rfl
theorem cI_of {a b p k : Nat} {c : Int} (hp : 0 < p) (h : (TN a b (c % p).toNat p).count 0 = k) : cI a b c p p = p - k := by
  have h1 := cI_count (a := a) (b := b) (c := c) hp p
  have h2 : ((List.range p).map (R a b c p)).count 0 = k := by
    show (TB a b c p).count 0 = k
    rw [tb_tn hp, count_tn, h]
  omega
section
variable (Γ : Ad) {P : PEnds} (q : ∀ S' : List Int, P.rt (.dat (.bl true)) S') {x : D} {a b : Nat} {c : Int} (h1 : 1 ≤ a) (ha : a ≤ 4) (hb : b ≤ 4) (hc : sb 70 c)
include q h1 ha hb hc
theorem L11 (s5 s6 s7 : Py.Slot) (S : List Int) : t_law_11 Γ P [.dat x, .drw, .dat (.int a), .dat (.int b), .dat (.int c), s5, s6, s7] S := by
  have p3 : 3 ∈ PL := by simp [PL]
  have e1 : (TB 2 0 1 3).findIdx? (· == 0) = some 2 := by
    rw [tb_tn (by decide), find_tn]
    exact chk_23.1
  have e2 : (TB 1 0 1 3).findIdx? (· == 0) = none := by
    rw [tb_tn (by decide), find_tn]
    exact chk_23.2
  simp [t_law_11]
  refine ⟨2, 0, 3, 1, .int 2, rfl, by decide, by decide, by decide, p3, by rw [e1]; rfl, ?_⟩
  simp
  refine ⟨1, 0, 3, 1, .non, rfl, by decide, by decide, by decide, p3, by rw [e2]; rfl, ?_⟩
  simp [t_law_12]
  refine ⟨a, b, c, rfl, h1, ha, hb, hc, fun S1 => ?_⟩
  simp [t_law_13]
  exact ⟨rfl, fun S2 => q S2⟩
theorem L9 {p : Nat} {l : Int} (hp : p ∈ PL) (hl : -4 ≤ l ∧ l ≤ 4) (s6 : Py.Slot) (S : List Int) : t_law_9 Γ P [.dat x, .drw, .dat (.int a), .dat (.int b), .dat (.int c), .dat (.int p), s6, .dat (.int l)] S := by
  obtain ⟨p2, p19⟩ := pl_bd hp
  obtain ⟨k1, k2, k3, k4⟩ := chkL_at hp
  have cm : CMulW l p := cmulb (m := 3) (n := 5) (by unfold sb; omega) (sb_nat (by omega)) (by decide)
  have cp : CMulW (p : Int) p := cmulb (m := 5) (n := 5) (sb_nat (by omega)) (sb_nat (by omega)) (by decide)
  have cp2 : CMulW ((p : Int) * p) p := cmulb (m := 10) (n := 5) (sb_mul (m := 5) (n := 5) (sb_nat (by omega)) (sb_nat (by omega))) (sb_nat (by omega)) (by decide)
  have f1 : (TB 1 0 (l * p - 1) p).findIdx? (· == 0) = some 1 := by
    rw [tb_tn (by omega), find_tn, lift_1 p2]
    exact k1
  have f0 : (TB 1 0 (l * p) p).findIdx? (· == 0) = none := by
    rw [tb_tn (by omega), find_tn, lift_0]
    exact k3
  have c0 : cI 1 0 (l * p) p p = p := by
    have := cI_of (a := 1) (b := 0) (c := l * p) (p := p) (k := 0) (by omega) (by rw [lift_0]; exact k4)
    omega
  have c1 : cI 1 0 (l * p - 1) p p = 1 := by
    have := cI_of (a := 1) (b := 0) (c := l * p - 1) (p := p) (k := p - 1) (by omega) (by rw [lift_1 p2]; exact k2)
    omega
  simp [t_law_9, cm]
  refine ⟨1, 0, p, _, .int 1, rfl, by decide, by decide, by decide, hp, by rw [f1]; rfl, ?_⟩
  simp [cm]
  refine ⟨1, 0, p, _, .non, rfl, by decide, by decide, by decide, hp, by rw [f0]; rfl, ?_⟩
  simp [t_law_10, cm]
  refine count_ok Γ (a := 1) (b := 0) (e := 3) hp (by decide) (by decide) (by decide) (by decide) ?_
  have e3 : (p : Int) ^ 3 = (p : Int) * p * p := by rw [Int.pow_succ, Int.pow_succ, Int.pow_succ, Int.pow_zero, Int.one_mul]
  rw [c0]
  simp [cp, cp2, e3, cm]
  refine count_ok Γ (a := 1) (b := 0) (e := 3) hp (by decide) (by decide) (by decide) (by decide) ?_
  rw [c1]
  simp
  exact L11 Γ q h1 ha hb hc _ _ _ S
theorem L5 (s5 s6 s7 : Py.Slot) (S : List Int) : t_law_5 Γ P [.dat x, .drw, .dat (.int a), .dat (.int b), .dat (.int c), s5, s6, s7] S := by
  have z8 : (8 : Nat) ≤ sizeLine := by decide
  have rest : ∀ (p : Nat) (S : List Int), p ∈ PL → t_law_6 Γ P [.dat x, .drw, .dat (.int a), .dat (.int b), .dat (.int c), .dat (.int p), s6, s7] S := fun p S hp => by
    obtain ⟨p2, p19⟩ := pl_bd hp
    simp [t_law_6]
    refine ⟨a, b, p, c, rfl, ha, hb, by omega, by omega, ?_⟩
    simp [t_law_7]
    refine ⟨a, b, p, c, _, rfl, h1, ha, hb, hp, rfl, ?_⟩
    simp
    refine ⟨a, b, p, c, rfl, h1, ha, hb, hp, fun S1 => ?_⟩
    simp [t_law_8]
    refine ⟨9, rfl, by decide, fun l S2 l0 l9 => ?_⟩
    simp
    exact L9 Γ q h1 ha hb hc hp (by omega) _ S2
  have b3 : ∀ x0 x1 x2 x3 x4 x5 x6 x7 : D, atI [x0, x1, x2, x3, x4, x5, x6, x7] 3 = some x3 := fun _ _ _ _ _ _ _ _ => rfl
  have b4 : ∀ x0 x1 x2 x3 x4 x5 x6 x7 : D, atI [x0, x1, x2, x3, x4, x5, x6, x7] 4 = some x4 := fun _ _ _ _ _ _ _ _ => rfl
  have b5 : ∀ x0 x1 x2 x3 x4 x5 x6 x7 : D, atI [x0, x1, x2, x3, x4, x5, x6, x7] 5 = some x5 := fun _ _ _ _ _ _ _ _ => rfl
  have b6 : ∀ x0 x1 x2 x3 x4 x5 x6 x7 : D, atI [x0, x1, x2, x3, x4, x5, x6, x7] 6 = some x6 := fun _ _ _ _ _ _ _ _ => rfl
  have b7 : ∀ x0 x1 x2 x3 x4 x5 x6 x7 : D, atI [x0, x1, x2, x3, x4, x5, x6, x7] 7 = some x7 := fun _ _ _ _ _ _ _ _ => rfl
  simp [t_law_5, z8]
  refine ⟨8, rfl, by decide, fun i S1 i0 i8 => ?_⟩
  have : i = 0 ∨ i = 1 ∨ i = 2 ∨ i = 3 ∨ i = 4 ∨ i = 5 ∨ i = 6 ∨ i = 7 := by omega
  rcases this with rfl | rfl | rfl | rfl | rfl | rfl | rfl | rfl
  · simp; exact rest 2 S1 (by simp [PL])
  · simp; exact rest 3 S1 (by simp [PL])
  · simp; exact rest 5 S1 (by simp [PL])
  · simp [b3]; exact rest 7 S1 (by simp [PL])
  · simp [b4]; exact rest 11 S1 (by simp [PL])
  · simp [b5]; exact rest 13 S1 (by simp [PL])
  · simp [b6]; exact rest 17 S1 (by simp [PL])
  · simp [b7]; exact rest 19 S1 (by simp [PL])
end
theorem pf_law (Γ : Ad) : ∀ rs S Q E, sp_law rs S Q E → p_law Γ (ends Q E) (rs.map Res.slot ++ List.replicate (8 - rs.length) .un) S := by
  rintro rs S Q E ⟨ns, rfl, hl, q⟩
  have p19 : CPw 10 19 := by unfold CPw; decide +kernel
  have p9 : CPw 10 9 := by unfold CPw; decide +kernel
  rw [e_law]
  refine ⟨?_, by simp, ?_⟩
  · intro s hs
    simp at hs
    rcases hs with rfl | rfl
    · exact .inr ⟨_, rfl⟩
    · exact .inl rfl
  · simp
    refine ⟨ns, rfl, hl, fun l => ⟨l, rfl, ?_⟩⟩
    refine ⟨4, rfl, by decide, fun i S1 i0 i4 => ?_⟩
    obtain ⟨i, rfl⟩ : ∃ k : Nat, i = (k : Int) := ⟨i.toNat, by omega⟩
    simp [t_law_1]
    refine ⟨5, rfl, by decide, fun b S2 b0 b5 => ?_⟩
    obtain ⟨b, rfl⟩ : ∃ k : Nat, b = (k : Int) := ⟨b.toNat, by omega⟩
    simp [t_law_2]
    refine ⟨13, rfl, by decide, fun c S3 c0 c13 => ?_⟩
    simp [t_law_3]
    refine ⟨8, rfl, by decide, fun j S4 j0 j8 => ?_⟩
    by_cases hj : j = 7
    · have cm1 : CMulW (c - 6) 10000000000000000000 := cmulb (m := 4) (n := 64) (by unfold sb; omega) (by unfold sb; decide) (by decide)
      simp [hj, t_law_4, p19, p9, cm1]
      refine ⟨97, rfl, by decide, fun u S5 u0 u97 => ?_⟩
      have cm2 : CMulW u 1000000000 := cmulb (m := 7) (n := 30) (by unfold sb; omega) (by unfold sb; decide) (by decide)
      simp [p9, cm2]
      refine ⟨97, rfl, by decide, fun v S6 v0 v97 => ?_⟩
      simp
      rw [show (1 : Int) + (i : Int) = ((1 + i : Nat) : Int) by omega]
      exact L5 Γ (fun S' => q) (by omega) (by omega) (by omega) (by unfold sb; omega) _ _ _ S6
    · simp [hj]
      rw [show (1 : Int) + (i : Int) = ((1 + i : Nat) : Int) by omega]
      exact L5 Γ (fun S' => q) (by omega) (by omega) (by omega) (by unfold sb; omega) _ _ _ S4
end K89
end
section
set_option linter.all false
namespace K89
open PySem L2 Py
theorem len_nu_integer (Γ : Ad) : ∀ rs S Q E, sp_nu_integer Γ rs S Q E → rs.length = 1 := fun _ _ _ _ ⟨_, e, _⟩ => by rw [e]; rfl
theorem len_nu_gcd (Γ : Ad) : ∀ rs S Q E, sp_nu_gcd Γ rs S Q E → rs.length = 2 := fun _ _ _ _ ⟨_, _, e, _⟩ => by rw [e]; rfl
theorem len_nu_low (Γ : Ad) : ∀ rs S Q E, sp_nu_low Γ rs S Q E → rs.length = 2 := fun _ _ _ _ ⟨_, _, _, e, _⟩ => by rw [e]; rfl
theorem len_number (Γ : Ad) : ∀ rs S Q E, sp_number Γ rs S Q E → rs.length = 1 := fun _ _ _ _ ⟨_, _, e, _⟩ => by rw [e]; rfl
theorem len_plus (Γ : Ad) : ∀ rs S Q E, sp_plus Γ rs S Q E → rs.length = 2 := fun _ _ _ _ ⟨_, _, e, _⟩ => by rw [e]; rfl
theorem len_nu_power (Γ : Ad) : ∀ rs S Q E, sp_nu_power Γ rs S Q E → rs.length = 2 := fun _ _ _ _ ⟨_, _, _, e, _⟩ => by rw [e]; rfl
theorem len_sw_step (Γ : Ad) : ∀ rs S Q E, sp_sw_step Γ rs S Q E → rs.length = 1 := fun _ _ _ _ ⟨e, _⟩ => by rw [e]; rfl
theorem len_sw_power (Γ : Ad) : ∀ rs S Q E, sp_sw_power Γ rs S Q E → rs.length = 2 := fun _ _ _ _ ⟨_, _, _, e, _⟩ => by rw [e]; rfl
theorem len_pu_three (Γ : Ad) : ∀ rs S Q E, sp_pu_three Γ rs S Q E → rs.length = 1 := fun _ _ _ _ ⟨_, _, _, e, _⟩ => by rw [e]; rfl
theorem len_pu_form (Γ : Ad) : ∀ rs S Q E, sp_pu_form Γ rs S Q E → rs.length = 1 := fun _ _ _ _ ⟨_, e, _⟩ => by rw [e]; rfl
theorem len_pu_forms (Γ : Ad) : ∀ rs S Q E, sp_pu_forms Γ rs S Q E → rs.length = 1 := fun _ _ _ _ ⟨_, e, _⟩ => by rw [e]; rfl
theorem len_pu_square (Γ : Ad) : ∀ rs S Q E, sp_pu_square Γ rs S Q E → rs.length = 2 := fun _ _ _ _ ⟨e, _⟩ => by rw [e]; rfl
theorem len_pu_less (Γ : Ad) : ∀ rs S Q E, sp_pu_less Γ rs S Q E → rs.length = 2 := fun _ _ _ _ ⟨_, _, e, _⟩ => by rw [e]; rfl
theorem len_pu_size (Γ : Ad) : ∀ rs S Q E, sp_pu_size Γ rs S Q E → rs.length = 3 := fun _ _ _ _ ⟨_, _, _, e, _⟩ => by rw [e]; rfl
theorem len_pu_there (Γ : Ad) : ∀ rs S Q E, sp_pu_there Γ rs S Q E → rs.length = 3 := fun _ _ _ _ ⟨_, _, _, e, _⟩ => by rw [e]; rfl
theorem len_pu_falling (Γ : Ad) : ∀ rs S Q E, sp_pu_falling Γ rs S Q E → rs.length = 2 := fun _ _ _ _ ⟨_, e, _⟩ => by rw [e]; rfl
theorem len_pu_number (Γ : Ad) : ∀ rs S Q E, sp_pu_number Γ rs S Q E → rs.length = 3 := fun _ _ _ _ ⟨_, _, _, _, _, _, e, _⟩ => by rw [e]; rfl
theorem len_i2_pair (Γ : Ad) : ∀ rs S Q E, sp_i2_pair Γ rs S Q E → rs.length = 1 := fun _ _ _ _ ⟨e, _⟩ => by rw [e]; rfl
theorem len_i2_fits (Γ : Ad) : ∀ rs S Q E, sp_i2_fits Γ rs S Q E → rs.length = 1 := fun _ _ _ _ ⟨e, _⟩ => by rw [e]; rfl
theorem len_i2_told (Γ : Ad) : ∀ rs S Q E, sp_i2_told Γ rs S Q E → rs.length = 2 := fun _ _ _ _ ⟨e, _⟩ => by rw [e]; rfl
theorem len_i2_whole (Γ : Ad) : ∀ rs S Q E, sp_i2_whole Γ rs S Q E → rs.length = 1 := fun _ _ _ _ ⟨e, _⟩ => by rw [e]; rfl
theorem len_i2_read (Γ : Ad) : ∀ rs S Q E, sp_i2_read Γ rs S Q E → rs.length = 1 := fun _ _ _ _ ⟨e, _⟩ => by rw [e]; rfl
theorem len_i2_look (Γ : Ad) : ∀ rs S Q E, sp_i2_look Γ rs S Q E → rs.length = 2 := fun _ _ _ _ ⟨e, _⟩ => by rw [e]; rfl
theorem len_i2_scaled (Γ : Ad) : ∀ rs S Q E, sp_i2_scaled Γ rs S Q E → rs.length = 3 := fun _ _ _ _ ⟨e, _⟩ => by rw [e]; rfl
theorem len_i2_value (Γ : Ad) : ∀ rs S Q E, sp_i2_value Γ rs S Q E → rs.length = 4 := fun _ _ _ _ ⟨_, _, e, _⟩ => by rw [e]; rfl
theorem len_t2_number (Γ : Ad) : ∀ rs S Q E, sp_t2_number Γ rs S Q E → rs.length = 3 := fun _ _ _ _ ⟨_, _, _, _, _, _, e, _⟩ => by rw [e]; rfl
theorem len_full_term (Γ : Ad) : ∀ rs S Q E, sp_full_term Γ rs S Q E → rs.length = 3 := fun _ _ _ _ ⟨_, _, _, e, _⟩ => by rw [e]; rfl
theorem len_rg_pair (Γ : Ad) : ∀ rs S Q E, sp_rg_pair Γ rs S Q E → rs.length = 2 := fun _ _ _ _ ⟨_, _, _, e, _⟩ => by rw [e]; rfl
theorem len_rg_first (Γ : Ad) : ∀ rs S Q E, sp_rg_first Γ rs S Q E → rs.length = 1 := fun _ _ _ _ ⟨e, _⟩ => by rw [e]; rfl
theorem len_rg_below (Γ : Ad) : ∀ rs S Q E, sp_rg_below Γ rs S Q E → rs.length = 3 := fun _ _ _ _ ⟨_, e, _⟩ => by rw [e]; rfl
theorem len_rg_gone (Γ : Ad) : ∀ rs S Q E, sp_rg_gone Γ rs S Q E → rs.length = 2 := fun _ _ _ _ ⟨_, e, _⟩ => by rw [e]; rfl
theorem len_dg_look (Γ : Ad) : ∀ rs S Q E, sp_dg_look Γ rs S Q E → rs.length = 3 := fun _ _ _ _ ⟨_, _, _, e, _⟩ => by rw [e]; rfl
theorem len_dg_look_place (Γ : Ad) : ∀ rs S Q E, sp_dg_look_place Γ rs S Q E → rs.length = 1 := fun _ _ _ _ ⟨_, e, _⟩ => by rw [e]; rfl
theorem len_dg_look_prime (Γ : Ad) : ∀ rs S Q E, sp_dg_look_prime Γ rs S Q E → rs.length = 1 := fun _ _ _ _ ⟨_, e, _⟩ => by rw [e]; rfl
theorem len_dg_sum (Γ : Ad) : ∀ rs S Q E, sp_dg_sum Γ rs S Q E → rs.length = 4 := fun _ _ _ _ ⟨_, _, _, _, e, _⟩ => by rw [e]; rfl
theorem len_digit_value (Γ : Ad) : ∀ rs S Q E, sp_digit_value Γ rs S Q E → rs.length = 4 := fun _ _ _ _ ⟨_, _, _, _, e, _⟩ => by rw [e]; rfl
theorem len_dg_rest (Γ : Ad) : ∀ rs S Q E, sp_dg_rest Γ rs S Q E → rs.length = 5 := fun _ _ _ _ ⟨_, _, _, _, _, e, _⟩ => by rw [e]; rfl
theorem len_dg_table (Γ : Ad) : ∀ rs S Q E, sp_dg_table Γ rs S Q E → rs.length = 4 := fun _ _ _ _ ⟨_, _, _, _, e, _⟩ => by rw [e]; rfl
theorem len_dg_most (Γ : Ad) : ∀ rs S Q E, sp_dg_most Γ rs S Q E → rs.length = 0 := fun _ _ _ _ ⟨e, _⟩ => by rw [e]; rfl
theorem len_digit_mod (Γ : Ad) : ∀ rs S Q E, sp_digit_mod Γ rs S Q E → rs.length = 5 := fun _ _ _ _ ⟨_, _, _, _, _, e, _⟩ => by rw [e]; rfl
theorem len_first_divided (Γ : Ad) : ∀ rs S Q E, sp_first_divided Γ rs S Q E → rs.length = 4 := fun _ _ _ _ ⟨_, _, _, _, e, _⟩ => by rw [e]; rfl
theorem len_count_undivided (Γ : Ad) : ∀ rs S Q E, sp_count_undivided Γ rs S Q E → rs.length = 5 := fun _ _ _ _ ⟨_, _, _, _, _, e, _⟩ => by rw [e]; rfl
theorem len_digit_term (Γ : Ad) : ∀ rs S Q E, sp_digit_term Γ rs S Q E → rs.length = 3 := fun _ _ _ _ ⟨_, _, _, e, _⟩ => by rw [e]; rfl
theorem len_sm_look_term (Γ : Ad) : ∀ rs S Q E, sp_sm_look_term Γ rs S Q E → rs.length = 1 := fun _ _ _ _ ⟨_, _, _, _, e, _⟩ => by rw [e]; rfl
theorem len_sm_look_kind (Γ : Ad) : ∀ rs S Q E, sp_sm_look_kind Γ rs S Q E → rs.length = 2 := fun _ _ _ _ ⟨_, _, _, _, e, _⟩ => by rw [e]; rfl
theorem len_sm_look_there (Γ : Ad) : ∀ rs S Q E, sp_sm_look_there Γ rs S Q E → rs.length = 2 := fun _ _ _ _ ⟨_, _, _, _, e, _⟩ => by rw [e]; rfl
theorem len_sm_look (Γ : Ad) : ∀ rs S Q E, sp_sm_look Γ rs S Q E → rs.length = 2 := fun _ _ _ _ ⟨_, _, _, _, e, _⟩ => by rw [e]; rfl
theorem len_sm_sum (Γ : Ad) : ∀ rs S Q E, sp_sm_sum Γ rs S Q E → rs.length = 3 := fun _ _ _ _ ⟨_, _, _, _, _, e, _⟩ => by rw [e]; rfl
theorem len_sum_value (Γ : Ad) : ∀ rs S Q E, sp_sum_value Γ rs S Q E → rs.length = 3 := fun _ _ _ _ ⟨_, _, _, _, _, e, _⟩ => by rw [e]; rfl
theorem len__law_stream (Γ : Ad) : ∀ rs S Q E, sp__law_stream Γ rs S Q E → rs.length = 1 := fun _ _ _ _ ⟨_, e, _⟩ => by rw [e]; rfl
theorem len__law_next (Γ : Ad) : ∀ rs S Q E, sp__law_next Γ rs S Q E → rs.length = 2 := fun _ _ _ _ ⟨_, e, _⟩ => by rw [e]; rfl
theorem len__law_int (Γ : Ad) : ∀ rs S Q E, sp__law_int Γ rs S Q E → rs.length = 1 := fun _ _ _ _ ⟨_, e, _⟩ => by rw [e]; rfl
theorem len__law_gcd (Γ : Ad) : ∀ rs S Q E, sp__law_gcd Γ rs S Q E → rs.length = 2 := fun _ _ _ _ ⟨_, e, _⟩ => by rw [e]; rfl
theorem len__law_is_num (Γ : Ad) : ∀ rs S Q E, sp__law_is_num Γ rs S Q E → rs.length = 1 := fun _ _ _ _ ⟨_, e, _⟩ => by rw [e]; rfl
theorem len__law_pow (Γ : Ad) : ∀ rs S Q E, sp__law_pow Γ rs S Q E → rs.length = 2 := fun _ _ _ _ ⟨_, _, _, e, _⟩ => by rw [e]; rfl
theorem len__law_digit_sum (Γ : Ad) : ∀ rs S Q E, sp__law_digit_sum Γ rs S Q E → rs.length = 4 := fun _ _ _ _ ⟨_, _, _, _, e, _⟩ => by rw [e]; rfl
theorem len__law_divided (Γ : Ad) : ∀ rs S Q E, sp__law_divided Γ rs S Q E → rs.length = 5 := fun _ _ _ _ ⟨_, _, _, _, _, e, _⟩ => by rw [e]; rfl
theorem len__law_first (Γ : Ad) : ∀ rs S Q E, sp__law_first Γ rs S Q E → rs.length = 4 := fun _ _ _ _ ⟨_, _, _, _, e, _⟩ => by rw [e]; rfl
theorem len__law_small_power (Γ : Ad) : ∀ rs S Q E, sp__law_small_power Γ rs S Q E → rs.length = 1 := fun _ _ _ _ ⟨_, e, _⟩ => by rw [e]; rfl
theorem len__law_counts_ok (Γ : Ad) : ∀ rs S Q E, sp__law_counts_ok Γ rs S Q E → rs.length = 5 := fun _ _ _ _ ⟨_, _, _, _, e, _⟩ => by rw [e]; rfl
theorem len__law_first_is (Γ : Ad) : ∀ rs S Q E, sp__law_first_is Γ rs S Q E → rs.length = 5 := fun _ _ _ _ ⟨_, _, _, _, _, e, _⟩ => by rw [e]; rfl
theorem len__law_term_ok (Γ : Ad) : ∀ rs S Q E, sp__law_term_ok Γ rs S Q E → rs.length = 4 := fun _ _ _ _ ⟨_, _, _, e, _⟩ => by rw [e]; rfl
theorem len__law_refused (Γ : Ad) : ∀ rs S Q E, sp__law_refused Γ rs S Q E → rs.length = 2 := fun _ _ _ _ ⟨_, _, _, _, _, _, e, _⟩ => by rw [e]; rfl
theorem len__law_refusals_ok (Γ : Ad) : ∀ rs S Q E, sp__law_refusals_ok Γ rs S Q E → rs.length = 1 := fun _ _ _ _ ⟨e, _⟩ => by rw [e]; rfl
theorem len_Step_init (Γ : Ad) : ∀ rs S Q, sp_Step_init Γ rs S Q → rs.length + 1 = 3 := fun _ _ _ ⟨_, _, e, _⟩ => by rw [e]; rfl
theorem len_Step_eq (Γ : Ad) : ∀ rs S Q E, sp_Step_eq Γ rs S Q E → rs.length = 2 := fun _ _ _ _ ⟨e, _⟩ => by rw [e]; rfl
theorem len_Pure_init (Γ : Ad) : ∀ rs S Q, sp_Pure_init Γ rs S Q → rs.length + 1 = 7 := fun _ _ _ ⟨_, _, _, e, _⟩ => by rw [e]; rfl
theorem len_Term2_init (Γ : Ad) : ∀ rs S Q, sp_Term2_init Γ rs S Q → rs.length + 1 = 5 := fun _ _ _ ⟨_, _, _, e, _⟩ => by rw [e]; rfl
theorem len_Term2_full (Γ : Ad) : ∀ rs S Q E, sp_Term2_full Γ rs S Q E → rs.length = 1 := fun _ _ _ _ ⟨_, _, _, e, _⟩ => by rw [e]; rfl
theorem len_Range_init (Γ : Ad) : ∀ rs S Q, sp_Range_init Γ rs S Q → rs.length + 1 = 4 := fun _ _ _ ⟨e, _⟩ => by rw [e]; rfl
theorem len_Range_ends (Γ : Ad) : ∀ rs S Q E, sp_Range_ends Γ rs S Q E → rs.length = 2 := fun _ _ _ _ ⟨_, e, _⟩ => by rw [e]; rfl
theorem len_law : ∀ rs S Q E, sp_law rs S Q E → rs.length = 1 := fun _ _ _ _ ⟨_, e, _⟩ => by rw [e]; rfl
end K89
end
section
set_option Elab.async false
set_option linter.all false
set_option maxRecDepth 100000
set_option maxHeartbeats 1000000
/-! The walk of the defs (printed by gen2.py). -/
namespace K89
open PySem PySem.Spec PyProof.Rows L2 Py
abbrev N_nu_integer : List Str := ["value"]
theorem sc_nu_integer : FnScope N_nu_integer ["value"] (defScope st_nu_integer) := ⟨rfl, rfl, rfl, by decide +kernel, rfl, by decide +kernel, by decide +kernel⟩
abbrev N_nu_gcd : List Str := ["a", "b"]
theorem sc_nu_gcd : FnScope N_nu_gcd ["a", "b"] (defScope st_nu_gcd) := ⟨rfl, rfl, rfl, by decide +kernel, rfl, by decide +kernel, by decide +kernel⟩
abbrev N_nu_low : List Str := ["a", "b", "c"]
theorem sc_nu_low : FnScope N_nu_low ["a", "b"] (defScope st_nu_low) := ⟨rfl, rfl, rfl, by decide +kernel, rfl, by decide +kernel, by decide +kernel⟩
abbrev N_number : List Str := ["value", "a", "b"]
theorem sc_number : FnScope N_number ["value"] (defScope st_number) := ⟨rfl, rfl, rfl, by decide +kernel, rfl, by decide +kernel, by decide +kernel⟩
abbrev N_plus : List Str := ["one", "other", "a", "b", "c", "d"]
theorem sc_plus : FnScope N_plus ["one", "other"] (defScope st_plus) := ⟨rfl, rfl, rfl, by decide +kernel, rfl, by decide +kernel, by decide +kernel⟩
abbrev N_nu_power : List Str := ["base", "exponent", "told", "square", "left"]
theorem sc_nu_power : FnScope N_nu_power ["base", "exponent"] (defScope st_nu_power) := ⟨rfl, rfl, rfl, by decide +kernel, rfl, by decide +kernel, by decide +kernel⟩
abbrev N_sw_step : List Str := ["value"]
theorem sc_sw_step : FnScope N_sw_step ["value"] (defScope st_sw_step) := ⟨rfl, rfl, rfl, by decide +kernel, rfl, by decide +kernel, by decide +kernel⟩
abbrev N_sw_power : List Str := ["base", "i", "a", "b"]
theorem sc_sw_power : FnScope N_sw_power ["base", "i"] (defScope st_sw_power) := ⟨rfl, rfl, rfl, by decide +kernel, rfl, by decide +kernel, by decide +kernel⟩
abbrev N_pu_three : List Str := ["value"]
theorem sc_pu_three : FnScope N_pu_three ["value"] (defScope st_pu_three) := ⟨rfl, rfl, rfl, by decide +kernel, rfl, by decide +kernel, by decide +kernel⟩
abbrev N_pu_form : List Str := ["value", "a", "b", "c"]
theorem sc_pu_form : FnScope N_pu_form ["value"] (defScope st_pu_form) := ⟨rfl, rfl, rfl, by decide +kernel, rfl, by decide +kernel, by decide +kernel⟩
abbrev N_pu_forms : List Str := ["value", "w"]
theorem sc_pu_forms : FnScope N_pu_forms ["value"] (defScope st_pu_forms) := ⟨rfl, rfl, rfl, by decide +kernel, rfl, by decide +kernel, by decide +kernel⟩
abbrev N_pu_square : List Str := ["step", "value", "e", "f", "g"]
theorem sc_pu_square : FnScope N_pu_square ["step", "value"] (defScope st_pu_square) := ⟨rfl, rfl, rfl, by decide +kernel, rfl, by decide +kernel, by decide +kernel⟩
abbrev N_pu_less : List Str := ["forms", "others", "left", "told", "w"]
theorem sc_pu_less : FnScope N_pu_less ["forms", "others"] (defScope st_pu_less) := ⟨rfl, rfl, rfl, by decide +kernel, rfl, by decide +kernel, by decide +kernel⟩
abbrev N_pu_size : List Str := ["form", "n", "k"]
theorem sc_pu_size : FnScope N_pu_size ["form", "n", "k"] (defScope st_pu_size) := ⟨rfl, rfl, rfl, by decide +kernel, rfl, by decide +kernel, by decide +kernel⟩
abbrev N_pu_there : List Str := ["tops", "n", "k", "w"]
theorem sc_pu_there : FnScope N_pu_there ["tops", "n", "k"] (defScope st_pu_there) := ⟨rfl, rfl, rfl, by decide +kernel, rfl, by decide +kernel, by decide +kernel⟩
abbrev N_pu_falling : List Str := ["step", "m", "p", "q", "told", "up", "low", "_"]
theorem sc_pu_falling : FnScope N_pu_falling ["step", "m"] (defScope st_pu_falling) := ⟨rfl, rfl, rfl, by decide +kernel, rfl, by decide +kernel, by decide +kernel⟩
abbrev N_pu_number : List Str := ["pure", "n", "k", "one", "other", "up", "low", "w", "a", "b", "e", "f", "g"]
theorem sc_pu_number : FnScope N_pu_number ["pure", "n", "k"] (defScope st_pu_number) := ⟨rfl, rfl, rfl, by decide +kernel, rfl, by decide +kernel, by decide +kernel⟩
abbrev N_i2_pair : List Str := ["value"]
theorem sc_i2_pair : FnScope N_i2_pair ["value"] (defScope st_i2_pair) := ⟨rfl, rfl, rfl, by decide +kernel, rfl, by decide +kernel, by decide +kernel⟩
abbrev N_i2_fits : List Str := ["value"]
theorem sc_i2_fits : FnScope N_i2_fits ["value"] (defScope st_i2_fits) := ⟨rfl, rfl, rfl, by decide +kernel, rfl, by decide +kernel, by decide +kernel⟩
abbrev N_i2_told : List Str := ["bottom", "table", "at", "a"]
theorem sc_i2_told : FnScope N_i2_told ["bottom", "table"] (defScope st_i2_told) := ⟨rfl, rfl, rfl, by decide +kernel, rfl, by decide +kernel, by decide +kernel⟩
abbrev N_i2_whole : List Str := ["f", "bottom", "w", "i", "j", "a", "b"]
theorem sc_i2_whole : FnScope N_i2_whole ["f"] (defScope st_i2_whole) := ⟨rfl, rfl, rfl, by decide +kernel, rfl, by decide +kernel, by decide +kernel⟩
abbrev N_i2_read : List Str := ["value", "rows", "bottom", "part", "a", "b", "table", "i", "j"]
theorem sc_i2_read : FnScope N_i2_read ["value"] (defScope st_i2_read) := ⟨rfl, rfl, rfl, by decide +kernel, rfl, by decide +kernel, by decide +kernel⟩
abbrev N_i2_look : List Str := ["step", "value", "told", "w"]
theorem sc_i2_look : FnScope N_i2_look ["step", "value"] (defScope st_i2_look) := ⟨rfl, rfl, rfl, by decide +kernel, rfl, by decide +kernel, by decide +kernel⟩
abbrev N_i2_scaled : List Str := ["f", "a", "b", "w"]
theorem sc_i2_scaled : FnScope N_i2_scaled ["f", "a", "b"] (defScope st_i2_scaled) := ⟨rfl, rfl, rfl, by decide +kernel, rfl, by decide +kernel, by decide +kernel⟩
abbrev N_i2_value : List Str := ["step", "f", "n", "k", "bottom", "table", "told", "i", "j", "a", "rows", "low", "most", "p", "q", "e", "c", "d", "at", "w"]
theorem sc_i2_value : FnScope N_i2_value ["step", "f", "n", "k"] (defScope st_i2_value) := ⟨rfl, rfl, rfl, by decide +kernel, rfl, by decide +kernel, by decide +kernel⟩
abbrev N_t2_number : List Str := ["term", "n", "k", "low", "one", "up"]
theorem sc_t2_number : FnScope N_t2_number ["term", "n", "k"] (defScope st_t2_number) := ⟨rfl, rfl, rfl, by decide +kernel, rfl, by decide +kernel, by decide +kernel⟩
abbrev N_full_term : List Str := ["step", "top", "pure"]
theorem sc_full_term : FnScope N_full_term ["step", "top", "pure"] (defScope st_full_term) := ⟨rfl, rfl, rfl, by decide +kernel, rfl, by decide +kernel, by decide +kernel⟩
abbrev N_rg_pair : List Str := ["value", "word", "a", "b"]
theorem sc_rg_pair : FnScope N_rg_pair ["value", "word"] (defScope st_rg_pair) := ⟨rfl, rfl, rfl, by decide +kernel, rfl, by decide +kernel, by decide +kernel⟩
abbrev N_rg_first : List Str := ["stretch", "low", "high"]
theorem sc_rg_first : FnScope N_rg_first ["stretch"] (defScope st_rg_first) := ⟨rfl, rfl, rfl, by decide +kernel, rfl, by decide +kernel, by decide +kernel⟩
abbrev N_rg_below : List Str := ["slope", "height", "first"]
theorem sc_rg_below : FnScope N_rg_below ["slope", "height", "first"] (defScope st_rg_below) := ⟨rfl, rfl, rfl, by decide +kernel, rfl, by decide +kernel, by decide +kernel⟩
abbrev N_rg_gone : List Str := ["forms", "stretch", "first", "found", "a", "b", "c", "p", "q", "n"]
theorem sc_rg_gone : FnScope N_rg_gone ["forms", "stretch"] (defScope st_rg_gone) := ⟨rfl, rfl, rfl, by decide +kernel, rfl, by decide +kernel, by decide +kernel⟩
abbrev N_dg_look : List Str := ["a", "b", "c"]
theorem sc_dg_look : FnScope N_dg_look ["a", "b", "c"] (defScope st_dg_look) := ⟨rfl, rfl, rfl, by decide +kernel, rfl, by decide +kernel, by decide +kernel⟩
abbrev N_dg_look_place : List Str := ["n"]
theorem sc_dg_look_place : FnScope N_dg_look_place ["n"] (defScope st_dg_look_place) := ⟨rfl, rfl, rfl, by decide +kernel, rfl, by decide +kernel, by decide +kernel⟩
abbrev N_dg_look_prime : List Str := ["p", "d"]
theorem sc_dg_look_prime : FnScope N_dg_look_prime ["p"] (defScope st_dg_look_prime) := ⟨rfl, rfl, rfl, by decide +kernel, rfl, by decide +kernel, by decide +kernel⟩
abbrev N_dg_sum : List Str := ["a", "b", "c", "n", "told", "factor", "k"]
theorem sc_dg_sum : FnScope N_dg_sum ["a", "b", "c", "n"] (defScope st_dg_sum) := ⟨rfl, rfl, rfl, by decide +kernel, rfl, by decide +kernel, by decide +kernel⟩
abbrev N_digit_value : List Str := ["a", "b", "c", "n"]
theorem sc_digit_value : FnScope N_digit_value ["a", "b", "c", "n"] (defScope st_digit_value) := ⟨rfl, rfl, rfl, by decide +kernel, rfl, by decide +kernel, by decide +kernel⟩
abbrev N_dg_rest : List Str := ["a", "b", "c", "n", "p", "told", "factor", "k"]
theorem sc_dg_rest : FnScope N_dg_rest ["a", "b", "c", "n", "p"] (defScope st_dg_rest) := ⟨rfl, rfl, rfl, by decide +kernel, rfl, by decide +kernel, by decide +kernel⟩
abbrev N_dg_table : List Str := ["a", "b", "c", "p", "n"]
theorem sc_dg_table : FnScope N_dg_table ["a", "b", "c", "p"] (defScope st_dg_table) := ⟨rfl, rfl, rfl, by decide +kernel, rfl, by decide +kernel, by decide +kernel⟩
abbrev N_dg_most : List Str := ["told"]
theorem sc_dg_most : FnScope N_dg_most [] (defScope st_dg_most) := ⟨rfl, rfl, rfl, by decide +kernel, rfl, by decide +kernel, by decide +kernel⟩
abbrev N_digit_mod : List Str := ["a", "b", "c", "n", "p", "table", "told", "left"]
theorem sc_digit_mod : FnScope N_digit_mod ["a", "b", "c", "n", "p"] (defScope st_digit_mod) := ⟨rfl, rfl, rfl, by decide +kernel, rfl, by decide +kernel, by decide +kernel⟩
abbrev N_first_divided : List Str := ["a", "b", "c", "p", "table"]
theorem sc_first_divided : FnScope N_first_divided ["a", "b", "c", "p"] (defScope st_first_divided) := ⟨rfl, rfl, rfl, by decide +kernel, rfl, by decide +kernel, by decide +kernel⟩
abbrev N_count_undivided : List Str := ["a", "b", "c", "p", "exponent"]
theorem sc_count_undivided : FnScope N_count_undivided ["a", "b", "c", "p", "exponent"] (defScope st_count_undivided) := ⟨rfl, rfl, rfl, by decide +kernel, rfl, by decide +kernel, by decide +kernel⟩
abbrev N_digit_term : List Str := ["a", "b", "c", "up", "tops", "bottoms", "pure"]
theorem sc_digit_term : FnScope N_digit_term ["a", "b", "c"] (defScope st_digit_term) := ⟨rfl, rfl, rfl, by decide +kernel, rfl, by decide +kernel, by decide +kernel⟩
abbrev N_sm_look_term : List Str := ["term"]
theorem sc_sm_look_term : FnScope N_sm_look_term ["term"] (defScope st_sm_look_term) := ⟨rfl, rfl, rfl, by decide +kernel, rfl, by decide +kernel, by decide +kernel⟩
abbrev N_sm_look_kind : List Str := ["term", "span"]
theorem sc_sm_look_kind : FnScope N_sm_look_kind ["term", "span"] (defScope st_sm_look_kind) := ⟨rfl, rfl, rfl, by decide +kernel, rfl, by decide +kernel, by decide +kernel⟩
abbrev N_sm_look_there : List Str := ["term", "span", "gone"]
theorem sc_sm_look_there : FnScope N_sm_look_there ["term", "span"] (defScope st_sm_look_there) := ⟨rfl, rfl, rfl, by decide +kernel, rfl, by decide +kernel, by decide +kernel⟩
abbrev N_sm_look : List Str := ["term", "span"]
theorem sc_sm_look : FnScope N_sm_look ["term", "span"] (defScope st_sm_look) := ⟨rfl, rfl, rfl, by decide +kernel, rfl, by decide +kernel, by decide +kernel⟩
abbrev N_sm_sum : List Str := ["term", "span", "n", "low", "high", "told", "k"]
theorem sc_sm_sum : FnScope N_sm_sum ["term", "span", "n"] (defScope st_sm_sum) := ⟨rfl, rfl, rfl, by decide +kernel, rfl, by decide +kernel, by decide +kernel⟩
abbrev N_sum_value : List Str := ["term", "span", "n"]
theorem sc_sum_value : FnScope N_sum_value ["term", "span", "n"] (defScope st_sum_value) := ⟨rfl, rfl, rfl, by decide +kernel, rfl, by decide +kernel, by decide +kernel⟩
abbrev N__law_stream : List Str := ["script", "row", "at", "cell", "turn", "seed"]
theorem sc__law_stream : FnScope N__law_stream ["script"] (defScope st__law_stream) := ⟨rfl, rfl, rfl, by decide +kernel, rfl, by decide +kernel, by decide +kernel⟩
abbrev N__law_next : List Str := ["row", "many"]
theorem sc__law_next : FnScope N__law_next ["row", "many"] (defScope st__law_next) := ⟨rfl, rfl, rfl, by decide +kernel, rfl, by decide +kernel, by decide +kernel⟩
abbrev N__law_int : List Str := ["value"]
theorem sc__law_int : FnScope N__law_int ["value"] (defScope st__law_int) := ⟨rfl, rfl, rfl, by decide +kernel, rfl, by decide +kernel, by decide +kernel⟩
abbrev N__law_gcd : List Str := ["one", "other", "turn", "rest"]
theorem sc__law_gcd : FnScope N__law_gcd ["one", "other"] (defScope st__law_gcd) := ⟨rfl, rfl, rfl, by decide +kernel, rfl, by decide +kernel, by decide +kernel⟩
abbrev N__law_is_num : List Str := ["value"]
theorem sc__law_is_num : FnScope N__law_is_num ["value"] (defScope st__law_is_num) := ⟨rfl, rfl, rfl, by decide +kernel, rfl, by decide +kernel, by decide +kernel⟩
abbrev N__law_pow : List Str := ["base", "many", "made", "turn"]
theorem sc__law_pow : FnScope N__law_pow ["base", "many"] (defScope st__law_pow) := ⟨rfl, rfl, rfl, by decide +kernel, rfl, by decide +kernel, by decide +kernel⟩
abbrev N__law_digit_sum : List Str := ["a", "b", "c", "n", "total", "one", "two", "power_v", "k"]
theorem sc__law_digit_sum : FnScope N__law_digit_sum ["a", "b", "c", "n"] (defScope st__law_digit_sum) := ⟨rfl, rfl, rfl, by decide +kernel, rfl, by decide +kernel, by decide +kernel⟩
abbrev N__law_divided : List Str := ["a", "b", "c", "p", "n"]
theorem sc__law_divided : FnScope N__law_divided ["a", "b", "c", "p", "n"] (defScope st__law_divided) := ⟨rfl, rfl, rfl, by decide +kernel, rfl, by decide +kernel, by decide +kernel⟩
abbrev N__law_first : List Str := ["a", "b", "c", "p", "n"]
theorem sc__law_first : FnScope N__law_first ["a", "b", "c", "p"] (defScope st__law_first) := ⟨rfl, rfl, rfl, by decide +kernel, rfl, by decide +kernel, by decide +kernel⟩
abbrev N__law_small_power : List Str := ["p", "made", "count", "turn"]
theorem sc__law_small_power : FnScope N__law_small_power ["p"] (defScope st__law_small_power) := ⟨rfl, rfl, rfl, by decide +kernel, rfl, by decide +kernel, by decide +kernel⟩
abbrev N__law_counts_ok : List Str := ["draws", "a", "b", "c", "p", "power_v", "count", "n", "told", "digits", "great"]
theorem sc__law_counts_ok : FnScope N__law_counts_ok ["draws", "a", "b", "c", "p"] (defScope st__law_counts_ok) := ⟨rfl, rfl, rfl, by decide +kernel, rfl, by decide +kernel, by decide +kernel⟩
abbrev N__law_first_is : List Str := ["a", "b", "c", "p", "due", "told"]
theorem sc__law_first_is : FnScope N__law_first_is ["a", "b", "c", "p", "due"] (defScope st__law_first_is) := ⟨rfl, rfl, rfl, by decide +kernel, rfl, by decide +kernel, by decide +kernel⟩
abbrev N__law_term_ok : List Str := ["draws", "a", "b", "c", "kept", "e", "made", "n", "told"]
theorem sc__law_term_ok : FnScope N__law_term_ok ["draws", "a", "b", "c"] (defScope st__law_term_ok) := ⟨rfl, rfl, rfl, by decide +kernel, rfl, by decide +kernel, by decide +kernel⟩
abbrev N__law_refused : List Str := ["door", "row", "kept", "e"]
theorem sc__law_refused : FnScope N__law_refused ["door", "row"] (defScope st__law_refused) := ⟨rfl, rfl, rfl, by decide +kernel, rfl, by decide +kernel, by decide +kernel⟩
abbrev N__law_refusals_ok : List Str := ["draws", "door", "bad", "good", "low"]
theorem sc__law_refusals_ok : FnScope N__law_refusals_ok ["draws"] (defScope st__law_refusals_ok) := ⟨rfl, rfl, rfl, by decide +kernel, rfl, by decide +kernel, by decide +kernel⟩
abbrev N_law : List Str := ["script", "draws", "a", "b", "c", "p", "first", "lift"]
theorem sc_law : FnScope N_law ["script"] (defScope st_law) := ⟨rfl, rfl, rfl, by decide +kernel, rfl, by decide +kernel, by decide +kernel⟩
abbrev N_Step_init : List Str := ["self", "word", "base"]
theorem sc_Step_init : FnScope N_Step_init ["self", "word", "base"] (defScope st_Step_init) := ⟨rfl, rfl, rfl, by decide +kernel, rfl, by decide +kernel, by decide +kernel⟩
abbrev N_Step_eq : List Str := ["self", "other"]
theorem sc_Step_eq : FnScope N_Step_eq ["self", "other"] (defScope st_Step_eq) := ⟨rfl, rfl, rfl, by decide +kernel, rfl, by decide +kernel, by decide +kernel⟩
abbrev N_Pure_init : List Str := ["self", "step", "s", "t", "square", "tops", "bottoms", "ups", "downs"]
theorem sc_Pure_init : FnScope N_Pure_init ["self", "step", "s", "t", "square", "tops", "bottoms"] (defScope st_Pure_init) := ⟨rfl, rfl, rfl, by decide +kernel, rfl, by decide +kernel, by decide +kernel⟩
abbrev N_Term2_init : List Str := ["self", "step", "top", "bottom", "pure", "above", "below", "a", "b", "w"]
theorem sc_Term2_init : FnScope N_Term2_init ["self", "step", "top", "bottom", "pure"] (defScope st_Term2_init) := ⟨rfl, rfl, rfl, by decide +kernel, rfl, by decide +kernel, by decide +kernel⟩
abbrev N_Term2_full : List Str := ["self"]
theorem sc_Term2_full : FnScope N_Term2_full ["self"] (defScope st_Term2_full) := ⟨rfl, rfl, rfl, by decide +kernel, rfl, by decide +kernel, by decide +kernel⟩
abbrev N_Range_init : List Str := ["self", "low", "high", "start", "slope"]
theorem sc_Range_init : FnScope N_Range_init ["self", "low", "high", "start"] (defScope st_Range_init) := ⟨rfl, rfl, rfl, by decide +kernel, rfl, by decide +kernel, by decide +kernel⟩
abbrev N_Range_ends : List Str := ["self", "n"]
theorem sc_Range_ends : FnScope N_Range_ends ["self", "n"] (defScope st_Range_ends) := ⟨rfl, rfl, rfl, by decide +kernel, rfl, by decide +kernel, by decide +kernel⟩
structure Tp (P : Program) (K : PySem.W.Frag) (mg : Str → Option Value) (Γ : Ad) : Prop where
  b_abs : mg "abs" = none
  b_any : mg "any" = none
  b_bool : mg "bool" = none
  b_int : mg "int" = none
  b_isinstance : mg "isinstance" = none
  b_len : mg "len" = none
  b_list : mg "list" = none
  b_min : mg "min" = none
  b_range : mg "range" = none
  b_sorted : mg "sorted" = none
  b_tuple : mg "tuple" = none
  g_EXPONENT_BOUND : GlobI mg "EXPONENT_BOUND" 5000
  g_GREAT_PRIME : GlobI mg "GREAT_PRIME" 2305843009213693951
  g_STEP_TEXT_BOUND : GlobI mg "STEP_TEXT_BOUND" 2000
  g_FORM_BOUND : GlobI mg "FORM_BOUND" 20
  g_VALUE_BOUND : GlobI mg "VALUE_BOUND" 3000
  g_DIGIT_PLACES : GlobI mg "DIGIT_PLACES" 400
  g_DIGIT_POWER : GlobI mg "DIGIT_POWER" 60
  g_DIGIT_EXPONENT : GlobI mg "DIGIT_EXPONENT" 4
  g_DIGIT_PRIME : GlobI mg "DIGIT_PRIME" 200
  g_SUMMANDS : GlobI mg "SUMMANDS" 600
  gd_POLY2_ONE : GlobD K mg "POLY2_ONE" (.tup [.tup [.int 0, .int 0, .tup [.int 1, .int 1]]])
  f_comb : mg "comb" = some (.builtin "math.comb")
  f_factorial : mg "factorial" = some (.builtin "math.factorial")
  f_lcm : mg "lcm" = some (.builtin "math.lcm")
  e_BadInteger : ErrN1 P K mg "BadInteger" Γ.BadInteger "handed"
  t_BadInteger : PySem.W.exmOne K (.ref Γ.BadInteger) (.ref Γ.BadInteger) = some true
  xx_BadInteger : ∃ D fI q st, ErrCls P K Γ.BadInteger D fI q st
  n_BadInteger_handed : PySem.W.findIn K (.ref Γ.BadInteger) "handed" = some none
  e_TooMuch : ErrN2 P K mg "TooMuch" Γ.TooMuch "word" "most"
  t_TooMuch : PySem.W.exmOne K (.ref Γ.TooMuch) (.ref Γ.TooMuch) = some true
  xx_TooMuch : ∃ D fI q st, ErrCls P K Γ.TooMuch D fI q st
  n_TooMuch_word : PySem.W.findIn K (.ref Γ.TooMuch) "word" = some none
  n_TooMuch_most : PySem.W.findIn K (.ref Γ.TooMuch) "most" = some none
  e_IsZero : ErrN1 P K mg "IsZero" Γ.IsZero "word"
  t_IsZero : PySem.W.exmOne K (.ref Γ.IsZero) (.ref Γ.IsZero) = some true
  xx_IsZero : ∃ D fI q st, ErrCls P K Γ.IsZero D fI q st
  n_IsZero_word : PySem.W.findIn K (.ref Γ.IsZero) "word" = some none
  tf_TooMuch_BadInteger : PySem.W.exmOne K (.ref Γ.TooMuch) (.ref Γ.BadInteger) = some false
  cl_Plain : Cls K Γ.Plain
  m_Plain : mg "Plain" = some (.ref Γ.Plain)
  na_Plain_word : NoAttr K Γ.Plain "word"
  na_Plain_base : NoAttr K Γ.Plain "base"
  ow_Plain : OwnTy K Γ.Plain
  cl_Pure : Cls K Γ.Pure
  m_Pure : mg "Pure" = some (.ref Γ.Pure)
  na_Pure_step : NoAttr K Γ.Pure "step"
  na_Pure_s : NoAttr K Γ.Pure "s"
  na_Pure_t : NoAttr K Γ.Pure "t"
  na_Pure_square : NoAttr K Γ.Pure "square"
  na_Pure_tops : NoAttr K Γ.Pure "tops"
  na_Pure_bottoms : NoAttr K Γ.Pure "bottoms"
  ow_Pure : OwnTy K Γ.Pure
  cl_Term2 : Cls K Γ.Term2
  m_Term2 : mg "Term2" = some (.ref Γ.Term2)
  na_Term2_step : NoAttr K Γ.Term2 "step"
  na_Term2_top : NoAttr K Γ.Term2 "top"
  na_Term2_bottom : NoAttr K Γ.Term2 "bottom"
  na_Term2_pure : NoAttr K Γ.Term2 "pure"
  ow_Term2 : OwnTy K Γ.Term2
  cl_Range : Cls K Γ.Range
  m_Range : mg "Range" = some (.ref Γ.Range)
  na_Range_low : NoAttr K Γ.Range "low"
  na_Range_high : NoAttr K Γ.Range "high"
  na_Range_start : NoAttr K Γ.Range "start"
  ow_Range : OwnTy K Γ.Range
  kt_Plain_Step : PySem.W.kitOne K (.ref Γ.Plain) (.ref Γ.Step) = some true
  kt_Pure_Pure : PySem.W.kitOne K (.ref Γ.Pure) (.ref Γ.Pure) = some true
  kt_Term2_Term2 : PySem.W.kitOne K (.ref Γ.Term2) (.ref Γ.Term2) = some true
  kt_Range_Range : PySem.W.kitOne K (.ref Γ.Range) (.ref Γ.Range) = some true
  m_Step : mg "Step" = some (.ref Γ.Step)
  d_nu_integer : DefAt K mg "nu_integer" st_nu_integer ["value"]
  d_nu_gcd : DefAt K mg "nu_gcd" st_nu_gcd ["a", "b"]
  d_nu_low : DefAt K mg "nu_low" st_nu_low ["a", "b"]
  d_number : DefAt K mg "number" st_number ["value"]
  d_plus : DefAt K mg "plus" st_plus ["one", "other"]
  d_nu_power : DefAt K mg "nu_power" st_nu_power ["base", "exponent"]
  d_sw_step : DefAt K mg "sw_step" st_sw_step ["value"]
  d_sw_power : DefAt K mg "sw_power" st_sw_power ["base", "i"]
  d_pu_three : DefAt K mg "pu_three" st_pu_three ["value"]
  d_pu_form : DefAt K mg "pu_form" st_pu_form ["value"]
  d_pu_forms : DefAt K mg "pu_forms" st_pu_forms ["value"]
  d_pu_square : DefAt K mg "pu_square" st_pu_square ["step", "value"]
  d_pu_less : DefAt K mg "pu_less" st_pu_less ["forms", "others"]
  d_pu_size : DefAt K mg "pu_size" st_pu_size ["form", "n", "k"]
  d_pu_there : DefAt K mg "pu_there" st_pu_there ["tops", "n", "k"]
  d_pu_falling : DefAt K mg "pu_falling" st_pu_falling ["step", "m"]
  d_pu_number : DefAt K mg "pu_number" st_pu_number ["pure", "n", "k"]
  d_i2_pair : DefAt K mg "i2_pair" st_i2_pair ["value"]
  d_i2_fits : DefAt K mg "i2_fits" st_i2_fits ["value"]
  d_i2_told : DefAt K mg "i2_told" st_i2_told ["bottom", "table"]
  d_i2_whole : DefAt K mg "i2_whole" st_i2_whole ["f"]
  d_i2_read : DefAt K mg "i2_read" st_i2_read ["value"]
  d_i2_look : DefAt K mg "i2_look" st_i2_look ["step", "value"]
  d_i2_scaled : DefAt K mg "i2_scaled" st_i2_scaled ["f", "a", "b"]
  d_i2_value : DefAt K mg "i2_value" st_i2_value ["step", "f", "n", "k"]
  d_t2_number : DefAt K mg "t2_number" st_t2_number ["term", "n", "k"]
  d_full_term : DefAt K mg "full_term" st_full_term ["step", "top", "pure"]
  d_rg_pair : DefAt K mg "rg_pair" st_rg_pair ["value", "word"]
  d_rg_first : DefAt K mg "rg_first" st_rg_first ["stretch"]
  d_rg_below : DefAt K mg "rg_below" st_rg_below ["slope", "height", "first"]
  d_rg_gone : DefAt K mg "rg_gone" st_rg_gone ["forms", "stretch"]
  d_dg_look : DefAt K mg "dg_look" st_dg_look ["a", "b", "c"]
  d_dg_look_place : DefAt K mg "dg_look_place" st_dg_look_place ["n"]
  d_dg_look_prime : DefAt K mg "dg_look_prime" st_dg_look_prime ["p"]
  d_dg_sum : DefAt K mg "dg_sum" st_dg_sum ["a", "b", "c", "n"]
  d_digit_value : DefAt K mg "digit_value" st_digit_value ["a", "b", "c", "n"]
  d_dg_rest : DefAt K mg "dg_rest" st_dg_rest ["a", "b", "c", "n", "p"]
  d_dg_table : DefAt K mg "dg_table" st_dg_table ["a", "b", "c", "p"]
  d_dg_most : DefAt K mg "dg_most" st_dg_most []
  d_digit_mod : DefAt K mg "digit_mod" st_digit_mod ["a", "b", "c", "n", "p"]
  d_first_divided : DefAt K mg "first_divided" st_first_divided ["a", "b", "c", "p"]
  d_count_undivided : DefAt K mg "count_undivided" st_count_undivided ["a", "b", "c", "p", "exponent"]
  d_digit_term : DefAt K mg "digit_term" st_digit_term ["a", "b", "c"]
  d_sm_look_term : DefAt K mg "sm_look_term" st_sm_look_term ["term"]
  d_sm_look_kind : DefAt K mg "sm_look_kind" st_sm_look_kind ["term", "span"]
  d_sm_look_there : DefAt K mg "sm_look_there" st_sm_look_there ["term", "span"]
  d_sm_look : DefAt K mg "sm_look" st_sm_look ["term", "span"]
  d_sm_sum : DefAt K mg "sm_sum" st_sm_sum ["term", "span", "n"]
  d_sum_value : DefAt K mg "sum_value" st_sum_value ["term", "span", "n"]
  d__law_stream : DefAt K mg "_law_stream" st__law_stream ["script"]
  d__law_next : DefAt K mg "_law_next" st__law_next ["row", "many"]
  d__law_int : DefAt K mg "_law_int" st__law_int ["value"]
  d__law_gcd : DefAt K mg "_law_gcd" st__law_gcd ["one", "other"]
  d__law_is_num : DefAt K mg "_law_is_num" st__law_is_num ["value"]
  d__law_pow : DefAt K mg "_law_pow" st__law_pow ["base", "many"]
  d__law_digit_sum : DefAt K mg "_law_digit_sum" st__law_digit_sum ["a", "b", "c", "n"]
  d__law_divided : DefAt K mg "_law_divided" st__law_divided ["a", "b", "c", "p", "n"]
  d__law_first : DefAt K mg "_law_first" st__law_first ["a", "b", "c", "p"]
  d__law_small_power : DefAt K mg "_law_small_power" st__law_small_power ["p"]
  d__law_counts_ok : DefAt K mg "_law_counts_ok" st__law_counts_ok ["draws", "a", "b", "c", "p"]
  d__law_first_is : DefAt K mg "_law_first_is" st__law_first_is ["a", "b", "c", "p", "due"]
  d__law_term_ok : DefAt K mg "_law_term_ok" st__law_term_ok ["draws", "a", "b", "c"]
  d__law_refused : DefAt K mg "_law_refused" st__law_refused ["door", "row"]
  d__law_refusals_ok : DefAt K mg "_law_refusals_ok" st__law_refusals_ok ["draws"]
  d_law : DefAt K mg "law" st_law ["script"]
  d_Step_eq : ∃ f fd, Meth K Γ.Plain "__eq__" f ∧ Fun K "__eq__" "Step.__eq__" st_Step_eq f fd ∧ Binds K fd ["self", "other"] []
  d_Pure_init : ∃ f fd, Mk K Γ.Pure f ∧ Fun K "__init__" "Pure.__init__" st_Pure_init f fd ∧ Binds K fd ["self", "step", "s", "t", "square", "tops", "bottoms"] []
  d_Term2_init : ∃ f fd, Mk K Γ.Term2 f ∧ Fun K "__init__" "Term2.__init__" st_Term2_init f fd ∧ Binds K fd ["self", "step", "top", "bottom", "pure"] []
  d_Term2_full : ∃ pa f fd, PropOf K Γ.Term2 "full" pa f ∧ Fun K "full" "Term2.full" st_Term2_full f fd ∧ Binds K fd ["self"] []
  d_Range_init : ∃ f fd, Mk K Γ.Range f ∧ Fun K "__init__" "Range.__init__" st_Range_init f fd ∧ Binds K fd ["self", "low", "high", "start"] []
  d_Range_ends : ∃ f fd, Meth K Γ.Range "ends" f ∧ Fun K "ends" "Range.ends" st_Range_ends f fd ∧ Binds K fd ["self", "n"] []
  su_Plain : ∃ f fd fD fdD, Mk K Γ.Plain f ∧ OwnSup P K Γ.Plain f fD "Plain.__init__" st_Plain_init fd ∧ Fun K "__init__" "Step.__init__" st_Step_init fD fdD ∧ Binds K fdD ["self", "word", "base"] [] ∧ Binds K fd ["self"] [] ∧ mg "super" = none
section
variable {P : Program} {w : World} {K : PySem.W.Frag} {mg : Str → Option Value} {base : Heap} {Γ : Ad}
theorem cal_nu_integer (T : Tp P K mg Γ) : Cal P w K mg base 1 "nu_integer" (sp_nu_integer Γ) := by
  exact cal_mk (p := p_nu_integer Γ) T.d_nu_integer sc_nu_integer (len_nu_integer Γ) (fun f cdv A outer s H E hr => sb_cons (ss_ret (se_and (se_isi (se_var 0) T.b_isinstance T.b_int (by decide +kernel) (by decide +kernel)) (se_one (se_not (se_isi (se_var 0) T.b_isinstance T.b_bool (by decide +kernel) (by decide +kernel)))))) (sb_nil)) (pf_nu_integer Γ)
theorem cal_nu_gcd (T : Tp P K mg Γ) : Cal P w K mg base 1 "nu_gcd" (sp_nu_gcd Γ) := by
  exact cal_mk (p := p_nu_gcd Γ) T.d_nu_gcd sc_nu_gcd (len_nu_gcd Γ) (fun f cdv A outer s H E hr => sb_cons (ss_asg (se_abs T.b_abs (sa_cons (se_var 0) (sa_nil))) (sg_name 0 sc_nu_gcd.nd)) (sb_cons (ss_asg (se_abs T.b_abs (sa_cons (se_var 1) (sa_nil))) (sg_name 1 sc_nu_gcd.nd)) (sb_cons (ss_while (passes_of rfl) (st_ne hr.units (se_var 1) (se_int)) (sb_cons (ss_par 0 1 rfl sc_nu_gcd.nd (sa_cons (se_var 1) (sa_cons (se_mod (se_var 0) (se_var 1)) (sa_nil)))) (sb_nil))) (sb_cons (ss_retN 0) (sb_nil))))) (pf_nu_gcd Γ)
theorem cal_nu_low (T : Tp P K mg Γ) : Cal P w K mg base 2 "nu_low" (sp_nu_low Γ) := by
  exact cal_mk (p := p_nu_low Γ) T.d_nu_low sc_nu_low (len_nu_low Γ) (fun f cdv A outer s H E hr => sb_cons (ss_asg (se_call ((cal_nu_gcd T).mono (by decide)) hr (takes_of rfl rfl rfl rfl) (sa_cons (se_var 0) (sa_cons (se_var 1) (sa_nil)))) (sg_name 2 sc_nu_low.nd)) (sb_cons (ss_if (st_lt (se_var 1) (se_int)) (sb_cons (ss_asg (se_neg (se_var 2)) (sg_name 2 sc_nu_low.nd)) (sb_nil)) (sb_nil)) (sb_cons (ss_ret (se_tup (sa_cons (se_div (se_var 0) (se_var 2)) (sa_cons (se_div (se_var 1) (se_var 2)) (sa_nil))))) (sb_nil)))) (pf_nu_low Γ)
theorem cal_number (T : Tp P K mg Γ) : Cal P w K mg base 3 "number" (sp_number Γ) := by
  exact cal_mk (p := p_number Γ) T.d_number sc_number (len_number Γ) (fun f cdv A outer s H E hr => sb_cons (ss_if (st_val (se_call ((cal_nu_integer T).mono (by decide)) hr (takes_of rfl rfl rfl rfl) (sa_cons (se_var 0) (sa_nil)))) (sb_cons (ss_ret (se_tup (sa_cons (se_toint T.b_int (sa_cons (se_var 0) (sa_nil))) (sa_cons (se_int) (sa_nil))))) (sb_nil)) (sb_nil)) (sb_cons (ss_if (st_w (sw_and (st_val (se_isi2 (se_var 0) T.b_isinstance T.b_tuple T.b_list (by decide +kernel) (by decide +kernel) (by decide +kernel) (by decide +kernel))) (sw_and1 (st_eq hr.units (se_len T.b_len (sq_var 0)) (se_int))))) (sb_cons (ss_asg (se_var 0) (sg_tup rfl (sgs_cons (sg_name 1 sc_number.nd) (sgs_cons (sg_name 2 sc_number.nd) (sgs_nil))))) (sb_cons (ss_if (st_w (sw_and (st_val (se_call ((cal_nu_integer T).mono (by decide)) hr (takes_of rfl rfl rfl rfl) (sa_cons (se_var 1) (sa_nil)))) (sw_and (st_val (se_call ((cal_nu_integer T).mono (by decide)) hr (takes_of rfl rfl rfl rfl) (sa_cons (se_var 2) (sa_nil)))) (sw_and1 (st_ge (se_var 2) (se_int)))))) (sb_cons (ss_ret (se_call ((cal_nu_low T).mono (by decide)) hr (takes_of rfl rfl rfl rfl) (sa_cons (se_var 1) (sa_cons (se_var 2) (sa_nil))))) (sb_nil)) (sb_nil)) (sb_nil))) (sb_nil)) (sb_cons (ss_dead) (sb_nil)))) (pf_number Γ)
theorem cal_plus (T : Tp P K mg Γ) : Cal P w K mg base 4 "plus" (sp_plus Γ) := by
  exact cal_mk (p := p_plus Γ) T.d_plus sc_plus (len_plus Γ) (fun f cdv A outer s H E hr => sb_cons (ss_asg (se_call ((cal_number T).mono (by decide)) hr (takes_of rfl rfl rfl rfl) (sa_cons (se_var 0) (sa_nil))) (sg_tup rfl (sgs_cons (sg_name 2 sc_plus.nd) (sgs_cons (sg_name 3 sc_plus.nd) (sgs_nil))))) (sb_cons (ss_asg (se_call ((cal_number T).mono (by decide)) hr (takes_of rfl rfl rfl rfl) (sa_cons (se_var 1) (sa_nil))) (sg_tup rfl (sgs_cons (sg_name 4 sc_plus.nd) (sgs_cons (sg_name 5 sc_plus.nd) (sgs_nil))))) (sb_cons (ss_ret (se_call ((cal_nu_low T).mono (by decide)) hr (takes_of rfl rfl rfl rfl) (sa_cons (se_add (se_mul (se_var 2) (se_var 5)) (se_mul (se_var 4) (se_var 3))) (sa_cons (se_mul (se_var 3) (se_var 5)) (sa_nil))))) (sb_nil)))) (pf_plus Γ)
theorem cal_nu_power (T : Tp P K mg Γ) : Cal P w K mg base 1 "nu_power" (sp_nu_power Γ) := by
  exact cal_mk (p := p_nu_power Γ) T.d_nu_power sc_nu_power (len_nu_power Γ) (fun f cdv A outer s H E hr => sb_cons (ss_asg (se_int) (sg_name 2 sc_nu_power.nd)) (sb_cons (ss_asg (se_var 0) (sg_name 3 sc_nu_power.nd)) (sb_cons (ss_asg (se_var 1) (sg_name 4 sc_nu_power.nd)) (sb_cons (ss_while (passes_of rfl) (st_gt (se_var 4) (se_int)) (sb_cons (ss_if (st_eq hr.units (se_mod (se_var 4) (se_int)) (se_int)) (sb_cons (ss_asg (se_mul (se_var 2) (se_var 3)) (sg_name 2 sc_nu_power.nd)) (sb_nil)) (sb_nil)) (sb_cons (ss_asg (se_div (se_var 4) (se_int)) (sg_name 4 sc_nu_power.nd)) (sb_cons (ss_if (st_gt (se_var 4) (se_int)) (sb_cons (ss_asg (se_mul (se_var 3) (se_var 3)) (sg_name 3 sc_nu_power.nd)) (sb_nil)) (sb_nil)) (sb_nil))))) (sb_cons (ss_retN 2) (sb_nil)))))) (pf_nu_power Γ)
theorem cal_sw_step (T : Tp P K mg Γ) : Cal P w K mg base 1 "sw_step" (sp_sw_step Γ) := by
  exact cal_mk (p := p_sw_step Γ) T.d_sw_step sc_sw_step (len_sw_step Γ) (fun f cdv A outer s H E hr => sb_cons (ss_if (st_not (st_val (se_isC T.ow_Plain T.kt_Plain_Step (se_var 0) T.b_isinstance T.m_Step))) (sb_dead) (sb_nil)) (sb_cons (ss_retN 0) (sb_nil))) (pf_sw_step Γ)
theorem cal_sw_power (T : Tp P K mg Γ) : Cal P w K mg base 2 "sw_power" (sp_sw_power Γ) := by
  exact cal_mk (p := p_sw_power Γ) T.d_sw_power sc_sw_power (len_sw_power Γ) (fun f cdv A outer s H E hr => sb_cons (ss_asg (se_var 0) (sg_tup rfl (sgs_cons (sg_name 2 sc_sw_power.nd) (sgs_cons (sg_name 3 sc_sw_power.nd) (sgs_nil))))) (sb_cons (ss_if (st_ge (se_var 1) (se_int)) (sb_cons (ss_ret (se_tup (sa_cons (se_call ((cal_nu_power T).mono (by decide)) hr (takes_of rfl rfl rfl rfl) (sa_cons (se_var 2) (sa_cons (se_var 1) (sa_nil)))) (sa_cons (se_call ((cal_nu_power T).mono (by decide)) hr (takes_of rfl rfl rfl rfl) (sa_cons (se_var 3) (sa_cons (se_var 1) (sa_nil)))) (sa_nil))))) (sb_nil)) (sb_nil)) (sb_dead))) (pf_sw_power Γ)
theorem cal_pu_three (T : Tp P K mg Γ) : Cal P w K mg base 2 "pu_three" (sp_pu_three Γ) := by
  exact cal_mk (p := p_pu_three Γ) T.d_pu_three sc_pu_three (len_pu_three Γ) (fun f cdv A outer s H E hr => sb_cons (ss_if (st_w (sw_or (st_not (st_val (se_isi2 (se_var 0) T.b_isinstance T.b_tuple T.b_list (by decide +kernel) (by decide +kernel) (by decide +kernel) (by decide +kernel)))) (sw_or1 (st_ne hr.units (se_len T.b_len (sq_var 0)) (se_int))))) (sb_cons (ss_ret (se_bl)) (sb_nil)) (sb_nil)) (sb_cons (ss_ret (se_and (se_call ((cal_nu_integer T).mono (by decide)) hr (takes_of rfl rfl rfl rfl) (sa_cons (se_ix (sq_var 0) (se_int)) (sa_nil))) (se_and (se_call ((cal_nu_integer T).mono (by decide)) hr (takes_of rfl rfl rfl rfl) (sa_cons (se_ix (sq_var 0) (se_int)) (sa_nil))) (se_one (se_call ((cal_nu_integer T).mono (by decide)) hr (takes_of rfl rfl rfl rfl) (sa_cons (se_ix (sq_var 0) (se_int)) (sa_nil))))))) (sb_nil))) (pf_pu_three Γ)
theorem cal_pu_form (T : Tp P K mg Γ) : Cal P w K mg base 3 "pu_form" (sp_pu_form Γ) := by
  exact cal_mk (p := p_pu_form Γ) T.d_pu_form sc_pu_form (len_pu_form Γ) (fun f cdv A outer s H E hr => sb_cons (ss_if (st_not (st_val (se_call ((cal_pu_three T).mono (by decide)) hr (takes_of rfl rfl rfl rfl) (sa_cons (se_var 0) (sa_nil))))) (sb_dead) (sb_nil)) (sb_cons (ss_asg (se_var 0) (sg_tup rfl (sgs_cons (sg_name 1 sc_pu_form.nd) (sgs_cons (sg_name 2 sc_pu_form.nd) (sgs_cons (sg_name 3 sc_pu_form.nd) (sgs_nil)))))) (sb_cons (ss_if (st_w (sw_and (st_eq hr.units (se_var 1) (se_int)) (sw_and (st_eq hr.units (se_var 2) (se_int)) (sw_and1 (st_lt (se_var 3) (se_int)))))) (sb_dead) (sb_nil)) (sb_cons (ss_ret (se_tup (sa_cons (se_var 1) (sa_cons (se_var 2) (sa_cons (se_var 3) (sa_nil)))))) (sb_nil))))) (pf_pu_form Γ)
theorem cal_pu_forms (T : Tp P K mg Γ) : Cal P w K mg base 4 "pu_forms" (sp_pu_forms Γ) := by
  exact cal_mk (p := p_pu_forms Γ) T.d_pu_forms sc_pu_forms (len_pu_forms Γ) (fun f cdv A outer s H E hr => sb_cons (ss_if (st_not (st_val (se_isi2 (se_var 0) T.b_isinstance T.b_tuple T.b_list (by decide +kernel) (by decide +kernel) (by decide +kernel) (by decide +kernel)))) (sb_dead) (sb_nil)) (sb_cons (ss_ret (se_totup T.b_tuple (sq_of (se_sortedT 3 T.b_sorted (sa_cons (se_lc 1 rfl sc_pu_forms.nd (si_seq (se_var 0)) (blkOk_by (N := N_pu_forms) (sc := defScope st_pu_forms) (by decide +kernel)) (fun _ _ _ _ _ => pg_name (i := 1) sc_pu_forms.nd rfl (by first | exact Or.inl rfl | exact Or.inr rfl)) (fun _ _ _ _ _ => sts_nil) (fun _ _ _ _ _ => se_call ((cal_pu_form T).mono (by decide)) hr Py.takes0 (sa_cons (se_var 1) (sa_nil)))) (sa_nil)))))) (sb_nil))) (pf_pu_forms Γ)
theorem cal_pu_square (T : Tp P K mg Γ) : Cal P w K mg base 3 "pu_square" (sp_pu_square Γ) := by
  exact cal_mk (p := p_pu_square Γ) T.d_pu_square sc_pu_square (len_pu_square Γ) (fun f cdv A outer s H E hr => sb_cons (ss_if (st_not (st_val (se_call ((cal_pu_three T).mono (by decide)) hr (takes_of rfl rfl rfl rfl) (sa_cons (se_var 1) (sa_nil))))) (sb_dead) (sb_nil)) (sb_cons (ss_asg (se_var 1) (sg_tup rfl (sgs_cons (sg_name 2 sc_pu_square.nd) (sgs_cons (sg_name 3 sc_pu_square.nd) (sgs_cons (sg_name 4 sc_pu_square.nd) (sgs_nil)))))) (sb_cons (ss_if (st_w (sw_and (st_eq hr.units (se_fld T.cl_Plain T.na_Plain_word (se_var 0)) (se_str)) (sw_and1 (st_w (sw_or (st_ne hr.units (se_var 2) (se_int)) (sw_or (st_ne hr.units (se_var 3) (se_int)) (sw_or1 (st_ne hr.units (se_var 4) (se_int))))))))) (sb_dead) (sb_nil)) (sb_cons (ss_ret (se_tup (sa_cons (se_var 2) (sa_cons (se_var 3) (sa_cons (se_var 4) (sa_nil)))))) (sb_nil))))) (pf_pu_square Γ)
theorem cal_pu_less (T : Tp P K mg Γ) : Cal P w K mg base 1 "pu_less" (sp_pu_less Γ) := by
  exact cal_mk (p := p_pu_less Γ) T.d_pu_less sc_pu_less (len_pu_less Γ) (fun f cdv A outer s H E hr => sb_cons (ss_asg (se_tolist T.b_list (sq_var 1)) (sg_name 2 sc_pu_less.nd)) (sb_cons (ss_asg (se_lst (sa_nil)) (sg_name 3 sc_pu_less.nd)) (sb_cons (ss_for (passes_of rfl) rfl (si_seq (se_var 0)) (sg_name 4 sc_pu_less.nd) (sb_cons (ss_if (st_inL hr.u65 (se_var 4) (sq_var 2)) (sb_cons (ss_remove 2 hr.u65 (se_var 4)) (sb_nil)) (sb_cons (ss_append 3 (se_var 4)) (sb_nil))) (sb_nil))) (sb_cons (ss_ret (se_totup T.b_tuple (sq_var 3))) (sb_nil))))) (pf_pu_less Γ)
theorem cal_pu_size (T : Tp P K mg Γ) : Cal P w K mg base 1 "pu_size" (sp_pu_size Γ) := by
  exact cal_mk (p := p_pu_size Γ) T.d_pu_size sc_pu_size (len_pu_size Γ) (fun f cdv A outer s H E hr => sb_cons (ss_ret (se_add (se_add (se_mul (se_ix (sq_var 0) (se_int)) (se_var 1)) (se_mul (se_ix (sq_var 0) (se_int)) (se_var 2))) (se_ix (sq_var 0) (se_int)))) (sb_nil)) (pf_pu_size Γ)
theorem cal_pu_there (T : Tp P K mg Γ) : Cal P w K mg base 2 "pu_there" (sp_pu_there Γ) := by
  exact cal_mk (p := p_pu_there Γ) T.d_pu_there sc_pu_there (len_pu_there Γ) (fun f cdv A outer s H E hr => sb_cons (ss_ret (se_not (se_any rfl T.b_any (sa_cons (se_lc 3 rfl sc_pu_there.nd (si_seq (se_var 0)) (blkOk_by (N := N_pu_there) (sc := defScope st_pu_there) (by decide +kernel)) (fun _ _ _ _ _ => pg_name (i := 3) sc_pu_there.nd rfl (by first | exact Or.inl rfl | exact Or.inr rfl)) (fun _ _ _ _ _ => sts_nil) (fun _ _ _ _ _ => se_lt (se_call ((cal_pu_size T).mono (by decide)) hr Py.takes0 (sa_cons (se_var 3) (sa_cons (se_var 1) (sa_cons (se_var 2) (sa_nil))))) (se_int))) (sa_nil))))) (sb_nil)) (pf_pu_there Γ)
theorem cal_pu_falling (T : Tp P K mg Γ) : Cal P w K mg base 1 "pu_falling" (sp_pu_falling Γ) := by
  exact cal_mk (p := p_pu_falling Γ) T.d_pu_falling sc_pu_falling (len_pu_falling Γ) (fun f cdv A outer s H E hr => sb_cons (ss_if (st_eq hr.units (se_fld T.cl_Plain T.na_Plain_word (se_var 0)) (se_str)) (sb_cons (ss_ret (se_tup (sa_cons (se_factorial T.f_factorial (sa_cons (se_var 1) (sa_nil))) (sa_cons (se_int) (sa_nil))))) (sb_nil)) (sb_nil)) (sb_dead)) (pf_pu_falling Γ)
theorem cal_pu_number (T : Tp P K mg Γ) : Cal P w K mg base 3 "pu_number" (sp_pu_number Γ) := by
  exact cal_mk (p := p_pu_number Γ) T.d_pu_number sc_pu_number (len_pu_number Γ) (fun f cdv A outer s H E hr => sb_cons (ss_if (st_not (st_val (se_call ((cal_pu_there T).mono (by decide)) hr (takes_of rfl rfl rfl rfl) (sa_cons (se_fld T.cl_Pure T.na_Pure_tops (se_var 0)) (sa_cons (se_var 1) (sa_cons (se_var 2) (sa_nil))))))) (sb_cons (ss_ret (se_non)) (sb_nil)) (sb_nil)) (sb_cons (ss_if (st_val (se_any rfl T.b_any (sa_cons (se_lc 7 rfl sc_pu_number.nd (si_seq (se_addT (se_fld T.cl_Pure T.na_Pure_tops (se_var 0)) (se_fld T.cl_Pure T.na_Pure_bottoms (se_var 0)))) (blkOk_by (N := N_pu_number) (sc := defScope st_pu_number) (by decide +kernel)) (fun _ _ _ _ _ => pg_name (i := 7) sc_pu_number.nd rfl (by first | exact Or.inl rfl | exact Or.inr rfl)) (fun _ _ _ _ _ => sts_nil) (fun _ _ _ _ _ => se_gt (se_call ((cal_pu_size T).mono (by decide)) hr Py.takes0 (sa_cons (se_var 7) (sa_cons (se_var 1) (sa_cons (se_var 2) (sa_nil))))) (se_globI T.g_VALUE_BOUND))) (sa_nil)))) (sb_dead) (sb_nil)) (sb_cons (ss_if (st_not (st_val (se_call ((cal_pu_there T).mono (by decide)) hr (takes_of rfl rfl rfl rfl) (sa_cons (se_fld T.cl_Pure T.na_Pure_bottoms (se_var 0)) (sa_cons (se_var 1) (sa_cons (se_var 2) (sa_nil))))))) (sb_cons (ss_ret (se_tup (sa_cons (se_int) (sa_cons (se_int) (sa_nil))))) (sb_nil)) (sb_nil)) (sb_cons (ss_asg (se_call ((cal_sw_power T).mono (by decide)) hr (takes_of rfl rfl rfl rfl) (sa_cons (se_fld T.cl_Pure T.na_Pure_s (se_var 0)) (sa_cons (se_var 1) (sa_nil)))) (sg_name 3 sc_pu_number.nd)) (sb_cons (ss_asg (se_call ((cal_sw_power T).mono (by decide)) hr (takes_of rfl rfl rfl rfl) (sa_cons (se_fld T.cl_Pure T.na_Pure_t (se_var 0)) (sa_cons (se_var 2) (sa_nil)))) (sg_name 4 sc_pu_number.nd)) (sb_cons (ss_asg (se_mul (se_ix (sq_var 3) (se_int)) (se_ix (sq_var 4) (se_int))) (sg_name 5 sc_pu_number.nd)) (sb_cons (ss_asg (se_mul (se_ix (sq_var 3) (se_int)) (se_ix (sq_var 4) (se_int))) (sg_name 6 sc_pu_number.nd)) (sb_cons (ss_for (passes_of rfl) rfl (si_seq (se_fld T.cl_Pure T.na_Pure_tops (se_var 0))) (sg_name 7 sc_pu_number.nd) (sb_cons (ss_asg (se_call ((cal_pu_falling T).mono (by decide)) hr (takes_of rfl rfl rfl rfl) (sa_cons (se_fld T.cl_Pure T.na_Pure_step (se_var 0)) (sa_cons (se_call ((cal_pu_size T).mono (by decide)) hr (takes_of rfl rfl rfl rfl) (sa_cons (se_var 7) (sa_cons (se_var 1) (sa_cons (se_var 2) (sa_nil))))) (sa_nil)))) (sg_tup rfl (sgs_cons (sg_name 8 sc_pu_number.nd) (sgs_cons (sg_name 9 sc_pu_number.nd) (sgs_nil))))) (sb_cons (ss_asg (se_mul (se_var 5) (se_var 8)) (sg_name 5 sc_pu_number.nd)) (sb_cons (ss_asg (se_mul (se_var 6) (se_var 9)) (sg_name 6 sc_pu_number.nd)) (sb_nil))))) (sb_cons (ss_for (passes_of rfl) rfl (si_seq (se_fld T.cl_Pure T.na_Pure_bottoms (se_var 0))) (sg_name 7 sc_pu_number.nd) (sb_cons (ss_asg (se_call ((cal_pu_falling T).mono (by decide)) hr (takes_of rfl rfl rfl rfl) (sa_cons (se_fld T.cl_Pure T.na_Pure_step (se_var 0)) (sa_cons (se_call ((cal_pu_size T).mono (by decide)) hr (takes_of rfl rfl rfl rfl) (sa_cons (se_var 7) (sa_cons (se_var 1) (sa_cons (se_var 2) (sa_nil))))) (sa_nil)))) (sg_tup rfl (sgs_cons (sg_name 8 sc_pu_number.nd) (sgs_cons (sg_name 9 sc_pu_number.nd) (sgs_nil))))) (sb_cons (ss_asg (se_mul (se_var 5) (se_var 9)) (sg_name 5 sc_pu_number.nd)) (sb_cons (ss_asg (se_mul (se_var 6) (se_var 8)) (sg_name 6 sc_pu_number.nd)) (sb_nil))))) (sb_cons (ss_if (st_eq hr.units (se_fld T.cl_Plain T.na_Plain_word (se_fld T.cl_Pure T.na_Pure_step (se_var 0))) (se_str)) (sb_dead) (sb_nil)) (sb_cons (ss_ret (se_call ((cal_nu_low T).mono (by decide)) hr (takes_of rfl rfl rfl rfl) (sa_cons (se_var 5) (sa_cons (se_var 6) (sa_nil))))) (sb_nil)))))))))))) (pf_pu_number Γ)
theorem cal_i2_pair (T : Tp P K mg Γ) : Cal P w K mg base 2 "i2_pair" (sp_i2_pair Γ) := by
  exact cal_mk (p := p_i2_pair Γ) T.d_i2_pair sc_i2_pair (len_i2_pair Γ) (fun f cdv A outer s H E hr => sb_cons (ss_if (st_w (sw_or (st_not (st_val (se_isi2 (se_var 0) T.b_isinstance T.b_tuple T.b_list (by decide +kernel) (by decide +kernel) (by decide +kernel) (by decide +kernel)))) (sw_or1 (st_ne hr.units (se_len T.b_len (sq_var 0)) (se_int))))) (sb_cons (ss_ret (se_bl)) (sb_nil)) (sb_nil)) (sb_cons (ss_ret (se_and (se_call ((cal_nu_integer T).mono (by decide)) hr (takes_of rfl rfl rfl rfl) (sa_cons (se_ix (sq_var 0) (se_int)) (sa_nil))) (se_and (se_call ((cal_nu_integer T).mono (by decide)) hr (takes_of rfl rfl rfl rfl) (sa_cons (se_ix (sq_var 0) (se_int)) (sa_nil))) (se_one (se_ge (se_ix (sq_var 0) (se_int)) (se_int)))))) (sb_nil))) (pf_i2_pair Γ)
theorem cal_i2_fits (T : Tp P K mg Γ) : Cal P w K mg base 3 "i2_fits" (sp_i2_fits Γ) := by
  exact cal_mk (p := p_i2_fits Γ) T.d_i2_fits sc_i2_fits (len_i2_fits Γ) (fun f cdv A outer s H E hr => sb_cons (ss_if (st_w (sw_or (st_not (st_val (se_isi2 (se_var 0) T.b_isinstance T.b_tuple T.b_list (by decide +kernel) (by decide +kernel) (by decide +kernel) (by decide +kernel)))) (sw_or1 (st_ne hr.units (se_len T.b_len (sq_var 0)) (se_int))))) (sb_cons (ss_ret (se_bl)) (sb_nil)) (sb_nil)) (sb_cons (ss_if (st_w (sw_or (st_not (st_val (se_call ((cal_nu_integer T).mono (by decide)) hr (takes_of rfl rfl rfl rfl) (sa_cons (se_ix (sq_var 0) (se_int)) (sa_nil))))) (sw_or1 (st_not (st_val (se_call ((cal_nu_integer T).mono (by decide)) hr (takes_of rfl rfl rfl rfl) (sa_cons (se_ix (sq_var 0) (se_int)) (sa_nil)))))))) (sb_cons (ss_ret (se_bl)) (sb_nil)) (sb_nil)) (sb_cons (ss_ret (se_or (se_call ((cal_nu_integer T).mono (by decide)) hr (takes_of rfl rfl rfl rfl) (sa_cons (se_ix (sq_var 0) (se_int)) (sa_nil))) (se_one (se_call ((cal_i2_pair T).mono (by decide)) hr (takes_of rfl rfl rfl rfl) (sa_cons (se_ix (sq_var 0) (se_int)) (sa_nil)))))) (sb_nil)))) (pf_i2_fits Γ)
theorem cal_i2_told (T : Tp P K mg Γ) : Cal P w K mg base 3 "i2_told" (sp_i2_told Γ) := by
  exact cal_mk (p := p_i2_told Γ) T.d_i2_told sc_i2_told (len_i2_told Γ) (fun f cdv A outer s H E hr => sb_cons (ss_ret (se_totup T.b_tuple (sq_of (se_sorted1 T.b_sorted (sa_cons (se_lcG (own := [("at", 2), ("a", 3)]) [2, 3] rfl sc_i2_told.nd (si_items (se_var 1)) (blkOk_by (N := N_i2_told) (sc := defScope st_i2_told) (by decide +kernel)) rfl (fun _ _ _ _ _ => pgw_tup rfl (pgsw_cons (pgw_name 2 (by decide) (pg_name (i := 2) sc_i2_told.nd rfl (by first | exact Or.inl rfl | exact Or.inr rfl))) (pgsw_cons (pgw_name 3 (by decide) (pg_name (i := 3) sc_i2_told.nd rfl (by first | exact Or.inl rfl | exact Or.inr rfl))) (pgsw_nil)))) (fun _ _ _ _ _ => sts_one (st_ne hr.units (se_var 3) (se_int))) (fun _ _ _ _ _ => se_tup (sa_cons (se_ix (sq_var 2) (se_int)) (sa_cons (se_ix (sq_var 2) (se_int)) (sa_cons (se_call ((cal_nu_low T).mono (by decide)) hr Py.takes0 (sa_cons (se_var 3) (sa_cons (se_var 0) (sa_nil)))) (sa_nil)))))) (sa_nil)))))) (sb_nil)) (pf_i2_told Γ)
theorem cal_i2_whole (T : Tp P K mg Γ) : Cal P w K mg base 1 "i2_whole" (sp_i2_whole Γ) := by
  exact cal_mk (p := p_i2_whole Γ) T.d_i2_whole sc_i2_whole (len_i2_whole Γ) (fun f cdv A outer s H E hr => sb_cons (ss_asg (se_int) (sg_name 1 sc_i2_whole.nd)) (sb_cons (ss_for (passes_of rfl) rfl (si_seq (se_var 0)) (sg_name 2 sc_i2_whole.nd) (sb_cons (ss_asg (se_lcm T.f_lcm (sa_cons (se_var 1) (sa_cons (se_ix (sq_of (se_ix (sq_var 2) (se_int))) (se_int)) (sa_nil)))) (sg_name 1 sc_i2_whole.nd)) (sb_nil))) (sb_cons (ss_ret (se_tup (sa_cons (se_var 1) (sa_cons (se_dc (own := [("i", 3), ("j", 4), ("a", 5), ("b", 6)]) [3, 4, 5, 6] hr.u0 rfl sc_i2_whole.nd (si_seq (se_var 0)) (blkOk_by (N := N_i2_whole) (sc := defScope st_i2_whole) (by decide +kernel)) rfl (fun _ _ _ _ _ => pgw_tup rfl (pgsw_cons (pgw_name 3 (by decide) (pg_name (i := 3) sc_i2_whole.nd rfl (by first | exact Or.inl rfl | exact Or.inr rfl))) (pgsw_cons (pgw_name 4 (by decide) (pg_name (i := 4) sc_i2_whole.nd rfl (by first | exact Or.inl rfl | exact Or.inr rfl))) (pgsw_cons (pgw_tup rfl (pgsw_cons (pgw_name 5 (by decide) (pg_name (i := 5) sc_i2_whole.nd rfl (by first | exact Or.inl rfl | exact Or.inr rfl))) (pgsw_cons (pgw_name 6 (by decide) (pg_name (i := 6) sc_i2_whole.nd rfl (by first | exact Or.inl rfl | exact Or.inr rfl))) (pgsw_nil)))) (pgsw_nil))))) (fun _ _ _ _ _ => sa_cons (se_var 3) (sa_cons (se_var 4) (sa_nil))) (fun _ _ _ _ _ => se_mul (se_var 5) (se_div (se_var 1) (se_var 6)))) (sa_nil))))) (sb_nil)))) (pf_i2_whole Γ)
theorem cal_i2_read (T : Tp P K mg Γ) : Cal P w K mg base 4 "i2_read" (sp_i2_read Γ) := by
  exact cal_mk (p := p_i2_read Γ) T.d_i2_read sc_i2_read (len_i2_read Γ) (fun f cdv A outer s H E hr => sb_cons (ss_if (st_not (st_val (se_isi2 (se_var 0) T.b_isinstance T.b_tuple T.b_list (by decide +kernel) (by decide +kernel) (by decide +kernel) (by decide +kernel)))) (sb_dead) (sb_nil)) (sb_cons (ss_asg (se_lst (sa_nil)) (sg_name 1 sc_i2_read.nd)) (sb_cons (ss_asg (se_int) (sg_name 2 sc_i2_read.nd)) (sb_cons (ss_for (passes_of rfl) rfl (si_seq (se_var 0)) (sg_name 3 sc_i2_read.nd) (sb_cons (ss_if (st_not (st_val (se_call ((cal_i2_fits T).mono (by decide)) hr (takes_of rfl rfl rfl rfl) (sa_cons (se_var 3) (sa_nil))))) (sb_dead) (sb_nil)) (sb_cons (ss_asg (se_call ((cal_number T).mono (by decide)) hr (takes_of rfl rfl rfl rfl) (sa_cons (se_ix (sq_var 3) (se_int)) (sa_nil))) (sg_tup rfl (sgs_cons (sg_name 4 sc_i2_read.nd) (sgs_cons (sg_name 5 sc_i2_read.nd) (sgs_nil))))) (sb_cons (ss_asg (se_lcm T.f_lcm (sa_cons (se_var 2) (sa_cons (se_var 5) (sa_nil)))) (sg_name 2 sc_i2_read.nd)) (sb_cons (ss_append 1 (se_tup (sa_cons (se_ix (sq_var 3) (se_int)) (sa_cons (se_ix (sq_var 3) (se_int)) (sa_cons (se_var 4) (sa_cons (se_var 5) (sa_nil))))))) (sb_nil)))))) (sb_cons (ss_dnew 6 sc_i2_read.nd) (sb_cons (ss_frz 1 (ss_for (passes_of rfl) rfl (si_seq (se_var 1)) (sg_tup rfl (sgs_cons (sg_name 7 sc_i2_read.nd) (sgs_cons (sg_name 8 sc_i2_read.nd) (sgs_cons (sg_name 4 sc_i2_read.nd) (sgs_cons (sg_name 5 sc_i2_read.nd) (sgs_nil)))))) (sb_cons (ss_dput 6 hr.u1 (sa_cons (se_var 7) (sa_cons (se_var 8) (sa_nil))) (se_add (se_dget 6 hr.u1 (sa_cons (se_var 7) (sa_cons (se_var 8) (sa_nil))) (se_int) ⟨rfl, rfl, rfl, rfl⟩) (se_mul (se_var 4) (se_div (se_var 2) (se_var 5))))) (sb_nil)))) (sb_cons (ss_dfrz 6 (ss_ret (se_call ((cal_i2_told T).mono (by decide)) hr (takes_of rfl rfl rfl rfl) (sa_cons (se_var 2) (sa_cons (se_var 6) (sa_nil)))))) (sb_nil)))))))) (pf_i2_read Γ)
theorem cal_i2_look (T : Tp P K mg Γ) : Cal P w K mg base 5 "i2_look" (sp_i2_look Γ) := by
  exact cal_mk (p := p_i2_look Γ) T.d_i2_look sc_i2_look (len_i2_look Γ) (fun f cdv A outer s H E hr => sb_cons (ss_asg (se_call ((cal_i2_read T).mono (by decide)) hr (takes_of rfl rfl rfl rfl) (sa_cons (se_var 1) (sa_nil))) (sg_name 2 sc_i2_look.nd)) (sb_cons (ss_if (st_w (sw_and (st_eq hr.units (se_fld T.cl_Plain T.na_Plain_word (se_var 0)) (se_str)) (sw_and1 (st_val (se_any rfl T.b_any (sa_cons (se_lc 3 rfl sc_i2_look.nd (si_seq (se_var 2)) (blkOk_by (N := N_i2_look) (sc := defScope st_i2_look) (by decide +kernel)) (fun _ _ _ _ _ => pg_name (i := 3) sc_i2_look.nd rfl (by first | exact Or.inl rfl | exact Or.inr rfl)) (fun _ _ _ _ _ => sts_nil) (fun _ _ _ _ _ => se_or (se_lt (se_ix (sq_var 3) (se_int)) (se_int)) (se_one (se_lt (se_ix (sq_var 3) (se_int)) (se_int))))) (sa_nil))))))) (sb_dead) (sb_nil)) (sb_cons (ss_retN 2) (sb_nil)))) (pf_i2_look Γ)
theorem cal_i2_scaled (T : Tp P K mg Γ) : Cal P w K mg base 3 "i2_scaled" (sp_i2_scaled Γ) := by
  exact cal_mk (p := p_i2_scaled Γ) T.d_i2_scaled sc_i2_scaled (len_i2_scaled Γ) (fun f cdv A outer s H E hr => sb_cons (ss_if (st_eq hr.units (se_var 1) (se_int)) (sb_cons (ss_ret (se_tup (sa_nil))) (sb_nil)) (sb_nil)) (sb_cons (ss_ret (se_totup T.b_tuple (sq_of (se_lc 3 rfl sc_i2_scaled.nd (si_seq (se_var 0)) (blkOk_by (N := N_i2_scaled) (sc := defScope st_i2_scaled) (by decide +kernel)) (fun _ _ _ _ _ => pg_name (i := 3) sc_i2_scaled.nd rfl (by first | exact Or.inl rfl | exact Or.inr rfl)) (fun _ _ _ _ _ => sts_nil) (fun _ _ _ _ _ => se_tup (sa_cons (se_ix (sq_var 3) (se_int)) (sa_cons (se_ix (sq_var 3) (se_int)) (sa_cons (se_call ((cal_nu_low T).mono (by decide)) hr Py.takes0 (sa_cons (se_mul (se_ix (sq_of (se_ix (sq_var 3) (se_int))) (se_int)) (se_var 1)) (sa_cons (se_mul (se_ix (sq_of (se_ix (sq_var 3) (se_int))) (se_int)) (se_var 2)) (sa_nil)))) (sa_nil))))))))) (sb_nil))) (pf_i2_scaled Γ)
theorem cal_i2_value (T : Tp P K mg Γ) : Cal P w K mg base 3 "i2_value" (sp_i2_value Γ) := by
  exact cal_mk (p := p_i2_value Γ) T.d_i2_value sc_i2_value (len_i2_value Γ) (fun f cdv A outer s H E hr => sb_cons (ss_asg (se_call ((cal_i2_whole T).mono (by decide)) hr (takes_of rfl rfl rfl rfl) (sa_cons (se_var 1) (sa_nil))) (sg_tup rfl (sgs_cons (sg_name 4 sc_i2_value.nd) (sgs_cons (sg_name 5 sc_i2_value.nd) (sgs_nil))))) (sb_cons (ss_if (st_eq hr.units (se_fld T.cl_Plain T.na_Plain_word (se_var 0)) (se_str)) (sb_cons (ss_asg (se_int) (sg_name 6 sc_i2_value.nd)) (sb_cons (ss_for (passes_of rfl) rfl (si_items (se_var 5)) (sg_tup rfl (sgs_cons (sg_tup rfl (sgs_cons (sg_name 7 sc_i2_value.nd) (sgs_cons (sg_name 8 sc_i2_value.nd) (sgs_nil)))) (sgs_cons (sg_name 9 sc_i2_value.nd) (sgs_nil)))) (sb_cons (ss_asg (se_add (se_var 6) (se_mul (se_mul (se_var 9) (se_call ((cal_nu_power T).mono (by decide)) hr (takes_of rfl rfl rfl rfl) (sa_cons (se_var 2) (sa_cons (se_var 7) (sa_nil))))) (se_call ((cal_nu_power T).mono (by decide)) hr (takes_of rfl rfl rfl rfl) (sa_cons (se_var 3) (sa_cons (se_var 8) (sa_nil)))))) (sg_name 6 sc_i2_value.nd)) (sb_nil))) (sb_cons (ss_ret (se_call ((cal_nu_low T).mono (by decide)) hr (takes_of rfl rfl rfl rfl) (sa_cons (se_var 6) (sa_cons (se_var 4) (sa_nil))))) (sb_nil)))) (sb_nil)) (sb_dead))) (pf_i2_value Γ)
theorem cal_t2_number (T : Tp P K mg Γ) : Cal P w K mg base 4 "t2_number" (sp_t2_number Γ) := by
  exact cal_mk (p := p_t2_number Γ) T.d_t2_number sc_t2_number (len_t2_number Γ) (fun f cdv A outer s H E hr => sb_cons (ss_if (st_not (st_val (se_call ((cal_pu_there T).mono (by decide)) hr (takes_of rfl rfl rfl rfl) (sa_cons (se_fld T.cl_Pure T.na_Pure_tops (se_fld T.cl_Term2 T.na_Term2_pure (se_var 0))) (sa_cons (se_var 1) (sa_cons (se_var 2) (sa_nil))))))) (sb_cons (ss_ret (se_non)) (sb_nil)) (sb_nil)) (sb_cons (ss_asg (se_call ((cal_i2_value T).mono (by decide)) hr (takes_of rfl rfl rfl rfl) (sa_cons (se_fld T.cl_Term2 T.na_Term2_step (se_var 0)) (sa_cons (se_fld T.cl_Term2 T.na_Term2_bottom (se_var 0)) (sa_cons (se_var 1) (sa_cons (se_var 2) (sa_nil)))))) (sg_name 3 sc_t2_number.nd)) (sb_cons (ss_if (st_eq hr.units (se_ix (sq_var 3) (se_int)) (se_int)) (sb_cons (ss_ret (se_non)) (sb_nil)) (sb_nil)) (sb_cons (ss_asg (se_call ((cal_pu_number T).mono (by decide)) hr (takes_of rfl rfl rfl rfl) (sa_cons (se_fld T.cl_Term2 T.na_Term2_pure (se_var 0)) (sa_cons (se_var 1) (sa_cons (se_var 2) (sa_nil))))) (sg_name 4 sc_t2_number.nd)) (sb_cons (ss_asg (se_call ((cal_i2_value T).mono (by decide)) hr (takes_of rfl rfl rfl rfl) (sa_cons (se_fld T.cl_Term2 T.na_Term2_step (se_var 0)) (sa_cons (se_fld T.cl_Term2 T.na_Term2_top (se_var 0)) (sa_cons (se_var 1) (sa_cons (se_var 2) (sa_nil)))))) (sg_name 5 sc_t2_number.nd)) (sb_cons (ss_ret (se_call ((cal_nu_low T).mono (by decide)) hr (takes_of rfl rfl rfl rfl) (sa_cons (se_mul (se_mul (se_ix (sq_var 4) (se_int)) (se_ix (sq_var 5) (se_int))) (se_ix (sq_var 3) (se_int))) (sa_cons (se_mul (se_mul (se_ix (sq_var 4) (se_int)) (se_ix (sq_var 5) (se_int))) (se_ix (sq_var 3) (se_int))) (sa_nil))))) (sb_nil))))))) (pf_t2_number Γ)
theorem cal_Step_eq (T : Tp P K mg Γ) : CalM P w K mg base 1 Γ.Plain "__eq__" (sp_Step_eq Γ) := by
  obtain ⟨f, fd, M, Fn, hb⟩ := T.d_Step_eq
  exact ⟨f, fd, _, M, fn_mk0 (p := p_Step_eq Γ) Fn sc_Step_eq (len_Step_eq Γ) (fun f cdv A outer s H E hr => sb_cons (ss_if (st_not (st_val (se_isC T.ow_Plain T.kt_Plain_Step (se_var 1) T.b_isinstance T.m_Step))) (sb_cons (ss_ret (se_bl)) (sb_nil)) (sb_nil)) (sb_cons (ss_ret (se_and (se_eq hr.units (se_fld T.cl_Plain T.na_Plain_word (se_var 0)) (se_fld T.cl_Plain T.na_Plain_word (se_var 1))) (se_one (se_eq hr.units (se_fld T.cl_Plain T.na_Plain_base (se_var 0)) (se_fld T.cl_Plain T.na_Plain_base (se_var 1)))))) (sb_nil))) (pf_Step_eq Γ), hb⟩
theorem cal_Term2_init (T : Tp P K mg Γ) : CalI P w K mg base 6 Γ.Term2 (sp_Term2_init Γ) := by
  obtain ⟨f, fd, M, Fn, hb⟩ := T.d_Term2_init
  exact ⟨f, fd, _, M, fn_mkI (p := p_Term2_init Γ) Fn sc_Term2_init (by decide) (len_Term2_init Γ) (fun f cdv A outer s H E hr => sb_cons (ss_setS T.cl_Term2 T.na_Term2_step (se_call ((cal_sw_step T).mono (by decide)) hr (takes_of rfl rfl rfl rfl) (sa_cons (se_var 1) (sa_nil)))) (sb_cons (ss_asg (se_call ((cal_i2_look T).mono (by decide)) hr (takes_of rfl rfl rfl rfl) (sa_cons (se_var 1) (sa_cons (se_var 2) (sa_nil)))) (sg_name 5 sc_Term2_init.nd)) (sb_cons (ss_asg (se_call ((cal_i2_look T).mono (by decide)) hr (takes_of rfl rfl rfl rfl) (sa_cons (se_var 1) (sa_cons (se_var 3) (sa_nil)))) (sg_name 6 sc_Term2_init.nd)) (sb_cons (ss_if (st_eq hr.units (se_len T.b_len (sq_var 6)) (se_int)) (sb_dead) (sb_nil)) (sb_cons (ss_if (st_w (sw_and (st_eq hr.units (se_fld T.cl_Plain T.na_Plain_word (se_var 1)) (se_str)) (sw_and1 (st_val (se_any rfl T.b_any (sa_cons (se_lc 9 rfl sc_Term2_init.nd (si_seq (se_var 6)) (blkOk_by (N := N_Term2_init) (sc := defScope st_Term2_init) (by decide +kernel)) (fun _ _ _ _ _ => pg_name (i := 9) sc_Term2_init.nd rfl (by first | exact Or.inl rfl | exact Or.inr rfl)) (fun _ _ _ _ _ => sts_nil) (fun _ _ _ _ _ => se_ne hr.units (se_ix (sq_var 9) (se_int)) (se_int))) (sa_nil))))))) (sb_dead) (sb_nil)) (sb_cons (ss_if (st_not (st_val (se_isC T.ow_Pure T.kt_Pure_Pure (se_var 4) T.b_isinstance T.m_Pure))) (sb_dead) (sb_nil)) (sb_cons (ss_if (st_not (st_eqC ((cal_Step_eq T).mono (by decide)) hr (se_fld T.cl_Pure T.na_Pure_step (se_var 4)) (se_var 1))) (sb_dead) (sb_nil)) (sb_cons (ss_if (st_w (sw_and (st_eq hr.units (se_len T.b_len (sq_var 6)) (se_int)) (sw_and1 (st_eq hr.units (se_sl (sq_of (se_ix (sq_var 6) (se_int))) (so_none) (so_some (se_int))) (se_tup (sa_cons (se_int) (sa_cons (se_int) (sa_nil)))))))) (sb_cons (ss_asg (se_ix (sq_of (se_ix (sq_var 6) (se_int))) (se_int)) (sg_tup rfl (sgs_cons (sg_name 7 sc_Term2_init.nd) (sgs_cons (sg_name 8 sc_Term2_init.nd) (sgs_nil))))) (sb_cons (ss_asg (se_call ((cal_i2_scaled T).mono (by decide)) hr (takes_of rfl rfl rfl rfl) (sa_cons (se_var 5) (sa_cons (se_var 8) (sa_cons (se_var 7) (sa_nil))))) (sg_name 5 sc_Term2_init.nd)) (sb_cons (ss_asg (se_globD T.gd_POLY2_ONE) (sg_name 6 sc_Term2_init.nd)) (sb_nil)))) (sb_nil)) (sb_cons (ss_setS T.cl_Term2 T.na_Term2_top (se_var 5)) (sb_cons (ss_setS T.cl_Term2 T.na_Term2_bottom (se_var 6)) (sb_cons (ss_setS T.cl_Term2 T.na_Term2_pure (se_var 4)) (sb_nil)))))))))))) (pf_Term2_init Γ), hb⟩
theorem cal_full_term (T : Tp P K mg Γ) : Cal P w K mg base 8 "full_term" (sp_full_term Γ) := by
  exact cal_mk (p := p_full_term Γ) T.d_full_term sc_full_term (len_full_term Γ) (fun f cdv A outer s H E hr => sb_cons (ss_ret (se_make ((cal_Term2_init T).mono (by decide)) T.m_Term2 hr (sa_cons (se_var 0) (sa_cons (se_var 1) (sa_cons (se_globD T.gd_POLY2_ONE) (sa_cons (se_var 2) (sa_nil))))))) (sb_nil)) (pf_full_term Γ)
theorem cal_rg_pair (T : Tp P K mg Γ) : Cal P w K mg base 2 "rg_pair" (sp_rg_pair Γ) := by
  exact cal_mk (p := p_rg_pair Γ) T.d_rg_pair sc_rg_pair (len_rg_pair Γ) (fun f cdv A outer s H E hr => sb_cons (ss_if (st_w (sw_or (st_not (st_val (se_isi2 (se_var 0) T.b_isinstance T.b_tuple T.b_list (by decide +kernel) (by decide +kernel) (by decide +kernel) (by decide +kernel)))) (sw_or1 (st_ne hr.units (se_len T.b_len (sq_var 0)) (se_int))))) (sb_dead) (sb_nil)) (sb_cons (ss_asg (se_var 0) (sg_tup rfl (sgs_cons (sg_name 2 sc_rg_pair.nd) (sgs_cons (sg_name 3 sc_rg_pair.nd) (sgs_nil))))) (sb_cons (ss_if (st_w (sw_or (st_not (st_val (se_call ((cal_nu_integer T).mono (by decide)) hr (takes_of rfl rfl rfl rfl) (sa_cons (se_var 2) (sa_nil))))) (sw_or1 (st_not (st_val (se_call ((cal_nu_integer T).mono (by decide)) hr (takes_of rfl rfl rfl rfl) (sa_cons (se_var 3) (sa_nil)))))))) (sb_dead) (sb_nil)) (sb_cons (ss_ret (se_tup (sa_cons (se_var 2) (sa_cons (se_var 3) (sa_nil))))) (sb_nil))))) (pf_rg_pair Γ)
theorem cal_Range_ends (T : Tp P K mg Γ) : CalM P w K mg base 2 Γ.Range "ends" (sp_Range_ends Γ) := by
  obtain ⟨f, fd, M, Fn, hb⟩ := T.d_Range_ends
  exact ⟨f, fd, _, M, fn_mk0 (p := p_Range_ends Γ) Fn sc_Range_ends (len_Range_ends Γ) (fun f cdv A outer s H E hr => sb_cons (ss_if (st_not (st_val (se_call ((cal_nu_integer T).mono (by decide)) hr (takes_of rfl rfl rfl rfl) (sa_cons (se_var 1) (sa_nil))))) (sb_dead) (sb_nil)) (sb_cons (ss_ret (se_tup (sa_cons (se_add (se_mul (se_ix (sq_of (se_fld T.cl_Range T.na_Range_low (se_var 0))) (se_int)) (se_var 1)) (se_ix (sq_of (se_fld T.cl_Range T.na_Range_low (se_var 0))) (se_int))) (sa_cons (se_add (se_mul (se_ix (sq_of (se_fld T.cl_Range T.na_Range_high (se_var 0))) (se_int)) (se_var 1)) (se_ix (sq_of (se_fld T.cl_Range T.na_Range_high (se_var 0))) (se_int))) (sa_nil))))) (sb_nil))) (pf_Range_ends Γ), hb⟩
theorem cal_rg_first (T : Tp P K mg Γ) : Cal P w K mg base 3 "rg_first" (sp_rg_first Γ) := by
  exact cal_mk (p := p_rg_first Γ) T.d_rg_first sc_rg_first (len_rg_first Γ) (fun f cdv A outer s H E hr => sb_cons (ss_asg (se_meth T.cl_Range ((cal_Range_ends T).mono (by decide)) hr (se_var 0) (sa_cons (se_fld T.cl_Range T.na_Range_start (se_var 0)) (sa_nil))) (sg_tup rfl (sgs_cons (sg_name 1 sc_rg_first.nd) (sgs_cons (sg_name 2 sc_rg_first.nd) (sgs_nil))))) (sb_cons (ss_if (st_le (se_var 1) (se_var 2)) (sb_cons (ss_ret (se_fld T.cl_Range T.na_Range_start (se_var 0))) (sb_nil)) (sb_nil)) (sb_dead))) (pf_rg_first Γ)
theorem cal_rg_below (T : Tp P K mg Γ) : Cal P w K mg base 1 "rg_below" (sp_rg_below Γ) := by
  exact cal_mk (p := p_rg_below Γ) T.d_rg_below sc_rg_below (len_rg_below Γ) (fun f cdv A outer s H E hr => sb_cons (ss_if (st_lt (se_add (se_mul (se_var 0) (se_var 2)) (se_var 1)) (se_int)) (sb_dead) (sb_nil)) (sb_cons (ss_if (st_ge (se_var 0) (se_int)) (sb_cons (ss_ret (se_non)) (sb_nil)) (sb_nil)) (sb_dead))) (pf_rg_below Γ)
theorem cal_rg_gone (T : Tp P K mg Γ) : Cal P w K mg base 4 "rg_gone" (sp_rg_gone Γ) := by
  exact cal_mk (p := p_rg_gone Γ) T.d_rg_gone sc_rg_gone (len_rg_gone Γ) (fun f cdv A outer s H E hr => sb_cons (ss_asg (se_call ((cal_rg_first T).mono (by decide)) hr (takes_of rfl rfl rfl rfl) (sa_cons (se_var 1) (sa_nil))) (sg_name 2 sc_rg_gone.nd)) (sb_cons (ss_if (st_isN (se_var 2) (se_non)) (sb_cons (ss_ret (se_non)) (sb_nil)) (sb_nil)) (sb_cons (ss_asg (se_lst (sa_nil)) (sg_name 3 sc_rg_gone.nd)) (sb_cons (ss_for (passes_of rfl) rfl (si_seq (se_var 0)) (sg_tup rfl (sgs_cons (sg_name 4 sc_rg_gone.nd) (sgs_cons (sg_name 5 sc_rg_gone.nd) (sgs_cons (sg_name 6 sc_rg_gone.nd) (sgs_nil))))) (sb_cons (ss_for (passes_of rfl) rfl (si_seq (se_tup (sa_cons (se_fld T.cl_Range T.na_Range_low (se_var 1)) (sa_cons (se_fld T.cl_Range T.na_Range_high (se_var 1)) (sa_nil))))) (sg_tup rfl (sgs_cons (sg_name 7 sc_rg_gone.nd) (sgs_cons (sg_name 8 sc_rg_gone.nd) (sgs_nil)))) (sb_cons (ss_asg (se_call ((cal_rg_below T).mono (by decide)) hr (takes_of rfl rfl rfl rfl) (sa_cons (se_add (se_var 4) (se_mul (se_var 5) (se_var 7))) (sa_cons (se_add (se_mul (se_var 5) (se_var 8)) (se_var 6)) (sa_cons (se_var 2) (sa_nil))))) (sg_name 9 sc_rg_gone.nd)) (sb_cons (ss_if (st_notN (se_var 9) (se_non)) (sb_dead) (sb_nil)) (sb_nil)))) (sb_nil))) (sb_cons (ss_if (st_eq hr.units (se_len T.b_len (sq_var 3)) (se_int)) (sb_cons (ss_ret (se_non)) (sb_nil)) (sb_nil)) (sb_dead)))))) (pf_rg_gone Γ)
theorem cal_dg_look (T : Tp P K mg Γ) : Cal P w K mg base 2 "dg_look" (sp_dg_look Γ) := by
  exact cal_mk (p := p_dg_look Γ) T.d_dg_look sc_dg_look (len_dg_look Γ) (fun f cdv A outer s H E hr => sb_cons (ss_if (st_w (sw_or (st_not (st_val (se_call ((cal_nu_integer T).mono (by decide)) hr (takes_of rfl rfl rfl rfl) (sa_cons (se_var 0) (sa_nil))))) (sw_or (st_lt (se_var 0) (se_int)) (sw_or1 (st_gt (se_var 0) (se_globI T.g_DIGIT_EXPONENT)))))) (sb_cons (ss_raise1 T.e_BadInteger rfl hr (takes_of rfl rfl rfl rfl) (sa_cons (se_var 0) (sa_nil))) (sb_nil)) (sb_nil)) (sb_cons (ss_if (st_w (sw_or (st_not (st_val (se_call ((cal_nu_integer T).mono (by decide)) hr (takes_of rfl rfl rfl rfl) (sa_cons (se_var 1) (sa_nil))))) (sw_or (st_lt (se_var 1) (se_int)) (sw_or1 (st_gt (se_var 1) (se_globI T.g_DIGIT_EXPONENT)))))) (sb_cons (ss_raise1 T.e_BadInteger rfl hr (takes_of rfl rfl rfl rfl) (sa_cons (se_var 1) (sa_nil))) (sb_nil)) (sb_nil)) (sb_cons (ss_if (st_not (st_val (se_call ((cal_nu_integer T).mono (by decide)) hr (takes_of rfl rfl rfl rfl) (sa_cons (se_var 2) (sa_nil))))) (sb_cons (ss_raise1 T.e_BadInteger rfl hr (takes_of rfl rfl rfl rfl) (sa_cons (se_var 2) (sa_nil))) (sb_nil)) (sb_nil)) (sb_nil)))) (pf_dg_look Γ)
theorem cal_dg_look_place (T : Tp P K mg Γ) : Cal P w K mg base 2 "dg_look_place" (sp_dg_look_place Γ) := by
  exact cal_mk (p := p_dg_look_place Γ) T.d_dg_look_place sc_dg_look_place (len_dg_look_place Γ) (fun f cdv A outer s H E hr => sb_cons (ss_if (st_w (sw_or (st_not (st_val (se_call ((cal_nu_integer T).mono (by decide)) hr (takes_of rfl rfl rfl rfl) (sa_cons (se_var 0) (sa_nil))))) (sw_or1 (st_lt (se_var 0) (se_int))))) (sb_cons (ss_raise1 T.e_BadInteger rfl hr (takes_of rfl rfl rfl rfl) (sa_cons (se_var 0) (sa_nil))) (sb_nil)) (sb_nil)) (sb_nil)) (pf_dg_look_place Γ)
theorem cal_dg_look_prime (T : Tp P K mg Γ) : Cal P w K mg base 2 "dg_look_prime" (sp_dg_look_prime Γ) := by
  exact cal_mk (p := p_dg_look_prime Γ) T.d_dg_look_prime sc_dg_look_prime (len_dg_look_prime Γ) (fun f cdv A outer s H E hr => sb_cons (ss_if (st_w (sw_or (st_not (st_val (se_call ((cal_nu_integer T).mono (by decide)) hr (takes_of rfl rfl rfl rfl) (sa_cons (se_var 0) (sa_nil))))) (sw_or (st_lt (se_var 0) (se_int)) (sw_or1 (st_gt (se_var 0) (se_globI T.g_DIGIT_PRIME)))))) (sb_cons (ss_raise1 T.e_BadInteger rfl hr (takes_of rfl rfl rfl rfl) (sa_cons (se_var 0) (sa_nil))) (sb_nil)) (sb_nil)) (sb_cons (ss_for (passes_of rfl) rfl (si_rng2 T.b_range (sa_cons (se_int) (sa_cons (se_int) (sa_nil)))) (sg_name 1 sc_dg_look_prime.nd) (sb_cons (ss_if (st_w (sw_and (st_lt (se_var 1) (se_var 0)) (sw_and1 (st_eq hr.units (se_mod (se_var 0) (se_var 1)) (se_int))))) (sb_cons (ss_raise1 T.e_BadInteger rfl hr (takes_of rfl rfl rfl rfl) (sa_cons (se_var 0) (sa_nil))) (sb_nil)) (sb_nil)) (sb_nil))) (sb_nil))) (pf_dg_look_prime Γ)
theorem cal_dg_sum (T : Tp P K mg Γ) : Cal P w K mg base 2 "dg_sum" (sp_dg_sum Γ) := by
  exact cal_mk (p := p_dg_sum Γ) T.d_dg_sum sc_dg_sum (len_dg_sum Γ) (fun f cdv A outer s H E hr => sb_cons (ss_asg (se_int) (sg_name 4 sc_dg_sum.nd)) (sb_cons (ss_asg (se_int) (sg_name 5 sc_dg_sum.nd)) (sb_cons (ss_for (passes_of rfl) rfl (si_rng1 T.b_range (sa_cons (se_add (se_var 3) (se_int)) (sa_nil))) (sg_name 6 sc_dg_sum.nd) (sb_cons (ss_asg (se_add (se_var 4) (se_mul (se_mul (se_call ((cal_nu_power T).mono (by decide)) hr (takes_of rfl rfl rfl rfl) (sa_cons (se_comb T.f_comb (sa_cons (se_var 3) (sa_cons (se_var 6) (sa_nil)))) (sa_cons (se_var 0) (sa_nil)))) (se_call ((cal_nu_power T).mono (by decide)) hr (takes_of rfl rfl rfl rfl) (sa_cons (se_comb T.f_comb (sa_cons (se_add (se_var 3) (se_var 6)) (sa_cons (se_var 6) (sa_nil)))) (sa_cons (se_var 1) (sa_nil))))) (se_var 5))) (sg_name 4 sc_dg_sum.nd)) (sb_cons (ss_asg (se_mul (se_var 5) (se_var 2)) (sg_name 5 sc_dg_sum.nd)) (sb_nil)))) (sb_cons (ss_retN 4) (sb_nil))))) (pf_dg_sum Γ)
theorem cal_digit_value (T : Tp P K mg Γ) : Cal P w K mg base 3 "digit_value" (sp_digit_value Γ) := by
  exact cal_mk (p := p_digit_value Γ) T.d_digit_value sc_digit_value (len_digit_value Γ) (fun f cdv A outer s H E hr => sb_cons (ss_expr (se_call ((cal_dg_look T).mono (by decide)) hr (takes_of rfl rfl rfl rfl) (sa_cons (se_var 0) (sa_cons (se_var 1) (sa_cons (se_var 2) (sa_nil)))))) (sb_cons (ss_expr (se_call ((cal_dg_look_place T).mono (by decide)) hr (takes_of rfl rfl rfl rfl) (sa_cons (se_var 3) (sa_nil)))) (sb_cons (ss_if (st_gt (se_var 3) (se_globI T.g_DIGIT_PLACES)) (sb_cons (ss_raise2 T.e_TooMuch rfl hr (takes_of rfl rfl rfl rfl) (sa_cons (se_str) (sa_cons (se_globI T.g_DIGIT_PLACES) (sa_nil)))) (sb_nil)) (sb_nil)) (sb_cons (ss_ret (se_call ((cal_dg_sum T).mono (by decide)) hr (takes_of rfl rfl rfl rfl) (sa_cons (se_var 0) (sa_cons (se_var 1) (sa_cons (se_var 2) (sa_cons (se_var 3) (sa_nil))))))) (sb_nil))))) (pf_digit_value Γ)
theorem cal_dg_rest (T : Tp P K mg Γ) : Cal P w K mg base 2 "dg_rest" (sp_dg_rest Γ) := by
  exact cal_mk (p := p_dg_rest Γ) T.d_dg_rest sc_dg_rest (len_dg_rest Γ) (fun f cdv A outer s H E hr => sb_cons (ss_asg (se_int) (sg_name 5 sc_dg_rest.nd)) (sb_cons (ss_asg (se_int) (sg_name 6 sc_dg_rest.nd)) (sb_cons (ss_for (passes_of rfl) rfl (si_rng1 T.b_range (sa_cons (se_add (se_var 3) (se_int)) (sa_nil))) (sg_name 7 sc_dg_rest.nd) (sb_cons (ss_asg (se_add (se_var 5) (se_mul (se_mul (se_call ((cal_nu_power T).mono (by decide)) hr (takes_of rfl rfl rfl rfl) (sa_cons (se_mod (se_comb T.f_comb (sa_cons (se_var 3) (sa_cons (se_var 7) (sa_nil)))) (se_var 4)) (sa_cons (se_var 0) (sa_nil)))) (se_call ((cal_nu_power T).mono (by decide)) hr (takes_of rfl rfl rfl rfl) (sa_cons (se_mod (se_comb T.f_comb (sa_cons (se_add (se_var 3) (se_var 7)) (sa_cons (se_var 7) (sa_nil)))) (se_var 4)) (sa_cons (se_var 1) (sa_nil))))) (se_var 6))) (sg_name 5 sc_dg_rest.nd)) (sb_cons (ss_asg (se_mod (se_mul (se_var 6) (se_var 2)) (se_var 4)) (sg_name 6 sc_dg_rest.nd)) (sb_nil)))) (sb_cons (ss_ret (se_mod (se_var 5) (se_var 4))) (sb_nil))))) (pf_dg_rest Γ)
theorem cal_dg_table (T : Tp P K mg Γ) : Cal P w K mg base 3 "dg_table" (sp_dg_table Γ) := by
  exact cal_mk (p := p_dg_table Γ) T.d_dg_table sc_dg_table (len_dg_table Γ) (fun f cdv A outer s H E hr => sb_cons (ss_ret (se_lc 4 rfl sc_dg_table.nd (si_rng1 T.b_range (sa_cons (se_var 3) (sa_nil))) (blkOk_by (N := N_dg_table) (sc := defScope st_dg_table) (by decide +kernel)) (fun _ _ _ _ _ => pg_name (i := 4) sc_dg_table.nd rfl (by first | exact Or.inl rfl | exact Or.inr rfl)) (fun _ _ _ _ _ => sts_nil) (fun _ _ _ _ _ => se_call ((cal_dg_rest T).mono (by decide)) hr Py.takes0 (sa_cons (se_var 0) (sa_cons (se_var 1) (sa_cons (se_mod (se_var 2) (se_var 3)) (sa_cons (se_var 4) (sa_cons (se_var 3) (sa_nil))))))))) (sb_nil)) (pf_dg_table Γ)
theorem cal_dg_most (T : Tp P K mg Γ) : Cal P w K mg base 1 "dg_most" (sp_dg_most Γ) := by
  exact cal_mk (p := p_dg_most Γ) T.d_dg_most sc_dg_most (len_dg_most Γ) (fun f cdv A outer s H E hr => sb_cons (ss_asg (se_pow (se_int) (se_int)) (sg_name 0 sc_dg_most.nd)) (sb_cons (ss_ret (se_pow (se_var 0) (se_int))) (sb_nil))) (pf_dg_most Γ)
theorem cal_digit_mod (T : Tp P K mg Γ) : Cal P w K mg base 4 "digit_mod" (sp_digit_mod Γ) := by
  exact cal_mk (p := p_digit_mod Γ) T.d_digit_mod sc_digit_mod (len_digit_mod Γ) (fun f cdv A outer s H E hr => sb_cons (ss_expr (se_call ((cal_dg_look T).mono (by decide)) hr (takes_of rfl rfl rfl rfl) (sa_cons (se_var 0) (sa_cons (se_var 1) (sa_cons (se_var 2) (sa_nil)))))) (sb_cons (ss_expr (se_call ((cal_dg_look_place T).mono (by decide)) hr (takes_of rfl rfl rfl rfl) (sa_cons (se_var 3) (sa_nil)))) (sb_cons (ss_expr (se_call ((cal_dg_look_prime T).mono (by decide)) hr (takes_of rfl rfl rfl rfl) (sa_cons (se_var 4) (sa_nil)))) (sb_cons (ss_if (st_ge (se_var 3) (se_call0 ((cal_dg_most T).mono (by decide)) hr (takes_of rfl rfl rfl rfl))) (sb_cons (ss_raise2 T.e_TooMuch rfl hr (takes_of rfl rfl rfl rfl) (sa_cons (se_str) (sa_cons (se_globI T.g_DIGIT_PLACES) (sa_nil)))) (sb_nil)) (sb_nil)) (sb_cons (ss_asg (se_call ((cal_dg_table T).mono (by decide)) hr (takes_of rfl rfl rfl rfl) (sa_cons (se_var 0) (sa_cons (se_var 1) (sa_cons (se_var 2) (sa_cons (se_var 4) (sa_nil)))))) (sg_name 5 sc_digit_mod.nd)) (sb_cons (ss_asg (se_int) (sg_name 6 sc_digit_mod.nd)) (sb_cons (ss_asg (se_var 3) (sg_name 7 sc_digit_mod.nd)) (sb_cons (ss_while (passes_of rfl) (st_gt (se_var 7) (se_int)) (sb_cons (ss_asg (se_mod (se_mul (se_var 6) (se_ix (sq_var 5) (se_mod (se_var 7) (se_var 4)))) (se_var 4)) (sg_name 6 sc_digit_mod.nd)) (sb_cons (ss_asg (se_div (se_var 7) (se_var 4)) (sg_name 7 sc_digit_mod.nd)) (sb_nil)))) (sb_cons (ss_retN 6) (sb_nil)))))))))) (pf_digit_mod Γ)
theorem cal_first_divided (T : Tp P K mg Γ) : Cal P w K mg base 4 "first_divided" (sp_first_divided Γ) := by
  exact cal_mk (p := p_first_divided Γ) T.d_first_divided sc_first_divided (len_first_divided Γ) (fun f cdv A outer s H E hr => sb_cons (ss_expr (se_call ((cal_dg_look T).mono (by decide)) hr (takes_of rfl rfl rfl rfl) (sa_cons (se_var 0) (sa_cons (se_var 1) (sa_cons (se_var 2) (sa_nil)))))) (sb_cons (ss_expr (se_call ((cal_dg_look_prime T).mono (by decide)) hr (takes_of rfl rfl rfl rfl) (sa_cons (se_var 3) (sa_nil)))) (sb_cons (ss_asg (se_call ((cal_dg_table T).mono (by decide)) hr (takes_of rfl rfl rfl rfl) (sa_cons (se_var 0) (sa_cons (se_var 1) (sa_cons (se_var 2) (sa_cons (se_var 3) (sa_nil)))))) (sg_name 4 sc_first_divided.nd)) (sb_cons (ss_if (st_inL hr.u65 (se_int) (sq_var 4)) (sb_cons (ss_ret (se_index hr.u65 (sq_var 4) (se_int))) (sb_nil)) (sb_nil)) (sb_cons (ss_ret (se_non)) (sb_nil)))))) (pf_first_divided Γ)
theorem cal_count_undivided (T : Tp P K mg Γ) : Cal P w K mg base 4 "count_undivided" (sp_count_undivided Γ) := by
  exact cal_mk (p := p_count_undivided Γ) T.d_count_undivided sc_count_undivided (len_count_undivided Γ) (fun f cdv A outer s H E hr => sb_cons (ss_expr (se_call ((cal_dg_look T).mono (by decide)) hr (takes_of rfl rfl rfl rfl) (sa_cons (se_var 0) (sa_cons (se_var 1) (sa_cons (se_var 2) (sa_nil)))))) (sb_cons (ss_expr (se_call ((cal_dg_look_prime T).mono (by decide)) hr (takes_of rfl rfl rfl rfl) (sa_cons (se_var 3) (sa_nil)))) (sb_cons (ss_if (st_w (sw_or (st_not (st_val (se_call ((cal_nu_integer T).mono (by decide)) hr (takes_of rfl rfl rfl rfl) (sa_cons (se_var 4) (sa_nil))))) (sw_or1 (st_lt (se_var 4) (se_int))))) (sb_cons (ss_raise1 T.e_BadInteger rfl hr (takes_of rfl rfl rfl rfl) (sa_cons (se_var 4) (sa_nil))) (sb_nil)) (sb_nil)) (sb_cons (ss_if (st_gt (se_var 4) (se_globI T.g_DIGIT_POWER)) (sb_cons (ss_raise2 T.e_TooMuch rfl hr (takes_of rfl rfl rfl rfl) (sa_cons (se_str) (sa_cons (se_globI T.g_DIGIT_POWER) (sa_nil)))) (sb_nil)) (sb_nil)) (sb_cons (ss_ret (se_call ((cal_nu_power T).mono (by decide)) hr (takes_of rfl rfl rfl rfl) (sa_cons (se_sub (se_var 3) (se_count (sq_of (se_call ((cal_dg_table T).mono (by decide)) hr (takes_of rfl rfl rfl rfl) (sa_cons (se_var 0) (sa_cons (se_var 1) (sa_cons (se_var 2) (sa_cons (se_var 3) (sa_nil))))))) (se_int))) (sa_cons (se_var 4) (sa_nil))))) (sb_nil)))))) (pf_count_undivided Γ)
theorem cal_Step_init (T : Tp P K mg Γ) {f : Addr} {fd : FuncData} (Fn : Fun K "__init__" "Step.__init__" st_Step_init f fd) : FnOk P w K mg base (L2.CX P w) 1 f fd ["self", "word", "base"] (spOfI K Γ.Plain (sp_Step_init Γ)) := by
  exact fn_mkI (p := p_Step_init Γ) Fn sc_Step_init (by decide) (len_Step_init Γ) (fun f cdv A outer s H E hr => sb_cons (ss_setS T.cl_Plain T.na_Plain_word (se_var 1)) (sb_cons (ss_setS T.cl_Plain T.na_Plain_base (se_var 2)) (sb_nil))) (pf_Step_init Γ)
theorem sup_Plain : ∃ j q0 j1 q2 j2 q3 k q1 p0 p1 p2 p4 p5, SupTxt "Plain.__init__" st_Plain_init (.Constant (.str "plain") j q0) [.Tuple [.Constant (.int 1) j1 q2, .Constant (.int 1) j2 q3] k q1] p0 p1 p2 p4 p5 :=
  ⟨_, _, _, _, _, _, _, _, _, _, _, _, _, ⟨rfl, rfl, rfl, rfl, rfl, rfl, rfl, only_of (by decide +kernel), by decide +kernel, ⟨_, rfl, rfl⟩, fun _ _ _ _ => rfl, fun _ _ _ _ => rfl, fun _ _ _ _ => rfl, fun _ _ _ _ => rfl, fun _ _ _ _ => rfl, fun fd u h1 h2 h3 h4 => by (obtain ⟨_, _, _, _, _, _, _, _, _, _, _, _⟩ := fd; simp only at h1 h2 h3 h4; subst h1 h2 h3 h4; rfl)⟩⟩
theorem cal_Plain_init (T : Tp P K mg Γ) : CalI P w K mg base 2 Γ.Plain (sp_Plain_init Γ) := by
  obtain ⟨f, fd, fD, fdD, M, O, Fn, hb, hb2, ms⟩ := T.su_Plain
  obtain ⟨j, q0, j1, q2, j2, q3, k, q1, p0, p1, p2, p4, p5, S⟩ := sup_Plain
  exact ⟨f, fd, ["self"], M, fnI_super O S ms (cal_Step_init T Fn) hb (fun X hX hK => sa_cons se_str (sa_cons (se_tup (sa_cons se_int (sa_cons se_int sa_nil))) sa_nil)), hb2⟩
theorem cal_Pure_init (T : Tp P K mg Γ) : CalI P w K mg base 5 Γ.Pure (sp_Pure_init Γ) := by
  obtain ⟨f, fd, M, Fn, hb⟩ := T.d_Pure_init
  exact ⟨f, fd, _, M, fn_mkI (p := p_Pure_init Γ) Fn sc_Pure_init (by decide) (len_Pure_init Γ) (fun f cdv A outer s H E hr => sb_cons (ss_setS T.cl_Pure T.na_Pure_step (se_call ((cal_sw_step T).mono (by decide)) hr (takes_of rfl rfl rfl rfl) (sa_cons (se_var 1) (sa_nil)))) (sb_cons (ss_setS T.cl_Pure T.na_Pure_s (se_call ((cal_number T).mono (by decide)) hr (takes_of rfl rfl rfl rfl) (sa_cons (se_var 2) (sa_nil)))) (sb_cons (ss_setS T.cl_Pure T.na_Pure_t (se_call ((cal_number T).mono (by decide)) hr (takes_of rfl rfl rfl rfl) (sa_cons (se_var 3) (sa_nil)))) (sb_cons (ss_if (st_w (sw_or (st_eq hr.units (se_ix (sq_of (se_getS 0 T.cl_Pure T.na_Pure_s)) (se_int)) (se_int)) (sw_or1 (st_eq hr.units (se_ix (sq_of (se_getS 0 T.cl_Pure T.na_Pure_t)) (se_int)) (se_int))))) (sb_dead) (sb_nil)) (sb_cons (ss_setS T.cl_Pure T.na_Pure_square (se_call ((cal_pu_square T).mono (by decide)) hr (takes_of rfl rfl rfl rfl) (sa_cons (se_var 1) (sa_cons (se_var 4) (sa_nil))))) (sb_cons (ss_asg (se_call ((cal_pu_forms T).mono (by decide)) hr (takes_of rfl rfl rfl rfl) (sa_cons (se_var 5) (sa_nil))) (sg_name 7 sc_Pure_init.nd)) (sb_cons (ss_asg (se_call ((cal_pu_forms T).mono (by decide)) hr (takes_of rfl rfl rfl rfl) (sa_cons (se_var 6) (sa_nil))) (sg_name 8 sc_Pure_init.nd)) (sb_cons (ss_setS T.cl_Pure T.na_Pure_tops (se_call ((cal_pu_less T).mono (by decide)) hr (takes_of rfl rfl rfl rfl) (sa_cons (se_var 7) (sa_cons (se_var 8) (sa_nil))))) (sb_cons (ss_setS T.cl_Pure T.na_Pure_bottoms (se_call ((cal_pu_less T).mono (by decide)) hr (takes_of rfl rfl rfl rfl) (sa_cons (se_var 8) (sa_cons (se_var 7) (sa_nil))))) (sb_cons (ss_if (st_gt (se_add (se_len T.b_len (sq_of (se_getS 0 T.cl_Pure T.na_Pure_tops))) (se_len T.b_len (sq_of (se_getS 0 T.cl_Pure T.na_Pure_bottoms)))) (se_globI T.g_FORM_BOUND)) (sb_dead) (sb_nil)) (sb_nil))))))))))) (pf_Pure_init Γ), hb⟩
theorem cal_Range_init (T : Tp P K mg Γ) : CalI P w K mg base 3 Γ.Range (sp_Range_init Γ) := by
  obtain ⟨f, fd, M, Fn, hb⟩ := T.d_Range_init
  exact ⟨f, fd, _, M, fn_mkI (p := p_Range_init Γ) Fn sc_Range_init (by decide) (len_Range_init Γ) (fun f cdv A outer s H E hr => sb_cons (ss_setS T.cl_Range T.na_Range_low (se_call ((cal_rg_pair T).mono (by decide)) hr (takes_of rfl rfl rfl rfl) (sa_cons (se_var 1) (sa_cons (se_str) (sa_nil))))) (sb_cons (ss_setS T.cl_Range T.na_Range_high (se_call ((cal_rg_pair T).mono (by decide)) hr (takes_of rfl rfl rfl rfl) (sa_cons (se_var 2) (sa_cons (se_str) (sa_nil))))) (sb_cons (ss_if (st_w (sw_or (st_not (st_val (se_call ((cal_nu_integer T).mono (by decide)) hr (takes_of rfl rfl rfl rfl) (sa_cons (se_var 3) (sa_nil))))) (sw_or1 (st_lt (se_var 3) (se_int))))) (sb_dead) (sb_nil)) (sb_cons (ss_setS T.cl_Range T.na_Range_start (se_var 3)) (sb_cons (ss_asg (se_sub (se_ix (sq_of (se_getS 0 T.cl_Range T.na_Range_high)) (se_int)) (se_ix (sq_of (se_getS 0 T.cl_Range T.na_Range_low)) (se_int))) (sg_name 4 sc_Range_init.nd)) (sb_cons (ss_if (st_w (sw_or (st_lt (se_var 4) (se_int)) (sw_or1 (st_lt (se_sub (se_add (se_mul (se_var 4) (se_var 3)) (se_ix (sq_of (se_getS 0 T.cl_Range T.na_Range_high)) (se_int))) (se_ix (sq_of (se_getS 0 T.cl_Range T.na_Range_low)) (se_int))) (se_neg (se_int)))))) (sb_dead) (sb_nil)) (sb_nil))))))) (pf_Range_init Γ), hb⟩
theorem cal_digit_term (T : Tp P K mg Γ) : Cal P w K mg base 9 "digit_term" (sp_digit_term Γ) := by
  exact cal_mk (p := p_digit_term Γ) T.d_digit_term sc_digit_term (len_digit_term Γ) (fun f cdv A outer s H E hr => sb_cons (ss_expr (se_call ((cal_dg_look T).mono (by decide)) hr (takes_of rfl rfl rfl rfl) (sa_cons (se_var 0) (sa_cons (se_var 1) (sa_cons (se_var 2) (sa_nil)))))) (sb_cons (ss_if (st_eq hr.units (se_var 2) (se_int)) (sb_cons (ss_raise1 T.e_IsZero rfl hr (takes_of rfl rfl rfl rfl) (sa_cons (se_str) (sa_nil))) (sb_nil)) (sb_nil)) (sb_cons (ss_asg (se_tup (sa_cons (se_int) (sa_cons (se_int) (sa_cons (se_int) (sa_nil))))) (sg_name 3 sc_digit_term.nd)) (sb_cons (ss_asg (se_add (se_mul (se_lst (sa_cons (se_var 3) (sa_nil))) (se_var 0)) (se_mul (se_lst (sa_cons (se_tup (sa_cons (se_int) (sa_cons (se_int) (sa_cons (se_int) (sa_nil))))) (sa_nil))) (se_var 1))) (sg_name 4 sc_digit_term.nd)) (sb_cons (ss_asg (se_add (se_mul (se_lst (sa_cons (se_tup (sa_cons (se_int) (sa_cons (se_int) (sa_cons (se_int) (sa_nil))))) (sa_cons (se_tup (sa_cons (se_int) (sa_cons (se_neg (se_int)) (sa_cons (se_int) (sa_nil))))) (sa_nil)))) (se_var 0)) (se_mul (se_lst (sa_cons (se_tup (sa_cons (se_int) (sa_cons (se_int) (sa_cons (se_int) (sa_nil))))) (sa_cons (se_var 3) (sa_nil)))) (se_var 1))) (sg_name 5 sc_digit_term.nd)) (sb_cons (ss_frz 4 (ss_frz 5 (ss_asg (se_make ((cal_Pure_init T).mono (by decide)) T.m_Pure hr (sa_cons (se_make0 ((cal_Plain_init T).mono (by decide)) T.m_Plain hr) (sa_cons (se_int) (sa_cons (se_var 2) (sa_cons (se_tup (sa_cons (se_int) (sa_cons (se_int) (sa_cons (se_int) (sa_nil))))) (sa_cons (se_var 4) (sa_cons (se_var 5) (sa_nil)))))))) (sg_name 6 sc_digit_term.nd)))) (sb_cons (ss_ret (se_tup (sa_cons (se_call ((cal_full_term T).mono (by decide)) hr (takes_of rfl rfl rfl rfl) (sa_cons (se_make0 ((cal_Plain_init T).mono (by decide)) T.m_Plain hr) (sa_cons (se_tup (sa_cons (se_tup (sa_cons (se_int) (sa_cons (se_int) (sa_cons (se_tup (sa_cons (se_int) (sa_cons (se_int) (sa_nil)))) (sa_nil))))) (sa_nil))) (sa_cons (se_var 6) (sa_nil))))) (sa_cons (se_make ((cal_Range_init T).mono (by decide)) T.m_Range hr (sa_cons (se_tup (sa_cons (se_int) (sa_cons (se_int) (sa_nil)))) (sa_cons (se_tup (sa_cons (se_int) (sa_cons (se_int) (sa_nil)))) (sa_cons (se_int) (sa_nil))))) (sa_nil))))) (sb_nil)))))))) (pf_digit_term Γ)
theorem cal_Term2_full (T : Tp P K mg Γ) : CalP P w K mg base 1 Γ.Term2 "full" (sp_Term2_full Γ) := by
  obtain ⟨pa, f, fd, M, Fn, hb⟩ := T.d_Term2_full
  exact ⟨pa, f, fd, _, M, fn_mk0 (p := p_Term2_full Γ) Fn sc_Term2_full (len_Term2_full Γ) (fun f cdv A outer s H E hr => sb_cons (ss_ret (se_eq hr.units (se_fld T.cl_Term2 T.na_Term2_bottom (se_var 0)) (se_globD T.gd_POLY2_ONE))) (sb_nil)) (pf_Term2_full Γ), hb⟩
theorem cal_sm_look_term (T : Tp P K mg Γ) : Cal P w K mg base 3 "sm_look_term" (sp_sm_look_term Γ) := by
  exact cal_mk (p := p_sm_look_term Γ) T.d_sm_look_term sc_sm_look_term (len_sm_look_term Γ) (fun f cdv A outer s H E hr => sb_cons (ss_if (st_w (sw_or (st_not (st_val (se_isC T.ow_Term2 T.kt_Term2_Term2 (se_var 0) T.b_isinstance T.m_Term2))) (sw_or1 (st_not (st_val (se_prop T.cl_Term2 ((cal_Term2_full T).mono (by decide)) hr (se_var 0))))))) (sb_dead) (sb_nil)) (sb_cons (ss_if (st_eq hr.units (se_len T.b_len (sq_of (se_fld T.cl_Term2 T.na_Term2_top (se_var 0)))) (se_int)) (sb_dead) (sb_nil)) (sb_nil))) (pf_sm_look_term Γ)
theorem cal_sm_look_kind (T : Tp P K mg Γ) : Cal P w K mg base 4 "sm_look_kind" (sp_sm_look_kind Γ) := by
  exact cal_mk (p := p_sm_look_kind Γ) T.d_sm_look_kind sc_sm_look_kind (len_sm_look_kind Γ) (fun f cdv A outer s H E hr => sb_cons (ss_expr (se_call ((cal_sm_look_term T).mono (by decide)) hr (takes_of rfl rfl rfl rfl) (sa_cons (se_var 0) (sa_nil)))) (sb_cons (ss_if (st_not (st_val (se_isC T.ow_Range T.kt_Range_Range (se_var 1) T.b_isinstance T.m_Range))) (sb_dead) (sb_nil)) (sb_nil))) (pf_sm_look_kind Γ)
theorem cal_sm_look_there (T : Tp P K mg Γ) : Cal P w K mg base 5 "sm_look_there" (sp_sm_look_there Γ) := by
  exact cal_mk (p := p_sm_look_there Γ) T.d_sm_look_there sc_sm_look_there (len_sm_look_there Γ) (fun f cdv A outer s H E hr => sb_cons (ss_asg (se_call ((cal_rg_gone T).mono (by decide)) hr (takes_of rfl rfl rfl rfl) (sa_cons (se_fld T.cl_Pure T.na_Pure_tops (se_fld T.cl_Term2 T.na_Term2_pure (se_var 0))) (sa_cons (se_var 1) (sa_nil)))) (sg_name 2 sc_sm_look_there.nd)) (sb_cons (ss_if (st_notN (se_var 2) (se_non)) (sb_dead) (sb_nil)) (sb_nil))) (pf_sm_look_there Γ)
theorem cal_sm_look (T : Tp P K mg Γ) : Cal P w K mg base 6 "sm_look" (sp_sm_look Γ) := by
  exact cal_mk (p := p_sm_look Γ) T.d_sm_look sc_sm_look (len_sm_look Γ) (fun f cdv A outer s H E hr => sb_cons (ss_expr (se_call ((cal_sm_look_kind T).mono (by decide)) hr (takes_of rfl rfl rfl rfl) (sa_cons (se_var 0) (sa_cons (se_var 1) (sa_nil))))) (sb_cons (ss_expr (se_call ((cal_sm_look_there T).mono (by decide)) hr (takes_of rfl rfl rfl rfl) (sa_cons (se_var 0) (sa_cons (se_var 1) (sa_nil))))) (sb_nil))) (pf_sm_look Γ)
theorem cal_sm_sum (T : Tp P K mg Γ) : Cal P w K mg base 5 "sm_sum" (sp_sm_sum Γ) := by
  exact cal_mk (p := p_sm_sum Γ) T.d_sm_sum sc_sm_sum (len_sm_sum Γ) (fun f cdv A outer s H E hr => sb_cons (ss_asg (se_meth T.cl_Range ((cal_Range_ends T).mono (by decide)) hr (se_var 1) (sa_cons (se_var 2) (sa_nil))) (sg_tup rfl (sgs_cons (sg_name 3 sc_sm_sum.nd) (sgs_cons (sg_name 4 sc_sm_sum.nd) (sgs_nil))))) (sb_cons (ss_if (st_gt (se_add (se_sub (se_var 4) (se_var 3)) (se_int)) (se_globI T.g_SUMMANDS)) (sb_dead) (sb_nil)) (sb_cons (ss_asg (se_tup (sa_cons (se_int) (sa_cons (se_int) (sa_nil)))) (sg_name 5 sc_sm_sum.nd)) (sb_cons (ss_for (passes_of rfl) rfl (si_rng2 T.b_range (sa_cons (se_var 3) (sa_cons (se_add (se_var 4) (se_int)) (sa_nil)))) (sg_name 6 sc_sm_sum.nd) (sb_cons (ss_asg (se_call ((cal_plus T).mono (by decide)) hr (takes_of rfl rfl rfl rfl) (sa_cons (se_var 5) (sa_cons (se_call ((cal_t2_number T).mono (by decide)) hr (takes_of rfl rfl rfl rfl) (sa_cons (se_var 0) (sa_cons (se_var 2) (sa_cons (se_var 6) (sa_nil))))) (sa_nil)))) (sg_name 5 sc_sm_sum.nd)) (sb_nil))) (sb_cons (ss_retN 5) (sb_nil)))))) (pf_sm_sum Γ)
theorem cal_sum_value (T : Tp P K mg Γ) : Cal P w K mg base 7 "sum_value" (sp_sum_value Γ) := by
  exact cal_mk (p := p_sum_value Γ) T.d_sum_value sc_sum_value (len_sum_value Γ) (fun f cdv A outer s H E hr => sb_cons (ss_expr (se_call ((cal_sm_look T).mono (by decide)) hr (takes_of rfl rfl rfl rfl) (sa_cons (se_var 0) (sa_cons (se_var 1) (sa_nil))))) (sb_cons (ss_if (st_not (st_val (se_call ((cal_nu_integer T).mono (by decide)) hr (takes_of rfl rfl rfl rfl) (sa_cons (se_var 2) (sa_nil))))) (sb_dead) (sb_nil)) (sb_cons (ss_if (st_lt (se_var 2) (se_fld T.cl_Range T.na_Range_start (se_var 1))) (sb_dead) (sb_nil)) (sb_cons (ss_ret (se_call ((cal_sm_sum T).mono (by decide)) hr (takes_of rfl rfl rfl rfl) (sa_cons (se_var 0) (sa_cons (se_var 1) (sa_cons (se_var 2) (sa_nil)))))) (sb_nil))))) (pf_sum_value Γ)
theorem cal__law_stream (T : Tp P K mg Γ) : Cal P w K mg base 1 "_law_stream" (sp__law_stream Γ) := by
  exact cal_mk (p := p__law_stream Γ) T.d__law_stream sc__law_stream (len__law_stream Γ) (fun f cdv A outer s H E hr => sb_cons (ss_asg (se_lst (sa_nil)) (sg_name 1 sc__law_stream.nd)) (sb_cons (ss_for (passes_of rfl) rfl (si_rng1 T.b_range (sa_cons (se_min rfl T.b_min (sa_cons (se_len T.b_len (sq_var 0)) (sa_cons (se_int) (sa_nil)))) (sa_nil))) (sg_name 2 sc__law_stream.nd) (sb_cons (ss_asg (se_toint T.b_int (sa_cons (se_ix (sq_var 0) (se_var 2)) (sa_nil))) (sg_name 3 sc__law_stream.nd)) (sb_cons (ss_if (st_lt (se_var 3) (se_int)) (sb_cons (ss_asg (se_sub (se_int) (se_var 3)) (sg_name 3 sc__law_stream.nd)) (sb_nil)) (sb_nil)) (sb_cons (ss_if (st_ge (se_var 3) (se_pow (se_int) (se_int))) (sb_cons (ss_for (passes_of rfl) rfl (si_rng1 T.b_range (sa_cons (se_int) (sa_nil))) (sg_name 4 sc__law_stream.nd) (sb_cons (ss_append 1 (se_mod (se_toint T.b_int (sa_cons (se_var 3) (sa_nil))) (se_int))) (sb_cons (ss_asg (se_div (se_var 3) (se_int)) (sg_name 3 sc__law_stream.nd)) (sb_nil)))) (sb_nil)) (sb_cons (ss_asg (se_mod (se_toint T.b_int (sa_cons (se_add (se_add (se_mul (se_var 3) (se_int)) (se_mul (se_var 2) (se_int))) (se_int)) (sa_nil))) (se_int)) (sg_name 5 sc__law_stream.nd)) (sb_cons (ss_for (passes_of rfl) rfl (si_rng1 T.b_range (sa_cons (se_int) (sa_nil))) (sg_name 4 sc__law_stream.nd) (sb_cons (ss_asg (se_mod (se_toint T.b_int (sa_cons (se_add (se_add (se_add (se_mul (se_var 5) (se_var 5)) (se_mul (se_var 4) (se_int))) (se_mul (se_var 2) (se_int))) (se_int)) (sa_nil))) (se_int)) (sg_name 5 sc__law_stream.nd)) (sb_cons (ss_append 1 (se_var 5)) (sb_nil)))) (sb_nil)))) (sb_nil))))) (sb_cons (ss_reverse 1) (sb_cons (ss_retN 1) (sb_nil))))) (pf__law_stream Γ)
theorem cal__law_next (T : Tp P K mg Γ) : Cal P w K mg base 1 "_law_next" (sp__law_next Γ) := by
  exact cal_mk (p := p__law_next Γ) T.d__law_next sc__law_next (len__law_next Γ) (fun f cdv A outer s H E hr => sb_cons (ss_if (st_eq hr.units (se_lenD 0 T.b_len) (se_int)) (sb_cons (ss_ret (se_int)) (sb_nil)) (sb_nil)) (sb_cons (ss_ret (se_mod (se_toint T.b_int (sa_cons (se_popD 0) (sa_nil))) (se_var 1))) (sb_nil))) (pf__law_next Γ)
theorem cal__law_int (T : Tp P K mg Γ) : Cal P w K mg base 1 "_law_int" (sp__law_int Γ) := by
  exact cal_mk (p := p__law_int Γ) T.d__law_int sc__law_int (len__law_int Γ) (fun f cdv A outer s H E hr => sb_cons (ss_ret (se_and (se_isi (se_var 0) T.b_isinstance T.b_int (by decide +kernel) (by decide +kernel)) (se_one (se_not (se_isi (se_var 0) T.b_isinstance T.b_bool (by decide +kernel) (by decide +kernel)))))) (sb_nil)) (pf__law_int Γ)
theorem cal__law_gcd (T : Tp P K mg Γ) : Cal P w K mg base 1 "_law_gcd" (sp__law_gcd Γ) := by
  exact cal_mk (p := p__law_gcd Γ) T.d__law_gcd sc__law_gcd (len__law_gcd Γ) (fun f cdv A outer s H E hr => sb_cons (ss_asg (se_abs T.b_abs (sa_cons (se_var 0) (sa_nil))) (sg_name 0 sc__law_gcd.nd)) (sb_cons (ss_asg (se_abs T.b_abs (sa_cons (se_var 1) (sa_nil))) (sg_name 1 sc__law_gcd.nd)) (sb_cons (ss_for (passes_of rfl) rfl (si_rng1 T.b_range (sa_cons (se_add (se_mul (se_int) (se_bits (se_var 1))) (se_int)) (sa_nil))) (sg_name 2 sc__law_gcd.nd) (sb_cons (ss_if (st_ne hr.units (se_var 1) (se_int)) (sb_cons (ss_asg (se_mod (se_var 0) (se_var 1)) (sg_name 3 sc__law_gcd.nd)) (sb_cons (ss_asg (se_var 1) (sg_name 0 sc__law_gcd.nd)) (sb_cons (ss_asg (se_var 3) (sg_name 1 sc__law_gcd.nd)) (sb_nil)))) (sb_nil)) (sb_nil))) (sb_cons (ss_retN 0) (sb_nil))))) (pf__law_gcd Γ)
theorem cal__law_is_num (T : Tp P K mg Γ) : Cal P w K mg base 2 "_law_is_num" (sp__law_is_num Γ) := by
  exact cal_mk (p := p__law_is_num Γ) T.d__law_is_num sc__law_is_num (len__law_is_num Γ) (fun f cdv A outer s H E hr => sb_cons (ss_if (st_w (sw_or (st_not (st_val (se_isi (se_var 0) T.b_isinstance T.b_tuple (by decide +kernel) (by decide +kernel)))) (sw_or1 (st_ne hr.units (se_len T.b_len (sq_var 0)) (se_int))))) (sb_cons (ss_ret (se_bl)) (sb_nil)) (sb_nil)) (sb_cons (ss_if (st_w (sw_or (st_not (st_val (se_call ((cal__law_int T).mono (by decide)) hr (takes_of rfl rfl rfl rfl) (sa_cons (se_ix (sq_var 0) (se_int)) (sa_nil))))) (sw_or1 (st_not (st_val (se_call ((cal__law_int T).mono (by decide)) hr (takes_of rfl rfl rfl rfl) (sa_cons (se_ix (sq_var 0) (se_int)) (sa_nil)))))))) (sb_cons (ss_ret (se_bl)) (sb_nil)) (sb_nil)) (sb_cons (ss_ret (se_and (se_ge (se_ix (sq_var 0) (se_int)) (se_int)) (se_one (se_eq hr.units (se_call ((cal__law_gcd T).mono (by decide)) hr (takes_of rfl rfl rfl rfl) (sa_cons (se_ix (sq_var 0) (se_int)) (sa_cons (se_ix (sq_var 0) (se_int)) (sa_nil)))) (se_int))))) (sb_nil)))) (pf__law_is_num Γ)
theorem cal__law_pow (T : Tp P K mg Γ) : Cal P w K mg base 1 "_law_pow" (sp__law_pow Γ) := by
  exact cal_mk (p := p__law_pow Γ) T.d__law_pow sc__law_pow (len__law_pow Γ) (fun f cdv A outer s H E hr => sb_cons (ss_asg (se_int) (sg_name 2 sc__law_pow.nd)) (sb_cons (ss_for (passes_of rfl) rfl (si_rng1 T.b_range (sa_cons (se_var 1) (sa_nil))) (sg_name 3 sc__law_pow.nd) (sb_cons (ss_asg (se_mul (se_var 2) (se_var 0)) (sg_name 2 sc__law_pow.nd)) (sb_nil))) (sb_cons (ss_retN 2) (sb_nil)))) (pf__law_pow Γ)
theorem cal__law_digit_sum (T : Tp P K mg Γ) : Cal P w K mg base 2 "_law_digit_sum" (sp__law_digit_sum Γ) := by
  exact cal_mk (p := p__law_digit_sum Γ) T.d__law_digit_sum sc__law_digit_sum (len__law_digit_sum Γ) (fun f cdv A outer s H E hr => sb_cons (ss_asg (se_int) (sg_name 4 sc__law_digit_sum.nd)) (sb_cons (ss_asg (se_int) (sg_name 5 sc__law_digit_sum.nd)) (sb_cons (ss_asg (se_int) (sg_name 6 sc__law_digit_sum.nd)) (sb_cons (ss_asg (se_int) (sg_name 7 sc__law_digit_sum.nd)) (sb_cons (ss_for (passes_of rfl) rfl (si_rng1 T.b_range (sa_cons (se_add (se_var 3) (se_int)) (sa_nil))) (sg_name 8 sc__law_digit_sum.nd) (sb_cons (ss_asg (se_add (se_var 4) (se_mul (se_mul (se_call ((cal__law_pow T).mono (by decide)) hr (takes_of rfl rfl rfl rfl) (sa_cons (se_var 5) (sa_cons (se_var 0) (sa_nil)))) (se_call ((cal__law_pow T).mono (by decide)) hr (takes_of rfl rfl rfl rfl) (sa_cons (se_var 6) (sa_cons (se_var 1) (sa_nil))))) (se_var 7))) (sg_name 4 sc__law_digit_sum.nd)) (sb_cons (ss_asg (se_div (se_mul (se_var 5) (se_sub (se_var 3) (se_var 8))) (se_add (se_var 8) (se_int))) (sg_name 5 sc__law_digit_sum.nd)) (sb_cons (ss_asg (se_div (se_mul (se_var 6) (se_add (se_add (se_var 3) (se_var 8)) (se_int))) (se_add (se_var 8) (se_int))) (sg_name 6 sc__law_digit_sum.nd)) (sb_cons (ss_asg (se_mul (se_var 7) (se_var 2)) (sg_name 7 sc__law_digit_sum.nd)) (sb_nil)))))) (sb_cons (ss_retN 4) (sb_nil))))))) (pf__law_digit_sum Γ)
theorem cal__law_divided (T : Tp P K mg Γ) : Cal P w K mg base 3 "_law_divided" (sp__law_divided Γ) := by
  exact cal_mk (p := p__law_divided Γ) T.d__law_divided sc__law_divided (len__law_divided Γ) (fun f cdv A outer s H E hr => sb_cons (ss_ret (se_eq hr.units (se_mod (se_toint T.b_int (sa_cons (se_call ((cal__law_digit_sum T).mono (by decide)) hr (takes_of rfl rfl rfl rfl) (sa_cons (se_var 0) (sa_cons (se_var 1) (sa_cons (se_mod (se_toint T.b_int (sa_cons (se_var 2) (sa_nil))) (se_var 3)) (sa_cons (se_var 4) (sa_nil)))))) (sa_nil))) (se_var 3)) (se_int))) (sb_nil)) (pf__law_divided Γ)
theorem cal__law_first (T : Tp P K mg Γ) : Cal P w K mg base 4 "_law_first" (sp__law_first Γ) := by
  exact cal_mk (p := p__law_first Γ) T.d__law_first sc__law_first (len__law_first Γ) (fun f cdv A outer s H E hr => sb_cons (ss_for (passes_of rfl) rfl (si_rng1 T.b_range (sa_cons (se_var 3) (sa_nil))) (sg_name 4 sc__law_first.nd) (sb_cons (ss_if (st_val (se_call ((cal__law_divided T).mono (by decide)) hr (takes_of rfl rfl rfl rfl) (sa_cons (se_var 0) (sa_cons (se_var 1) (sa_cons (se_var 2) (sa_cons (se_var 3) (sa_cons (se_var 4) (sa_nil)))))))) (sb_cons (ss_retN 4) (sb_nil)) (sb_nil)) (sb_nil))) (sb_cons (ss_ret (se_non)) (sb_nil))) (pf__law_first Γ)
theorem cal__law_small_power (T : Tp P K mg Γ) : Cal P w K mg base 1 "_law_small_power" (sp__law_small_power Γ) := by
  exact cal_mk (p := p__law_small_power Γ) T.d__law_small_power sc__law_small_power (len__law_small_power Γ) (fun f cdv A outer s H E hr => sb_cons (ss_asg (se_int) (sg_name 1 sc__law_small_power.nd)) (sb_cons (ss_asg (se_int) (sg_name 2 sc__law_small_power.nd)) (sb_cons (ss_for (passes_of rfl) rfl (si_rng1 T.b_range (sa_cons (se_int) (sa_nil))) (sg_name 3 sc__law_small_power.nd) (sb_cons (ss_if (st_le (se_mul (se_var 1) (se_var 0)) (se_int)) (sb_cons (ss_asg (se_mul (se_var 1) (se_var 0)) (sg_name 1 sc__law_small_power.nd)) (sb_cons (ss_asg (se_add (se_var 2) (se_int)) (sg_name 2 sc__law_small_power.nd)) (sb_nil))) (sb_nil)) (sb_nil))) (sb_cons (ss_retN 2) (sb_nil))))) (pf__law_small_power Γ)
theorem cal__law_counts_ok (T : Tp P K mg Γ) : Cal P w K mg base 5 "_law_counts_ok" (sp__law_counts_ok Γ) := by
  exact cal_mk (p := p__law_counts_ok Γ) T.d__law_counts_ok sc__law_counts_ok (len__law_counts_ok Γ) (fun f cdv A outer s H E hr => sb_cons (ss_asg (se_call ((cal__law_next T).mono (by decide)) hr (takes_of rfl rfl rfl rfl) (sa_cons (se_var 0) (sa_cons (se_add (se_call ((cal__law_small_power T).mono (by decide)) hr (takes_of rfl rfl rfl rfl) (sa_cons (se_var 4) (sa_nil))) (se_int)) (sa_nil)))) (sg_name 5 sc__law_counts_ok.nd)) (sb_cons (ss_asg (se_int) (sg_name 6 sc__law_counts_ok.nd)) (sb_cons (ss_for (passes_of rfl) rfl (si_rng1 T.b_range (sa_cons (se_call ((cal__law_pow T).mono (by decide)) hr (takes_of rfl rfl rfl rfl) (sa_cons (se_var 4) (sa_cons (se_var 5) (sa_nil)))) (sa_nil))) (sg_name 7 sc__law_counts_ok.nd) (sb_cons (ss_if (st_not (st_val (se_call ((cal__law_divided T).mono (by decide)) hr (takes_of rfl rfl rfl rfl) (sa_cons (se_var 1) (sa_cons (se_var 2) (sa_cons (se_var 3) (sa_cons (se_var 4) (sa_cons (se_var 7) (sa_nil))))))))) (sb_cons (ss_asg (se_add (se_var 6) (se_int)) (sg_name 6 sc__law_counts_ok.nd)) (sb_nil)) (sb_nil)) (sb_nil))) (sb_cons (ss_asg (se_call ((cal_count_undivided T).mono (by decide)) hr (takes_of rfl rfl rfl rfl) (sa_cons (se_var 1) (sa_cons (se_var 2) (sa_cons (se_var 3) (sa_cons (se_var 4) (sa_cons (se_var 5) (sa_nil))))))) (sg_name 8 sc__law_counts_ok.nd)) (sb_cons (ss_if (st_w (sw_or (st_not (st_val (se_call ((cal__law_int T).mono (by decide)) hr (takes_of rfl rfl rfl rfl) (sa_cons (se_var 8) (sa_nil))))) (sw_or1 (st_ne hr.units (se_var 8) (se_var 6))))) (sb_cons (ss_ret (se_bl)) (sb_nil)) (sb_nil)) (sb_cons (ss_asg (se_int) (sg_name 9 sc__law_counts_ok.nd)) (sb_cons (ss_for (passes_of rfl) rfl (si_rng1 T.b_range (sa_cons (se_var 4) (sa_nil))) (sg_name 7 sc__law_counts_ok.nd) (sb_cons (ss_if (st_not (st_val (se_call ((cal__law_divided T).mono (by decide)) hr (takes_of rfl rfl rfl rfl) (sa_cons (se_var 1) (sa_cons (se_var 2) (sa_cons (se_var 3) (sa_cons (se_var 4) (sa_cons (se_var 7) (sa_nil))))))))) (sb_cons (ss_asg (se_add (se_var 9) (se_int)) (sg_name 9 sc__law_counts_ok.nd)) (sb_nil)) (sb_nil)) (sb_nil))) (sb_cons (ss_asg (se_ix (sq_of (se_lst (sa_cons (se_int) (sa_cons (se_int) (sa_cons (se_int) (sa_cons (se_int) (sa_nil))))))) (se_call ((cal__law_next T).mono (by decide)) hr (takes_of rfl rfl rfl rfl) (sa_cons (se_var 0) (sa_cons (se_int) (sa_nil))))) (sg_name 10 sc__law_counts_ok.nd)) (sb_cons (ss_asg (se_call ((cal_count_undivided T).mono (by decide)) hr (takes_of rfl rfl rfl rfl) (sa_cons (se_var 1) (sa_cons (se_var 2) (sa_cons (se_var 3) (sa_cons (se_var 4) (sa_cons (se_var 10) (sa_nil))))))) (sg_name 8 sc__law_counts_ok.nd)) (sb_cons (ss_ret (se_and (se_call ((cal__law_int T).mono (by decide)) hr (takes_of rfl rfl rfl rfl) (sa_cons (se_var 8) (sa_nil))) (se_one (se_eq hr.units (se_var 8) (se_call ((cal__law_pow T).mono (by decide)) hr (takes_of rfl rfl rfl rfl) (sa_cons (se_var 9) (sa_cons (se_var 10) (sa_nil)))))))) (sb_nil))))))))))) (pf__law_counts_ok Γ)
theorem cal__law_first_is (T : Tp P K mg Γ) : Cal P w K mg base 5 "_law_first_is" (sp__law_first_is Γ) := by
  exact cal_mk (p := p__law_first_is Γ) T.d__law_first_is sc__law_first_is (len__law_first_is Γ) (fun f cdv A outer s H E hr => sb_cons (ss_asg (se_call ((cal_first_divided T).mono (by decide)) hr (takes_of rfl rfl rfl rfl) (sa_cons (se_var 0) (sa_cons (se_var 1) (sa_cons (se_var 2) (sa_cons (se_var 3) (sa_nil)))))) (sg_name 5 sc__law_first_is.nd)) (sb_cons (ss_if (st_isN (se_var 4) (se_non)) (sb_cons (ss_ret (se_isN (se_var 5) (se_non))) (sb_nil)) (sb_nil)) (sb_cons (ss_ret (se_and (se_call ((cal__law_int T).mono (by decide)) hr (takes_of rfl rfl rfl rfl) (sa_cons (se_var 5) (sa_nil))) (se_one (se_eq hr.units (se_var 5) (se_var 4))))) (sb_nil)))) (pf__law_first_is Γ)
theorem cal__law_term_ok (T : Tp P K mg Γ) : Cal P w K mg base 10 "_law_term_ok" (sp__law_term_ok Γ) := by
  obtain ⟨_, _, _, _, hx_IsZero⟩ := T.xx_IsZero
  exact cal_mk (p := p__law_term_ok Γ) T.d__law_term_ok sc__law_term_ok (len__law_term_ok Γ) (fun f cdv A outer s H E hr => sb_cons (ss_if (st_eq hr.units (se_var 3) (se_int)) (sb_cons (ss_asg (se_non) (sg_name 4 sc__law_term_ok.nd)) (sb_cons (ss_try 5 rfl rfl sc__law_term_ok.nd T.e_IsZero.gC T.t_IsZero (takes_of rfl rfl rfl rfl) (fun W pn xe tk1 pa1 => sb_cons (ss_expr (se_call ((cal_digit_term T).mono (by decide)) hr tk1 (sa_cons (se_var 1) (sa_cons (se_var 2) (sa_cons (se_var 3) (sa_nil)))))) (sb_nil)) (fun a oe d pn hz hf => sb_cons (ss_asg (se_exf 5 hx_IsZero T.n_IsZero_word hz hf) (sg_name 4 sc__law_term_ok.nd)) (sb_nil))) (sb_cons (ss_ret (se_eq hr.units (se_var 4) (se_str))) (sb_nil)))) (sb_nil)) (sb_cons (ss_asg (se_call ((cal_digit_term T).mono (by decide)) hr (takes_of rfl rfl rfl rfl) (sa_cons (se_var 1) (sa_cons (se_var 2) (sa_cons (se_var 3) (sa_nil))))) (sg_name 6 sc__law_term_ok.nd)) (sb_cons (ss_if (st_w (sw_or (st_not (st_val (se_isi (se_var 6) T.b_isinstance T.b_tuple (by decide +kernel) (by decide +kernel)))) (sw_or1 (st_ne hr.units (se_len T.b_len (sq_var 6)) (se_int))))) (sb_cons (ss_ret (se_bl)) (sb_nil)) (sb_nil)) (sb_cons (ss_if (st_w (sw_or (st_not (st_val (se_isC T.ow_Term2 T.kt_Term2_Term2 (se_ix (sq_var 6) (se_int)) T.b_isinstance T.m_Term2))) (sw_or (st_not (st_val (se_isC T.ow_Range T.kt_Range_Range (se_ix (sq_var 6) (se_int)) T.b_isinstance T.m_Range))) (sw_or1 (st_notB (se_prop T.cl_Term2 ((cal_Term2_full T).mono (by decide)) hr (se_ix (sq_var 6) (se_int))) (se_bl)))))) (sb_cons (ss_ret (se_bl)) (sb_nil)) (sb_nil)) (sb_cons (ss_if (st_ne hr.units (se_fld T.cl_Range T.na_Range_start (se_ix (sq_var 6) (se_int))) (se_int)) (sb_cons (ss_ret (se_bl)) (sb_nil)) (sb_nil)) (sb_cons (ss_for (passes_of rfl) rfl (si_seq (se_lst (sa_cons (se_int) (sa_cons (se_call ((cal__law_next T).mono (by decide)) hr (takes_of rfl rfl rfl rfl) (sa_cons (se_var 0) (sa_cons (se_int) (sa_nil)))) (sa_nil))))) (sg_name 7 sc__law_term_ok.nd) (sb_cons (ss_asg (se_call ((cal_sum_value T).mono (by decide)) hr (takes_of rfl rfl rfl rfl) (sa_cons (se_ix (sq_var 6) (se_int)) (sa_cons (se_ix (sq_var 6) (se_int)) (sa_cons (se_var 7) (sa_nil))))) (sg_name 8 sc__law_term_ok.nd)) (sb_cons (ss_if (st_w (sw_or (st_not (st_val (se_call ((cal__law_is_num T).mono (by decide)) hr (takes_of rfl rfl rfl rfl) (sa_cons (se_var 8) (sa_nil))))) (sw_or1 (st_ne hr.units (se_var 8) (se_tup (sa_cons (se_call ((cal__law_digit_sum T).mono (by decide)) hr (takes_of rfl rfl rfl rfl) (sa_cons (se_var 1) (sa_cons (se_var 2) (sa_cons (se_var 3) (sa_cons (se_var 7) (sa_nil)))))) (sa_cons (se_int) (sa_nil)))))))) (sb_cons (ss_ret (se_bl)) (sb_nil)) (sb_nil)) (sb_nil)))) (sb_cons (ss_ret (se_bl)) (sb_nil)))))))) (pf__law_term_ok Γ)
theorem cal__law_refused (T : Tp P K mg Γ) : Cal P w K mg base 10 "_law_refused" (sp__law_refused Γ) := by
  obtain ⟨_, _, _, _, hx_BadInteger⟩ := T.xx_BadInteger
  obtain ⟨_, _, _, _, hx_TooMuch⟩ := T.xx_TooMuch
  exact cal_mk (p := p__law_refused Γ) T.d__law_refused sc__law_refused (len__law_refused Γ) (fun f cdv A outer s H E hr => sb_cons (ss_asg (se_non) (sg_name 2 sc__law_refused.nd)) (sb_cons (ss_try2 3 3 rfl rfl sc__law_refused.nd T.e_BadInteger.gC T.e_TooMuch.gC T.t_BadInteger T.t_TooMuch T.tf_TooMuch_BadInteger (takes_of rfl rfl rfl rfl) (fun W pn xe tk1 pa1 => sb_cons (ss_if (st_eq hr.units (se_var 0) (se_int)) (sb_cons (ss_expr (se_call ((cal_digit_value T).mono (by decide)) hr tk1 (sa_cons (se_ix (sq_var 1) (se_int)) (sa_cons (se_ix (sq_var 1) (se_int)) (sa_cons (se_ix (sq_var 1) (se_int)) (sa_cons (se_ix (sq_var 1) (se_int)) (sa_nil))))))) (sb_nil)) (sb_cons (ss_if (st_eq hr.units (se_var 0) (se_int)) (sb_cons (ss_expr (se_call ((cal_digit_mod T).mono (by decide)) hr tk1 (sa_cons (se_ix (sq_var 1) (se_int)) (sa_cons (se_ix (sq_var 1) (se_int)) (sa_cons (se_ix (sq_var 1) (se_int)) (sa_cons (se_ix (sq_var 1) (se_int)) (sa_cons (se_ix (sq_var 1) (se_int)) (sa_nil)))))))) (sb_nil)) (sb_cons (ss_if (st_eq hr.units (se_var 0) (se_int)) (sb_cons (ss_expr (se_call ((cal_first_divided T).mono (by decide)) hr tk1 (sa_cons (se_ix (sq_var 1) (se_int)) (sa_cons (se_ix (sq_var 1) (se_int)) (sa_cons (se_ix (sq_var 1) (se_int)) (sa_cons (se_ix (sq_var 1) (se_int)) (sa_nil))))))) (sb_nil)) (sb_cons (ss_if (st_eq hr.units (se_var 0) (se_int)) (sb_cons (ss_expr (se_call ((cal_count_undivided T).mono (by decide)) hr tk1 (sa_cons (se_ix (sq_var 1) (se_int)) (sa_cons (se_ix (sq_var 1) (se_int)) (sa_cons (se_ix (sq_var 1) (se_int)) (sa_cons (se_ix (sq_var 1) (se_int)) (sa_cons (se_ix (sq_var 1) (se_int)) (sa_nil)))))))) (sb_nil)) (sb_cons (ss_expr (se_call ((cal_digit_term T).mono (by decide)) hr tk1 (sa_cons (se_ix (sq_var 1) (se_int)) (sa_cons (se_ix (sq_var 1) (se_int)) (sa_cons (se_ix (sq_var 1) (se_int)) (sa_nil)))))) (sb_nil))) (sb_nil))) (sb_nil))) (sb_nil))) (sb_nil)) (fun a oe d pn hz hf => sb_cons (ss_asg (se_lst (sa_cons (se_str) (sa_cons (se_exf 3 hx_BadInteger T.n_BadInteger_handed hz hf) (sa_nil)))) (sg_name 2 sc__law_refused.nd)) (sb_nil)) (fun a oe d pn hz hf => sb_cons (ss_asg (se_lst (sa_cons (se_exf 3 hx_TooMuch T.n_TooMuch_word hz hf) (sa_cons (se_exf 3 hx_TooMuch T.n_TooMuch_most hz hf) (sa_nil)))) (sg_name 2 sc__law_refused.nd)) (sb_nil))) (sb_cons (ss_retN 2) (sb_nil)))) (pf__law_refused Γ)
theorem cal__law_refusals_ok (T : Tp P K mg Γ) : Cal P w K mg base 11 "_law_refusals_ok" (sp__law_refusals_ok Γ) := by
  exact cal_mk (p := p__law_refusals_ok Γ) T.d__law_refusals_ok sc__law_refusals_ok (len__law_refusals_ok Γ) (fun f cdv A outer s H E hr => sb_cons (ss_asg (se_call ((cal__law_next T).mono (by decide)) hr (takes_of rfl rfl rfl rfl) (sa_cons (se_var 0) (sa_cons (se_int) (sa_nil)))) (sg_name 1 sc__law_refusals_ok.nd)) (sb_cons (ss_asg (se_ix (sq_of (se_lst (sa_cons (se_int) (sa_cons (se_int) (sa_cons (se_bl) (sa_cons (se_non) (sa_cons (se_str) (sa_nil)))))))) (se_call ((cal__law_next T).mono (by decide)) hr (takes_of rfl rfl rfl rfl) (sa_cons (se_var 0) (sa_cons (se_int) (sa_nil))))) (sg_name 2 sc__law_refusals_ok.nd)) (sb_cons (ss_if (st_ne hr.units (se_call ((cal__law_refused T).mono (by decide)) hr (takes_of rfl rfl rfl rfl) (sa_cons (se_var 1) (sa_cons (se_lst (sa_cons (se_var 2) (sa_cons (se_int) (sa_cons (se_str) (sa_cons (se_neg (se_int)) (sa_cons (se_int) (sa_nil))))))) (sa_nil)))) (se_lst (sa_cons (se_str) (sa_cons (se_var 2) (sa_nil))))) (sb_cons (ss_ret (se_bl)) (sb_nil)) (sb_nil)) (sb_cons (ss_asg (se_ix (sq_of (se_lst (sa_cons (se_neg (se_int)) (sa_cons (se_int) (sa_cons (se_bl) (sa_cons (se_non) (sa_nil))))))) (se_call ((cal__law_next T).mono (by decide)) hr (takes_of rfl rfl rfl rfl) (sa_cons (se_var 0) (sa_cons (se_int) (sa_nil))))) (sg_name 2 sc__law_refusals_ok.nd)) (sb_cons (ss_if (st_ne hr.units (se_call ((cal__law_refused T).mono (by decide)) hr (takes_of rfl rfl rfl rfl) (sa_cons (se_var 1) (sa_cons (se_lst (sa_cons (se_int) (sa_cons (se_var 2) (sa_cons (se_str) (sa_cons (se_neg (se_int)) (sa_cons (se_int) (sa_nil))))))) (sa_nil)))) (se_lst (sa_cons (se_str) (sa_cons (se_var 2) (sa_nil))))) (sb_cons (ss_ret (se_bl)) (sb_nil)) (sb_nil)) (sb_cons (ss_if (st_ne hr.units (se_call ((cal__law_refused T).mono (by decide)) hr (takes_of rfl rfl rfl rfl) (sa_cons (se_var 1) (sa_cons (se_lst (sa_cons (se_int) (sa_cons (se_int) (sa_cons (se_tup (sa_cons (se_int) (sa_cons (se_int) (sa_nil)))) (sa_cons (se_neg (se_int)) (sa_cons (se_int) (sa_nil))))))) (sa_nil)))) (se_lst (sa_cons (se_str) (sa_cons (se_tup (sa_cons (se_int) (sa_cons (se_int) (sa_nil)))) (sa_nil))))) (sb_cons (ss_ret (se_bl)) (sb_nil)) (sb_nil)) (sb_cons (ss_asg (se_ix (sq_of (se_lst (sa_cons (se_int) (sa_cons (se_int) (sa_cons (se_neg (se_int)) (sa_cons (se_int) (sa_cons (se_int) (sa_cons (se_int) (sa_cons (se_int) (sa_cons (se_int) (sa_cons (se_bl) (sa_cons (se_non) (sa_nil))))))))))))) (se_call ((cal__law_next T).mono (by decide)) hr (takes_of rfl rfl rfl rfl) (sa_cons (se_var 0) (sa_cons (se_int) (sa_nil))))) (sg_name 2 sc__law_refusals_ok.nd)) (sb_cons (ss_asg (se_add (se_int) (se_call ((cal__law_next T).mono (by decide)) hr (takes_of rfl rfl rfl rfl) (sa_cons (se_var 0) (sa_cons (se_int) (sa_nil))))) (sg_name 1 sc__law_refusals_ok.nd)) (sb_cons (ss_asg (se_int) (sg_name 3 sc__law_refusals_ok.nd)) (sb_cons (ss_if (st_eq hr.units (se_call ((cal__law_next T).mono (by decide)) hr (takes_of rfl rfl rfl rfl) (sa_cons (se_var 0) (sa_cons (se_int) (sa_nil)))) (se_int)) (sb_cons (ss_asg (se_int) (sg_name 3 sc__law_refusals_ok.nd)) (sb_nil)) (sb_nil)) (sb_cons (ss_if (st_w (sw_or (st_ne hr.units (se_call ((cal__law_refused T).mono (by decide)) hr (takes_of rfl rfl rfl rfl) (sa_cons (se_var 1) (sa_cons (se_lst (sa_cons (se_int) (sa_cons (se_int) (sa_cons (se_int) (sa_cons (se_int) (sa_cons (se_var 2) (sa_nil))))))) (sa_nil)))) (se_lst (sa_cons (se_str) (sa_cons (se_var 2) (sa_nil))))) (sw_or1 (st_notN (se_call ((cal__law_refused T).mono (by decide)) hr (takes_of rfl rfl rfl rfl) (sa_cons (se_var 1) (sa_cons (se_lst (sa_cons (se_int) (sa_cons (se_int) (sa_cons (se_int) (sa_cons (se_int) (sa_cons (se_var 3) (sa_nil))))))) (sa_nil)))) (se_non))))) (sb_cons (ss_ret (se_bl)) (sb_nil)) (sb_nil)) (sb_cons (ss_asg (se_ix (sq_of (se_lst (sa_cons (se_neg (se_int)) (sa_cons (se_non) (sa_cons (se_bl) (sa_cons (se_str) (sa_nil))))))) (se_call ((cal__law_next T).mono (by decide)) hr (takes_of rfl rfl rfl rfl) (sa_cons (se_var 0) (sa_cons (se_int) (sa_nil))))) (sg_name 2 sc__law_refusals_ok.nd)) (sb_cons (ss_for (passes_of rfl) rfl (si_seq (se_lst (sa_cons (se_int) (sa_cons (se_int) (sa_cons (se_int) (sa_nil)))))) (sg_name 1 sc__law_refusals_ok.nd) (sb_cons (ss_if (st_ne hr.units (se_call ((cal__law_refused T).mono (by decide)) hr (takes_of rfl rfl rfl rfl) (sa_cons (se_var 1) (sa_cons (se_lst (sa_cons (se_int) (sa_cons (se_int) (sa_cons (se_int) (sa_cons (se_var 2) (sa_cons (se_int) (sa_nil))))))) (sa_nil)))) (se_lst (sa_cons (se_str) (sa_cons (se_var 2) (sa_nil))))) (sb_cons (ss_ret (se_bl)) (sb_nil)) (sb_nil)) (sb_nil))) (sb_cons (ss_if (st_w (sw_or (st_notN (se_call ((cal__law_refused T).mono (by decide)) hr (takes_of rfl rfl rfl rfl) (sa_cons (se_int) (sa_cons (se_lst (sa_cons (se_int) (sa_cons (se_int) (sa_cons (se_int) (sa_cons (se_int) (sa_cons (se_int) (sa_nil))))))) (sa_nil)))) (se_non)) (sw_or1 (st_ne hr.units (se_call ((cal__law_refused T).mono (by decide)) hr (takes_of rfl rfl rfl rfl) (sa_cons (se_int) (sa_cons (se_lst (sa_cons (se_int) (sa_cons (se_int) (sa_cons (se_int) (sa_cons (se_int) (sa_cons (se_int) (sa_nil))))))) (sa_nil)))) (se_lst (sa_cons (se_str) (sa_cons (se_int) (sa_nil)))))))) (sb_cons (ss_ret (se_bl)) (sb_nil)) (sb_nil)) (sb_cons (ss_if (st_w (sw_or (st_notN (se_call ((cal__law_refused T).mono (by decide)) hr (takes_of rfl rfl rfl rfl) (sa_cons (se_int) (sa_cons (se_lst (sa_cons (se_int) (sa_cons (se_int) (sa_cons (se_int) (sa_cons (se_int) (sa_cons (se_int) (sa_nil))))))) (sa_nil)))) (se_non)) (sw_or1 (st_ne hr.units (se_call ((cal__law_refused T).mono (by decide)) hr (takes_of rfl rfl rfl rfl) (sa_cons (se_int) (sa_cons (se_lst (sa_cons (se_int) (sa_cons (se_int) (sa_cons (se_int) (sa_cons (se_int) (sa_cons (se_int) (sa_nil))))))) (sa_nil)))) (se_lst (sa_cons (se_str) (sa_cons (se_int) (sa_nil)))))))) (sb_cons (ss_ret (se_bl)) (sb_nil)) (sb_nil)) (sb_cons (ss_asg (se_mul (se_mul (se_mul (se_mul (se_mul (se_mul (se_pow (se_int) (se_int)) (se_pow (se_int) (se_int))) (se_pow (se_int) (se_int))) (se_pow (se_int) (se_int))) (se_pow (se_int) (se_int))) (se_pow (se_int) (se_int))) (se_pow (se_int) (se_int))) (sg_name 4 sc__law_refusals_ok.nd)) (sb_cons (ss_if (st_notN (se_call ((cal__law_refused T).mono (by decide)) hr (takes_of rfl rfl rfl rfl) (sa_cons (se_int) (sa_cons (se_lst (sa_cons (se_int) (sa_cons (se_int) (sa_cons (se_int) (sa_cons (se_sub (se_var 4) (se_int)) (sa_cons (se_int) (sa_nil))))))) (sa_nil)))) (se_non)) (sb_cons (ss_ret (se_bl)) (sb_nil)) (sb_nil)) (sb_cons (ss_ret (se_eq hr.units (se_call ((cal__law_refused T).mono (by decide)) hr (takes_of rfl rfl rfl rfl) (sa_cons (se_int) (sa_cons (se_lst (sa_cons (se_int) (sa_cons (se_int) (sa_cons (se_int) (sa_cons (se_var 4) (sa_cons (se_int) (sa_nil))))))) (sa_nil)))) (se_lst (sa_cons (se_str) (sa_cons (se_int) (sa_nil)))))) (sb_nil))))))))))))))))))) (pf__law_refusals_ok Γ)
theorem ok_law (T : Tp P K mg Γ) {f : Addr} {fd : FuncData} (Fn : Fun K "law" "law" st_law f fd) : FnOk P w K mg base (L2.CX P w) 12 f fd ["script"] (spOf K sp_law) :=
  fn_mk0 (p := p_law Γ) Fn sc_law len_law (fun f cdv A outer s H E hr => sb_stream 1 (se_call ((cal__law_stream T).mono (by decide)) hr (takes_of rfl rfl rfl rfl) (sa_cons (se_var 0) (sa_nil))) (sb_cons (ss_asg (se_add (se_int) (se_call ((cal__law_next T).mono (by decide)) hr (takes_of rfl rfl rfl rfl) (sa_cons (se_var 1) (sa_cons (se_int) (sa_nil))))) (sg_name 2 sc_law.nd)) (sb_cons (ss_asg (se_call ((cal__law_next T).mono (by decide)) hr (takes_of rfl rfl rfl rfl) (sa_cons (se_var 1) (sa_cons (se_int) (sa_nil)))) (sg_name 3 sc_law.nd)) (sb_cons (ss_asg (se_sub (se_call ((cal__law_next T).mono (by decide)) hr (takes_of rfl rfl rfl rfl) (sa_cons (se_var 1) (sa_cons (se_int) (sa_nil)))) (se_int)) (sg_name 4 sc_law.nd)) (sb_cons (ss_if (st_eq hr.units (se_call ((cal__law_next T).mono (by decide)) hr (takes_of rfl rfl rfl rfl) (sa_cons (se_var 1) (sa_cons (se_int) (sa_nil)))) (se_int)) (sb_cons (ss_asg (se_add (se_add (se_mul (se_var 4) (se_pow (se_int) (se_int))) (se_mul (se_call ((cal__law_next T).mono (by decide)) hr (takes_of rfl rfl rfl rfl) (sa_cons (se_var 1) (sa_cons (se_int) (sa_nil)))) (se_pow (se_int) (se_int)))) (se_call ((cal__law_next T).mono (by decide)) hr (takes_of rfl rfl rfl rfl) (sa_cons (se_var 1) (sa_cons (se_int) (sa_nil))))) (sg_name 4 sc_law.nd)) (sb_nil)) (sb_nil)) (sb_cons (ss_asg (se_ix (sq_of (se_lst (sa_cons (se_int) (sa_cons (se_int) (sa_cons (se_int) (sa_cons (se_int) (sa_cons (se_int) (sa_cons (se_int) (sa_cons (se_int) (sa_cons (se_int) (sa_nil))))))))))) (se_call ((cal__law_next T).mono (by decide)) hr (takes_of rfl rfl rfl rfl) (sa_cons (se_var 1) (sa_cons (se_int) (sa_nil))))) (sg_name 5 sc_law.nd)) (sb_cons (ss_asg (se_call ((cal__law_first T).mono (by decide)) hr (takes_of rfl rfl rfl rfl) (sa_cons (se_var 2) (sa_cons (se_var 3) (sa_cons (se_var 4) (sa_cons (se_var 5) (sa_nil)))))) (sg_name 6 sc_law.nd)) (sb_cons (ss_if (st_w (sw_or (st_not (st_val (se_call ((cal__law_first_is T).mono (by decide)) hr (takes_of rfl rfl rfl rfl) (sa_cons (se_var 2) (sa_cons (se_var 3) (sa_cons (se_var 4) (sa_cons (se_var 5) (sa_cons (se_var 6) (sa_nil))))))))) (sw_or1 (st_not (st_val (se_call ((cal__law_counts_ok T).mono (by decide)) hr (takes_of rfl rfl rfl rfl) (sa_cons (se_var 1) (sa_cons (se_var 2) (sa_cons (se_var 3) (sa_cons (se_var 4) (sa_cons (se_var 5) (sa_nil)))))))))))) (sb_cons (ss_ret (se_bl)) (sb_nil)) (sb_nil)) (sb_cons (ss_asg (se_sub (se_call ((cal__law_next T).mono (by decide)) hr (takes_of rfl rfl rfl rfl) (sa_cons (se_var 1) (sa_cons (se_int) (sa_nil)))) (se_int)) (sg_name 7 sc_law.nd)) (sb_cons (ss_if (st_w (sw_or (st_not (st_val (se_call ((cal__law_first_is T).mono (by decide)) hr (takes_of rfl rfl rfl rfl) (sa_cons (se_int) (sa_cons (se_int) (sa_cons (se_sub (se_mul (se_var 7) (se_var 5)) (se_int)) (sa_cons (se_var 5) (sa_cons (se_int) (sa_nil))))))))) (sw_or1 (st_not (st_val (se_call ((cal__law_first_is T).mono (by decide)) hr (takes_of rfl rfl rfl rfl) (sa_cons (se_int) (sa_cons (se_int) (sa_cons (se_mul (se_var 7) (se_var 5)) (sa_cons (se_var 5) (sa_cons (se_non) (sa_nil)))))))))))) (sb_cons (ss_ret (se_bl)) (sb_nil)) (sb_nil)) (sb_cons (ss_if (st_w (sw_or (st_ne hr.units (se_call ((cal_count_undivided T).mono (by decide)) hr (takes_of rfl rfl rfl rfl) (sa_cons (se_int) (sa_cons (se_int) (sa_cons (se_mul (se_var 7) (se_var 5)) (sa_cons (se_var 5) (sa_cons (se_int) (sa_nil))))))) (se_mul (se_mul (se_var 5) (se_var 5)) (se_var 5))) (sw_or1 (st_ne hr.units (se_call ((cal_count_undivided T).mono (by decide)) hr (takes_of rfl rfl rfl rfl) (sa_cons (se_int) (sa_cons (se_int) (sa_cons (se_sub (se_mul (se_var 7) (se_var 5)) (se_int)) (sa_cons (se_var 5) (sa_cons (se_int) (sa_nil))))))) (se_int))))) (sb_cons (ss_ret (se_bl)) (sb_nil)) (sb_nil)) (sb_cons (ss_if (st_w (sw_or (st_not (st_val (se_call ((cal__law_first_is T).mono (by decide)) hr (takes_of rfl rfl rfl rfl) (sa_cons (se_int) (sa_cons (se_int) (sa_cons (se_int) (sa_cons (se_int) (sa_cons (se_int) (sa_nil))))))))) (sw_or1 (st_not (st_val (se_call ((cal__law_first_is T).mono (by decide)) hr (takes_of rfl rfl rfl rfl) (sa_cons (se_int) (sa_cons (se_int) (sa_cons (se_int) (sa_cons (se_int) (sa_cons (se_non) (sa_nil)))))))))))) (sb_cons (ss_ret (se_bl)) (sb_nil)) (sb_nil)) (sb_cons (ss_if (st_not (st_val (se_call ((cal__law_term_ok T).mono (by decide)) hr (takes_of rfl rfl rfl rfl) (sa_cons (se_var 1) (sa_cons (se_var 2) (sa_cons (se_var 3) (sa_cons (se_var 4) (sa_nil)))))))) (sb_cons (ss_ret (se_bl)) (sb_nil)) (sb_nil)) (sb_cons (ss_ret (se_call ((cal__law_refusals_ok T).mono (by decide)) hr (takes_of rfl rfl rfl rfl) (sa_cons (se_var 1) (sa_nil)))) (sb_nil)))))))))))))) sc_law.nd) (pf_law Γ)
end
end K89
end
section
set_option Elab.async false
set_option linter.all false
set_option maxRecDepth 100000
set_option maxHeartbeats 1000000
/-! The end (printed by mkE.py). -/
namespace K89
open PySem PySem.W PySem.Spec PyProof.Rows L2 Py
theorem ini_BadInteger {P : Program} {K : Frag} {C D fI : Addr} (T : ErrCls P K C D fI "BadInteger.__init__" st0_BadInteger) (nf0 : findIn K (.ref C) "handed" = some none) : Err1 P K C D fI "BadInteger.__init__" st0_BadInteger "handed" :=
  ⟨T, ⟨_, _, _, _, _, _, _, _, _, _, _, _, ⟨rfl, rfl, rfl, rfl, rfl, rfl, by decide +kernel, ⟨_, rfl, rfl⟩, fun _ _ _ _ => rfl, fun _ _ _ _ => rfl, fun _ _ _ _ => rfl, fun _ _ _ _ => rfl⟩, rfl, fun _ _ _ _ => rfl⟩, fun fd u v h1 h2 h3 h4 => by (obtain ⟨_, _, _, _, _, _, _, _, _, _, _, _⟩ := fd; simp only at h1 h2 h3 h4; subst h1 h2 h3 h4; rfl), rfl, nf0, by decide +kernel, by decide +kernel⟩
theorem ini_TooMuch {P : Program} {K : Frag} {C D fI : Addr} (T : ErrCls P K C D fI "TooMuch.__init__" st0_TooMuch) (nf0 : findIn K (.ref C) "word" = some none) (nf1 : findIn K (.ref C) "most" = some none) : Err2 P K C D fI "TooMuch.__init__" st0_TooMuch "word" "most" :=
  ⟨T, ⟨_, _, _, _, _, _, _, _, _, _, _, _, _, _, _, _, ⟨rfl, rfl, rfl, rfl, rfl, rfl, by decide +kernel, ⟨_, rfl, rfl⟩, fun _ _ _ _ => rfl, fun _ _ _ _ => rfl, fun _ _ _ _ => rfl, fun _ _ _ _ => rfl⟩, rfl, fun _ _ _ _ => rfl, fun _ _ _ _ => rfl⟩, fun fd u v w h1 h2 h3 h4 => by (obtain ⟨_, _, _, _, _, _, _, _, _, _, _, _⟩ := fd; simp only at h1 h2 h3 h4; subst h1 h2 h3 h4; rfl), rfl, rfl, nf0, nf1, by decide +kernel, by decide +kernel, by decide +kernel, by decide +kernel, by decide +kernel⟩
theorem ini_IsZero {P : Program} {K : Frag} {C D fI : Addr} (T : ErrCls P K C D fI "IsZero.__init__" st0_IsZero) (nf0 : findIn K (.ref C) "word" = some none) : Err1 P K C D fI "IsZero.__init__" st0_IsZero "word" :=
  ⟨T, ⟨_, _, _, _, _, _, _, _, _, _, _, _, ⟨rfl, rfl, rfl, rfl, rfl, rfl, by decide +kernel, ⟨_, rfl, rfl⟩, fun _ _ _ _ => rfl, fun _ _ _ _ => rfl, fun _ _ _ _ => rfl, fun _ _ _ _ => rfl⟩, rfl, fun _ _ _ _ => rfl⟩, fun fd u v h1 h2 h3 h4 => by (obtain ⟨_, _, _, _, _, _, _, _, _, _, _, _⟩ := fd; simp only at h1 h2 h3 h4; subst h1 h2 h3 h4; rfl), rfl, nf0, by decide +kernel, by decide +kernel⟩
theorem sup_top : (PP.main.scope.names.lookup ("super" : Str)).isSome = false := by decide +kernel
section
variable {K : Frag} {h : Heap} {mg : Str → Option Value} (X : K.In h) (G : h.Ns mainGlobals mg) (c : SaysQ bls fqs K)
include X G c
theorem q_b_abs : mg "abs" = none := mg_none_of X G (He.eqO_ok (c.b 0 (b := b_fb_abs) rfl))
theorem q_b_any : mg "any" = none := mg_none_of X G (He.eqO_ok (c.b 1 (b := b_fb_any) rfl))
theorem q_b_bool : mg "bool" = none := mg_none_of X G (He.eqO_ok (c.b 2 (b := b_fb_bool) rfl))
theorem q_b_int : mg "int" = none := mg_none_of X G (He.eqO_ok (c.b 3 (b := b_fb_int) rfl))
theorem q_b_isinstance : mg "isinstance" = none := mg_none_of X G (He.eqO_ok (c.b 4 (b := b_fb_isinstance) rfl))
theorem q_b_len : mg "len" = none := mg_none_of X G (He.eqO_ok (c.b 5 (b := b_fb_len) rfl))
theorem q_b_list : mg "list" = none := mg_none_of X G (He.eqO_ok (c.b 6 (b := b_fb_list) rfl))
theorem q_b_min : mg "min" = none := mg_none_of X G (He.eqO_ok (c.b 7 (b := b_fb_min) rfl))
theorem q_b_range : mg "range" = none := mg_none_of X G (He.eqO_ok (c.b 8 (b := b_fb_range) rfl))
theorem q_b_sorted : mg "sorted" = none := mg_none_of X G (He.eqO_ok (c.b 9 (b := b_fb_sorted) rfl))
theorem q_b_tuple : mg "tuple" = none := mg_none_of X G (He.eqO_ok (c.b 10 (b := b_fb_tuple) rfl))
theorem q_g_EXPONENT_BOUND : GlobI mg "EXPONENT_BOUND" 5000 := He.int_ok X G (c.b 11 (b := b_g_EXPONENT_BOUND) rfl)
theorem q_g_GREAT_PRIME : GlobI mg "GREAT_PRIME" 2305843009213693951 := He.int_ok X G (c.b 12 (b := b_g_GREAT_PRIME) rfl)
theorem q_g_STEP_TEXT_BOUND : GlobI mg "STEP_TEXT_BOUND" 2000 := He.int_ok X G (c.b 13 (b := b_g_STEP_TEXT_BOUND) rfl)
theorem q_g_FORM_BOUND : GlobI mg "FORM_BOUND" 20 := He.int_ok X G (c.b 14 (b := b_g_FORM_BOUND) rfl)
theorem q_g_VALUE_BOUND : GlobI mg "VALUE_BOUND" 3000 := He.int_ok X G (c.b 15 (b := b_g_VALUE_BOUND) rfl)
theorem q_g_DIGIT_PLACES : GlobI mg "DIGIT_PLACES" 400 := He.int_ok X G (c.b 16 (b := b_g_DIGIT_PLACES) rfl)
theorem q_g_DIGIT_POWER : GlobI mg "DIGIT_POWER" 60 := He.int_ok X G (c.b 17 (b := b_g_DIGIT_POWER) rfl)
theorem q_g_DIGIT_EXPONENT : GlobI mg "DIGIT_EXPONENT" 4 := He.int_ok X G (c.b 18 (b := b_g_DIGIT_EXPONENT) rfl)
theorem q_g_DIGIT_PRIME : GlobI mg "DIGIT_PRIME" 200 := He.int_ok X G (c.b 19 (b := b_g_DIGIT_PRIME) rfl)
theorem q_g_SUMMANDS : GlobI mg "SUMMANDS" 600 := He.int_ok X G (c.b 20 (b := b_g_SUMMANDS) rfl)
theorem q_gd_POLY2_ONE : GlobD K mg "POLY2_ONE" (.tup [.tup [.int 0, .int 0, .tup [.int 1, .int 1]]]) := polB_of X G (c.b 21 (b := b_gd_POLY2_ONE) rfl)
theorem q_f_comb : mg "comb" = some (.builtin "math.comb") := mg_of X G (He.eqO_ok (c.b 22 (b := b_f_comb) rfl))
theorem q_f_factorial : mg "factorial" = some (.builtin "math.factorial") := mg_of X G (He.eqO_ok (c.b 23 (b := b_f_factorial) rfl))
theorem q_f_lcm : mg "lcm" = some (.builtin "math.lcm") := mg_of X G (He.eqO_ok (c.b 24 (b := b_f_lcm) rfl))
theorem q_e_BadInteger : ErrN1 PP K mg "BadInteger" (He.ga K "BadInteger") "handed" := errN1_mk X G (He.eqO_ok (c.b 26 (b := b_glo_BadInteger) rfl)) (errB_of (d := fq_EBadInteger) (c.f 0 (d := fq_EBadInteger) rfl) rfl (c.b 25 (b := b_er_BadInteger) rfl) sup_top) (He.eqO_ok (c.b 27 (b := b_n_BadInteger_handed) rfl)) ini_BadInteger
theorem q_t_BadInteger : PySem.W.exmOne K (.ref (He.ga K "BadInteger")) (.ref (He.ga K "BadInteger")) = some true := He.exm_ok (c.b 28 (b := b_t_BadInteger) rfl)
theorem q_xx_BadInteger : ∃ D fI q st, ErrCls PP K (He.ga K "BadInteger") D fI q st := ⟨_, _, _, _, errB_of (d := fq_EBadInteger) (c.f 0 (d := fq_EBadInteger) rfl) rfl (c.b 25 (b := b_er_BadInteger) rfl) sup_top⟩
theorem q_n_BadInteger_handed : PySem.W.findIn K (.ref (He.ga K "BadInteger")) "handed" = some none := He.eqO_ok (c.b 27 (b := b_n_BadInteger_handed) rfl)
theorem q_e_TooMuch : ErrN2 PP K mg "TooMuch" (He.ga K "TooMuch") "word" "most" := errN2_mk X G (He.eqO_ok (c.b 30 (b := b_glo_TooMuch) rfl)) (errB_of (d := fq_ETooMuch) (c.f 1 (d := fq_ETooMuch) rfl) rfl (c.b 29 (b := b_er_TooMuch) rfl) sup_top) (He.eqO_ok (c.b 31 (b := b_n_TooMuch_word) rfl)) (He.eqO_ok (c.b 32 (b := b_n_TooMuch_most) rfl)) ini_TooMuch
theorem q_t_TooMuch : PySem.W.exmOne K (.ref (He.ga K "TooMuch")) (.ref (He.ga K "TooMuch")) = some true := He.exm_ok (c.b 33 (b := b_t_TooMuch) rfl)
theorem q_xx_TooMuch : ∃ D fI q st, ErrCls PP K (He.ga K "TooMuch") D fI q st := ⟨_, _, _, _, errB_of (d := fq_ETooMuch) (c.f 1 (d := fq_ETooMuch) rfl) rfl (c.b 29 (b := b_er_TooMuch) rfl) sup_top⟩
theorem q_n_TooMuch_word : PySem.W.findIn K (.ref (He.ga K "TooMuch")) "word" = some none := He.eqO_ok (c.b 31 (b := b_n_TooMuch_word) rfl)
theorem q_n_TooMuch_most : PySem.W.findIn K (.ref (He.ga K "TooMuch")) "most" = some none := He.eqO_ok (c.b 32 (b := b_n_TooMuch_most) rfl)
theorem q_e_IsZero : ErrN1 PP K mg "IsZero" (He.ga K "IsZero") "word" := errN1_mk X G (He.eqO_ok (c.b 35 (b := b_glo_IsZero) rfl)) (errB_of (d := fq_EIsZero) (c.f 2 (d := fq_EIsZero) rfl) rfl (c.b 34 (b := b_er_IsZero) rfl) sup_top) (He.eqO_ok (c.b 36 (b := b_n_IsZero_word) rfl)) ini_IsZero
theorem q_t_IsZero : PySem.W.exmOne K (.ref (He.ga K "IsZero")) (.ref (He.ga K "IsZero")) = some true := He.exm_ok (c.b 37 (b := b_t_IsZero) rfl)
theorem q_xx_IsZero : ∃ D fI q st, ErrCls PP K (He.ga K "IsZero") D fI q st := ⟨_, _, _, _, errB_of (d := fq_EIsZero) (c.f 2 (d := fq_EIsZero) rfl) rfl (c.b 34 (b := b_er_IsZero) rfl) sup_top⟩
theorem q_n_IsZero_word : PySem.W.findIn K (.ref (He.ga K "IsZero")) "word" = some none := He.eqO_ok (c.b 36 (b := b_n_IsZero_word) rfl)
theorem q_tf_TooMuch_BadInteger : PySem.W.exmOne K (.ref (He.ga K "TooMuch")) (.ref (He.ga K "BadInteger")) = some false := He.exm_ok (c.b 38 (b := b_tf_TooMuch_BadInteger) rfl)
theorem q_cl_Plain : Cls K (He.ga K "Plain") := (ownB_of (c.b 39 (b := b_own_Plain) rfl)).1
theorem q_m_Plain : mg "Plain" = some (.ref (He.ga K "Plain")) := mg_of X G (He.eqO_ok (c.b 40 (b := b_glo_Plain) rfl))
theorem q_na_Plain_word : NoAttr K (He.ga K "Plain") "word" := He.eqO_ok (c.b 41 (b := b_n_Plain_word) rfl)
theorem q_na_Plain_base : NoAttr K (He.ga K "Plain") "base" := He.eqO_ok (c.b 42 (b := b_n_Plain_base) rfl)
theorem q_ow_Plain : OwnTy K (He.ga K "Plain") := (ownB_of (c.b 39 (b := b_own_Plain) rfl)).2
theorem q_cl_Pure : Cls K (He.ga K "Pure") := (ownB_of (c.b 43 (b := b_own_Pure) rfl)).1
theorem q_m_Pure : mg "Pure" = some (.ref (He.ga K "Pure")) := mg_of X G (He.eqO_ok (c.b 44 (b := b_glo_Pure) rfl))
theorem q_na_Pure_step : NoAttr K (He.ga K "Pure") "step" := He.eqO_ok (c.b 45 (b := b_n_Pure_step) rfl)
theorem q_na_Pure_s : NoAttr K (He.ga K "Pure") "s" := He.eqO_ok (c.b 46 (b := b_n_Pure_s) rfl)
theorem q_na_Pure_t : NoAttr K (He.ga K "Pure") "t" := He.eqO_ok (c.b 47 (b := b_n_Pure_t) rfl)
theorem q_na_Pure_square : NoAttr K (He.ga K "Pure") "square" := He.eqO_ok (c.b 48 (b := b_n_Pure_square) rfl)
theorem q_na_Pure_tops : NoAttr K (He.ga K "Pure") "tops" := He.eqO_ok (c.b 49 (b := b_n_Pure_tops) rfl)
theorem q_na_Pure_bottoms : NoAttr K (He.ga K "Pure") "bottoms" := He.eqO_ok (c.b 50 (b := b_n_Pure_bottoms) rfl)
theorem q_ow_Pure : OwnTy K (He.ga K "Pure") := (ownB_of (c.b 43 (b := b_own_Pure) rfl)).2
theorem q_cl_Term2 : Cls K (He.ga K "Term2") := (ownB_of (c.b 51 (b := b_own_Term2) rfl)).1
theorem q_m_Term2 : mg "Term2" = some (.ref (He.ga K "Term2")) := mg_of X G (He.eqO_ok (c.b 52 (b := b_glo_Term2) rfl))
theorem q_na_Term2_step : NoAttr K (He.ga K "Term2") "step" := He.eqO_ok (c.b 53 (b := b_n_Term2_step) rfl)
theorem q_na_Term2_top : NoAttr K (He.ga K "Term2") "top" := He.eqO_ok (c.b 54 (b := b_n_Term2_top) rfl)
theorem q_na_Term2_bottom : NoAttr K (He.ga K "Term2") "bottom" := He.eqO_ok (c.b 55 (b := b_n_Term2_bottom) rfl)
theorem q_na_Term2_pure : NoAttr K (He.ga K "Term2") "pure" := He.eqO_ok (c.b 56 (b := b_n_Term2_pure) rfl)
theorem q_ow_Term2 : OwnTy K (He.ga K "Term2") := (ownB_of (c.b 51 (b := b_own_Term2) rfl)).2
theorem q_cl_Range : Cls K (He.ga K "Range") := (ownB_of (c.b 57 (b := b_own_Range) rfl)).1
theorem q_m_Range : mg "Range" = some (.ref (He.ga K "Range")) := mg_of X G (He.eqO_ok (c.b 58 (b := b_glo_Range) rfl))
theorem q_na_Range_low : NoAttr K (He.ga K "Range") "low" := He.eqO_ok (c.b 59 (b := b_n_Range_low) rfl)
theorem q_na_Range_high : NoAttr K (He.ga K "Range") "high" := He.eqO_ok (c.b 60 (b := b_n_Range_high) rfl)
theorem q_na_Range_start : NoAttr K (He.ga K "Range") "start" := He.eqO_ok (c.b 61 (b := b_n_Range_start) rfl)
theorem q_ow_Range : OwnTy K (He.ga K "Range") := (ownB_of (c.b 57 (b := b_own_Range) rfl)).2
theorem q_kt_Plain_Step : PySem.W.kitOne K (.ref (He.ga K "Plain")) (.ref (He.ga K "Step")) = some true := of_decide_eq_true (c.b 62 (b := b_kt_Plain_Step) rfl)
theorem q_kt_Pure_Pure : PySem.W.kitOne K (.ref (He.ga K "Pure")) (.ref (He.ga K "Pure")) = some true := of_decide_eq_true (c.b 63 (b := b_kt_Pure_Pure) rfl)
theorem q_kt_Term2_Term2 : PySem.W.kitOne K (.ref (He.ga K "Term2")) (.ref (He.ga K "Term2")) = some true := of_decide_eq_true (c.b 64 (b := b_kt_Term2_Term2) rfl)
theorem q_kt_Range_Range : PySem.W.kitOne K (.ref (He.ga K "Range")) (.ref (He.ga K "Range")) = some true := of_decide_eq_true (c.b 65 (b := b_kt_Range_Range) rfl)
theorem q_m_Step : mg "Step" = some (.ref (He.ga K "Step")) := mg_of X G (He.eqO_ok (c.b 66 (b := b_glo_Step) rfl))
theorem q_d_nu_integer : DefAt K mg "nu_integer" st_nu_integer ["value"] := defQ (d := fq_nu_integer) X G (c.f 3 (d := fq_nu_integer) rfl) rfl (c.b 67 (b := b_glo_nu_integer) rfl) (c.b 68 (b := b_pl_nu_integer) rfl) (fun _ _ _ _ _ _ us hl => match us, hl with | [_], _ => rfl)
theorem q_d_nu_gcd : DefAt K mg "nu_gcd" st_nu_gcd ["a", "b"] := defQ (d := fq_nu_gcd) X G (c.f 4 (d := fq_nu_gcd) rfl) rfl (c.b 69 (b := b_glo_nu_gcd) rfl) (c.b 70 (b := b_pl_nu_gcd) rfl) (fun _ _ _ _ _ _ us hl => match us, hl with | [_, _], _ => rfl)
theorem q_d_nu_low : DefAt K mg "nu_low" st_nu_low ["a", "b"] := defQ (d := fq_nu_low) X G (c.f 5 (d := fq_nu_low) rfl) rfl (c.b 71 (b := b_glo_nu_low) rfl) (c.b 72 (b := b_pl_nu_low) rfl) (fun _ _ _ _ _ _ us hl => match us, hl with | [_, _], _ => rfl)
theorem q_d_number : DefAt K mg "number" st_number ["value"] := defQ (d := fq_number) X G (c.f 6 (d := fq_number) rfl) rfl (c.b 73 (b := b_glo_number) rfl) (c.b 74 (b := b_pl_number) rfl) (fun _ _ _ _ _ _ us hl => match us, hl with | [_], _ => rfl)
theorem q_d_plus : DefAt K mg "plus" st_plus ["one", "other"] := defQ (d := fq_plus) X G (c.f 7 (d := fq_plus) rfl) rfl (c.b 75 (b := b_glo_plus) rfl) (c.b 76 (b := b_pl_plus) rfl) (fun _ _ _ _ _ _ us hl => match us, hl with | [_, _], _ => rfl)
theorem q_d_nu_power : DefAt K mg "nu_power" st_nu_power ["base", "exponent"] := defQ (d := fq_nu_power) X G (c.f 8 (d := fq_nu_power) rfl) rfl (c.b 77 (b := b_glo_nu_power) rfl) (c.b 78 (b := b_pl_nu_power) rfl) (fun _ _ _ _ _ _ us hl => match us, hl with | [_, _], _ => rfl)
theorem q_d_sw_step : DefAt K mg "sw_step" st_sw_step ["value"] := defQ (d := fq_sw_step) X G (c.f 9 (d := fq_sw_step) rfl) rfl (c.b 79 (b := b_glo_sw_step) rfl) (c.b 80 (b := b_pl_sw_step) rfl) (fun _ _ _ _ _ _ us hl => match us, hl with | [_], _ => rfl)
theorem q_d_sw_power : DefAt K mg "sw_power" st_sw_power ["base", "i"] := defQ (d := fq_sw_power) X G (c.f 10 (d := fq_sw_power) rfl) rfl (c.b 81 (b := b_glo_sw_power) rfl) (c.b 82 (b := b_pl_sw_power) rfl) (fun _ _ _ _ _ _ us hl => match us, hl with | [_, _], _ => rfl)
theorem q_d_pu_three : DefAt K mg "pu_three" st_pu_three ["value"] := defQ (d := fq_pu_three) X G (c.f 11 (d := fq_pu_three) rfl) rfl (c.b 83 (b := b_glo_pu_three) rfl) (c.b 84 (b := b_pl_pu_three) rfl) (fun _ _ _ _ _ _ us hl => match us, hl with | [_], _ => rfl)
theorem q_d_pu_form : DefAt K mg "pu_form" st_pu_form ["value"] := defQ (d := fq_pu_form) X G (c.f 12 (d := fq_pu_form) rfl) rfl (c.b 85 (b := b_glo_pu_form) rfl) (c.b 86 (b := b_pl_pu_form) rfl) (fun _ _ _ _ _ _ us hl => match us, hl with | [_], _ => rfl)
theorem q_d_pu_forms : DefAt K mg "pu_forms" st_pu_forms ["value"] := defQ (d := fq_pu_forms) X G (c.f 13 (d := fq_pu_forms) rfl) rfl (c.b 87 (b := b_glo_pu_forms) rfl) (c.b 88 (b := b_pl_pu_forms) rfl) (fun _ _ _ _ _ _ us hl => match us, hl with | [_], _ => rfl)
theorem q_d_pu_square : DefAt K mg "pu_square" st_pu_square ["step", "value"] := defQ (d := fq_pu_square) X G (c.f 14 (d := fq_pu_square) rfl) rfl (c.b 89 (b := b_glo_pu_square) rfl) (c.b 90 (b := b_pl_pu_square) rfl) (fun _ _ _ _ _ _ us hl => match us, hl with | [_, _], _ => rfl)
theorem q_d_pu_less : DefAt K mg "pu_less" st_pu_less ["forms", "others"] := defQ (d := fq_pu_less) X G (c.f 15 (d := fq_pu_less) rfl) rfl (c.b 91 (b := b_glo_pu_less) rfl) (c.b 92 (b := b_pl_pu_less) rfl) (fun _ _ _ _ _ _ us hl => match us, hl with | [_, _], _ => rfl)
theorem q_d_pu_size : DefAt K mg "pu_size" st_pu_size ["form", "n", "k"] := defQ (d := fq_pu_size) X G (c.f 16 (d := fq_pu_size) rfl) rfl (c.b 93 (b := b_glo_pu_size) rfl) (c.b 94 (b := b_pl_pu_size) rfl) (fun _ _ _ _ _ _ us hl => match us, hl with | [_, _, _], _ => rfl)
theorem q_d_pu_there : DefAt K mg "pu_there" st_pu_there ["tops", "n", "k"] := defQ (d := fq_pu_there) X G (c.f 17 (d := fq_pu_there) rfl) rfl (c.b 95 (b := b_glo_pu_there) rfl) (c.b 96 (b := b_pl_pu_there) rfl) (fun _ _ _ _ _ _ us hl => match us, hl with | [_, _, _], _ => rfl)
theorem q_d_pu_falling : DefAt K mg "pu_falling" st_pu_falling ["step", "m"] := defQ (d := fq_pu_falling) X G (c.f 18 (d := fq_pu_falling) rfl) rfl (c.b 97 (b := b_glo_pu_falling) rfl) (c.b 98 (b := b_pl_pu_falling) rfl) (fun _ _ _ _ _ _ us hl => match us, hl with | [_, _], _ => rfl)
theorem q_d_pu_number : DefAt K mg "pu_number" st_pu_number ["pure", "n", "k"] := defQ (d := fq_pu_number) X G (c.f 19 (d := fq_pu_number) rfl) rfl (c.b 99 (b := b_glo_pu_number) rfl) (c.b 100 (b := b_pl_pu_number) rfl) (fun _ _ _ _ _ _ us hl => match us, hl with | [_, _, _], _ => rfl)
theorem q_d_i2_pair : DefAt K mg "i2_pair" st_i2_pair ["value"] := defQ (d := fq_i2_pair) X G (c.f 20 (d := fq_i2_pair) rfl) rfl (c.b 101 (b := b_glo_i2_pair) rfl) (c.b 102 (b := b_pl_i2_pair) rfl) (fun _ _ _ _ _ _ us hl => match us, hl with | [_], _ => rfl)
theorem q_d_i2_fits : DefAt K mg "i2_fits" st_i2_fits ["value"] := defQ (d := fq_i2_fits) X G (c.f 21 (d := fq_i2_fits) rfl) rfl (c.b 103 (b := b_glo_i2_fits) rfl) (c.b 104 (b := b_pl_i2_fits) rfl) (fun _ _ _ _ _ _ us hl => match us, hl with | [_], _ => rfl)
theorem q_d_i2_told : DefAt K mg "i2_told" st_i2_told ["bottom", "table"] := defQ (d := fq_i2_told) X G (c.f 22 (d := fq_i2_told) rfl) rfl (c.b 105 (b := b_glo_i2_told) rfl) (c.b 106 (b := b_pl_i2_told) rfl) (fun _ _ _ _ _ _ us hl => match us, hl with | [_, _], _ => rfl)
theorem q_d_i2_whole : DefAt K mg "i2_whole" st_i2_whole ["f"] := defQ (d := fq_i2_whole) X G (c.f 23 (d := fq_i2_whole) rfl) rfl (c.b 107 (b := b_glo_i2_whole) rfl) (c.b 108 (b := b_pl_i2_whole) rfl) (fun _ _ _ _ _ _ us hl => match us, hl with | [_], _ => rfl)
theorem q_d_i2_read : DefAt K mg "i2_read" st_i2_read ["value"] := defQ (d := fq_i2_read) X G (c.f 24 (d := fq_i2_read) rfl) rfl (c.b 109 (b := b_glo_i2_read) rfl) (c.b 110 (b := b_pl_i2_read) rfl) (fun _ _ _ _ _ _ us hl => match us, hl with | [_], _ => rfl)
theorem q_d_i2_look : DefAt K mg "i2_look" st_i2_look ["step", "value"] := defQ (d := fq_i2_look) X G (c.f 25 (d := fq_i2_look) rfl) rfl (c.b 111 (b := b_glo_i2_look) rfl) (c.b 112 (b := b_pl_i2_look) rfl) (fun _ _ _ _ _ _ us hl => match us, hl with | [_, _], _ => rfl)
theorem q_d_i2_scaled : DefAt K mg "i2_scaled" st_i2_scaled ["f", "a", "b"] := defQ (d := fq_i2_scaled) X G (c.f 26 (d := fq_i2_scaled) rfl) rfl (c.b 113 (b := b_glo_i2_scaled) rfl) (c.b 114 (b := b_pl_i2_scaled) rfl) (fun _ _ _ _ _ _ us hl => match us, hl with | [_, _, _], _ => rfl)
theorem q_d_i2_value : DefAt K mg "i2_value" st_i2_value ["step", "f", "n", "k"] := defQ (d := fq_i2_value) X G (c.f 27 (d := fq_i2_value) rfl) rfl (c.b 115 (b := b_glo_i2_value) rfl) (c.b 116 (b := b_pl_i2_value) rfl) (fun _ _ _ _ _ _ us hl => match us, hl with | [_, _, _, _], _ => rfl)
theorem q_d_t2_number : DefAt K mg "t2_number" st_t2_number ["term", "n", "k"] := defQ (d := fq_t2_number) X G (c.f 28 (d := fq_t2_number) rfl) rfl (c.b 117 (b := b_glo_t2_number) rfl) (c.b 118 (b := b_pl_t2_number) rfl) (fun _ _ _ _ _ _ us hl => match us, hl with | [_, _, _], _ => rfl)
theorem q_d_full_term : DefAt K mg "full_term" st_full_term ["step", "top", "pure"] := defQ (d := fq_full_term) X G (c.f 29 (d := fq_full_term) rfl) rfl (c.b 119 (b := b_glo_full_term) rfl) (c.b 120 (b := b_pl_full_term) rfl) (fun _ _ _ _ _ _ us hl => match us, hl with | [_, _, _], _ => rfl)
theorem q_d_rg_pair : DefAt K mg "rg_pair" st_rg_pair ["value", "word"] := defQ (d := fq_rg_pair) X G (c.f 30 (d := fq_rg_pair) rfl) rfl (c.b 121 (b := b_glo_rg_pair) rfl) (c.b 122 (b := b_pl_rg_pair) rfl) (fun _ _ _ _ _ _ us hl => match us, hl with | [_, _], _ => rfl)
theorem q_d_rg_first : DefAt K mg "rg_first" st_rg_first ["stretch"] := defQ (d := fq_rg_first) X G (c.f 31 (d := fq_rg_first) rfl) rfl (c.b 123 (b := b_glo_rg_first) rfl) (c.b 124 (b := b_pl_rg_first) rfl) (fun _ _ _ _ _ _ us hl => match us, hl with | [_], _ => rfl)
theorem q_d_rg_below : DefAt K mg "rg_below" st_rg_below ["slope", "height", "first"] := defQ (d := fq_rg_below) X G (c.f 32 (d := fq_rg_below) rfl) rfl (c.b 125 (b := b_glo_rg_below) rfl) (c.b 126 (b := b_pl_rg_below) rfl) (fun _ _ _ _ _ _ us hl => match us, hl with | [_, _, _], _ => rfl)
theorem q_d_rg_gone : DefAt K mg "rg_gone" st_rg_gone ["forms", "stretch"] := defQ (d := fq_rg_gone) X G (c.f 33 (d := fq_rg_gone) rfl) rfl (c.b 127 (b := b_glo_rg_gone) rfl) (c.b 128 (b := b_pl_rg_gone) rfl) (fun _ _ _ _ _ _ us hl => match us, hl with | [_, _], _ => rfl)
theorem q_d_dg_look : DefAt K mg "dg_look" st_dg_look ["a", "b", "c"] := defQ (d := fq_dg_look) X G (c.f 34 (d := fq_dg_look) rfl) rfl (c.b 129 (b := b_glo_dg_look) rfl) (c.b 130 (b := b_pl_dg_look) rfl) (fun _ _ _ _ _ _ us hl => match us, hl with | [_, _, _], _ => rfl)
theorem q_d_dg_look_place : DefAt K mg "dg_look_place" st_dg_look_place ["n"] := defQ (d := fq_dg_look_place) X G (c.f 35 (d := fq_dg_look_place) rfl) rfl (c.b 131 (b := b_glo_dg_look_place) rfl) (c.b 132 (b := b_pl_dg_look_place) rfl) (fun _ _ _ _ _ _ us hl => match us, hl with | [_], _ => rfl)
theorem q_d_dg_look_prime : DefAt K mg "dg_look_prime" st_dg_look_prime ["p"] := defQ (d := fq_dg_look_prime) X G (c.f 36 (d := fq_dg_look_prime) rfl) rfl (c.b 133 (b := b_glo_dg_look_prime) rfl) (c.b 134 (b := b_pl_dg_look_prime) rfl) (fun _ _ _ _ _ _ us hl => match us, hl with | [_], _ => rfl)
theorem q_d_dg_sum : DefAt K mg "dg_sum" st_dg_sum ["a", "b", "c", "n"] := defQ (d := fq_dg_sum) X G (c.f 37 (d := fq_dg_sum) rfl) rfl (c.b 135 (b := b_glo_dg_sum) rfl) (c.b 136 (b := b_pl_dg_sum) rfl) (fun _ _ _ _ _ _ us hl => match us, hl with | [_, _, _, _], _ => rfl)
theorem q_d_digit_value : DefAt K mg "digit_value" st_digit_value ["a", "b", "c", "n"] := defQ (d := fq_digit_value) X G (c.f 38 (d := fq_digit_value) rfl) rfl (c.b 137 (b := b_glo_digit_value) rfl) (c.b 138 (b := b_pl_digit_value) rfl) (fun _ _ _ _ _ _ us hl => match us, hl with | [_, _, _, _], _ => rfl)
theorem q_d_dg_rest : DefAt K mg "dg_rest" st_dg_rest ["a", "b", "c", "n", "p"] := defQ (d := fq_dg_rest) X G (c.f 39 (d := fq_dg_rest) rfl) rfl (c.b 139 (b := b_glo_dg_rest) rfl) (c.b 140 (b := b_pl_dg_rest) rfl) (fun _ _ _ _ _ _ us hl => match us, hl with | [_, _, _, _, _], _ => rfl)
theorem q_d_dg_table : DefAt K mg "dg_table" st_dg_table ["a", "b", "c", "p"] := defQ (d := fq_dg_table) X G (c.f 40 (d := fq_dg_table) rfl) rfl (c.b 141 (b := b_glo_dg_table) rfl) (c.b 142 (b := b_pl_dg_table) rfl) (fun _ _ _ _ _ _ us hl => match us, hl with | [_, _, _, _], _ => rfl)
theorem q_d_dg_most : DefAt K mg "dg_most" st_dg_most [] := defQ (d := fq_dg_most) X G (c.f 41 (d := fq_dg_most) rfl) rfl (c.b 143 (b := b_glo_dg_most) rfl) (c.b 144 (b := b_pl_dg_most) rfl) (fun _ _ _ _ _ _ us hl => match us, hl with | [], _ => rfl)
theorem q_d_digit_mod : DefAt K mg "digit_mod" st_digit_mod ["a", "b", "c", "n", "p"] := defQ (d := fq_digit_mod) X G (c.f 42 (d := fq_digit_mod) rfl) rfl (c.b 145 (b := b_glo_digit_mod) rfl) (c.b 146 (b := b_pl_digit_mod) rfl) (fun _ _ _ _ _ _ us hl => match us, hl with | [_, _, _, _, _], _ => rfl)
theorem q_d_first_divided : DefAt K mg "first_divided" st_first_divided ["a", "b", "c", "p"] := defQ (d := fq_first_divided) X G (c.f 43 (d := fq_first_divided) rfl) rfl (c.b 147 (b := b_glo_first_divided) rfl) (c.b 148 (b := b_pl_first_divided) rfl) (fun _ _ _ _ _ _ us hl => match us, hl with | [_, _, _, _], _ => rfl)
theorem q_d_count_undivided : DefAt K mg "count_undivided" st_count_undivided ["a", "b", "c", "p", "exponent"] := defQ (d := fq_count_undivided) X G (c.f 44 (d := fq_count_undivided) rfl) rfl (c.b 149 (b := b_glo_count_undivided) rfl) (c.b 150 (b := b_pl_count_undivided) rfl) (fun _ _ _ _ _ _ us hl => match us, hl with | [_, _, _, _, _], _ => rfl)
theorem q_d_digit_term : DefAt K mg "digit_term" st_digit_term ["a", "b", "c"] := defQ (d := fq_digit_term) X G (c.f 45 (d := fq_digit_term) rfl) rfl (c.b 151 (b := b_glo_digit_term) rfl) (c.b 152 (b := b_pl_digit_term) rfl) (fun _ _ _ _ _ _ us hl => match us, hl with | [_, _, _], _ => rfl)
theorem q_d_sm_look_term : DefAt K mg "sm_look_term" st_sm_look_term ["term"] := defQ (d := fq_sm_look_term) X G (c.f 46 (d := fq_sm_look_term) rfl) rfl (c.b 153 (b := b_glo_sm_look_term) rfl) (c.b 154 (b := b_pl_sm_look_term) rfl) (fun _ _ _ _ _ _ us hl => match us, hl with | [_], _ => rfl)
theorem q_d_sm_look_kind : DefAt K mg "sm_look_kind" st_sm_look_kind ["term", "span"] := defQ (d := fq_sm_look_kind) X G (c.f 47 (d := fq_sm_look_kind) rfl) rfl (c.b 155 (b := b_glo_sm_look_kind) rfl) (c.b 156 (b := b_pl_sm_look_kind) rfl) (fun _ _ _ _ _ _ us hl => match us, hl with | [_, _], _ => rfl)
theorem q_d_sm_look_there : DefAt K mg "sm_look_there" st_sm_look_there ["term", "span"] := defQ (d := fq_sm_look_there) X G (c.f 48 (d := fq_sm_look_there) rfl) rfl (c.b 157 (b := b_glo_sm_look_there) rfl) (c.b 158 (b := b_pl_sm_look_there) rfl) (fun _ _ _ _ _ _ us hl => match us, hl with | [_, _], _ => rfl)
theorem q_d_sm_look : DefAt K mg "sm_look" st_sm_look ["term", "span"] := defQ (d := fq_sm_look) X G (c.f 49 (d := fq_sm_look) rfl) rfl (c.b 159 (b := b_glo_sm_look) rfl) (c.b 160 (b := b_pl_sm_look) rfl) (fun _ _ _ _ _ _ us hl => match us, hl with | [_, _], _ => rfl)
theorem q_d_sm_sum : DefAt K mg "sm_sum" st_sm_sum ["term", "span", "n"] := defQ (d := fq_sm_sum) X G (c.f 50 (d := fq_sm_sum) rfl) rfl (c.b 161 (b := b_glo_sm_sum) rfl) (c.b 162 (b := b_pl_sm_sum) rfl) (fun _ _ _ _ _ _ us hl => match us, hl with | [_, _, _], _ => rfl)
theorem q_d_sum_value : DefAt K mg "sum_value" st_sum_value ["term", "span", "n"] := defQ (d := fq_sum_value) X G (c.f 51 (d := fq_sum_value) rfl) rfl (c.b 163 (b := b_glo_sum_value) rfl) (c.b 164 (b := b_pl_sum_value) rfl) (fun _ _ _ _ _ _ us hl => match us, hl with | [_, _, _], _ => rfl)
theorem q_d__law_stream : DefAt K mg "_law_stream" st__law_stream ["script"] := defQ (d := fq__law_stream) X G (c.f 52 (d := fq__law_stream) rfl) rfl (c.b 165 (b := b_glo__law_stream) rfl) (c.b 166 (b := b_pl__law_stream) rfl) (fun _ _ _ _ _ _ us hl => match us, hl with | [_], _ => rfl)
theorem q_d__law_next : DefAt K mg "_law_next" st__law_next ["row", "many"] := defQ (d := fq__law_next) X G (c.f 53 (d := fq__law_next) rfl) rfl (c.b 167 (b := b_glo__law_next) rfl) (c.b 168 (b := b_pl__law_next) rfl) (fun _ _ _ _ _ _ us hl => match us, hl with | [_, _], _ => rfl)
theorem q_d__law_int : DefAt K mg "_law_int" st__law_int ["value"] := defQ (d := fq__law_int) X G (c.f 54 (d := fq__law_int) rfl) rfl (c.b 169 (b := b_glo__law_int) rfl) (c.b 170 (b := b_pl__law_int) rfl) (fun _ _ _ _ _ _ us hl => match us, hl with | [_], _ => rfl)
theorem q_d__law_gcd : DefAt K mg "_law_gcd" st__law_gcd ["one", "other"] := defQ (d := fq__law_gcd) X G (c.f 55 (d := fq__law_gcd) rfl) rfl (c.b 171 (b := b_glo__law_gcd) rfl) (c.b 172 (b := b_pl__law_gcd) rfl) (fun _ _ _ _ _ _ us hl => match us, hl with | [_, _], _ => rfl)
theorem q_d__law_is_num : DefAt K mg "_law_is_num" st__law_is_num ["value"] := defQ (d := fq__law_is_num) X G (c.f 56 (d := fq__law_is_num) rfl) rfl (c.b 173 (b := b_glo__law_is_num) rfl) (c.b 174 (b := b_pl__law_is_num) rfl) (fun _ _ _ _ _ _ us hl => match us, hl with | [_], _ => rfl)
theorem q_d__law_pow : DefAt K mg "_law_pow" st__law_pow ["base", "many"] := defQ (d := fq__law_pow) X G (c.f 57 (d := fq__law_pow) rfl) rfl (c.b 175 (b := b_glo__law_pow) rfl) (c.b 176 (b := b_pl__law_pow) rfl) (fun _ _ _ _ _ _ us hl => match us, hl with | [_, _], _ => rfl)
theorem q_d__law_digit_sum : DefAt K mg "_law_digit_sum" st__law_digit_sum ["a", "b", "c", "n"] := defQ (d := fq__law_digit_sum) X G (c.f 58 (d := fq__law_digit_sum) rfl) rfl (c.b 177 (b := b_glo__law_digit_sum) rfl) (c.b 178 (b := b_pl__law_digit_sum) rfl) (fun _ _ _ _ _ _ us hl => match us, hl with | [_, _, _, _], _ => rfl)
theorem q_d__law_divided : DefAt K mg "_law_divided" st__law_divided ["a", "b", "c", "p", "n"] := defQ (d := fq__law_divided) X G (c.f 59 (d := fq__law_divided) rfl) rfl (c.b 179 (b := b_glo__law_divided) rfl) (c.b 180 (b := b_pl__law_divided) rfl) (fun _ _ _ _ _ _ us hl => match us, hl with | [_, _, _, _, _], _ => rfl)
theorem q_d__law_first : DefAt K mg "_law_first" st__law_first ["a", "b", "c", "p"] := defQ (d := fq__law_first) X G (c.f 60 (d := fq__law_first) rfl) rfl (c.b 181 (b := b_glo__law_first) rfl) (c.b 182 (b := b_pl__law_first) rfl) (fun _ _ _ _ _ _ us hl => match us, hl with | [_, _, _, _], _ => rfl)
theorem q_d__law_small_power : DefAt K mg "_law_small_power" st__law_small_power ["p"] := defQ (d := fq__law_small_power) X G (c.f 61 (d := fq__law_small_power) rfl) rfl (c.b 183 (b := b_glo__law_small_power) rfl) (c.b 184 (b := b_pl__law_small_power) rfl) (fun _ _ _ _ _ _ us hl => match us, hl with | [_], _ => rfl)
theorem q_d__law_counts_ok : DefAt K mg "_law_counts_ok" st__law_counts_ok ["draws", "a", "b", "c", "p"] := defQ (d := fq__law_counts_ok) X G (c.f 62 (d := fq__law_counts_ok) rfl) rfl (c.b 185 (b := b_glo__law_counts_ok) rfl) (c.b 186 (b := b_pl__law_counts_ok) rfl) (fun _ _ _ _ _ _ us hl => match us, hl with | [_, _, _, _, _], _ => rfl)
theorem q_d__law_first_is : DefAt K mg "_law_first_is" st__law_first_is ["a", "b", "c", "p", "due"] := defQ (d := fq__law_first_is) X G (c.f 63 (d := fq__law_first_is) rfl) rfl (c.b 187 (b := b_glo__law_first_is) rfl) (c.b 188 (b := b_pl__law_first_is) rfl) (fun _ _ _ _ _ _ us hl => match us, hl with | [_, _, _, _, _], _ => rfl)
theorem q_d__law_term_ok : DefAt K mg "_law_term_ok" st__law_term_ok ["draws", "a", "b", "c"] := defQ (d := fq__law_term_ok) X G (c.f 64 (d := fq__law_term_ok) rfl) rfl (c.b 189 (b := b_glo__law_term_ok) rfl) (c.b 190 (b := b_pl__law_term_ok) rfl) (fun _ _ _ _ _ _ us hl => match us, hl with | [_, _, _, _], _ => rfl)
theorem q_d__law_refused : DefAt K mg "_law_refused" st__law_refused ["door", "row"] := defQ (d := fq__law_refused) X G (c.f 65 (d := fq__law_refused) rfl) rfl (c.b 191 (b := b_glo__law_refused) rfl) (c.b 192 (b := b_pl__law_refused) rfl) (fun _ _ _ _ _ _ us hl => match us, hl with | [_, _], _ => rfl)
theorem q_d__law_refusals_ok : DefAt K mg "_law_refusals_ok" st__law_refusals_ok ["draws"] := defQ (d := fq__law_refusals_ok) X G (c.f 66 (d := fq__law_refusals_ok) rfl) rfl (c.b 193 (b := b_glo__law_refusals_ok) rfl) (c.b 194 (b := b_pl__law_refusals_ok) rfl) (fun _ _ _ _ _ _ us hl => match us, hl with | [_], _ => rfl)
theorem q_d_law : DefAt K mg "law" st_law ["script"] := defQ (d := fq_law) X G (c.f 67 (d := fq_law) rfl) rfl (c.b 195 (b := b_glo_law) rfl) (c.b 196 (b := b_pl_law) rfl) (fun _ _ _ _ _ _ us hl => match us, hl with | [_], _ => rfl)
theorem q_d_Step_eq : ∃ f fd, Meth K (He.ga K "Plain") "__eq__" f ∧ Fun K "__eq__" "Step.__eq__" st_Step_eq f fd ∧ Binds K fd ["self", "other"] [] := metQ (d := fq_Step_eq) (c.f 68 (d := fq_Step_eq) rfl) rfl (c.b 198 (b := b_at_Step_eq) rfl) (c.b 199 (b := b_fn_Step_eq) rfl) (c.b 197 (b := b_pl_Step_eq) rfl) (fun _ _ _ _ _ _ us hl => match us, hl with | [_, _], _ => rfl)
theorem q_d_Pure_init : ∃ f fd, Mk K (He.ga K "Pure") f ∧ Fun K "__init__" "Pure.__init__" st_Pure_init f fd ∧ Binds K fd ["self", "step", "s", "t", "square", "tops", "bottoms"] [] := iniQ (d := fq_Pure_init) (c.f 69 (d := fq_Pure_init) rfl) rfl (c.b 203 (b := b_mk_Pure) rfl) (c.b 201 (b := b_at_Pure_init) rfl) (c.b 202 (b := b_fn_Pure_init) rfl) (c.b 204 (b := b_kp_Pure) rfl) (c.b 200 (b := b_pl_Pure_init) rfl) (fun _ _ _ _ _ _ us hl => match us, hl with | [_, _, _, _, _, _, _], _ => rfl)
theorem q_d_Term2_init : ∃ f fd, Mk K (He.ga K "Term2") f ∧ Fun K "__init__" "Term2.__init__" st_Term2_init f fd ∧ Binds K fd ["self", "step", "top", "bottom", "pure"] [] := iniQ (d := fq_Term2_init) (c.f 70 (d := fq_Term2_init) rfl) rfl (c.b 208 (b := b_mk_Term2) rfl) (c.b 206 (b := b_at_Term2_init) rfl) (c.b 207 (b := b_fn_Term2_init) rfl) (c.b 209 (b := b_kp_Term2) rfl) (c.b 205 (b := b_pl_Term2_init) rfl) (fun _ _ _ _ _ _ us hl => match us, hl with | [_, _, _, _, _], _ => rfl)
theorem q_d_Term2_full : ∃ pa f fd, PropOf K (He.ga K "Term2") "full" pa f ∧ Fun K "full" "Term2.full" st_Term2_full f fd ∧ Binds K fd ["self"] [] := proQ (d := fq_Term2_full) (c.f 71 (d := fq_Term2_full) rfl) rfl (c.b 211 (b := b_pr_Term2_full) rfl) (c.b 210 (b := b_pl_Term2_full) rfl) (fun _ _ _ _ _ _ us hl => match us, hl with | [_], _ => rfl)
theorem q_d_Range_init : ∃ f fd, Mk K (He.ga K "Range") f ∧ Fun K "__init__" "Range.__init__" st_Range_init f fd ∧ Binds K fd ["self", "low", "high", "start"] [] := iniQ (d := fq_Range_init) (c.f 72 (d := fq_Range_init) rfl) rfl (c.b 215 (b := b_mk_Range) rfl) (c.b 213 (b := b_at_Range_init) rfl) (c.b 214 (b := b_fn_Range_init) rfl) (c.b 216 (b := b_kp_Range) rfl) (c.b 212 (b := b_pl_Range_init) rfl) (fun _ _ _ _ _ _ us hl => match us, hl with | [_, _, _, _], _ => rfl)
theorem q_d_Range_ends : ∃ f fd, Meth K (He.ga K "Range") "ends" f ∧ Fun K "ends" "Range.ends" st_Range_ends f fd ∧ Binds K fd ["self", "n"] [] := metQ (d := fq_Range_ends) (c.f 73 (d := fq_Range_ends) rfl) rfl (c.b 218 (b := b_at_Range_ends) rfl) (c.b 219 (b := b_fn_Range_ends) rfl) (c.b 217 (b := b_pl_Range_ends) rfl) (fun _ _ _ _ _ _ us hl => match us, hl with | [_, _], _ => rfl)
theorem q_su_Plain : ∃ f fd fD fdD, Mk K (He.ga K "Plain") f ∧ OwnSup PP K (He.ga K "Plain") f fD "Plain.__init__" st_Plain_init fd ∧ Fun K "__init__" "Step.__init__" st_Step_init fD fdD ∧ Binds K fdD ["self", "word", "base"] [] ∧ Binds K fd ["self"] [] ∧ mg "super" = none := supB_of (d := fq_SPlain) (dD := fq_DStep) X G (c.f 74 (d := fq_SPlain) rfl) rfl (c.f 75 (d := fq_DStep) rfl) rfl (c.b 220 (b := b_su_Plain) rfl) (c.b 221 (b := b_pl_DStep) rfl) sup_top (fun _ _ _ _ _ _ us hl => match us, hl with | [_, _, _], _ => rfl) (fun _ _ _ _ _ _ us hl => match us, hl with | [_], _ => rfl)
theorem tp_of : Tp PP K mg ⟨He.ga K "BadInteger", He.ga K "TooMuch", He.ga K "IsZero", He.ga K "Plain", He.ga K "Pure", He.ga K "Term2", He.ga K "Range", He.ga K "Step"⟩ :=
  ⟨q_b_abs X G c, q_b_any X G c, q_b_bool X G c, q_b_int X G c, q_b_isinstance X G c, q_b_len X G c, q_b_list X G c, q_b_min X G c, q_b_range X G c, q_b_sorted X G c, q_b_tuple X G c, q_g_EXPONENT_BOUND X G c, q_g_GREAT_PRIME X G c, q_g_STEP_TEXT_BOUND X G c, q_g_FORM_BOUND X G c, q_g_VALUE_BOUND X G c, q_g_DIGIT_PLACES X G c, q_g_DIGIT_POWER X G c, q_g_DIGIT_EXPONENT X G c, q_g_DIGIT_PRIME X G c, q_g_SUMMANDS X G c, q_gd_POLY2_ONE X G c, q_f_comb X G c, q_f_factorial X G c, q_f_lcm X G c, q_e_BadInteger X G c, q_t_BadInteger X G c, q_xx_BadInteger X G c, q_n_BadInteger_handed X G c, q_e_TooMuch X G c, q_t_TooMuch X G c, q_xx_TooMuch X G c, q_n_TooMuch_word X G c, q_n_TooMuch_most X G c, q_e_IsZero X G c, q_t_IsZero X G c, q_xx_IsZero X G c, q_n_IsZero_word X G c, q_tf_TooMuch_BadInteger X G c, q_cl_Plain X G c, q_m_Plain X G c, q_na_Plain_word X G c, q_na_Plain_base X G c, q_ow_Plain X G c, q_cl_Pure X G c, q_m_Pure X G c, q_na_Pure_step X G c, q_na_Pure_s X G c, q_na_Pure_t X G c, q_na_Pure_square X G c, q_na_Pure_tops X G c, q_na_Pure_bottoms X G c, q_ow_Pure X G c, q_cl_Term2 X G c, q_m_Term2 X G c, q_na_Term2_step X G c, q_na_Term2_top X G c, q_na_Term2_bottom X G c, q_na_Term2_pure X G c, q_ow_Term2 X G c, q_cl_Range X G c, q_m_Range X G c, q_na_Range_low X G c, q_na_Range_high X G c, q_na_Range_start X G c, q_ow_Range X G c, q_kt_Plain_Step X G c, q_kt_Pure_Pure X G c, q_kt_Term2_Term2 X G c, q_kt_Range_Range X G c, q_m_Step X G c, q_d_nu_integer X G c, q_d_nu_gcd X G c, q_d_nu_low X G c, q_d_number X G c, q_d_plus X G c, q_d_nu_power X G c, q_d_sw_step X G c, q_d_sw_power X G c, q_d_pu_three X G c, q_d_pu_form X G c, q_d_pu_forms X G c, q_d_pu_square X G c, q_d_pu_less X G c, q_d_pu_size X G c, q_d_pu_there X G c, q_d_pu_falling X G c, q_d_pu_number X G c, q_d_i2_pair X G c, q_d_i2_fits X G c, q_d_i2_told X G c, q_d_i2_whole X G c, q_d_i2_read X G c, q_d_i2_look X G c, q_d_i2_scaled X G c, q_d_i2_value X G c, q_d_t2_number X G c, q_d_full_term X G c, q_d_rg_pair X G c, q_d_rg_first X G c, q_d_rg_below X G c, q_d_rg_gone X G c, q_d_dg_look X G c, q_d_dg_look_place X G c, q_d_dg_look_prime X G c, q_d_dg_sum X G c, q_d_digit_value X G c, q_d_dg_rest X G c, q_d_dg_table X G c, q_d_dg_most X G c, q_d_digit_mod X G c, q_d_first_divided X G c, q_d_count_undivided X G c, q_d_digit_term X G c, q_d_sm_look_term X G c, q_d_sm_look_kind X G c, q_d_sm_look_there X G c, q_d_sm_look X G c, q_d_sm_sum X G c, q_d_sum_value X G c, q_d__law_stream X G c, q_d__law_next X G c, q_d__law_int X G c, q_d__law_gcd X G c, q_d__law_is_num X G c, q_d__law_pow X G c, q_d__law_digit_sum X G c, q_d__law_divided X G c, q_d__law_first X G c, q_d__law_small_power X G c, q_d__law_counts_ok X G c, q_d__law_first_is X G c, q_d__law_term_ok X G c, q_d__law_refused X G c, q_d__law_refusals_ok X G c, q_d_law X G c, q_d_Step_eq X G c, q_d_Pure_init X G c, q_d_Term2_init X G c, q_d_Term2_full X G c, q_d_Range_init X G c, q_d_Range_ends X G c, q_su_Plain X G c⟩
end
theorem fin {P : Program} {w : World} {K : Frag} {mg : Str → Option Value} {fa : Addr} {Γ : Ad} (T : Tp P K mg Γ) (L : ∃ fd, L2.Fun K "law" "law" st_law fa fd ∧ ∀ (s : Shared) (u : Value), BindsTo s fd ⟨[u], []⟩ [("script", u)]) :
    ∃ fd : FuncData, (∀ (s : Shared) (u : Value), BindsTo s fd ⟨[u], []⟩ [("script", u)]) ∧ ∀ base : Heap, K.In base → base.Ns mainGlobals mg → L2.FnOk P w K mg base (L2.CX P w) 12 fa fd ["script"] (spOf K lawSpec) := by
  obtain ⟨fd, Fn, hb⟩ := L
  exact ⟨fd, hb, fun base _ _ => ok_law T Fn⟩
theorem law_at {K : Frag} {h : Heap} {mg : Str → Option Value} {fa : Addr} {w : World} (X : K.In h) (G : h.Ns mainGlobals mg) (c : SaysQ bls fqs K) (hmg : mg "law" = some (.ref fa)) :
    ∃ fd : FuncData, (∀ (s : Shared) (u : Value), BindsTo s fd ⟨[u], []⟩ [("script", u)]) ∧ ∀ base : Heap, K.In base → base.Ns mainGlobals mg → L2.FnOk PP w K mg base (L2.CX PP w) 12 fa fd ["script"] (spOf K lawSpec) := by
  obtain ⟨oc, od, osl, kV, doc, pm, an, cdv, ct, l, k1, k2⟩ := plB_of (d := fq_law) (c.f 67 (d := fq_law) rfl) (c.b 196 (b := b_pl_law) rfl)
  exact fin (tp_of X G c) (law_fun X G hmg (He.eqO_ok (c.b 195 (b := b_glo_law) rfl)) l k1 k2 (fun _ _ _ _ _ _ _ _ => .of_eq rfl))
theorem walkQ {l : OpenLaw} {q : Program} {loose : List Str} {XP : (Str → Option Value) → Heap → Prop} {YP : World → Heap → Prop} {d : DefRec} (hn : l.most = some 63) (hdf : d.params.defaults = [])
    (F : ∀ (w : World) (mg : Str → Option Value) (fa : Addr) (h : Heap), YP w h → h.Ns mainGlobals mg → mg d.name = some (.ref fa) →
      ∃ (K : Frag) (fd : FuncData), K.In h ∧ (∀ (s : Shared) (u : Value), BindsTo s fd ⟨[u], []⟩ [("script", u)]) ∧ ∀ base : Heap, K.In base → base.Ns mainGlobals mg → L2.FnOk l.prog w K mg base (L2.CX l.prog w) 12 fa fd ["script"] (spOf K lawSpec)) :
    WalkO q loose XP YP l.row.toRowW d [] (fun f vs => PySem.call f vs) := by
  refine Att.attach_call hn hdf fun w s₀ s₁ mg mb fa o pm cd doc a vs ns G Y ho hd hcd hmg hobj hints hlen hg => ?_
  obtain ⟨K, fd, KX, hb, hF⟩ := F w mg fa _ Y G.T.g hmg
  exact L2.law_call (k := 12) KX G.T.g G.T.b G.T.builtins G.T.nolimit hg hobj hints (Nat.le_trans hlen (by decide)) ⟨rfl, by decide, by decide⟩ hF hb (fun H hO hS => law_sp (E := fun _ _ _ => False) ⟨a, ns, rfl, hS, hlen, fun _ => rfl⟩) fun H e s' z => by
    obtain ⟨_, _, _, _, _, _, _, _, _, _, _, _, z⟩ := z
    exact z
end K89
open PySem PySem.W PySem.Calls PyProof.Rows
set_option maxRecDepth 100000 in
set_option maxHeartbeats 0 in
theorem PySem.Challenge.cw_sumsproved_k89_no_such_number_divided_holds : PySem.Challenge.rw_sumsproved_k89_no_such_number_divided.Holds := by
  w_on; o_law
  refine HandSHeadRun.head_imp (r := OpenLaw.row PySem.Challenge.rw_sumsproved_k89_no_such_number_divided) (q := K89.qv) (H := Py.hookQ K89.bls K89.fqs) (ob := Py.obQ K89.bls K89.fqs) (M := 12000) (loose := K89.nms) (d := HandSHeadRun.topDef (OpenLaw.row PySem.Challenge.rw_sumsproved_k89_no_such_number_divided).prog 128) (kwd := []) (Py.obQ_eq _ _)
    K89.run (by kernel_rfl) (by kernel_rfl) (by kernel_rfl) (by rfl) (by first | assumption | decide +kernel) (by decide +kernel) ⟨rfl, rfl, rfl, rfl, rfl, by decide +kernel⟩ ?hw ?hc
  case hw => w_witness2
  case hc =>
    refine K89.walkQ (l := PySem.Challenge.rw_sumsproved_k89_no_such_number_divided) rfl (by kernel_rfl) ?F
    intro w mg fa h Y G hmg0
    obtain ⟨K, KX, c⟩ := Y
    have hmg : mg ("law" : PySem.Str) = some (.ref fa) := by
      have e : (HandSHeadRun.topDef (OpenLaw.row PySem.Challenge.rw_sumsproved_k89_no_such_number_divided).prog 128).name = ("law" : PySem.Str) := by kernel_rfl
      rw [← e]
      exact hmg0
    obtain ⟨fd, hb, hF⟩ := K89.law_at (w := w) KX G c hmg
    exact ⟨K, fd, KX, hb, hF⟩
end
