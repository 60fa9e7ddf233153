import PyProof.Rows.All
import Wide.All
import OpenK.AllK
import Wide.FinOn
import HandS.ForMost
import HandS.ForExc
import HandS.Defaults
import HandS.DictComp
import HandS.IsInst
import HandS.Deep
import HandS.Flow
import HandS.Style
import HandS.Conv
import HandS.TupAny
import HandS.OwnEq
import HandS.ExcInit
import HandS.Lambda
import HandS.EndTab
import HandS.HeadWalk
import HandS.HeadHook4
import KE.SortData
import HandS.ExcField
import HandS.Head0
import HandS.Head1
import HandS.Head2
import KE.GoesMore
import KE.GoesEnum
import HandS.Zip
import KE.KEqNest
import PyProof.DictCompW
import HandS.ListItems
import HandS.Finally
import PySem.Challenge.RW_objections_k80_whole_verdicts_and_twins
set_option Elab.async false
set_option linter.all false
set_option maxRecDepth 100000
section
set_option Elab.async false
set_option linter.all false
set_option maxRecDepth 100000
set_option maxHeartbeats 4000000
namespace K80
open PySem PySem.Spec PyProof.Rows L2
/-! ### the text by places -/
def top (i : Nat) : Stmt := PySem.Challenge.pw_objections_k80_whole_verdicts_and_twins.main.body.getD i (.Pass ⟨0, 0, 0, 0⟩)
abbrev s_is_list : Stmt := top 10
/-! ### defs as they stand -/
/-- the def named x stands where the module's name x says -/
structure Df (K : PySem.W.Frag) (mg : Str → Option Value) (x : Str) (st : Stmt) : Prop where
  fn : ∃ fd, FunD K x x (defArgs st) (defBody st) (defScope st) [] [] (He.ga K x) fd
  mg : mg x = some (.ref (He.ga K x))
/-- the def x keeps the promise sp -/
def Ok (P : Program) (w : World) (K : PySem.W.Frag) (mg : Str → Option Value) (base : Heap) (CX : CXT) (k : Nat) (x : Str) (ps : List Str) (sp : Sp) : Prop :=
  ∃ fd, FnOk P w K mg base CX k (He.ga K x) fd ps sp ∧ mg x = some (.ref (He.ga K x)) ∧ PySem.W.keepIn K (.ref (He.ga K x)) = true ∧ Binds K fd ps []
section
variable {P : Program} {w : World} {K : PySem.W.Frag} {mg : Str → Option Value} {base : Heap}
abbrev BindsAs (x : Str) (st : Stmt) (ps : List Str) : Prop := ∀ (kV doc pm : Value) (an : Option Addr) (cdv ct : Value) (us : List Value), us.length = ps.length → bindArgs (PySem.W.fnOf x x (defArgs st) (defBody st) (defScope st) .none kV doc pm an cdv ct) ⟨us, []⟩ = pure (ps.zip us)
theorem mkOk {x : Str} {st : Stmt} {N ps : List Str} {k : Nat} {sp : Sp} (D : Df K mg x st) (S : FnScope N ps (defScope st)) (hb : BindsAs x st ps) (len : ∀ vs H Q E, sp vs H Q E → vs.length = ps.length)
    (hbody : ∀ (cdv : Value) (A : Around) (outer : List Env) (s : Shared) (H : Hp) (vs : List V) (Q : VK) (E : XK), Room k (A.deeper (envOfC x (defScope st) s.heap.objs.size (He.ga K x) cdv)) → sp vs H Q E →
      ∃ t, PSs (cxOf CX0 P w K mg base N x (defScope st) (He.ga K x) cdv A outer s H E).nox (defBody st) t ∧ t { nx := fun _ H' => Q .non H', rt := Q } (start N vs) H) : Ok P w K mg base CX0 (k + 1) x ps sp := by
  obtain ⟨fd, F⟩ := D.fn
  refine ⟨fd, F.ok S len fun cdv A outer s H vs Q E hr h => ?_, D.mg, F.kp, F.bindsN hb⟩
  obtain ⟨t, h1, h2⟩ := hbody cdv A outer s H vs Q E hr h
  exact ⟨t, h1.nox, h2⟩
theorem mkOkX {x : Str} {st : Stmt} {N ps : List Str} {k : Nat} {sp : Sp} (D : Df K mg x st) (S : FnScope N ps (defScope st)) (hb : BindsAs x st ps) (len : ∀ vs H Q E, sp vs H Q E → vs.length = ps.length)
    (hbody : ∀ (cdv : Value) (A : Around) (outer : List Env) (s : Shared) (H : Hp) (vs : List V) (Q : VK) (E : XK), Room k (A.deeper (envOfC x (defScope st) s.heap.objs.size (He.ga K x) cdv)) → sp vs H Q E →
      ∃ t, PSs (cxOf (L2.CX P w) P w K mg base N x (defScope st) (He.ga K x) cdv A outer s H E) (defBody st) t ∧ t { nx := fun _ H' => Q .non H', rt := Q } (start N vs) H) : Ok P w K mg base (L2.CX P w) (k + 1) x ps sp := by
  obtain ⟨fd, F⟩ := D.fn
  exact ⟨fd, F.ok S len hbody, D.mg, F.kp, F.bindsN hb⟩
/-- the call of such a def -/
theorem pe_cl {X : Cx} {x : Str} {ps : List Str} {sp : Sp} {k : Nat} {e : Expr} {es : List Expr} {t : TA} {p pos : Pos} (O : Ok X.prog X.w X.K X.mg X.base CX0 k x ps sp) (hr : Room k X.A) (ha : PA X (e :: es) t) (hg : Gl X x := by rfl)
    (hdb : (x == ("__debug__" : Str)) = false := by decide) (he : starEach (e :: es) X.env = (false, eval e X.env) :: starEach es X.env := by rfl) (hpl : (backTo pos (starEach es X.env)).any (·.1) = false := by rfl) :
    PE X (.Call (.Name x p) (e :: es) [] pos) (tCall sp [] E0 t) := by
  obtain ⟨fd, F, hm, hk, hb⟩ := O
  exact pe_call F hr hg hm hk hb .nil pass0 ha hdb he hpl
end
end K80
end
section
set_option Elab.async false
set_option linter.all false
set_option maxRecDepth 100000
set_option maxHeartbeats 4000000
namespace K80
open PySem PySem.Spec PyProof.Rows L2
/-! ### the defs of the text -/
abbrev s_BadLot_init : Stmt := inClass (top 2) 0
abbrev s_BadObjections_init : Stmt := inClass (top 3) 0
abbrev s_BadStatements_init : Stmt := inClass (top 4) 0
abbrev s_NotWhole_init : Stmt := inClass (top 5) 0
abbrev s_is_name : Stmt := top 11
abbrev s_as_tuples : Stmt := top 12
abbrev s_checked_statements : Stmt := top 14
abbrev s_is_pair_of : Stmt := top 15
abbrev s_checked_objections : Stmt := top 16
abbrev s_Debate_init : Stmt := inClass (top 17) 0
abbrev s_Debate_statements : Stmt := inClass (top 17) 1
abbrev s_Debate_objections : Stmt := inClass (top 17) 2
abbrev s_Debate_len : Stmt := inClass (top 17) 3
abbrev s_Debate_eq : Stmt := inClass (top 17) 4
abbrev s_checked_lot : Stmt := top 19
abbrev s_hit_by : Stmt := top 20
abbrev s_answered_in : Stmt := top 21
abbrev s_least_lot : Stmt := top 22
abbrev s_clash_in : Stmt := top 23
abbrev s_unanswered_in : Stmt := top 24
abbrev s_held_lots : Stmt := top 25
abbrev s_calm_with : Stmt := top 26
abbrev s_calm_lots : Stmt := top 27
abbrev s_greatest_of : Stmt := top 28
abbrev s_is_within : Stmt := top 29
abbrev s_spared_in : Stmt := top 30
abbrev s_lots_in : Stmt := top 31
abbrev s_fault_in : Stmt := top 32
abbrev s_fault_among_held : Stmt := top 33
abbrev s_labels_by : Stmt := top 35
abbrev s_labels_of : Stmt := top 36
abbrev s_cut_by : Stmt := top 38
abbrev s_cut_to : Stmt := top 39
abbrev s_verdict_by : Stmt := top 41
abbrev s_verdict : Stmt := top 42
abbrev s_is_seen : Stmt := top 43
abbrev s_least_twin : Stmt := top 44
abbrev s_are_twins : Stmt := top 45
abbrev s_L_z_debate : Stmt := top 47
abbrev s_L_z_made : Stmt := top 48
abbrev s_L_z_odd_name : Stmt := top 49
abbrev s_L_z_verdict : Stmt := top 50
abbrev s_L_z_tables : Stmt := top 51
abbrev s_L_z_either : Stmt := top 52
abbrev s_L_z_twin : Stmt := top 53
abbrev s_L_start : Stmt := top 54
abbrev s_L_draw : Stmt := top 55
abbrev s_L_pick : Stmt := top 56
abbrev s_L_mixed : Stmt := top 57
abbrev s_L_same : Stmt := top 58
abbrev s_L_each_once : Stmt := top 59
abbrev s_L_loose : Stmt := top 60
abbrev s_L_d_names : Stmt := top 61
abbrev s_L_d_pairs : Stmt := top 62
abbrev s_L_d_objectors : Stmt := top 63
abbrev s_L_d_hits : Stmt := top 64
abbrev s_L_d_answers : Stmt := top 65
abbrev s_L_d_answered : Stmt := top 66
abbrev s_L_d_subsets : Stmt := top 67
abbrev s_L_d_labels : Stmt := top 68
abbrev s_L_met : Stmt := top 69
abbrev s_L_near : Stmt := top 70
abbrev s_L_all_verdicts : Stmt := top 71
abbrev s_L_twins_right : Stmt := top 72
abbrev s_L_great : Stmt := top 73
abbrev s_law : Stmt := top 74

/-- what the walk asks of the module's names -/
structure Txt (K : PySem.W.Frag) (mg : Str → Option Value) : Prop where
  len : mg "len" = none
  isi : mg "isinstance" = none
  all : mg "all" = none
  any : mg "any" = none
  sorted : mg "sorted" = none
  enum : mg "enumerate" = none
  range : mg "range" = none
  zip : mg "zip" = none
  list : mg "list" = none
  tuple : mg "tuple" = none
  int : mg "int" = none
  str : mg "str" = none
  dict : mg "dict" = none
  bool : mg "bool" = none
  small : ∃ t, mg "SMALL" = some (.str "abcdefghijklmnopqrstuvwxyz" t)
  figs : ∃ t, mg "FIGURES" = some (.str "0123456789" t)
end K80
end
section
set_option Elab.async false
set_option linter.all false
set_option maxRecDepth 100000
set_option maxHeartbeats 0
namespace K80
open PySem PySem.Spec PyProof.Rows L2
/-! ### what the head tells -/
def dD (x : Str) (st : Stmt) : He.DefD := ⟨(x, none), x, x, defArgs st, defBody st, defScope st, [], []⟩
def dM (C m q : Str) (st : Stmt) : He.DefD := ⟨(C, some m), m, q, defArgs st, defBody st, defScope st, [], []⟩
def hSmall : Str := "abcdefghijklmnopqrstuvwxyz"
def hFigs : Str := "0123456789"
def faA0 : List He.Fa := [.glo "is_list",
  .glo "is_name",
  .glo "as_tuples",
  .glo "checked_statements",
  .glo "is_pair_of",
  .glo "checked_objections",
  .glo "checked_lot",
  .glo "hit_by",
  .glo "answered_in",
  .glo "least_lot",
  .glo "clash_in",
  .glo "unanswered_in",
  .glo "fault_in",
  .glo "fault_among_held",
  .glo "labels_by",
  .glo "labels_of",
  .glo "cut_by",
  .glo "cut_to",
  .glo "verdict_by",
  .glo "verdict",
  .glo "is_seen",
  .glo "least_twin",
  .glo "are_twins",
  .glo "_law_z_debate",
  .glo "_law_z_made",
  .glo "_law_z_odd_name",
  .glo "_law_z_verdict",
  .glo "_law_z_tables",
  .glo "_law_z_either",
  .glo "_law_z_twin"]
def faA1 : List He.Fa := [.glo "_law_start",
  .glo "_law_draw",
  .glo "_law_pick",
  .glo "_law_mixed",
  .glo "_law_same",
  .glo "_law_each_once",
  .glo "_law_loose",
  .glo "_law_d_names",
  .glo "_law_d_pairs",
  .glo "_law_d_objectors",
  .glo "_law_d_hits",
  .glo "_law_d_answers",
  .glo "_law_d_answered",
  .glo "_law_d_subsets",
  .glo "_law_d_labels",
  .glo "_law_met",
  .glo "_law_near",
  .glo "_law_all_verdicts",
  .glo "_law_twins_right",
  .glo "_law_great",
  .glo "law",
  .glo "Debate",
  .glo "BadLot",
  .free "len",
  .free "isinstance",
  .free "all",
  .free "any",
  .free "sorted",
  .free "enumerate",
  .free "range"]
def faA2 : List He.Fa := [.free "zip",
  .free "list",
  .free "tuple",
  .free "int",
  .free "str",
  .free "dict",
  .free "bool",
  .str "SMALL" hSmall,
  .str "FIGURES" hFigs,
  .cls "Debate",
  .noat "Debate" "own_statements",
  .noat "Debate" "own_objections",
  .noat "Debate" "own_objectors",
  .noat "Debate" "own_objected",
  .mkr "Debate",
  .meth "Debate" "statements",
  .meth "Debate" "objections",
  .meth "Debate" "__eq__",
  .keep "BadLot",
  .exm "BadLot" "BadLot" true]
def faA : List He.Fa := faA0 ++ faA1 ++ faA2
def fnA0 : List He.DefD := [dD "is_list" s_is_list,
  dD "is_name" s_is_name,
  dD "as_tuples" s_as_tuples,
  dD "checked_statements" s_checked_statements,
  dD "is_pair_of" s_is_pair_of,
  dD "checked_objections" s_checked_objections,
  dD "checked_lot" s_checked_lot,
  dD "hit_by" s_hit_by,
  dD "answered_in" s_answered_in,
  dD "least_lot" s_least_lot,
  dD "clash_in" s_clash_in,
  dD "unanswered_in" s_unanswered_in,
  dD "fault_in" s_fault_in,
  dD "fault_among_held" s_fault_among_held,
  dD "labels_by" s_labels_by,
  dD "labels_of" s_labels_of,
  dD "cut_by" s_cut_by,
  dD "cut_to" s_cut_to,
  dD "verdict_by" s_verdict_by,
  dD "verdict" s_verdict,
  dD "is_seen" s_is_seen,
  dD "least_twin" s_least_twin,
  dD "are_twins" s_are_twins,
  dD "_law_z_debate" s_L_z_debate,
  dD "_law_z_made" s_L_z_made,
  dD "_law_z_odd_name" s_L_z_odd_name,
  dD "_law_z_verdict" s_L_z_verdict,
  dD "_law_z_tables" s_L_z_tables,
  dD "_law_z_either" s_L_z_either,
  dD "_law_z_twin" s_L_z_twin]
def fnA1 : List He.DefD := [dD "_law_start" s_L_start,
  dD "_law_draw" s_L_draw,
  dD "_law_pick" s_L_pick,
  dD "_law_mixed" s_L_mixed,
  dD "_law_same" s_L_same,
  dD "_law_each_once" s_L_each_once,
  dD "_law_loose" s_L_loose,
  dD "_law_d_names" s_L_d_names,
  dD "_law_d_pairs" s_L_d_pairs,
  dD "_law_d_objectors" s_L_d_objectors,
  dD "_law_d_hits" s_L_d_hits,
  dD "_law_d_answers" s_L_d_answers,
  dD "_law_d_answered" s_L_d_answered,
  dD "_law_d_subsets" s_L_d_subsets,
  dD "_law_d_labels" s_L_d_labels,
  dD "_law_met" s_L_met,
  dD "_law_near" s_L_near,
  dD "_law_all_verdicts" s_L_all_verdicts,
  dD "_law_twins_right" s_L_twins_right,
  dD "_law_great" s_L_great,
  dD "law" s_law,
  dM "Debate" "__init__" "Debate.__init__" s_Debate_init,
  dM "Debate" "statements" "Debate.statements" s_Debate_statements,
  dM "Debate" "objections" "Debate.objections" s_Debate_objections,
  dM "Debate" "__eq__" "Debate.__eq__" s_Debate_eq,
  dM "BadLot" "__init__" "BadLot.__init__" s_BadLot_init]
def fnA : List He.DefD := fnA0 ++ fnA1
/-- an own class over ValueError -/
def hdRef (C : Addr) : List Value → Bool
  | .ref a :: bm => decide (a = C) && PySem.HandSPX.refsVE bm
  | _ => false
theorem hdRef_ok {C : Addr} : ∀ {l : List Value}, hdRef C l = true → ∃ bm, l = .ref C :: bm ∧ PySem.HandSPX.refsVE bm = true
  | [], h => by cases h
  | v :: r, h => by
    cases v with
    | ref a =>
      obtain ⟨h1, h2⟩ := He.ba (show (decide (a = C) && PySem.HandSPX.refsVE r) = true from h)
      exact ⟨r, by rw [of_decide_eq_true h1], h2⟩
    | _ => cases h
def newIs : Option Value → Bool
  | some (.builtin n) => decide (n = "ValueError.__new__")
  | _ => false
theorem newIs_ok {v : Option Value} (h : newIs v = true) : v = some (.builtin "ValueError.__new__") := by
  cases v with
  | none => cases h
  | some u =>
    cases u with
    | builtin n => rw [of_decide_eq_true (show decide (n = "ValueError.__new__") = true from h)]
    | _ => cases h
theorem six {α : Type} {l : List α} (h : l.length = 6) : ∃ a b c d e f, l = [a, b, c, d, e, f] := by
  match l, h with
  | [a, b, c, d, e, f], _ => exact ⟨a, b, c, d, e, f, rfl⟩
def exClsB (K : PySem.W.Frag) (C : Addr) : Bool := match K.lookup C with
  | some ⟨.type c, _, .cls cd, sl⟩ => decide (c = "type") && (hdRef C cd.mro && (cd.hasDict && (!cd.hasDel && (decide (sl.toList.length = 6) && newIs (sl.toList.getD 4 none)))))
  | _ => false
theorem exClsB_ok {K : PySem.W.Frag} {C : Addr} (h : exClsB K C = true) : ∃ nm q N bs bm sn sub ab col dd k0 k1 k2 k3 k5, K.lookup C = some (excClassObj nm q C N bs bm true sn sub ab col dd k0 k1 k2 k3 k5 "ValueError.__new__") ∧ PySem.HandSPX.refsVE bm = true := by
  unfold exClsB at h
  cases hk : K.lookup C with
  | none =>
    rw [hk] at h
    cases h
  | some o =>
    obtain ⟨oc, dd, dt, sl⟩ := o
    rw [hk] at h
    cases oc with
    | type c =>
      cases dt with
      | cls cd =>
        obtain ⟨nm, bs, mro, N, q, hd, sn, sub, ab, col, del⟩ := cd
        obtain ⟨h1, h⟩ := He.ba (show (decide (c = "type") && (hdRef C mro && (hd && (!del && (decide (sl.toList.length = 6) && newIs (sl.toList.getD 4 none)))))) = true from h)
        obtain ⟨h2, h⟩ := He.ba h
        obtain ⟨h3, h⟩ := He.ba h
        obtain ⟨h4, h⟩ := He.ba h
        obtain ⟨h5, h6⟩ := He.ba h
        obtain ⟨bm, rfl, hb⟩ := hdRef_ok h2
        obtain ⟨k0, k1, k2, k3, k4, k5, hs⟩ := six (of_decide_eq_true h5)
        rw [hs] at h6
        have e6 : k4 = some (.builtin "ValueError.__new__") := newIs_ok h6
        have es : sl = #[k0, k1, k2, k3, some (.builtin "ValueError.__new__"), k5] := by
          rw [← e6]
          exact Array.ext' hs
        have e1 : c = "type" := of_decide_eq_true h1
        have e4 : del = false := by
          cases del
          · rfl
          · cases h4
        subst h3
        rw [e1, e4, es]
        exact ⟨nm, q, N, bs, bm, sn, sub, ab, col, dd, k0, k1, k2, k3, k5, rfl, hb⟩
      | _ => cases h
    | _ => cases dt <;> cases h
def exB (K : PySem.W.Frag) : Bool :=
  He.eqO (PySem.W.findIn K (.ref (He.ga K "Debate")) "__class__") (some (some (.builtin "object.__class__"))) &&
  (He.eqO (PySem.W.specialIn K (.builtin "object.__class__") "__get__") (some (some (.builtin "getset_descriptor.__get__"))) &&
  (decide (PySem.W.takesIn K (.builtin "object.__class__") = some true) &&
  (decide (PySem.W.mroIn K (He.ga K "Debate") (.type "object") = some true) &&
  (exClsB K (He.ga K "BadLot") &&
  (He.eqO (PySem.W.findIn K (.ref (He.ga K "BadLot")) "__setattr__") (some (some (.builtin "object.__setattr__"))) &&
  (decide (PySem.W.subIn K (.ref (He.ga K "BadLot")) (.type "BaseException") = some true) &&
  (decide (PySem.W.typeIn K (.ref (He.ga K "BadLot")) = some (.type "type")) &&
  (He.eqO (PySem.W.findIn K (.ref (He.ga K "BadLot")) "__init__") (some (some (.ref (He.ma K (He.ga K "BadLot") "__init__")))) &&
  (decide (PySem.W.typeIn K (.ref (He.ma K (He.ga K "BadLot") "__init__")) = some (.type "function")) &&
  (He.eqO (PySem.W.findIn K (.ref (He.ga K "BadLot")) "index") (some none) &&
  xfB K (He.ga K "BadLot")))))))))))
abbrev R80 : PySem.W.OpenRow := PySem.W.OpenLaw.row PySem.Challenge.rw_objections_k80_whole_verdicts_and_twins
def tf80 : List He.Defn := [("law", none)]
abbrev hk80 : PySem.W.Hook := He.hookX 4 faA fnA [] tf80 exB
def ob80 (s : PySem.W.SharedT) : He.AlX := He.obsX 4 faA fnA [] tf80 exB (HandSHeadRun.getT s)
theorem ob80_eq (s : PySem.W.SharedT) : ob80 s = hk80.obs s.abs := He.obsX_eq (HandSHeadRun.getT_eq s)
def loose800 : List Str := ["DebateError",
  "BadLot",
  "BadObjections",
  "BadStatements",
  "NotWhole",
  "SMALL",
  "FIGURES",
  "Made",
  "Debate",
  "is_list",
  "is_name",
  "as_tuples",
  "checked_statements",
  "is_pair_of",
  "checked_objections",
  "checked_lot",
  "hit_by",
  "answered_in",
  "least_lot",
  "clash_in",
  "unanswered_in",
  "fault_in",
  "fault_among_held",
  "labels_by",
  "labels_of",
  "cut_by",
  "cut_to",
  "verdict_by",
  "verdict",
  "is_seen"]
def loose801 : List Str := ["least_twin",
  "are_twins",
  "held_lots",
  "calm_with",
  "calm_lots",
  "greatest_of",
  "is_within",
  "spared_in",
  "lots_in",
  "_law_z_debate",
  "_law_z_made",
  "_law_z_odd_name",
  "_law_z_verdict",
  "_law_z_tables",
  "_law_z_either",
  "_law_z_twin",
  "_law_start",
  "_law_draw",
  "_law_pick",
  "_law_mixed",
  "_law_same",
  "_law_each_once",
  "_law_loose",
  "_law_d_names",
  "_law_d_pairs",
  "_law_d_objectors",
  "_law_d_hits",
  "_law_d_answers",
  "_law_d_answered",
  "_law_d_subsets"]
def loose802 : List Str := ["_law_d_labels",
  "_law_met",
  "_law_near",
  "_law_all_verdicts",
  "_law_twins_right",
  "_law_great"]
def loose80 : List Str := loose800 ++ loose801 ++ loose802
theorem run80 (w : World) : HandSHeadRun.RunEq R80 (PySem.W.view R80.prog [74]) hk80 ob80 5000 loose80 w := by
  intro os
  kernel_rfl
end K80
end
section
set_option autoImplicit false
set_option linter.all false
namespace K80
section
variable {α : Type} [DecidableEq α]

def hit (R : α → α → Bool) (L : List α) (x : α) : Bool := L.any fun z => R z x
def ans (R : α → α → Bool) (T L : List α) (x : α) : Bool := T.all fun y => !R y x || hit R L y
def stp (R : α → α → Bool) (T L : List α) : List α := T.filter fun x => ans R T L x
def itr (R : α → α → Bool) (T : List α) : Nat → List α
  | 0 => []
  | k + 1 => stp R T (itr R T k)

theorem hit_iff {R : α → α → Bool} {L : List α} {x : α} : hit R L x = true ↔ ∃ z, z ∈ L ∧ R z x = true := by
  unfold hit
  rw [List.any_eq_true]
theorem ans_iff {R : α → α → Bool} {T L : List α} {x : α} : ans R T L x = true ↔ ∀ y, y ∈ T → R y x = true → hit R L y = true := by
  unfold ans
  rw [List.all_eq_true]
  constructor
  · intro h y hy r
    have q := h y hy
    rw [r] at q
    simpa using q
  · intro h y hy
    cases r : R y x with
    | false => simp
    | true => rw [h y hy r]; simp
theorem mem_stp {R : α → α → Bool} {T L : List α} {x : α} : x ∈ stp R T L ↔ x ∈ T ∧ ans R T L x = true := by
  unfold stp
  rw [List.mem_filter]
theorem hit_mono {R : α → α → Bool} {L M : List α} {x : α} (h : ∀ z, z ∈ L → z ∈ M) (q : hit R L x = true) : hit R M x = true := by
  obtain ⟨z, hz, r⟩ := hit_iff.mp q
  exact hit_iff.mpr ⟨z, h z hz, r⟩
theorem stp_mono {R : α → α → Bool} {T L M : List α} {x : α} (h : ∀ z, z ∈ L → z ∈ M) (q : x ∈ stp R T L) : x ∈ stp R T M := by
  obtain ⟨hx, a⟩ := mem_stp.mp q
  exact mem_stp.mpr ⟨hx, ans_iff.mpr fun y hy r => hit_mono h (ans_iff.mp a y hy r)⟩
theorem itr_up {R : α → α → Bool} {T : List α} : ∀ {k : Nat} {x : α}, x ∈ itr R T k → x ∈ itr R T (k + 1)
  | 0, x, h => by simp [itr] at h
  | k + 1, x, h => stp_mono (fun z hz => itr_up hz) h
theorem itr_sub {R : α → α → Bool} {T : List α} : ∀ {k : Nat} {x : α}, x ∈ itr R T k → x ∈ T
  | 0, x, h => by simp [itr] at h
  | k + 1, x, h => (mem_stp.mp h).1
/-- a lot got from nothing is calm -/
theorem itr_calm {R : α → α → Bool} {T : List α} : ∀ {k : Nat} {a b : α}, a ∈ itr R T k → b ∈ itr R T k → R a b = false
  | 0, a, b, h, _ => by simp [itr] at h
  | k + 1, a, b, ha, hb => by
    cases r : R a b with
    | false => rfl
    | true =>
      obtain ⟨Ta, aa⟩ := mem_stp.mp ha
      obtain ⟨Tb, ab⟩ := mem_stp.mp hb
      obtain ⟨z, hz, rz⟩ := hit_iff.mp (ans_iff.mp ab a Ta r)
      obtain ⟨v, hv, rv⟩ := hit_iff.mp (ans_iff.mp aa z (itr_sub hz) rz)
      have q := itr_calm hv hz
      rw [rv] at q
      exact absurd q (by simp)
/-- filters of one list with the same members are one -/
theorem filter_congr' {T : List α} {p q : α → Bool} (h : ∀ x, x ∈ T → p x = q x) : T.filter p = T.filter q := by
  induction T with
  | nil => rfl
  | cons a r ih =>
    have h1 := h a (by simp)
    have h2 := ih fun x hx => h x (by simp [hx])
    simp [List.filter_cons, h1, h2]
theorem bool_eq {a b : Bool} (h : a = true ↔ b = true) : a = b := by
  cases a <;> cases b <;> simp_all
theorem stp_congr {R : α → α → Bool} {T L M : List α} (h : ∀ z, z ∈ L ↔ z ∈ M) : stp R T L = stp R T M := by
  unfold stp
  refine filter_congr' fun x hx => bool_eq ?_
  rw [ans_iff, ans_iff]
  exact ⟨fun q y hy r => hit_mono (fun z hz => (h z).mp hz) (q y hy r), fun q y hy r => hit_mono (fun z hz => (h z).mpr hz) (q y hy r)⟩
theorem stp_len (R : α → α → Bool) (T L : List α) : (stp R T L).length ≤ T.length := List.length_filter_le _ _
theorem filter_len_lt {p q : α → Bool} (hs : ∀ x, p x = true → q x = true) : ∀ (T : List α), T.filter p ≠ T.filter q → (T.filter p).length < (T.filter q).length
  | [], h => absurd rfl h
  | a :: r, h => by
    have le : ∀ l : List α, (l.filter p).length ≤ (l.filter q).length := by
      intro l
      induction l with
      | nil => simp
      | cons b l ih =>
        cases pb : p b with
        | true => simp [List.filter_cons, pb, hs b pb, ih]
        | false =>
          cases qb : q b with
          | true => simp [List.filter_cons, pb, qb]; omega
          | false => simp [List.filter_cons, pb, qb, ih]
    cases pa : p a with
    | true =>
      have qa := hs a pa
      simp only [List.filter_cons, pa, qa, if_pos] at h ⊢
      have h' : r.filter p ≠ r.filter q := fun e => h (by rw [e])
      have := filter_len_lt hs r h'
      simp
      omega
    | false =>
      cases qa : q a with
      | true =>
        simp [List.filter_cons, pa, qa]
        have := le r
        omega
      | false =>
        simp [List.filter_cons, pa, qa] at h ⊢
        exact filter_len_lt hs r h
/-- each turn that changes the lot makes it greater -/
theorem itr_grow {R : α → α → Bool} {T : List α} {k : Nat} (h : itr R T (k + 1) ≠ itr R T k) : (itr R T k).length < (itr R T (k + 1)).length := by
  cases k with
  | zero =>
    show ([] : List α).length < _
    cases e : itr R T 1 with
    | nil => exact absurd e h
    | cons a r => simp
  | succ k =>
    refine filter_len_lt (fun x q => ?_) T (fun e => h e.symm)
    exact ans_iff.mpr fun y hy r => hit_mono (fun z hz => itr_up hz) (ans_iff.mp q y hy r)
def IsLeast (R : α → α → Bool) (T L : List α) : Prop := stp R T L = L ∧ ∃ k, L = itr R T k
theorem itr_stay {R : α → α → Bool} {T : List α} {k : Nat} (h : stp R T (itr R T k) = itr R T k) : ∀ j, itr R T (k + j) = itr R T k
  | 0 => rfl
  | j + 1 => by
    show stp R T (itr R T (k + j)) = _
    rw [itr_stay h j, h]
theorem IsLeast.unique {R : α → α → Bool} {T L M : List α} (a : IsLeast R T L) (b : IsLeast R T M) : L = M := by
  obtain ⟨ha, k, rfl⟩ := a
  obtain ⟨hb, j, rfl⟩ := b
  rcases Nat.le_total k j with h | h
  · have := itr_stay ha (j - k)
    rw [Nat.add_sub_cancel' h] at this
    exact this.symm
  · have := itr_stay hb (k - j)
    rw [Nat.add_sub_cancel' h] at this
    exact this
theorem least_exists (R : α → α → Bool) (T : List α) : ∀ n k, T.length - (itr R T k).length ≤ n → ∃ j, stp R T (itr R T j) = itr R T j
  | n, k, h => by
    by_cases e : itr R T (k + 1) = itr R T k
    · exact ⟨k, e⟩
    · have g := itr_grow e
      have l : (itr R T (k + 1)).length ≤ T.length := stp_len _ _ _
      cases n with
      | zero => omega
      | succ n => exact least_exists R T n (k + 1) (by omega)
/-- the least lot of what is on a table -/
noncomputable def lst (R : α → α → Bool) (T : List α) : List α := itr R T (Classical.choose (least_exists R T T.length 0 (by omega)))
theorem lst_is (R : α → α → Bool) (T : List α) : IsLeast R T (lst R T) := ⟨Classical.choose_spec (least_exists R T T.length 0 (by omega)), _, rfl⟩
theorem lst_sub {R : α → α → Bool} {T : List α} {x : α} (h : x ∈ lst R T) : x ∈ T := itr_sub h
theorem lst_calm {R : α → α → Bool} {T : List α} {a b : α} (ha : a ∈ lst R T) (hb : b ∈ lst R T) : R a b = false := itr_calm ha hb
theorem lst_fix (R : α → α → Bool) (T : List α) : stp R T (lst R T) = lst R T := (lst_is R T).1
inductive Lab where | yes | no | und
  deriving DecidableEq
def lab (R : α → α → Bool) (L : List α) (x : α) : Lab := if L.contains x then .yes else if hit R L x then .no else .und
noncomputable def vd (R : α → α → Bool) (T : List α) : List (α × Lab) := T.map fun x => (x, lab R (lst R T) x)

theorem hit_congr {R S : α → α → Bool} {L : List α} {x : α} (h : ∀ z, z ∈ L → R z x = S z x) : hit R L x = hit S L x := by
  refine bool_eq ?_
  rw [hit_iff, hit_iff]
  exact ⟨fun ⟨z, hz, r⟩ => ⟨z, hz, (h z hz) ▸ r⟩, fun ⟨z, hz, r⟩ => ⟨z, hz, (h z hz).symm ▸ r⟩⟩
theorem stp_rel {R S : α → α → Bool} {T L : List α} (hL : ∀ z, z ∈ L → z ∈ T) (h : ∀ a b, a ∈ T → b ∈ T → R a b = S a b) : stp R T L = stp S T L := by
  unfold stp
  refine filter_congr' fun x hx => bool_eq ?_
  rw [ans_iff, ans_iff]
  constructor
  · intro q y hy r
    rw [← hit_congr fun z hz => h z y (hL z hz) hy]
    exact q y hy ((h y x hy hx).trans r)
  · intro q y hy r
    rw [hit_congr fun z hz => h z y (hL z hz) hy]
    exact q y hy ((h y x hy hx).symm.trans r)
theorem itr_rel {R S : α → α → Bool} {T : List α} (h : ∀ a b, a ∈ T → b ∈ T → R a b = S a b) : ∀ k, itr R T k = itr S T k
  | 0 => rfl
  | k + 1 => by
    show stp R T (itr R T k) = stp S T (itr S T k)
    rw [itr_rel h k]
    exact stp_rel (fun z hz => itr_sub hz) h
theorem lst_rel {R S : α → α → Bool} {T : List α} (h : ∀ a b, a ∈ T → b ∈ T → R a b = S a b) : lst R T = lst S T := by
  refine IsLeast.unique (lst_is R T) ?_
  obtain ⟨hf, k, e⟩ := lst_is S T
  refine ⟨?_, k, by rw [e, itr_rel h k]⟩
  rw [stp_rel (fun z hz => lst_sub hz) h]
  exact hf
theorem vd_rel {R S : α → α → Bool} {T : List α} (h : ∀ a b, a ∈ T → b ∈ T → R a b = S a b) : vd R T = vd S T := by
  unfold vd
  rw [lst_rel h]
  refine List.map_congr_left fun x hx => ?_
  unfold lab
  rw [hit_congr fun z hz => h z x (lst_sub hz) hx]

/-! twins -/
def twR (R : α → α → Bool) : α → α → Bool := fun a b => R a b && (decide (a = b) || !R b b || (!R a a && !R b a))
theorem twR_self (R : α → α → Bool) (a : α) : twR R a a = R a a := by simp [twR]
theorem twR_le {R : α → α → Bool} {a b : α} (h : twR R a b = true) : R a b = true := by
  unfold twR at h
  rw [Bool.and_eq_true] at h
  exact h.1
theorem twR_lost {R : α → α → Bool} {a b : α} (h : R a b = true) (n : twR R a b = false) : R b b = true ∧ (R a a = true ∨ R b a = true) := by
  unfold twR at n
  rw [h] at n
  by_cases e : a = b
  · simp [e] at n
  · cases hb : R b b <;> cases ha : R a a <;> cases hba : R b a <;> simp_all
theorem twR_twR (R : α → α → Bool) (a b : α) : twR (twR R) a b = twR R a b := by
  cases t : twR R a b with
  | false =>
    show (twR R a b && _) = false
    rw [t]
    rfl
  | true =>
    show (twR R a b && (decide (a = b) || !twR R b b || (!twR R a a && !twR R b a))) = true
    rw [t, twR_self, twR_self]
    have t' := t
    unfold twR at t'
    by_cases e : a = b
    · simp [e]
    · have hle : twR R b a = true → R b a = true := twR_le
      cases hb : R b b <;> cases ha : R a a <;> cases hba : R b a <;> cases hab : R a b <;> cases hx : twR R b a <;> simp_all
/-- who hits in R hits in the twin -/
theorem hit_twin {R : α → α → Bool} {T : List α} : ∀ {k : Nat} {x : α}, x ∈ T → hit R (itr R T k) x = true → hit (twR R) (itr R T k) x = true
  | 0, x, _, h => by simp [itr, hit] at h
  | k + 1, x, Tx, h => by
    obtain ⟨y, hy, r⟩ := hit_iff.mp h
    cases t : twR R y x with
    | true => exact hit_iff.mpr ⟨y, hy, t⟩
    | false =>
      obtain ⟨_, q⟩ := twR_lost r t
      rcases q with q | q
      · have := itr_calm hy hy
        rw [q] at this
        exact absurd this (by simp)
      · have hk := ans_iff.mp (mem_stp.mp hy).2 x Tx q
        obtain ⟨z, hz, rz⟩ := hit_iff.mp (hit_twin Tx hk)
        exact hit_iff.mpr ⟨z, itr_up hz, rz⟩
theorem itr_twin (R : α → α → Bool) (T : List α) : ∀ k, itr (twR R) T k = itr R T k
  | 0 => rfl
  | k + 1 => by
    show stp (twR R) T (itr (twR R) T k) = stp R T (itr R T k)
    have ih := itr_twin R T k
    have hself : ∀ x, x ∈ stp (twR R) T (itr (twR R) T k) → R x x = false := fun x hx => by
      have := itr_calm (R := twR R) (T := T) (k := k + 1) hx hx
      rw [twR_self] at this
      exact this
    rw [ih] at hself ⊢
    refine filter_congr' fun x hx => bool_eq ?_
    constructor
    · intro q
      have hs := hself x (mem_stp.mpr ⟨hx, q⟩)
      rw [ans_iff] at q ⊢
      intro y hy r
      have t : twR R y x = true := by
        cases t : twR R y x with
        | true => rfl
        | false =>
          have := (twR_lost r t).1
          rw [hs] at this
          exact absurd this (by simp)
      obtain ⟨z, hz, rz⟩ := hit_iff.mp (q y hy t)
      exact hit_iff.mpr ⟨z, hz, twR_le rz⟩
    · intro q
      rw [ans_iff] at q ⊢
      intro y hy r
      exact hit_twin hy (q y hy (twR_le r))
theorem lst_twin (R : α → α → Bool) (T : List α) : lst (twR R) T = lst R T := by
  refine IsLeast.unique (lst_is (twR R) T) ?_
  obtain ⟨hf, k, e⟩ := lst_is R T
  refine ⟨?_, k, by rw [e, itr_twin]⟩
  have h1 : stp (twR R) T (itr (twR R) T k) = stp R T (itr R T k) := itr_twin R T (k + 1)
  rw [itr_twin, ← e, hf] at h1
  exact h1
theorem vd_twin (R : α → α → Bool) (T : List α) : vd (twR R) T = vd R T := by
  unfold vd
  rw [lst_twin]
  refine List.map_congr_left fun x hx => ?_
  have e : hit (twR R) (lst R T) x = hit R (lst R T) x := by
    refine bool_eq ⟨fun h => ?_, fun h => hit_twin hx h⟩
    obtain ⟨z, hz, rz⟩ := hit_iff.mp h
    exact hit_iff.mpr ⟨z, hz, twR_le rz⟩
  unfold lab
  rw [e]

/-! tables of one and of two tell the twin -/
theorem vd_one (R : α → α → Bool) (a : α) : vd R [a] = [(a, if R a a = true then .und else .yes)] := by
  cases h : R a a with
  | true =>
    have e : lst R [a] = [] := IsLeast.unique (lst_is R [a]) ⟨by simp [stp, ans, hit, h], 0, rfl⟩
    simp [vd, e, lab, hit]
  | false =>
    have e : lst R [a] = [a] := IsLeast.unique (lst_is R [a]) ⟨by simp [stp, ans, hit, h], 1, by simp [itr, stp, ans, hit, h]⟩
    simp [vd, e, lab]
def two (aa ab ba bb : Bool) : Lab × Lab :=
  let a1 := !aa && !ba
  let b1 := !ab && !bb
  let ha := (a1 && aa) || (b1 && ba)
  let hb := (a1 && ab) || (b1 && bb)
  let a2 := (!aa || ha) && (!ba || hb)
  let b2 := (!ab || ha) && (!bb || hb)
  let hha := (a2 && aa) || (b2 && ba)
  let hhb := (a2 && ab) || (b2 && bb)
  (if a2 then .yes else if hha then .no else .und, if b2 then .yes else if hhb then .no else .und)
theorem vd_two (R : α → α → Bool) {a b : α} (ne : a ≠ b) : vd R [a, b] = [(a, (two (R a a) (R a b) (R b a) (R b b)).1), (b, (two (R a a) (R a b) (R b a) (R b b)).2)] := by
  have ne' : b ≠ a := fun e => ne e.symm
  have key : IsLeast R [a, b] (itr R [a, b] 2) := by
    refine ⟨?_, 2, rfl⟩
    cases h1 : R a a <;> cases h2 : R a b <;> cases h3 : R b a <;> cases h4 : R b b <;> simp [itr, stp, ans, hit, List.filter_cons, h1, h2, h3, h4]
  have e : lst R [a, b] = itr R [a, b] 2 := IsLeast.unique (lst_is R [a, b]) key
  unfold vd
  rw [e]
  cases h1 : R a a <;> cases h2 : R a b <;> cases h3 : R b a <;> cases h4 : R b b <;> simp [itr, stp, ans, hit, lab, two, List.filter_cons, h1, h2, h3, h4, ne, ne']
theorem two_twin : ∀ aa ab ba bb ab' ba' : Bool, two aa ab ba bb = two aa ab' ba' bb →
    (ab && (!bb || (!aa && !ba))) = (ab' && (!bb || (!aa && !ba'))) ∧ (ba && (!aa || (!bb && !ab))) = (ba' && (!aa || (!bb && !ab'))) := by decide
theorem twR_of_two {R S : α → α → Bool} {a b : α} (ne : a ≠ b) (ha : vd R [a] = vd S [a]) (hb : vd R [b] = vd S [b]) (h : vd R [a, b] = vd S [a, b]) : twR R a b = twR S a b ∧ twR R b a = twR S b a := by
  have ea : R a a = S a a := by
    rw [vd_one, vd_one] at ha
    cases p : R a a <;> cases q : S a a <;> simp_all
  have eb : R b b = S b b := by
    rw [vd_one, vd_one] at hb
    cases p : R b b <;> cases q : S b b <;> simp_all
  rw [vd_two R ne, vd_two S ne, ← ea, ← eb] at h
  have h' : two (R a a) (R a b) (R b a) (R b b) = two (R a a) (S a b) (S b a) (R b b) := by
    injection h with h1 h2
    injection h1 with _ h1
    injection h2 with h2 _
    injection h2 with _ h2
    exact Prod.ext h1 h2
  have := two_twin _ _ _ _ _ _ h'
  have ne' : b ≠ a := fun e => ne e.symm
  simp only [twR, ← ea, ← eb, decide_eq_false ne, decide_eq_false ne', Bool.false_or]
  exact this
theorem twR_self_of_one {R S : α → α → Bool} {a : α} (ha : vd R [a] = vd S [a]) : twR R a a = twR S a a := by
  rw [twR_self, twR_self]
  rw [vd_one, vd_one] at ha
  cases p : R a a <;> cases q : S a a <;> simp_all
end
end K80
end
section
set_option Elab.async false
set_option linter.all false
set_option maxRecDepth 100000
set_option maxHeartbeats 4000000
namespace K80
open PySem PySem.Spec PyProof.Rows L2 PySem.W
/-! ### sorted over lists, tuples, dicts -/
mutual
theorem reads_lt {h : Heap} : ∀ (d : PyData) (v : Value) (as : List Addr), alike d d = true → Reads h v d as → ∀ a ∈ as, a < h.objs.size
  | .none, _, _, _, r, a, m => by cases r; cases m
  | .bool _, _, _, _, r, a, m => by cases r; cases m
  | .int _, _, _, _, r, a, m => by cases r; cases m
  | .str _, _, _, _, r, a, m => by cases r; cases m
  | .list xs, _, _, hal, r, a, m => by
    cases r with
    | list h1 h2 h3 h4 =>
      rcases List.mem_cons.mp m with e | m
      · rw [e]; exact Heap.lt_size h1
      · exact readsAll_lt xs _ _ (by simpa [alike] using hal) h4 a m
  | .tuple xs, _, _, hal, r, a, m => by
    cases r with
    | tuple h1 h2 h3 h4 => exact readsAll_lt xs _ _ (by simpa [alike] using hal) h4 a m
  | .dict kvs, _, _, hal, r, a, m => absurd hal (by simp [alike])
theorem readsAll_lt {h : Heap} : ∀ (ds : List PyData) (vs : List Value) (as : List Addr), alikeAll ds ds = true → ReadsAll h vs ds as → ∀ a ∈ as, a < h.objs.size
  | [], _, _, _, r, a, m => by cases r; cases m
  | d :: ds, _, _, hal, r, a, m => by
    cases r with
    | cons h1 h2 =>
      rcases List.mem_append.mp m with m | m
      · exact reads_lt d _ _ (alike_all_cons hal).1 h1 a m
      · exact readsAll_lt ds _ _ (alike_all_cons hal).2 h2 a m
end
section
variable {prog : Program} {w : World} {A : Around} {E : Value → Shared → Prop} {s : Shared}
/-- sorted(v), where collecting v gives the items vs -/
theorem sorted_coll {v : Value} {β : Type} {vs : List Value} {bs : List β} {enc : β → PyData} {R : Value → β → Prop} {Q : Value → Shared → Prop}
    (hcol : ∀ (Q' : List Value → Shared → Prop) (E' : Value → Shared → Prop), (∀ (h' : Heap) (tk : Nat), (∀ b o, s.heap.get? b = some o → h'.get? b = some o) → Q' vs { s with heap := h', toks := tk }) → wpAny (model prog w) A.in1 (collect v) Q' E' s)
    (hpl : argsOk "sorted" ⟨[v], []⟩)
    (e : EachIs R vs bs) (er : EachIs (fun v b => ∃ as, Reads s.heap v (enc b) as) vs bs) (hal : AllAlike (bs.map enc)) (hk : Sortable (bs.map enc)) (hL : bs.length ≤ sizeLine)
    (hu : ∀ b, b ∈ bs → A.units + 3 + (enc b).depth < cLine)
    (h : ∀ (h1 h' : Heap) (tk : Nat) (out : List Value) (c : Nat), (∀ b o, s.heap.get? b = some o → h1.get? b = some o) → (∀ b o, h1.get? b = some o → h'.get? b = some o) → h'.get? h1.objs.size = some (seqObj "list" out.toArray c) → out.length = bs.length → EachIs R out (bs.mergeSort (dataLe false enc)) → Q (.ref h1.objs.size) { s with heap := h', toks := tk }) :
    wpAny (model prog w) A (call (.builtin "sorted") [v]) Q E s := by
  refine Calls.call_function_entry PyProof.Rows.kind_sorted PyProof.Rows.plain_sorted PyProof.Rows.entry_sorted hpl ?_
  unfold Builtin.«sorted»
  refine wpAny_bind (m := checkCount "sorted" 1 1 _) (wpAny_pure ?_)
  refine wpAny_bind (hcol _ _ fun h' tk hk' => ?_)
  have hvl : vs.length = bs.length := e.length
  refine wpAny_bind (wpAny_newList ?_ (by rw [hvl]; exact hL))
  have hoL : (h'.push (seqObj "list" vs.toArray 0)).get? h'.objs.size = some (seqObj "list" vs.toArray 0) := Heap.get?_push_size _ rfl
  show wpAny _ _ _ _ _ { s with heap := h'.push (seqObj "list" vs.toArray 0), toks := tk }
  have k2 : ∀ b o, s.heap.get? b = some o → (h'.push (seqObj "list" vs.toArray 0)).get? b = some o := fun b o q => Heap.get?_push_of_some _ (hk' b o q)
  have er' : EachIs (fun v b => ∃ as, Reads (h'.push (seqObj "list" vs.toArray 0)) v (enc b) as ∧ h'.objs.size ∉ as) vs bs := by
    refine (each_mem er).mono fun v b q => ?_
    obtain ⟨⟨as, r⟩, hb⟩ := q
    refine ⟨as, PyProof.Rows.Reads.keeps k2 r, fun hm => ?_⟩
    have := reads_lt _ _ _ (hal _ (List.mem_map.mpr ⟨b, hb, rfl⟩) _ (List.mem_map.mpr ⟨b, hb, rfl⟩)) (PyProof.Rows.Reads.keeps hk' r) _ hm
    exact absurd this (Nat.lt_irrefl _)
  refine wpAny_bind (wpAny_holding ?_)
  refine list_sort_data (s := { s with heap := h'.push (seqObj "list" vs.toArray 0), toks := tk }) (A := A.in1) (R := R) (enc := enc) (bs := bs) hoL e er' hal hk hL (fun b hb => ?_) fun out ho eo => ?_
  · have := hu b hb
    show A.units + 1 + 1 + (enc b).depth < cLine
    omega
  · obtain ⟨c, he'⟩ := PyProof.Rows.sortedHeap_at (vs := vs) (out := out.toArray) hoL
    refine wpAny_pure ⟨_, rfl, h h' _ tk out c hk' (fun b o q => ?_) he' ho eo⟩
    have hb : b < h'.objs.size := Heap.lt_size q
    rw [PyProof.Rows.sortedHeap_old (Nat.ne_of_lt hb) (by rw [size_push']; exact Nat.lt_succ_of_lt hb)]
    exact Heap.get?_push_of_some _ q
end

theorem each_of_vals : ∀ {bs : List (V × PyData)} {us : List Value}, Vals (bs.map (·.1)) us → EachIs (fun (v : Value) (b : V × PyData) => RelV b.1 v) us bs
  | [], _, r => by
    cases r
    exact .nil
  | b :: bs, _, r => by
    cases r with
    | cons r1 r2 => exact .cons r1 (each_of_vals r2)
theorem vals_of_each : ∀ {bs : List (V × PyData)} {us : List Value}, EachIs (fun (v : Value) (b : V × PyData) => RelV b.1 v) us bs → Vals (bs.map (·.1)) us
  | _, _, .nil => .nil
  | _, _, .cons r1 r2 => .cons r1 (vals_of_each r2)
/-- items and what they stand for, as the sort asks it -/
structure SortIt (K : PySem.W.Frag) (H : Hp) (bs : List (V × PyData)) : Prop where
  rd : ∀ b ∈ bs, Dp K H b.1 b.2
  al : AllAlike (bs.map (·.2))
  so : Sortable (bs.map (·.2))
  dp : ∀ b ∈ bs, b.2.depth ≤ 50
def srt (bs : List (V × PyData)) : List (V × PyData) := bs.mergeSort (dataLe false (·.2))
section
variable {X : Cx} {pins : List (Addr × Obj)} {σ : L2.St} {H : Hp} {s : Shared}
theorem each_reads (I : Inv X pins σ H s) : ∀ {bs : List (V × PyData)} {us : List Value}, (∀ b ∈ bs, Dp X.K H b.1 b.2) → Vals (bs.map (·.1)) us → EachIs (fun (v : Value) (b : V × PyData) => ∃ as, Reads s.heap v b.2 as) us bs
  | [], _, _, r => by
    cases r
    exact .nil
  | b :: bs, _, h, r => by
    cases r with
    | cons r1 r2 => exact .cons (Dp.reads I _ _ _ (h b (by simp)) r1) (each_reads I (fun c hc => h c (by simp [hc])) r2)
theorem sort_fin {v : Value} {bs : List (V × PyData)} {us : List Value} {Q : VK} (I : Inv X pins σ H s) (hu : X.A.units + 64 < cLine) (hS : SortIt X.K H bs) (rv : Vals (bs.map (·.1)) us) (hz : us.length ≤ sizeLine) (hpl : argsOk "sorted" ⟨[v], []⟩)
    (hcol : ∀ (Q' : List Value → Shared → Prop) (E' : Value → Shared → Prop), (∀ (h' : Heap) (tk : Nat), (∀ b o, s.heap.get? b = some o → h'.get? b = some o) → Q' us { s with heap := h', toks := tk }) → wpAny (model X.prog X.w) X.A.in1 (collect v) Q' E' s)
    (q : ∀ p, H p = none → Q (.ref p) (upd H p (.lst ((srt bs).map (·.1))))) : wpAny (model X.prog X.w) X.A (call (.builtin "sorted") [v]) (L2.EP X pins σ Q) X.xe s := by
  have hl : bs.length = us.length := by rw [← rv.length, List.length_map]
  refine sorted_coll (enc := (·.2)) (R := fun (v : Value) (b : V × PyData) => RelV b.1 v) hcol hpl (each_of_vals rv) (each_reads I hS.rd rv) hS.al hS.so (by rw [hl]; exact hz) (fun b hb => ?_) fun h1 h' tk out c k1 k2 hD hlen eo => ?_
  · have := hS.dp b hb
    omega
  · have I1 : Inv X pins σ H { s with heap := h1, toks := tk } := I.kept k1
    have rv' : Vals ((srt bs).map (·.1)) out := vals_of_each eo
    have hlen' : ((srt bs).map (·.1)).length ≤ sizeLine := by rw [rv'.length, hlen, hl]; exact hz
    exact ⟨.ref h1.objs.size, upd H h1.objs.size (.lst ((srt bs).map (·.1))), I1.laid (t' := tk) k2 (Nat.le_refl _) (show ObjOk X.prog X.w _ _ _ (.lst ((srt bs).map (·.1))) from ⟨hlen', out, c, rv', hD⟩), rfl, q _ (I1.hok.fresh (Nat.le_refl _))⟩
/-- sorted(a list, a tuple) of data that compares -/
def rSortQ (K : PySem.W.Frag) : List V → Hp → VK → Prop := fun vs H Q => ∃ (a : Addr) (bs : List (V × PyData)), vs = [.ref a] ∧ (SqL K H a (bs.map (·.1)) ∨ SqT K H a (bs.map (·.1))) ∧ SortIt K H bs ∧ ∀ p, H p = none → Q (.ref p) (upd H p (.lst ((srt bs).map (·.1))))
theorem cr_sortQ (hu : X.A.units + 64 < cLine) : CallR X (.builtin "sorted") (rSortQ X.K) := by
  intro pins s σ H vs us Q I r h
  obtain ⟨a, bs, rfl, hs, hS, q⟩ := h
  obtain rfl := Vals.ref1 r
  rcases hs with hs | hs
  · obtain ⟨its, rv, ⟨o, n, ho, hc, _, hd⟩, hz⟩ := I.list hs
    have hz' : its.length ≤ sizeLine := by rw [← rv.length]; exact hz
    exact sort_fin I hu hS rv hz' (PyProof.Rows.args_sorted1 _) (fun Q' E' hq => wpAny_collect_seq a (T := "list") (.inl rfl) ho hc hd (fun h' k => by simpa using hq h' s.toks k) (by simpa using hz')) q
  · obtain ⟨its, rv, ⟨o, ho, hc, n, hd⟩, hz⟩ := I.tuple hs
    have hz' : its.length ≤ sizeLine := by rw [← rv.length]; exact hz
    exact sort_fin I hu hS rv hz' (PyProof.Rows.args_sorted1 _) (fun Q' E' hq => wpAny_collect_seq a (T := "tuple") (.inr rfl) ho hc hd (fun h' k => by simpa using hq h' s.toks k) (by simpa using hz')) q
end
/-! ### sorted of a dict whose keys are pairs of texts -/
def encP (p : Str × Str) : PyData := .tuple [.str p.1, .str p.2]
def keyP (p : Str × Str) : List Key := [.inr p.1, .inr p.2]

section
variable {X : Cx}
/-- its keys are the pairs ks: the dict's own key tuples, sorted -/
def rSortT : List V → Hp → VK → Prop := fun vs H Q => ∃ (a : Addr) (kvs : List (List Key × V)) (ks : List (Str × Str)), vs = [.ref a] ∧ Rd H a (.dT kvs) ∧ kvs.map (·.1) = ks.map keyP ∧
  ∀ (p : Addr) (l : List (Addr × Str × Str)), l.map (·.2) = ks → (∀ e ∈ l, H e.1 = some (.tup [.str e.2.1, .str e.2.2])) → H p = none → Q (.ref p) (upd H p (.lst ((l.mergeSort (dataLe false fun e => encP e.2)).map fun e => V.ref e.1)))
theorem keyP_inj {a b : Str × Str} (h : keyP a = keyP b) : a = b := by
  unfold keyP at h
  injection h with h1 h2
  injection h2 with h2 _
  exact Prod.ext (Sum.inr.inj h1) (Sum.inr.inj h2)
theorem isKeys_pairs {H : Hp} : ∀ {kvs : List (List Key × V)} {bs : List Addr} {ks : List (Str × Str)}, IsKeys H kvs bs → kvs.map (·.1) = ks.map keyP → ∃ l : List (Addr × Str × Str), l.map (·.2) = ks ∧ l.map (·.1) = bs ∧ ∀ e ∈ l, H e.1 = some (.tup [.str e.2.1, .str e.2.2])
  | _, _, [], .nil, _ => ⟨[], rfl, rfl, fun e h => by cases h⟩
  | _, _, _ :: _, .nil, e => by cases e
  | _, _, [], .cons _ _, e => by cases e
  | p :: kvs, b :: bs, k :: ks, .cons h t, e => by
    have e' : p.1 :: kvs.map (·.1) = keyP k :: ks.map keyP := e
    injection e' with e1 e2
    obtain ⟨l, h1, h2, h3⟩ := isKeys_pairs t e2
    refine ⟨(b, k) :: l, by rw [List.map_cons, h1], by rw [List.map_cons, h2], fun z hz => ?_⟩
    rcases List.mem_cons.mp hz with rfl | hz
    · have hb : H b = some (.tup (p.1.map kV)) := h
      rw [e1] at hb
      exact hb
    · exact h3 z hz
theorem alike_pp (p q : Str × Str) : alike (encP p) (encP q) = true := by simp [encP, alike, alikeAll]
theorem mergeSort_map {α β : Type} (f : α → β) (le : β → β → Bool) (l : List α) : (l.mergeSort fun a b => le (f a) (f b)).map f = (l.map f).mergeSort le := by
  rw [List.map_mergeSort]
  intro a _ b _
  rfl
theorem cr_sortT (hc : X.calm = true) (hu : X.A.units + 64 < cLine) : CallR X (.builtin "sorted") rSortT := by
  intro pins s σ H vs us Q I r h
  obtain ⟨d, kvs, ks, rfl, hd, hk, q⟩ := h
  obtain rfl := Vals.ref1 r
  obtain ⟨z, hs, xs, pr, o, es, ep, ho, hx, hdt, he, hn⟩ := (show ObjOk X.prog X.w H s.heap d (.dT kvs) from hd.ok I.hok)
  have l1 : es.size = xs.length := size_of_entries he
  have l2 : kvs.length = xs.length := Paired.length pr
  obtain ⟨l, g1, g2, g3⟩ := isKeys_pairs (isKeys_of pr) hk
  let bs : List (V × PyData) := l.map fun e => (V.ref e.1, encP e.2)
  have hb1 : bs.map (·.1) = (xs.map fun x => x.2.1).map V.ref := by
    rw [← g2, List.map_map, List.map_map]
    rfl
  have rv : Vals (bs.map (·.1)) (xs.map fun x => Value.ref x.2.1) := by
    rw [hb1]
    have e : (xs.map fun x => Value.ref x.2.1) = (xs.map fun x => x.2.1).map Value.ref := by
      rw [List.map_map]
      rfl
    rw [e]
    exact vals_refs _
  have hS : SortIt X.K H bs := by
    refine ⟨fun b hb => ?_, fun d hd d' hd' => ?_, .inl fun d hd => ?_, fun b hb => ?_⟩
    · obtain ⟨e, he, rfl⟩ := List.mem_map.mp hb
      exact .tup (SqT.of (g3 e he)) (.cons (.str _) (.cons (.str _) .nil))
    · rw [List.map_map] at hd hd'
      obtain ⟨e, _, rfl⟩ := List.mem_map.mp hd
      obtain ⟨e', _, rfl⟩ := List.mem_map.mp hd'
      exact alike_pp _ _
    · rw [List.map_map] at hd
      obtain ⟨e, _, rfl⟩ := List.mem_map.mp hd
      exact ⟨_, _, rfl⟩
    · obtain ⟨e, he, rfl⟩ := List.mem_map.mp hb
      show (encP e.2).depth ≤ 50
      simp [encP, PyData.depth, PyData.depthAll]
  refine sort_fin I hu hS rv (by rw [List.length_map]; omega) (PyProof.Rows.args_sorted1 _) (fun Q' E' hq => ?_) fun p hp => ?_
  · refine PySem.W.kdu_collect (A := X.A.in1) (kdl_raw hs hx hdt) (I.ok.hd hc) ho (by omega) fun h' tk acc kp it => ?_
    have ea : acc.toList = xs.map fun x => Value.ref x.2.1 := by
      have hl : acc.toList.length = xs.length := by rw [Array.length_toList, it.1]; exact l1
      apply List.ext_getElem?
      intro j
      rw [List.getElem?_map]
      cases hj : acc.toList[j]? with
      | none =>
        have h1 := List.getElem?_eq_none_iff.mp hj
        rw [List.getElem?_eq_none (by omega)]
        all_goals rfl
      | some v =>
        obtain ⟨en, hen, hv⟩ := it.2 j v (by rw [← Array.getElem?_toList]; exact hj)
        have qe := entry_at he j
        rw [hen] at qe
        cases hb : xs[j]? with
        | none =>
          rw [hb] at qe
          exact nomatch (show some en = none from qe)
        | some b =>
          rw [hb] at qe
          have e2 : en = entryOfKey (tupleKind (mixKind X.prog X.w)) b := Option.some.inj qe
          rw [hv, e2]
          all_goals rfl
    rw [ea]
    exact hq h' tk kp
  · have e1 : (srt bs).map (·.1) = (l.mergeSort (dataLe false fun e => encP e.2)).map fun e => V.ref e.1 := by
      have e2 : bs.mergeSort (dataLe false (·.2)) = (l.mergeSort (dataLe false fun e => encP e.2)).map fun e => (V.ref e.1, encP e.2) := by
        have := mergeSort_map (fun e : Addr × Str × Str => (V.ref e.1, encP e.2)) (dataLe false (·.2)) l
        rw [← this]
        rfl
      show (bs.mergeSort (dataLe false (·.2))).map (·.1) = _
      rw [e2, List.map_map]
      rfl
    rw [e1]
    exact q p l g1 g3 hp
end
end K80
end
section
set_option Elab.async false
set_option linter.all false
set_option maxRecDepth 100000
set_option maxHeartbeats 4000000
namespace K80
open PySem PySem.Spec PyProof.Rows L2 PySem.W
/-! ### the orders -/
section
variable {β : Type}
theorem dle_eq (k : β → PyData) (a b : β) : dataLe false k a b = !dataLt (k b) (k a) := rfl
theorem dle_total (k : β → PyData) (a b : β) : (dataLe false k a b || dataLe false k b a) = true := by
  rw [dle_eq, dle_eq]
  cases h1 : dataLt (k b) (k a) with
  | false => rfl
  | true =>
    cases h2 : dataLt (k a) (k b) with
    | false => rfl
    | true =>
      have := lex_trans (O := itemOrd) _ _ _ h1 h2
      rw [lex_irrefl] at this
      cases this
theorem dle_trans (k : β → PyData) (a b c : β) (h1 : dataLe false k a b = true) (h2 : dataLe false k b c = true) : dataLe false k a c = true := by
  rw [dle_eq] at *
  cases h : dataLt (k c) (k a) with
  | false => rfl
  | true =>
    rcases lex_negTrans (O := itemOrd) (keyToks (k c)) (keyToks (k b)) (keyToks (k a)) h with q | q
    · have q : dataLt (k c) (k b) = true := q
      rw [q] at h2; cases h2
    · have q : dataLt (k b) (k a) = true := q
      rw [q] at h1; cases h1
theorem dle_anti {k : β → PyData} (hi : ∀ a b, keyToks (k a) = keyToks (k b) → a = b) {a b : β} (h1 : dataLe false k a b = true) (h2 : dataLe false k b a = true) : a = b := by
  rw [dle_eq] at *
  refine hi a b (lex_total (O := itemOrd) _ _ ?_ ?_)
  · have : dataLt (k a) (k b) = false := by simpa using h2
    exact this
  · have : dataLt (k b) (k a) = false := by simpa using h1
    exact this
end
/-! ### sorted lists are unique -/
section
variable {α : Type} {le : α → α → Bool}
structure Lin (le : α → α → Bool) : Prop where
  tot : ∀ a b, (le a b || le b a) = true
  tr : ∀ a b c, le a b = true → le b c = true → le a c = true
  an : ∀ a b, le a b = true → le b a = true → a = b
theorem Lin.uniq (L : Lin le) : ∀ {l m : List α}, l.Perm m → l.Pairwise (fun a b => le a b = true) → m.Pairwise (fun a b => le a b = true) → l = m
  | [], m, h, _, _ => h.nil_eq
  | a :: l, [], h, _, _ => absurd h.symm.nil_eq (by simp)
  | a :: l, b :: m, h, h1, h2 => by
    obtain ⟨p1, p2⟩ := List.pairwise_cons.mp h1
    obtain ⟨q1, q2⟩ := List.pairwise_cons.mp h2
    have e : a = b := by
      have ha : a ∈ b :: m := h.mem_iff.mp List.mem_cons_self
      have hb : b ∈ a :: l := h.mem_iff.mpr List.mem_cons_self
      rcases List.mem_cons.mp ha with e | ha
      · exact e
      · rcases List.mem_cons.mp hb with e | hb
        · exact e.symm
        · exact L.an _ _ (p1 b hb) (q1 a ha)
    subst e
    rw [L.uniq ((List.perm_cons a).mp h) p2 q2]
theorem Lin.sorted (L : Lin le) (l : List α) : (l.mergeSort le).Pairwise (fun a b => le a b = true) := List.pairwise_mergeSort L.tr L.tot l
theorem Lin.perm (L : Lin le) {l m : List α} (h : l.Perm m) : l.mergeSort le = m.mergeSort le :=
  L.uniq (((List.mergeSort_perm l le).trans h).trans (List.mergeSort_perm m le).symm) (L.sorted l) (L.sorted m)
theorem Lin.self (L : Lin le) {l : List α} (h : l.Pairwise (fun a b => le a b = true)) : l.mergeSort le = l := L.uniq (List.mergeSort_perm l le) (L.sorted l) h
theorem Lin.idem (L : Lin le) (l : List α) : (l.mergeSort le).mergeSort le = l.mergeSort le := L.self (L.sorted l)
theorem Lin.filter (L : Lin le) (p : α → Bool) (l : List α) : (l.filter p).mergeSort le = (l.mergeSort le).filter p :=
  L.uniq ((List.mergeSort_perm _ le).trans ((List.mergeSort_perm l le).filter p).symm) (L.sorted _) ((L.sorted l).sublist List.filter_sublist)
theorem Lin.of_perm (L : Lin le) {l m : List α} (h : l.Perm m) (hl : l.Pairwise (fun a b => le a b = true)) : m.mergeSort le = l := by
  rw [← L.perm h, L.self hl]
end
/-! ### names, pairs, rows of names -/
def leS : Str → Str → Bool := dataLe false PyData.str
def leP : Str × Str → Str × Str → Bool := dataLe false encP
def encL (l : List Str) : PyData := .list (l.map .str)
def leL : List Str → List Str → Bool := dataLe false encL
theorem linS : Lin leS := ⟨dle_total _, dle_trans _, fun a b => dle_anti (fun a b h => by
  have h : a.cps.toList = b.cps.toList := by simpa [keyToks] using h
  exact str_of_cps h)⟩
theorem linP : Lin leP := ⟨dle_total _, dle_trans _, fun a b => dle_anti (fun a b h => by
  have h : a.1.cps.toList = b.1.cps.toList ∧ a.2.cps.toList = b.2.cps.toList := by simpa [encP, keyToks, keyToksAll] using h
  exact Prod.ext (str_of_cps h.1) (str_of_cps h.2))⟩
theorem toksL_inj : ∀ {a b : List Str}, keyToksAll (a.map .str) = keyToksAll (b.map .str) → a = b
  | [], [], _ => rfl
  | [], y :: b, h => by simp [keyToks, keyToksAll] at h
  | x :: a, [], h => by simp [keyToks, keyToksAll] at h
  | x :: a, y :: b, h => by
    have h : x.cps.toList = y.cps.toList ∧ keyToksAll (a.map .str) = keyToksAll (b.map .str) := by simpa [keyToks, keyToksAll] using h
    rw [str_of_cps h.1, toksL_inj h.2]
theorem linL : Lin leL := ⟨dle_total _, dle_trans _, fun a b => dle_anti (fun a b h => by
  have h : keyToksAll (a.map .str) = keyToksAll (b.map .str) := by simpa [encL, keyToks] using h
  exact toksL_inj h)⟩
def sortS (l : List Str) : List Str := l.mergeSort leS
def sortP (l : List (Str × Str)) : List (Str × Str) := l.mergeSort leP
def sortL (l : List (List Str)) : List (List Str) := l.mergeSort leL
theorem sortS_perm (l : List Str) : (sortS l).Perm l := List.mergeSort_perm l _
theorem sortP_perm (l : List (Str × Str)) : (sortP l).Perm l := List.mergeSort_perm l _
theorem mem_sortS {l : List Str} {x : Str} : x ∈ sortS l ↔ x ∈ l := (sortS_perm l).mem_iff
theorem mem_sortP {l : List (Str × Str)} {x : Str × Str} : x ∈ sortP l ↔ x ∈ l := (sortP_perm l).mem_iff
theorem nodup_sortS {l : List Str} (h : l.Nodup) : (sortS l).Nodup := (sortS_perm l).nodup_iff.mpr h
theorem nodup_sortP {l : List (Str × Str)} (h : l.Nodup) : (sortP l).Nodup := (sortP_perm l).nodup_iff.mpr h
theorem sortS_idem (l : List Str) : sortS (sortS l) = sortS l := linS.idem l
theorem sortP_idem (l : List (Str × Str)) : sortP (sortP l) = sortP l := linP.idem l
theorem sortS_filter (p : Str → Bool) (l : List Str) : sortS (l.filter p) = (sortS l).filter p := linS.filter p l
theorem sortP_filter (p : Str × Str → Bool) (l : List (Str × Str)) : sortP (l.filter p) = (sortP l).filter p := linP.filter p l
theorem sortS_len (l : List Str) : (sortS l).length = l.length := (sortS_perm l).length_eq
theorem sortP_len (l : List (Str × Str)) : (sortP l).length = l.length := (sortP_perm l).length_eq
end K80
end
section
set_option Elab.async false
set_option linter.all false
set_option maxRecDepth 100000
set_option maxHeartbeats 4000000
namespace K80
open PySem PySem.Spec PyProof.Rows L2
open AutoSeq1 (wpAny_loadPart')
/-! ### enumerate of a tuple -/
theorem meets_enum_newT (l : Addr) (items : Array Value) :
    Meets (Builtin.«enumerate.__new__» ⟨[.type "enumerate", .ref l], []⟩) (fun _ R s => s.heap.IsTuple l items ∧
      R (.ok (.ret (.ref (s.heap.push { cls := .type "tuple_iterator", data := .fields #[.ref l, .int 0 0] }).objs.size)))
        { s with heap := (s.heap.push { cls := .type "tuple_iterator", data := .fields #[.ref l, .int 0 0] }).push { cls := .type "enumerate", data := .fields #[.none, .bool false, .ref s.heap.objs.size, rawInt 0, .none, .none] } }) :=
  .of_wp fun prog w A R s h => by
    obtain ⟨hp, g, d, tk, os⟩ := s; obtain ⟨hL, h⟩ := h
    have hsub := sub_enumerate
    have hL : Heap.IsTuple (Shared.heap ⟨hp, g, d, tk, os⟩) l items := hL
    wp_walk using wpAny_pyIter_tuple hL
    refine wpAny_stack_any fun st => wpAny_pure ?_
    split
    · rename_i c _ _ _ _ _
      cases (c == Value.type "enumerate")
      · wp_walk using wpAny_pyIter_tuple hL
        exact ⟨_, rfl, h⟩
      · wp_walk using wpAny_pyIter_tuple hL
        exact ⟨_, rfl, h⟩
    · wp_walk using wpAny_pyIter_tuple hL
      exact ⟨_, rfl, h⟩
theorem call_enum_tuple {prog : Program} {w : World} {A : Around} {E : Value → Shared → Prop} {s : Shared} {l : Addr} {items : Array Value} {Q : Value → Shared → Prop} (hL : s.heap.IsTuple l items)
    (h : ∀ h', IsEnum h' (s.heap.objs.size + 1) s.heap.objs.size 0 .none → h'.IsTupleIter s.heap.objs.size l 0 → h'.objs.size = s.heap.objs.size + 2 →
      (∀ b o, s.heap.get? b = some o → h'.get? b = some o) → Q (.ref (s.heap.objs.size + 1)) { s with heap := h' }) :
    wpAny (model prog w) A (call (.type "enumerate") [.ref l]) Q E s := by
  refine callType_new F.called_enumerate (by decide) (F.typeCall_enumerate_1 _) (F.newCall_enumerate_1 _) (fun obj => F.args_object_init_2 obj _) F.entry_enumerate_new
    (meets_enum_newT l items) ⟨hL, ?_⟩
  have hz : (s.heap.push { cls := .type "tuple_iterator", data := .fields #[.ref l, .int 0 0] }).objs.size = s.heap.objs.size + 1 := Heap.size_push ..
  show _ ∧ _
  rw [hz]
  have he : IsEnum ((s.heap.push { cls := .type "tuple_iterator", data := .fields #[.ref l, .int 0 0] }).push
      { cls := .type "enumerate", data := .fields #[.none, .bool false, .ref s.heap.objs.size, rawInt 0, .none, .none] }) (s.heap.objs.size + 1) s.heap.objs.size 0 .none := by
    have := Heap.get?_push_size (s.heap.push { cls := .type "tuple_iterator", data := .fields #[.ref l, .int 0 0] })
      (o := { cls := .type "enumerate", data := .fields #[.none, .bool false, .ref s.heap.objs.size, rawInt 0, .none, .none] }) rfl
    rw [hz] at this; exact this
  refine ⟨⟨_, he, rfl⟩, h _ he ⟨_, Heap.get?_push_of_some _ (Heap.get?_push_size _ rfl), rfl, rfl⟩ (by rw [Heap.size_push, hz]) fun b o x => Heap.get?_push_of_some _ (Heap.get?_push_of_some _ x)⟩
/-- the tuple at a, each item in a new pair -/
def IteT (K : PySem.W.Frag) (a : Addr) : It :=
  ⟨fun i H => ∃ (xs : List V) (x : V), SqT K H a xs ∧ xs[i]? = some x, fun i H v H' => ∃ T x, v = .ref T ∧ H T = none ∧ H' = upd H T (.tup [.int (i : Nat), x]) ∧ ∀ xs, SqT K H a xs → xs[i]? = some x, fun i H => ∃ xs : List V, SqT K H a xs ∧ xs.length = i⟩
theorem tup_ne_it {h : Heap} {a it : Addr} {its : Array Value} {i : Nat} (h1 : h.IsTuple a its) (h2 : h.IsTupleIter it a i) : a ≠ it := by
  rintro rfl
  obtain ⟨o, ho, hc, _⟩ := h1
  obtain ⟨o2, ho2, hc2, _⟩ := h2
  rw [ho] at ho2
  cases ho2
  rw [hc] at hc2
  injection hc2 with z
  exact absurd z (by decide)
theorem turn_enumT {P : Program} {w : World} {K : PySem.W.Frag} {elts : List Expr} {kk : Nat} {tpos : Pos} (a e it : Addr) :
    Turn P w K (.Tuple elts kk tpos) (IteT K a) [e, it] e (fun i h => (∃ old, IsEnum h e it ((i : Nat) : Int) old) ∧ h.IsTupleIter it a i ∧ e ≠ it) where
  mem := by simp
  obj := fun i h st b hb => by
    obtain ⟨⟨old, he⟩, ⟨o, ho, hc, hd⟩, _⟩ := st
    have e' : b = e ∨ b = it := by simpa using hb
    rcases e' with z | z
    · rw [z]; exact ⟨_, he, fun v q => nomatch q⟩
    · rw [z]; exact ⟨o, ho, fun v q => by rw [hd] at q; cases q⟩
  keep := fun i h h' st k => let ⟨⟨old, he⟩, hi, hne⟩ := st; ⟨⟨old, k e (by simp) _ he⟩, hi.at fun o q => k it (by simp) o q, hne⟩
  item := by
    intro X hP hw hK hc i pins s σ H E I hf st hg
    subst hP hw hK
    obtain ⟨⟨old, he⟩, hit, hne⟩ := st
    obtain ⟨xs, x, hq, hx⟩ := hg
    obtain ⟨its, rv, p, hz⟩ := I.tuple hq
    obtain ⟨u, hu, ru⟩ := rv.get hx
    have hel : e < s.heap.objs.size := Heap.lt_size he
    have hil : it < s.heap.objs.size := by obtain ⟨_, q, _⟩ := hit; exact Heap.lt_size q
    have p' : s.heap.IsTuple a its.toArray := p
    have hai : a ≠ it := tup_ne_it p' hit
    have hae : e ∉ [it, a] := by
      intro hm
      have hm : e = it ∨ e = a := by simpa using hm
      rcases hm with z | z
      · exact hne z
      · obtain ⟨o, ho, hc', _⟩ := p'
        rw [← z] at ho
        have he' : s.heap.get? e = some _ := he
        rw [ho] at he'
        cases he'
        injection hc' with z
        exact absurd z (by decide)
    have hlt : i < its.toArray.size := by
      have := (List.getElem?_eq_some_iff.mp hu).1
      simpa using this
    have hh : X.A.in1.handled = none := I.ok.hd hc
    refine wpAny_pyNext_enum_itemD (Draws.tuple (prog := X.prog) (w := X.w) hh it a hai its.toArray) he ⟨hit, p'⟩ hlt hne hae fun y h' tk hy ho hit' hT hsz hk => ?_
    have ey : y = u := by
      have hy : its.toArray[i]? = some y := hy
      have hu' : its.toArray[i]? = some u := by simpa using hu
      rw [hu'] at hy
      exact (Option.some.inj hy).symm
    subst ey
    refine ⟨_, rfl, wpAny_letOwnedTupleGo_enum (s := { s with heap := h', toks := tk + 1 }) ho fun h'' he' sb => ?_⟩
    have hT2 : h''.get? s.heap.objs.size = some { cls := .type "tuple", data := .seq #[.int i tk, y] } := (sb.2 _ (Nat.ne_of_gt hel)).trans hT
    have new : ObjOk X.prog X.w (upd H s.heap.objs.size (.tup [.int (i : Nat), x])) h'' s.heap.objs.size (.tup [.int (i : Nat), x]) :=
      ⟨by show 2 ≤ sizeLine; decide, [.int i tk, y], .cons ⟨_, rfl⟩ (.cons ru .nil), ⟨_, hT2, rfl, _, rfl⟩⟩
    have I1 : Inv X pins σ (upd H s.heap.objs.size (.tup [.int (i : Nat), x])) { s with heap := h'', toks := tk + 1 } :=
      I.turnedNew (ch := [e, it]) (fun b ob hb q => (sb.2 b (fun z => hb (by simp [z]))).trans (hk b ob (fun z => hb (by simp [z])) (fun z => hb (by simp [z])) q)) hf (Nat.le_refl _) new
    refine ⟨.ref s.heap.objs.size, _, I1, rfl, ⟨_, x, rfl, I.hok.fresh (Nat.le_refl _), rfl, fun ys hy => by rw [I.tuple_inj hy hq]; exact hx⟩, ⟨⟨y, ?_⟩, hit'.1.at fun o q => (sb.2 it (Ne.symm hne)).trans q, hne⟩, fun b hb => ?_⟩
    · have e1 : ((i + 1 : Nat) : Int) = (i : Int) + 1 := by omega
      rw [e1]; exact he'
    · have hb' : b < s.heap.objs.size := by
        have e' : b = e ∨ b = it := by simpa using hb
        rcases e' with z | z
        · rw [z]; exact hel
        · rw [z]; exact hil
      rw [upd_ne (Nat.ne_of_lt hb')]
      exact (hf b hb).1
  done := by
    intro X hP hw hK hc i pins s σ H E I hf st hg
    subst hP hw hK
    obtain ⟨⟨old, he⟩, hit, hne⟩ := st
    obtain ⟨xs, hq, hx⟩ := hg
    obtain ⟨its, rv, p, hz⟩ := I.tuple hq
    obtain ⟨f0, f1, f2, f3, f4, f5⟩ := hf it (by simp)
    have hl := rv.length
    have p' : s.heap.IsTuple a its.toArray := p
    have hai : a ≠ it := tup_ne_it p' hit
    have hh : X.A.in1.handled = none := I.ok.hd hc
    have hn : i = its.toArray.size := by simp; omega
    have hst : (fun i (h : Heap) => h.IsTupleIter it a i ∧ h.IsTuple a its.toArray) its.toArray.size s.heap := ⟨hn ▸ hit, p'⟩
    exact wpAny_pyNext_enum_endD (Draws.tuple (prog := X.prog) (w := X.w) hh it a hai its.toArray) he hst fun h' eb => ⟨rfl, I.turned (t' := s.toks) (fun b o hb q => eb b o hb q) f0 f1 f3 f4 f5⟩
  self := fun A i s Q E st h => let ⟨⟨_, he⟩, _⟩ := st; wpAny_pyIter_enum he h

/-- a list or a tuple -/
def SqQ (K : PySem.W.Frag) (H : Hp) (a : Addr) (xs : List V) : Prop := SqL K H a xs ∨ SqT K H a xs
theorem Same.seqT {K : PySem.W.Frag} {H H' : Hp} {a : Addr} {xs : List V} (e : Same H H') (h : SqT K H a xs) : SqT K H' a xs := by
  rcases h with (h | ⟨o, h⟩) | h
  · exact .inl (.inl (e _ _ h))
  · exact .inl (.inr ⟨o, e _ _ h⟩)
  · exact .inr h
theorem Same.seqQ {K : PySem.W.Frag} {H H' : Hp} {a : Addr} {xs : List V} (e : Same H H') (h : SqQ K H a xs) : SqQ K H' a xs := h.elim (fun h => .inl (e.seq h)) fun h => .inr (Same.seqT e h)
def iEnumQ (K : PySem.W.Frag) (ta : TA) : TI := fun σ H R => ta σ H fun vs H1 => ∃ a xs, vs = [.ref a] ∧ ((SqL K H1 a xs ∧ R (Ite K a) H1) ∨ (SqT K H1 a xs ∧ R (IteT K a) H1))
theorem pi_enumQ {X : Cx} {e : Expr} {ta : TA} {p pos tpos : Pos} {elts : List Expr} {kk : Nat} (hm : X.mg "enumerate" = none) (ha : PA X [e] ta) (hg : Gl X "enumerate" := by rfl) (hs : starEach [e] X.env = [(false, eval e X.env)] := by rfl) :
    PI X (.Tuple elts kk tpos) (.Call (.Name "enumerate" p) [e] [] pos) (iEnumQ X.K ta) := by
  refine ⟨fun pins s σ H R I h => ?_⟩
  refine Call_ (ld_blt I hg hm boot_enumerate (PyProof.Rows.callWith_type1 (thn (ha.run pos pins s σ H _ I h) fun us s1 ⟨vs, H1, I1, r1, q1⟩ => ?_) hs rfl))
  obtain ⟨a, xs, ex, q1⟩ := q1
  subst ex
  cases r1 with
  | cons r rr =>
    cases rr
    cases r
    have fin : ∀ b, b ∈ [s1.heap.objs.size + 1, s1.heap.objs.size] → FpOk X pins H1 b := fun b hb => by
      have e' : b = s1.heap.objs.size + 1 ∨ b = s1.heap.objs.size := by simpa using hb
      have hle : s1.heap.objs.size ≤ b := by
        rcases e' with z | z
        · rw [z]; exact Nat.le_add_right _ _
        · rw [z]; exact Nat.le_refl _
      exact I1.fpOk hle (I1.hok.fresh hle)
    rcases q1 with ⟨hq, q⟩ | ⟨hq, q⟩
    · obtain ⟨its, rv, p', hz⟩ := I1.list hq
      refine call_enumerate_list p'.isList fun h' he hit hsz hk => wpAny_pyIter_enum he ?_
      have I2 : Inv X pins σ H1 { s1 with heap := h' } := I1.kept (t' := s1.toks) hk
      exact ⟨s1.heap.objs.size + 1, [s1.heap.objs.size + 1, s1.heap.objs.size], _, _, H1, rfl, I2, turn_enum a (s1.heap.objs.size + 1) s1.heap.objs.size, ⟨⟨.none, he⟩, hit, Nat.succ_ne_self _⟩, fin, q⟩
    · obtain ⟨its, rv, p', hz⟩ := I1.tuple hq
      refine call_enum_tuple (show s1.heap.IsTuple a its.toArray from p') fun h' he hit hsz hk => wpAny_pyIter_enum he ?_
      have I2 : Inv X pins σ H1 { s1 with heap := h' } := I1.kept (t' := s1.toks) hk
      exact ⟨s1.heap.objs.size + 1, [s1.heap.objs.size + 1, s1.heap.objs.size], _, _, H1, rfl, I2, turn_enumT a (s1.heap.objs.size + 1) s1.heap.objs.size, ⟨⟨.none, he⟩, hit, Nat.succ_ne_self _⟩, fin, q⟩
theorem seq_at {K : PySem.W.Frag} {H H' : Hp} {a : Addr} {xs : List V} (e : ∀ o, H a = some o → H' a = some o) (h : SqL K H a xs) : SqL K H' a xs := by
  rcases h with (h | ⟨o, h⟩) | h
  · exact .inl (.inl (e _ h))
  · exact .inl (.inr ⟨o, e _ h⟩)
  · exact .inr h
theorem seqT_at {K : PySem.W.Frag} {H H' : Hp} {a : Addr} {xs : List V} (e : ∀ o, H a = some o → H' a = some o) (h : SqT K H a xs) : SqT K H' a xs := by
  rcases h with (h | ⟨o, h⟩) | h
  · exact .inl (.inl (e _ h))
  · exact .inl (.inr ⟨o, e _ h⟩)
  · exact .inr h
/-- the loop over enumerate: an invariant over the turn -/
theorem for_enumQ {K : PySem.W.Frag} {g : TG} {tb : TS} {D : Ends} {σ : L2.St} {H1 : Hp} {a : Addr} {xs : List V} (Pv : Nat → L2.St → Hp → Prop) (hq : SqQ K H1 a xs) (h0 : Pv 0 σ H1) (hst : ∀ i σ H, Pv i σ H → ∀ o, H1 a = some o → H a = some o)
    (hs : ∀ (i : Nat) (x : V) (T : Addr) (σ : L2.St) (H : Hp), xs[i]? = some x → Pv i σ H → H T = none → g (.ref T) σ (upd H T (.tup [.int (i : Nat), x])) fun σ2 H2 => tb { D with nx := Pv (i + 1), ct := Pv (i + 1), bk := D.nx } σ2 H2) (hd : ∀ σ H, Pv xs.length σ H → D.nx σ H) :
    ∃ (a' : Addr) (xs' : List V), ([V.ref a] : List V) = [.ref a'] ∧ ((SqL K H1 a' xs' ∧ ∃ W : Nat → Nat → L2.St → Hp → Prop, (∃ m, W 0 m σ H1) ∧ ∀ i m σ H, W i m σ H → ((Ite K a').stop i H ∧ D.nx σ H) ∨ ((Ite K a').go i H ∧ ∃ N : L2.St → Hp → Prop, (∀ σ' H', N σ' H' → ∃ m', m' < m ∧ W (i + 1) m' σ' H') ∧ ∀ x H', (Ite K a').yld i H x H' → g x σ H' fun σ2 H2 => tb { D with nx := N, ct := N, bk := D.nx } σ2 H2)) ∨
      (SqT K H1 a' xs' ∧ ∃ W : Nat → Nat → L2.St → Hp → Prop, (∃ m, W 0 m σ H1) ∧ ∀ i m σ H, W i m σ H → ((IteT K a').stop i H ∧ D.nx σ H) ∨ ((IteT K a').go i H ∧ ∃ N : L2.St → Hp → Prop, (∀ σ' H', N σ' H' → ∃ m', m' < m ∧ W (i + 1) m' σ' H') ∧ ∀ x H', (IteT K a').yld i H x H' → g x σ H' fun σ2 H2 => tb { D with nx := N, ct := N, bk := D.nx } σ2 H2))) := by
  refine ⟨a, xs, rfl, ?_⟩
  rcases hq with hq | hq
  · refine .inl ⟨hq, ?_⟩
    refine ⟨fun i m σ H => m = xs.length - i ∧ i ≤ xs.length ∧ Pv i σ H, ⟨xs.length, rfl, Nat.zero_le _, h0⟩, ?_⟩
    rintro i m σ H ⟨rfl, hi, p⟩
    have qx := seq_at (hst i σ H p) hq
    by_cases hlt : i < xs.length
    · have hx : xs[i]? = some xs[i] := List.getElem?_eq_getElem hlt
      refine .inr ⟨⟨xs, _, qx, hx⟩, Pv (i + 1), fun σ' H' p' => ⟨xs.length - (i + 1), by omega, rfl, hlt, p'⟩, fun v H' y => ?_⟩
      obtain ⟨T, x', rfl, hT, rfl, f1⟩ := y
      exact hs i x' T σ H (f1 xs qx) p hT
    · have e : i = xs.length := by omega
      subst e
      exact .inl ⟨⟨xs, qx, Nat.le_refl _⟩, hd σ H p⟩
  · refine .inr ⟨hq, ?_⟩
    refine ⟨fun i m σ H => m = xs.length - i ∧ i ≤ xs.length ∧ Pv i σ H, ⟨xs.length, rfl, Nat.zero_le _, h0⟩, ?_⟩
    rintro i m σ H ⟨rfl, hi, p⟩
    have qx := seqT_at (hst i σ H p) hq
    by_cases hlt : i < xs.length
    · have hx : xs[i]? = some xs[i] := List.getElem?_eq_getElem hlt
      refine .inr ⟨⟨xs, _, qx, hx⟩, Pv (i + 1), fun σ' H' p' => ⟨xs.length - (i + 1), by omega, rfl, hlt, p'⟩, fun v H' y => ?_⟩
      obtain ⟨T, x', rfl, hT, rfl, f1⟩ := y
      exact hs i x' T σ H (f1 xs qx) p hT
    · have e : i = xs.length := by omega
      subst e
      exact .inl ⟨⟨xs, qx, rfl⟩, hd σ H p⟩
end K80
end
section
set_option Elab.async false
set_option linter.all false
set_option maxRecDepth 100000
set_option maxHeartbeats 4000000
namespace K80
open PySem PySem.Spec PyProof.Rows L2
/-! ### == of two instances by their own __eq__ -/
section
variable {X : Cx}
theorem op_eqOwn {CX : CXT} {C f : Addr} {fd : FuncData} {ps : List Str} {sp : Sp} {E : XK} {k : Nat} (F : FnOk X.prog X.w X.K X.mg X.base CX k f fd ps sp)
    (hs : PySem.W.findIn X.K (.ref C) "__eq__" = some (some (.ref f))) (hf : PySem.W.isFn X.K (.ref f) = true) (hb : Binds X.K fd ps []) (hx : Passes CX X E) (hr : Room k X.A) :
    OpR X (compareOp .Eq) (fun x y H Q => ∃ a b dx dy fs gs, x = .ref a ∧ y = .ref b ∧ H a = some (.ins C dx fs) ∧ H b = some (.ins C dy gs) ∧ sp [.ref a, .ref b] H (fun v H' => ∃ c, v = .bl c ∧ Q v H') E) := by
  intro pins s σ H x y u v Q I rx ry h
  obtain ⟨a, b, dx, dy, fs, gs, rfl, rfl, ha, hb', hsp⟩ := h
  cases rx
  cases ry
  obtain ⟨mA, J, _⟩ := ins_get I.hok ha
  obtain ⟨mB, J', _⟩ := ins_get I.hok hb'
  obtain ⟨od, J, _⟩ := J.look
  obtain ⟨od', J', _⟩ := J'.look
  obtain ⟨m, hF⟩ := I.fr
  refine PySem.W.cmp_K (op := .Eq) (tb := .ref C) hr.units0 hF I.ok.mod.kin J J'.type (by simp [PySem.W.notFirst]) hs hf ?_
  have e0 : Env0 X.prog X.w X.K X.mg X.base X.A X.stack s H := I.env0
  have hl := F.len _ _ _ _ hsp
  have r2 : Vals [V.ref a, V.ref b] [Value.ref a, Value.ref b] := .cons rfl (.cons rfl .nil)
  refine wpAny_call (codeAny_mono (F.run X.A X.stack s H ⟨[.ref a, .ref b], []⟩ [.ref a, .ref b] [.ref a, .ref b] _ E hr e0 (by
    have := hb s [.ref a, .ref b] I.kIn (by simpa using hl)
    simpa using this) r2 hsp) fun r s' hq => ?_)
  cases r with
  | error e => exact hx pins σ H s e s' I hq
  | ok fl =>
    cases fl with
    | ret w =>
      obtain ⟨z, H', I', rz, c, ez, q⟩ := I.after hq
      subst ez
      cases rz
      exact ⟨.bl c, H', I', rfl, q⟩
    | next => exact False.elim hq
    | brk => exact False.elim hq
    | cont => exact False.elim hq
end
/-! ### == of two lists of dicts (text keys, text values) -/
def dv (l : List (Str × Str)) : List (Key × V) := l.map fun p => (.inr p.1, .str p.2)
theorem valV_dv_cons (x a : Str) (l : List (Str × Str)) (y : Str) : valV (dv ((x, a) :: l)) (.inr y : Key) = if x = y then some (.str a) else valV (dv l) (.inr y) := by
  by_cases e : x = y
  · rw [if_pos e]
    exact valV_pos (p := ((.inr x : Key), V.str a)) (by rw [e])
  · rw [if_neg e]
    exact valV_neg (p := ((.inr x : Key), V.str a)) (fun z => e (Sum.inr.inj z))
theorem dv_ext : ∀ {l m : List (Str × Str)}, l.map (·.1) = m.map (·.1) → (l.map (·.1)).Nodup → (∀ x ∈ l.map (·.1), valV (dv l) (.inr x : Key) = valV (dv m) (.inr x)) → l = m
  | [], [], _, _, _ => rfl
  | [], _ :: _, h, _, _ => by cases h
  | _ :: _, [], h, _, _ => by cases h
  | (x, a) :: l, (y, b) :: m, h, nd, hv => by
    have h' : x :: l.map (·.1) = y :: m.map (·.1) := h
    injection h' with h1 h2
    subst h1
    have nd' : (x :: l.map (·.1)).Nodup := nd
    obtain ⟨n1, n2⟩ := List.nodup_cons.mp nd'
    have e0 := hv x (by simp)
    rw [valV_dv_cons, valV_dv_cons, if_pos rfl, if_pos rfl] at e0
    have e0 : a = b := by injection (Option.some.inj e0)
    subst e0
    rw [dv_ext h2 n2 fun z hz => ?_]
    have e1 := hv z (by simp only [List.map_cons, List.mem_cons]; exact .inr hz)
    have ne : x ≠ z := fun e => n1 (e ▸ hz)
    rw [valV_dv_cons, valV_dv_cons, if_neg ne, if_neg ne] at e1
    exact e1
theorem valV_dv_some : ∀ {l : List (Str × Str)} {k : Key} {v : V}, valV (dv l) k = some v → ∃ x a, k = .inr x ∧ v = .str a ∧ x ∈ l.map (·.1)
  | [], k, v, h => by cases h
  | (x, a) :: l, k, v, h => by
    by_cases e : (Sum.inr x : Key) = k
    · have := valV_pos (p := ((.inr x : Key), V.str a)) (r := dv l) e
      have h : valV (((.inr x : Key), V.str a) :: dv l) k = some v := h
      rw [this] at h
      exact ⟨x, a, e.symm, (Option.some.inj h).symm, by simp⟩
    · have := valV_neg (p := ((.inr x : Key), V.str a)) (r := dv l) e
      have h : valV (((.inr x : Key), V.str a) :: dv l) k = some v := h
      rw [this] at h
      obtain ⟨y, b, h1, h2, h3⟩ := valV_dv_some h
      exact ⟨y, b, h1, h2, by simp only [List.map_cons, List.mem_cons]; exact .inr h3⟩
theorem valV_dv_mem : ∀ {l : List (Str × Str)} {x : Str}, x ∈ l.map (·.1) → ∃ a, valV (dv l) (.inr x : Key) = some (.str a)
  | [], x, h => by cases h
  | (y, a) :: l, x, h => by
    rw [valV_dv_cons]
    by_cases e : y = x
    · exact ⟨a, if_pos e⟩
    · rw [if_neg e]
      have h : x ∈ l.map (·.1) := by
        rcases List.mem_cons.mp (show x ∈ y :: l.map (·.1) from h) with q | q
        · exact absurd q.symm e
        · exact q
      exact valV_dv_mem h
theorem valueAt_mem {K : Type} [DecidableEq K] : ∀ {ka : List (K × Value)} {k : K} {v : Value}, (ka.map (·.1)).Nodup → (k, v) ∈ ka → valueAt ka k = some v
  | [], k, v, _, h => by cases h
  | (j, u) :: ka, k, v, nd, h => by
    have nd' : (j :: ka.map (·.1)).Nodup := nd
    obtain ⟨n1, n2⟩ := List.nodup_cons.mp nd'
    rcases List.mem_cons.mp h with e | h
    · injection e with e1 e2
      subst e1 e2
      simp [valueAt]
    · have ne : ¬ j = k := fun e => n1 (e ▸ List.mem_map.mpr ⟨(k, v), h, rfl⟩)
      have := valueAt_mem n2 h
      unfold valueAt at this ⊢
      rw [List.find?_cons, decide_eq_false ne]
      exact this
section
variable {X : Cx} {pins : List (Addr × Obj)} {σ : L2.St} {H : Hp} {s : Shared}
theorem eqTree_dv (I : Inv X pins σ H s) {a b : Addr} {l m : List (Str × Str)} (ha : H a = some (.dK (dv l))) (hb : H b = some (.dK (dv m))) (hk : l.map (·.1) = m.map (·.1)) (nd : (l.map (·.1)).Nodup) :
    PySem.W.EqTree X.prog X.w s 2 (.ref a) (.ref b) (decide (l = m)) := by
  by_cases hab : a = b
  · subst hab
    rw [ha] at hb
    have e : dv l = dv m := by injection (Option.some.inj hb)
    have : l = m := dv_ext hk nd fun x _ => by rw [e]
    subst this
    rw [decide_eq_true rfl]
    exact .same
  · obtain ⟨_, ya, va, ra, da⟩ := (show ObjOk X.prog X.w H s.heap a (.dK (dv l)) from I.hok a _ ha)
    obtain ⟨_, yb, vb, rb, db⟩ := (show ObjOk X.prog X.w H s.heap b (.dK (dv m)) from I.hok b _ hb)
    have ka : (va.map (·.1)) = l.map fun p => (Sum.inr p.1 : Key) := by
      rw [← ra.keys]
      unfold dv
      rw [List.map_map]
      rfl
    have kb : (vb.map (·.1)) = m.map fun p => (Sum.inr p.1 : Key) := by
      rw [← rb.keys]
      unfold dv
      rw [List.map_map]
      rfl
    have inj : ∀ q : List (Str × Str), (q.map fun p => (Sum.inr p.1 : Key)) = (q.map (·.1)).map Sum.inr := fun q => by rw [List.map_map]; rfl
    have nda : (va.map (·.1)).Nodup := by
      rw [ka, inj]
      exact List.Pairwise.map _ (fun x y h z => h (Sum.inr.inj z)) nd
    have t := PySem.W.EqTree.dicts (knd := mixKind X.prog X.w) (n := 1) (e := fun k => decide (valV (dv l) k = valV (dv m) k)) hab ya yb da db (fun k v y hm hv => ?_)
    · have e : (va.length == vb.length && va.all fun p => (valueAt vb p.1).isSome && decide (valV (dv l) p.1 = valV (dv m) p.1)) = decide (l = m) := by
        have hl : va.length = vb.length := by
          have h1 := congrArg List.length ka
          have h2 := congrArg List.length kb
          have h3 := congrArg List.length hk
          simp only [List.length_map] at h1 h2 h3
          omega
        by_cases e : l = m
        · subst e
          rw [decide_eq_true rfl]
          simp only [hl, beq_self_eq_true, Bool.true_and, List.all_eq_true, decide_true, Bool.and_true]
          intro p hp
          have hm : p.1 ∈ l.map fun p => (Sum.inr p.1 : Key) := by rw [← ka]; exact List.mem_map.mpr ⟨p, hp, rfl⟩
          rw [← kb] at hm
          obtain ⟨q, hq, e⟩ := List.mem_map.mp hm
          have : (vb.map (·.1)).Nodup := by rw [kb, ← ka]; exact nda
          rw [← e, valueAt_mem this (v := q.2) hq]
          rfl
        · rw [decide_eq_false e]
          cases hz : (va.length == vb.length && va.all fun p => (valueAt vb p.1).isSome && decide (valV (dv l) p.1 = valV (dv m) p.1)) with
          | false => rfl
          | true =>
            refine absurd (dv_ext hk nd fun x hx => ?_) e
            have h2 := (Bool.and_eq_true_iff.mp hz).2
            have hm : (Sum.inr x : Key) ∈ va.map (·.1) := by
              rw [ka, inj]
              exact List.mem_map.mpr ⟨x, hx, rfl⟩
            obtain ⟨q, hq, eq⟩ := List.mem_map.mp hm
            have h3 := (Bool.and_eq_true_iff.mp (List.all_eq_true.mp h2 q hq)).2
            rw [eq] at h3
            exact of_decide_eq_true h3
      rw [← e]
      exact t
    · have h1 : RelO (valV (dv l) k) (some v) := by rw [← valueAt_mem nda hm]; exact ra.val k
      have h2 : RelO (valV (dv m) k) (some y) := by rw [← hv]; exact rb.val k
      cases e1 : valV (dv l) k with
      | none => rw [e1] at h1; exact h1.elim
      | some c =>
        cases e2 : valV (dv m) k with
        | none => rw [e2] at h2; exact h2.elim
        | some d =>
          rw [e1] at h1
          rw [e2] at h2
          obtain ⟨x, c', _, rfl, _⟩ := valV_dv_some e1
          obtain ⟨x', d', _, rfl, _⟩ := valV_dv_some e2
          have := fun A : Around => eqAt_V (A := A) (s := s) (y := .str c') (x := .str d') h1 h2 rfl rfl
          have e3 : decide ((some (V.str c') : Option V) = some (V.str d')) = eqV (.str c') (.str d') := by
            by_cases z : c' = d'
            · subst z; simp [eqV]
            · have : ¬ (some (V.str c') : Option V) = some (V.str d') := fun q => z (by injection (Option.some.inj q))
              rw [decide_eq_false this]
              simp [eqV, z]
          rw [e3]
          exact .leaf fun A _ => this A
def rEqLD (K : PySem.W.Frag) : R2 := fun x y H Q => ∃ (a b : Addr) (ks ls : List (Addr × List (Str × Str))), x = .ref a ∧ y = .ref b ∧ SqL K H a (ks.map fun e => V.ref e.1) ∧ SqL K H b (ls.map fun e => V.ref e.1) ∧ (∀ e ∈ ks, H e.1 = some (.dK (dv e.2))) ∧ (∀ e ∈ ls, H e.1 = some (.dK (dv e.2))) ∧
  ks.map (fun e => e.2.map (·.1)) = ls.map (fun e => e.2.map (·.1)) ∧ (∀ e ∈ ks, (e.2.map (·.1)).Nodup) ∧ Q (.bl (decide (ks.map (·.2) = ls.map (·.2)))) H
theorem op_eqLD {X : Cx} (hu : X.A.units + 64 < cLine) : OpR X (compareOp .Eq) (rEqLD X.K) := by
  intro pins s σ H x y u v Q I rx ry h
  obtain ⟨a, b, ks, ls, rfl, rfl, ha, hb, hks, hls, hkk, hnd, q⟩ := h
  cases rx
  cases ry
  obtain ⟨its, rv, p1, _⟩ := I.list ha
  obtain ⟨its2, rv2, p2, _⟩ := I.list hb
  have l0 := congrArg List.length hkk
  simp only [List.length_map] at l0
  have l1 := rv.length
  have l2 := rv2.length
  rw [List.length_map] at l1 l2
  have hsz : its.toArray.size = its2.toArray.size := by
    rw [List.size_toArray, List.size_toArray]
    omega
  refine PySem.W.eq_listsT (n := 2) (e := fun j => decide ((ks[j]?).map (·.2) = (ls[j]?).map (·.2))) p1.isList p2.isList hsz (fun j h1 h2 => ?_) (by omega) ?_
  · have j1 : j < ks.length := by rw [l1]; simpa using h1
    have j2 : j < ls.length := by omega
    have g1 : ks[j]? = some ks[j] := List.getElem?_eq_getElem j1
    have g2 : ls[j]? = some ls[j] := List.getElem?_eq_getElem j2
    obtain ⟨w1, e1, r1⟩ := rv.get (i := j) (x := V.ref ks[j].1) (by rw [List.getElem?_map, g1]; rfl)
    obtain ⟨w2, e2, r2⟩ := rv2.get (i := j) (x := V.ref ls[j].1) (by rw [List.getElem?_map, g2]; rfl)
    have hi1 : its.toArray[j] = .ref ks[j].1 := by
      have : its[j]? = some its.toArray[j] := by simp
      rw [this] at e1
      rw [Option.some.inj e1]
      exact r1
    have hi2 : its2.toArray[j] = .ref ls[j].1 := by
      have : its2[j]? = some its2.toArray[j] := by simp
      rw [this] at e2
      rw [Option.some.inj e2]
      exact r2
    rw [hi1, hi2, g1, g2]
    have hk : ks[j].2.map (·.1) = ls[j].2.map (·.1) := by
      have h3 : (ks.map (fun e => e.2.map (·.1)))[j]? = (ls.map (fun e => e.2.map (·.1)))[j]? := by rw [hkk]
      rw [List.getElem?_map, List.getElem?_map, g1, g2] at h3
      exact Option.some.inj h3
    have t := eqTree_dv I (hks _ (List.getElem_mem j1)) (hls _ (List.getElem_mem j2)) hk (hnd _ (List.getElem_mem j1))
    have e : decide (Option.map (·.2) (some ks[j]) = Option.map (·.2) (some ls[j])) = decide (ks[j].2 = ls[j].2) := by
      by_cases z : ks[j].2 = ls[j].2
      · rw [decide_eq_true z]
        simp [z]
      · rw [decide_eq_false z]
        simp [z]
    rw [e]
    exact t
  · have e : ((List.range its.toArray.size).all fun j => decide ((ks[j]?).map (·.2) = (ls[j]?).map (·.2))) = decide (ks.map (·.2) = ls.map (·.2)) := by
      by_cases z : ks.map (·.2) = ls.map (·.2)
      · rw [decide_eq_true z, List.all_eq_true]
        intro j _
        have h3 : (ks.map (·.2))[j]? = (ls.map (·.2))[j]? := by rw [z]
        rw [List.getElem?_map, List.getElem?_map] at h3
        exact decide_eq_true h3
      · rw [decide_eq_false z]
        cases hz : (List.range its.toArray.size).all fun j => decide ((ks[j]?).map (·.2) = (ls[j]?).map (·.2)) with
        | false => rfl
        | true =>
          refine absurd (List.ext_getElem? fun j => ?_) z
          rw [List.getElem?_map, List.getElem?_map]
          by_cases hj : j < ks.length
          · exact of_decide_eq_true (List.all_eq_true.mp hz j (List.mem_range.mpr (by simpa [← l1] using hj)))
          · rw [List.getElem?_eq_none (by omega), List.getElem?_eq_none (by omega)]
    rw [e]
    exact ⟨.bl _, H, I, rfl, q⟩
end
end K80
end
section
set_option Elab.async false
set_option linter.all false
set_option maxRecDepth 100000
set_option maxHeartbeats 4000000
namespace K80
open PySem PySem.Spec PyProof.Rows L2
/-! ### dict comprehensions of one and of two clauses, keys texts or pairs: as HandS.DictComp and HandS.Comp have them, turned to any store that DPut tells -/
theorem d_dictSet2 {X : Cx} {pins : List (Addr × Obj)} {σ : L2.St} {H H' : Hp} {s : Shared} {E : Value → Shared → Prop} {a : Addr} {y v : V} {u r : Value} {Q : Unit → Shared → Prop} (hu : X.A.units + 1 < cLine) (I : Inv X pins σ H s) (g : DPut H a y v H') (ry : RelV y u) (rv : RelV v r)
    (h : ∀ s', Inv X pins σ H' s' → Q () s') : wpAny (model X.prog X.w) X.A (dictSet a u r) Q E s := by
  rcases g with ⟨kvs, k, e, ey, l, eH⟩ | ⟨kvs, k, b, e, ey, eb, l, eH⟩
  · subst ey eH
    exact d_dictSet I e l ry rv h
  · subst ey eH
    cases (show u = Value.ref b from ry)
    obtain ⟨z, hd, xs, rel, dd⟩ := dt_of I.hok e
    have hz : xs.length ≤ sizeLine := by rw [← Paired.length rel]; exact z
    have hl : (putK kvs k v).length ≤ sizeLine := by have := length_putK kvs k v; omega
    refine wpAny_dictSet_heap (hsz := hz) (show (tupleKind (mixKind X.prog X.w)).room X.A from (by have := hu; show X.A.units < cLine; omega)) (key_of I.hok eb) dd fun h' dd' hs => h _ ?_
    obtain ⟨q, es, ep, hq, h2, h3, h4, _, h5⟩ := dd'
    refine d_write I (by rw [e]; exact True.intro) hs ⟨q, hq⟩ ⟨hl, hd, _, (rel.put k eb rv).keeps fun c ys ec => ?_, q, es, ep, hq, h2, h3, h4, h5⟩
    rw [upd_ne (ne_of ec e (fun z => nomatch z))]
    exact ec
section
variable {X : Cx}
/-- {k: v for target in iter if ..}, keys ints or texts: D the new dict -/
def tDcG (o0 : HO) (wi : TI) (g : TG) (tt : TT) (tk tv : TE) (vs : List Nat) : TE := fun σ H Q => wi σ H fun J H1 => ∀ D, H1 D = none → ∃ W : Nat → Nat → Hp → Prop, (∃ m, W 0 m (upd H1 D o0)) ∧ ∀ i m H, W i m H →
  (J.stop i H ∧ Q (.ref D) H) ∨ (J.go i H ∧ ∃ Nx : Hp → Prop, (∀ H', Nx H' → ∃ m', m' < m ∧ W (i + 1) m' H') ∧ ∀ x H', J.yld i H x H' → g x (wipe σ vs) H' fun σ2 H2 => wipe σ2 vs = wipe σ vs ∧ tt σ2 H2 fun b H3 =>
    if b = true then tk σ2 H3 fun y H4 => tv σ2 H4 fun z H5 => ∃ H6, DPut H5 D y z H6 ∧ Nx H6 else Nx H3)
theorem dcG_core {pins : List (Addr × Obj)} {s : Shared} {σ : L2.St} {H : Hp} {Q : VK} {kx vx tg iter : Expr} {ifs : List Expr} {scope : Scope} {own : List (Str × Nat)} {pos pos' : Pos} {wi : TI} {g : TG} {tt : TT} {tk tv : TE} {use : Option (Value → Sem Unit)} {Qf : Value → Shared → Prop}
    {o0 : HO} (e0 : ∀ (H : Hp) (h : Heap), sysModules < h.objs.size → ObjOk X.prog X.w H (h.push { cls := .type "dict", data := .dict #[] }) h.objs.size o0) (hu : X.A.units + 1 < cLine) (hc : X.calm = true) (hN : X.N.Nodup) (I : Inv X pins σ H s) (hi : PI X tg iter wi) (ok : BlkOk X.N X.env.scope scope own)
    (hg : ∀ (s : Shared) (H : Hp) (C : Addr) (cl : List (Str × Addr)) (fp : List Addr), PG (X.blk s H scope (compEnvC scope cl C X.env) fp) tg g) (ht : ∀ (s : Shared) (H : Hp) (C : Addr) (cl : List (Str × Addr)) (fp : List Addr), PTs (X.blk s H scope (compEnvC scope cl C X.env) fp) ifs tt)
    (hk : ∀ (s : Shared) (H : Hp) (C : Addr) (cl : List (Str × Addr)) (fp : List Addr), PE (X.blk s H scope (compEnvC scope cl C X.env) fp) kx tk)
    (he : ∀ (s : Shared) (H : Hp) (C : Addr) (cl : List (Str × Addr)) (fp : List Addr), PE (X.blk s H scope (compEnvC scope cl C X.env) fp) vx tv) (hs : ∀ x, foldedSetIterable iter X.env x = pure x)
    (h : tDcG o0 wi g tt tk tv (own.map (·.2)) σ H Q)
    (hRR : ∀ D C s' m H', Inv X pins σ H' s' → Q (.ref D) H' → s'.heap.Ns C m → FpOk X pins H' C → compPost (model X.prog X.w) X.A X.xe use Qf (.ref D) C (.ok .next) s') :
    wpAny (model X.prog X.w) X.A (comprehension (.DictComp kx vx [⟨tg, iter, ifs, 0⟩] scope pos) scope X.env pos' newDict false (eval iter X.env) use) Qf X.xe s := by
  have hfree : ∀ y ∈ scope.names, y.2 = .free → ∃ c, X.env.cells.lookup y.1 = some c := fun y hy e => by
    rcases ok.free y hy e with k | k
    · exact I.ok.has _ (.inl k)
    · exact I.ok.has _ (.inr k)
  refine wpAny_comprehension_free (use := use) rfl hs (closure_ok hfree) ok.kind (fun y hy e => by rw [ok.uniq y hy, e])
    (thn (hi.run pins s σ H _ I h) fun xv s1 hx => thn hx fun itv s2 h2 => ?_)
  obtain ⟨it, fp, tn, J, H2, e, I2, T, st2, f2, q⟩ := h2
  subst e
  refine wpAny_newObj_type (newEnv_comp ?_)
  generalize hD : s2.heap.objs.size = D
  have hDn : H2 D = none := I2.hok.fresh (Nat.le_of_eq hD)
  obtain ⟨W, ⟨m0, w0⟩, turn⟩ := q D hDn
  -- the new list
  generalize hs3 : ({ s2 with heap := s2.heap.push { cls := .type "dict", data := .dict #[] } } : Shared) = s3
  have I3 : Inv X pins σ (upd H2 D o0) s3 := by
    rw [← hs3]
    refine I2.laid (t' := s2.toks) (fun b o e => Heap.get?_push_of_some _ e) (Nat.le_of_eq hD) ?_
    rw [← hD]
    exact e0 _ s2.heap I2.big
  have h3 : s3.heap = s2.heap.push { cls := .type "dict", data := .dict #[] } := by rw [← hs3]
  have sz : ∀ b ∈ fp, b < s2.heap.objs.size := fun b hb => by
    obtain ⟨o, e, _⟩ := T.obj _ _ st2 b hb
    exact Heap.lt_size e
  have f3 : ∀ b ∈ fp, FpOk X pins (upd H2 D o0) b ∧ b < s3.heap.objs.size := fun b hb => by
    have hlt := sz b hb
    refine ⟨⟨?_, (f2 b hb).2⟩, by rw [h3, Heap.size_push]; exact Nat.lt_succ_of_lt hlt⟩
    rw [upd_ne (by rw [← hD]; exact Nat.ne_of_lt hlt)]
    exact (f2 b hb).1
  have st3 : tn 0 s3.heap := T.keep _ _ _ st2 fun b _ o e => by rw [h3]; exact Heap.get?_push_of_some _ e
  have I4 := block_start I3 ok hN f3
  have pg := hg s3 (upd H2 D o0) s3.heap.objs.size (cellsFrom (s3.heap.objs.size + 1) scope.names (cloFrom X.env.cells scope.names [])) fp
  have pt := ht s3 (upd H2 D o0) s3.heap.objs.size (cellsFrom (s3.heap.objs.size + 1) scope.names (cloFrom X.env.cells scope.names [])) fp
  have pk := hk s3 (upd H2 D o0) s3.heap.objs.size (cellsFrom (s3.heap.objs.size + 1) scope.names (cloFrom X.env.cells scope.names [])) fp
  have pe := he s3 (upd H2 D o0) s3.heap.objs.size (cellsFrom (s3.heap.objs.size + 1) scope.names (cloFrom X.env.cells scope.names [])) fp
  show codeAny _ _ (.compStart (.DictComp kx vx [⟨tg, iter, ifs, 0⟩] scope pos) 0 (.ref it) (.ref D) (compEnvC scope (cellsFrom (s3.heap.objs.size + 1) scope.names (cloFrom X.env.cells scope.names [])) s3.heap.objs.size X.env)) (compPost (model X.prog X.w) X.A X.xe use Qf (.ref D) s3.heap.objs.size) { s3 with heap := pushCells (s3.heap.push { cls := .type "dict", data := .dict #[] }) scope.names }
  have nfp : ∀ b ∈ fp, (upd H2 D o0) b = none := fun b hb => (f3 b hb).1.1
  generalize hce : compEnvC scope (cellsFrom (s3.heap.objs.size + 1) scope.names (cloFrom X.env.cells scope.names [])) s3.heap.objs.size X.env = ce at I4 pg pt pk pe ⊢
  have cL : ce.locals = s3.heap.objs.size := by subst hce; rfl
  generalize hH3 : upd H2 D o0 = H3 at I3 I4 pg pt pk pe w0 nfp f3
  generalize hs4 : ({ s3 with heap := pushCells (s3.heap.push { cls := .type "dict", data := .dict #[] }) scope.names } : Shared) = s4 at I4 ⊢
  have st4 : tn 0 s4.heap := T.keep _ _ _ st3 fun b _ o e => by rw [← hs4]; exact pushCells_keeps _ _ _ _ (Heap.get?_push_of_some _ e)
  have stat : ∀ {σ' : L2.St} {H' : Hp} {s' : Shared}, Inv (X.blk s3 H3 scope ce fp) [] σ' H' s' → (∀ b ∈ fp, H' b = none) → ∀ b ∈ fp, FpOk (X.blk s3 H3 scope ce fp) [] H' b := fun {σ' H' s'} I' hn b hb =>
    ⟨hn b hb, (I'.ok.exf b hb).1, I'.ok.exfs b hb, .inl hb, fun x c e => (I'.ok.exf b hb).2 x c e, fun p hp => absurd (show p ∈ ([] : List (Addr × Obj)) ++ [] from hp) (by simp)⟩
  have loop : codeAny (model X.prog X.w) X.A (.compLoop (.DictComp kx vx [⟨tg, iter, ifs, 0⟩] scope pos) 0 (.ref it) (.ref D) ce) (compPost (model X.prog X.w) X.A X.xe use Qf (.ref D) s3.heap.objs.size) s4 := by
    refine compLoop_anyD (fun n s' => ∃ i H', Inv (X.blk s3 H3 scope ce fp) [] (wipe σ (own.map (·.2))) H' s' ∧ tn i s'.heap ∧ (∀ b ∈ fp, H' b = none) ∧ W i n H') ?_ m0 ⟨0, H3, I4, st4, nfp, w0⟩
    rintro n s5 ⟨i, H5, I5, st5, n5, w5⟩
    rcases turn i n H5 w5 with ⟨stop, qq⟩ | ⟨go, Nx, hNx, step⟩
    · have td := T.done (X.blk s3 H3 scope ce fp) rfl rfl rfl hc i [] s5 _ H5 (fun _ _ => False) I5 (stat I5 n5) st5 stop
      refine thnF td fun r s6 ⟨hr, I6⟩ => ?_
      subst hr
      -- back in the def's context
      have I7 : Inv X pins σ H5 s6 := I3.call' (ch := fp) I6.os I6.base I6.hok I6.bare fun b hb => ⟨(f3 b hb).1.2.2.2.1, (f3 b hb).1.2.1, (f3 b hb).1.2.2.2.2.1, (f3 b hb).1.2.2.2.2.2⟩
      have nC : H5 s3.heap.objs.size = none := by
        have z : H5 ce.locals = none := I6.free
        rw [cL] at z
        exact z
      obtain ⟨m, hn, _⟩ := I6.loc
      have hn : s6.heap.Ns ce.locals m := hn
      rw [cL] at hn
      exact hRR D s3.heap.objs.size s6 m H5 I7 qq hn (I3.fpOk (Nat.le_refl _) nC)
    · have ti := T.item (X.blk s3 H3 scope ce fp) rfl rfl rfl hc i [] s5 _ H5 (fun _ _ => False) I5 (stat I5 n5) st5 go
      refine thnF ti fun r s6 ⟨u, hr, h6⟩ => ?_
      subst hr
      refine thnF h6 fun _ s7 ⟨x, H7, I7, r7, y7, st7, n7⟩ => ?_
      have I7' := I7.pinned (stat I7 n7) (T.obj _ _ st7)
      refine thnF (pg.run _ s7 _ H7 x u _ I7' r7 (step x H7 y7)) fun _ s8 ⟨σ8, H8, I8, hw8, q8⟩ => ?_
      refine thnF (pt.run _ s8 σ8 H8 _ I8 q8) fun b s9 ⟨H9, I9, q9⟩ => ?_
      -- the turn's end
      have fin : ∀ {s' : Shared} {H' : Hp}, Inv (X.blk s3 H3 scope ce fp) ([] ++ pinsAt fp s7.heap) σ8 H' s' → Nx H' → ∃ m, m < n ∧ ∃ i H', Inv (X.blk s3 H3 scope ce fp) [] (wipe σ (own.map (·.2))) H' s' ∧ tn i s'.heap ∧ (∀ b ∈ fp, H' b = none) ∧ W i m H' := fun {s' H'} I' nx => by
        obtain ⟨m', hm, w'⟩ := hNx H' nx
        have pin' : ∀ b ∈ fp, ∀ o, s7.heap.get? b = some o → s'.heap.get? b = some o ∧ H' b = none := fun b hb o e =>
          let z := I'.pin (b, o) (List.mem_append_right _ (List.mem_append_right _ (mem_pinsAt hb e)))
          ⟨z.1, z.2.1⟩
        have hl : (wipe σ (own.map (·.2))).length = σ8.length := by rw [← hw8, wipe_length]
        refine ⟨m', hm, i + 1, H', (I'.unpinned (pins := [])).weak hl (fun j v e => ?_), T.keep _ _ _ st7 fun b hb o e => (pin' b hb o e).1, fun b hb => ?_, w'⟩
        · rw [← hw8] at e
          exact (wipe_some e).1
        · obtain ⟨o, e, _⟩ := T.obj _ _ st7 b hb
          exact (pin' b hb o e).2
      cases b with
      | false =>
        simp only [Bool.false_eq_true, if_false] at q9 ⊢
        exact fin I9 q9
      | true =>
        simp only [if_true] at q9 ⊢
        refine thnF (pk.run _ s9 σ8 H9 _ I9 q9) fun z s10 ⟨yk, H10, I10, r10, q10⟩ => ?_
        refine thnF (pe.run _ s10 σ8 H10 _ I10 q10) fun z2 s11 ⟨yv, H11, I11, r11, H12, g12, nx⟩ => ?_
        exact d_dictSet2 (X := X.blk s3 H3 scope ce fp) hu I11 g12 r10 r11 fun s12 I12 => fin I12 nx
  exact codeAny_compStart_dict loop (T.self X.A 0 _ _ _ st4 loop)
/-- as a value -/
theorem pe_dcG {kx vx tg iter : Expr} {ifs : List Expr} {scope : Scope} {own : List (Str × Nat)} {pos : Pos} {wi : TI} {g : TG} {tt : TT} {tk tv : TE} {o0 : HO} (e0 : ∀ (H : Hp) (h : Heap), sysModules < h.objs.size → ObjOk X.prog X.w H (h.push { cls := .type "dict", data := .dict #[] }) h.objs.size o0) (hu : X.A.units + 1 < cLine) (hc : X.calm = true) (hN : X.N.Nodup) (hi : PI X tg iter wi) (ok : BlkOk X.N X.env.scope scope own)
    (hg : ∀ (s : Shared) (H : Hp) (C : Addr) (cl : List (Str × Addr)) (fp : List Addr), PG (X.blk s H scope (compEnvC scope cl C X.env) fp) tg g) (ht : ∀ (s : Shared) (H : Hp) (C : Addr) (cl : List (Str × Addr)) (fp : List Addr), PTs (X.blk s H scope (compEnvC scope cl C X.env) fp) ifs tt)
    (hk : ∀ (s : Shared) (H : Hp) (C : Addr) (cl : List (Str × Addr)) (fp : List Addr), PE (X.blk s H scope (compEnvC scope cl C X.env) fp) kx tk)
    (he : ∀ (s : Shared) (H : Hp) (C : Addr) (cl : List (Str × Addr)) (fp : List Addr), PE (X.blk s H scope (compEnvC scope cl C X.env) fp) vx tv) (hs : ∀ x, foldedSetIterable iter X.env x = pure x := by intro _; rfl) :
    PE X (.DictComp kx vx [⟨tg, iter, ifs, 0⟩] scope pos) (tDcG o0 wi g tt tk tv (own.map (·.2))) := by
  refine ⟨fun pins s σ H Q I h => ?_⟩
  rw [arm_eval_DictComp]
  refine dcG_core e0 hu hc hN I hi ok hg ht hk he hs h fun D C s' m H' I' q hn f => ⟨m, hn, fun h'' sb => ?_⟩
  obtain ⟨f0, f1, f2, f3, f4, f5⟩ := f
  exact ⟨.ref D, H', I'.turned (t' := s'.toks) (fun b o hb e => (sb.2 b hb).trans e) f0 f1 f3 f4 f5, rfl, q⟩
end
theorem compTurnD_out (kx vx t0 i0 t1 i1 : Expr) (ifs0 ifs1 : List Expr) (scope : Scope) (pos : Pos) (it acc : Value) (env : Env) :
    compTurn (.DictComp kx vx [⟨t0, i0, ifs0, 0⟩, ⟨t1, i1, ifs1, 0⟩] scope pos) 0 it acc env = (do
      standAt i0.pos
      match ← pyNext it with
      | none => pure (.done .next)
      | some v =>
        letOwnedTupleGo t0 it v
        assign t0 env v
        let mut ok := true
        for c in ifs0 do
          if ok then ok ← isTrue c env (eval c env)
        if ok then
          let x ← eval i1 env
          standAt i1.pos
          let x ← foldedSetIterable i1 env x
          let _ ← runOwn (.compStart (.DictComp kx vx [⟨t0, i0, ifs0, 0⟩, ⟨t1, i1, ifs1, 0⟩] scope pos) 1 (← holding [x] (pyIter x)) acc env) env
        again (.compLoop (.DictComp kx vx [⟨t0, i0, ifs0, 0⟩, ⟨t1, i1, ifs1, 0⟩] scope pos) 0 it acc env)) := by rfl
theorem compTurnD_in (kx vx t0 i0 t1 i1 : Expr) (ifs0 ifs1 : List Expr) (scope : Scope) (pos : Pos) (it : Value) (D : Addr) (env : Env) :
    compTurn (.DictComp kx vx [⟨t0, i0, ifs0, 0⟩, ⟨t1, i1, ifs1, 0⟩] scope pos) 1 it (.ref D) env = (do
      standAt i1.pos
      match ← pyNext it with
      | none => pure (.done .next)
      | some v =>
        letOwnedTupleGo t1 it v
        assign t1 env v
        let mut ok := true
        for c in ifs1 do
          if ok then ok ← isTrue c env (eval c env)
        if ok then
          (do
            let kv ← eval kx env
            let vv ← holding [kv] (eval vx env)
            standAt { kx.pos with endLine := vx.pos.endLine, endCol := vx.pos.endCol }
            holding [kv, vv] (dictSet D kv vv))
        again (.compLoop (.DictComp kx vx [⟨t0, i0, ifs0, 0⟩, ⟨t1, i1, ifs1, 0⟩] scope pos) 1 it (.ref D) env)) := by rfl

section
variable {prog : Program} {w : World} {A : Around} {R : Result → Shared → Prop} {s : Shared} {kx vx t0 i0 t1 i1 : Expr} {ifs0 ifs1 : List Expr} {scope : Scope} {pos : Pos} {it acc : Value} {env : Env}
/-- the loop of the first clause -/
theorem compLoopD_out (hs : ∀ x, foldedSetIterable i1 env x = pure x) (I : Nat → Shared → Prop)
    (turn : ∀ n s, I n s → wpAny (model prog w) A (pyNext it) (fun r s₁ => match r with
      | none => R (.ok .next) s₁
      | some v => wpAny (model prog w) A (letOwnedTupleGo t0 it v) (fun _ s₁' => wpAny (model prog w) A (assign t0 env v) (fun _ s₂ =>
          wpAny (model prog w) A (forIn ifs0 true fun c r => if r = true then do let ok ← isTrue c env (eval c env); pure (ForInStep.yield ok) else pure (ForInStep.yield r)) (fun ok s₃ =>
            if ok = true then wpAny (model prog w) A (eval i1 env) (fun x s₄ => wpAny (model prog w) A (pyIter x) (fun it1 s₅ =>
              codeAny (model prog w) A (.compStart (.DictComp kx vx [⟨t0, i0, ifs0, 0⟩, ⟨t1, i1, ifs1, 0⟩] scope pos) 1 it1 acc env) (fun r s' => match r with
                | .ok _ => ∃ m, m < n ∧ I m s'
                | .error _ => False) s₅) (notedBy (model prog w) A env fun e s' => R (.error e) s') s₄) (notedBy (model prog w) A env fun e s' => R (.error e) s') s₃
            else ∃ m, m < n ∧ I m s₃) (notedBy (model prog w) A env fun e s' => R (.error e) s') s₂) (notedBy (model prog w) A env fun e s' => R (.error e) s') s₁') (notedBy (model prog w) A env fun e s' => R (.error e) s') s₁) (notedBy (model prog w) A env fun e s' => R (.error e) s') s)
    (n : Nat) (h : I n s) :
    codeAny (model prog w) A (.compLoop (.DictComp kx vx [⟨t0, i0, ifs0, 0⟩, ⟨t1, i1, ifs1, 0⟩] scope pos) 0 it acc env) R s := by
  refine codeAny_loop rfl I (fun n s hI => ?_) n h
  show wpAny _ A ((compTurn (.DictComp kx vx [⟨t0, i0, ifs0, 0⟩, ⟨t1, i1, ifs1, 0⟩] scope pos) 0 it acc env).onRaise (fun x => do noteFrame x env; theTreesLotGoes x)) _ _ s
  refine wpAny_noted ?_
  rw [compTurnD_out]
  refine wpAny_bind (wpAny_standAt (wpAny_bind (wpAny_mono (turn n s hI) (fun r s₁ h₁ => ?_) fun _ _ h' => h')))
  cases r with
  | none => exact wpAny_pure h₁
  | some v =>
    refine wpAny_bind (wpAny_mono h₁ (fun _ s₁' h₁' => ?_) fun _ _ h' => h')
    refine wpAny_bind (wpAny_mono h₁' (fun _ s₂ h₂ => wpAny_bind (wpAny_mono h₂ (fun ok s₃ h₃ => ?_) fun _ _ h' => h')) fun _ _ h' => h')
    cases ok with
    | false => exact wpAny_pure ⟨rfl, h₃⟩
    | true =>
      refine wpAny_bind (wpAny_mono h₃ (fun x s₄ h₄ => ?_) fun _ _ h' => h')
      refine wpAny_bind (wpAny_standAt (wpAny_bind (wpAny_of_eq (hs x) (wpAny_bind (wpAny_holding (wpAny_mono h₄ (fun it1 s₅ h₅ => ?_) fun _ _ h' => h'))))))
      refine wpAny_bind (wpAny_runOwn ?_)
      rw [Around.mark_none]
      refine codeAny_mono h₅ fun r s' hr => ?_
      cases r with
      | ok f =>
        first
          | exact wpAny_pure ⟨rfl, hr⟩
          | exact wpAny_bind (wpAny_pure (wpAny_pure ⟨rfl, hr⟩))
      | error e => exact hr.elim
/-- the loop of the second -/
theorem compLoopD_in {D : Addr} (I : Nat → Shared → Prop)
    (turn : ∀ n s, I n s → wpAny (model prog w) A (pyNext it) (fun r s₁ => match r with
      | none => R (.ok .next) s₁
      | some v => wpAny (model prog w) A (letOwnedTupleGo t1 it v) (fun _ s₁' => wpAny (model prog w) A (assign t1 env v) (fun _ s₂ =>
          wpAny (model prog w) A (forIn ifs1 true fun c r => if r = true then do let ok ← isTrue c env (eval c env); pure (ForInStep.yield ok) else pure (ForInStep.yield r)) (fun ok s₃ =>
            if ok = true then wpAny (model prog w) A (eval kx env) (fun kv s₄ => wpAny (model prog w) A (eval vx env) (fun vv s₅ =>
              wpAny (model prog w) A (dictSet D kv vv) (fun _ s₆ => ∃ m, m < n ∧ I m s₆) (notedBy (model prog w) A env fun e s' => R (.error e) s') s₅) (notedBy (model prog w) A env fun e s' => R (.error e) s') s₄) (notedBy (model prog w) A env fun e s' => R (.error e) s') s₃
            else ∃ m, m < n ∧ I m s₃) (notedBy (model prog w) A env fun e s' => R (.error e) s') s₂) (notedBy (model prog w) A env fun e s' => R (.error e) s') s₁') (notedBy (model prog w) A env fun e s' => R (.error e) s') s₁) (notedBy (model prog w) A env fun e s' => R (.error e) s') s)
    (n : Nat) (h : I n s) :
    codeAny (model prog w) A (.compLoop (.DictComp kx vx [⟨t0, i0, ifs0, 0⟩, ⟨t1, i1, ifs1, 0⟩] scope pos) 1 it (.ref D) env) R s := by
  refine codeAny_loop rfl I (fun n s hI => ?_) n h
  show wpAny _ A ((compTurn (.DictComp kx vx [⟨t0, i0, ifs0, 0⟩, ⟨t1, i1, ifs1, 0⟩] scope pos) 1 it (.ref D) env).onRaise (fun x => do noteFrame x env; theTreesLotGoes x)) _ _ s
  refine wpAny_noted ?_
  rw [compTurnD_in]
  refine wpAny_bind (wpAny_standAt (wpAny_bind (wpAny_mono (turn n s hI) (fun r s₁ h₁ => ?_) fun _ _ h' => h')))
  cases r with
  | none => exact wpAny_pure h₁
  | some v =>
    refine wpAny_bind (wpAny_mono h₁ (fun _ s₁' h₁' => ?_) fun _ _ h' => h')
    refine wpAny_bind (wpAny_mono h₁' (fun _ s₂ h₂ => wpAny_bind (wpAny_mono h₂ (fun ok s₃ h₃ => ?_) fun _ _ h' => h')) fun _ _ h' => h')
    cases ok with
    | false => exact wpAny_pure ⟨rfl, h₃⟩
    | true =>
      exact wpAny_bind (wpAny_bind (wpAny_mono h₃ (fun kv s₄ h₄ => wpAny_bind (wpAny_holding (wpAny_mono h₄ (fun vv s₅ h₅ => wpAny_bind (wpAny_standAt (wpAny_holding (wpAny_mono h₅ (fun _ s₆ h₆ => wpAny_pure ⟨rfl, h₆⟩) fun _ _ h' => h')))) fun _ _ h' => h'))) fun _ _ h' => h'))
/-- the second clause's start -/
theorem compStartD_ok (h0 : codeAny (model prog w) A (.compLoop (.DictComp kx vx [⟨t0, i0, ifs0, 0⟩, ⟨t1, i1, ifs1, 0⟩] scope pos) 1 it acc env) R s)
    (h : wpAny (model prog w) A (pyIter it) (fun it' s' => codeAny (model prog w) A (.compLoop (.DictComp kx vx [⟨t0, i0, ifs0, 0⟩, ⟨t1, i1, ifs1, 0⟩] scope pos) 1 it' acc env) R s')
      (notedBy (model prog w) A env fun x s' => R (.error x) s') s) :
    codeAny (model prog w) A (.compStart (.DictComp kx vx [⟨t0, i0, ifs0, 0⟩, ⟨t1, i1, ifs1, 0⟩] scope pos) 1 it acc env) R s := by
  refine codeAny_of_tree ?_
  show wpAny _ _ ((compStart (.DictComp kx vx [⟨t0, i0, ifs0, 0⟩, ⟨t1, i1, ifs1, 0⟩] scope pos) 1 it acc env).onRaise (fun x => do noteFrame x env; standAt theWindowsPlace)) _ _ s
  refine wpAny_notedAt ?_
  unfold compStart
  show wpAny _ _ (ask >>= _) _ _ s
  refine wpAny_bind (wpAny_askSetting (wpAny_ite ?_))
  split
  · first
      | exact wpAny_bind (wpAny_pure (wpAny_pure (And.intro rfl h0)))
      | exact wpAny_pure (And.intro rfl h0)
  · first
      | exact wpAny_bind (wpAny_rule (wpAny_bind (wpAny_standAt (wpAny_bind (wpAny_mono h (fun it' s' h' => wpAny_pure (And.intro rfl h')) fun _ _ x => x)))))
      | (refine wpAny_bind (wpAny_rule ?_); show wpAny _ _ (standAt i1.pos >>= _) _ _ s; exact wpAny_bind (wpAny_standAt (wpAny_bind (wpAny_mono h (fun it' s' h' => wpAny_pure (And.intro rfl h')) fun _ _ x => x))))
end

section
variable {X : Cx}
/-- [elt for tg in iter if .. for tg1 in iter1 if ..]: behind the first clause's store and tests the second source's own loop, from which Nx is reached. vs: the block's names; vs1: those of the second target -/
def tDc2 (o0 : HO) (wi : TI) (g : TG) (tt : TT) (wi1 : TI) (g1 : TG) (tt1 : TT) (tk tv : TE) (vs vs1 : List Nat) : TE := fun σ H Q => wi σ H fun J H1 => ∀ D, H1 D = none → ∃ W : Nat → Nat → Hp → Prop, (∃ m, W 0 m (upd H1 D o0)) ∧ ∀ i m H, W i m H →
  (J.stop i H ∧ Q (.ref D) H) ∨ (J.go i H ∧ ∃ Nx : Hp → Prop, (∀ H', Nx H' → ∃ m', m' < m ∧ W (i + 1) m' H') ∧ ∀ x H', J.yld i H x H' → g x (wipe σ vs) H' fun σ2 H2 => wipe σ2 vs = wipe σ vs ∧ tt σ2 H2 fun b H3 =>
    if b = true then wi1 σ2 H3 fun J1 H4 => ∃ W1 : Nat → Nat → Hp → Prop, (∃ m, W1 0 m H4) ∧ ∀ j k H, W1 j k H →
      (J1.stop j H ∧ Nx H) ∨ (J1.go j H ∧ ∃ Nx1 : Hp → Prop, (∀ H', Nx1 H' → ∃ k', k' < k ∧ W1 (j + 1) k' H') ∧ ∀ x H', J1.yld j H x H' → g1 x (wipe σ2 vs1) H' fun σ3 H5 => wipe σ3 vs1 = wipe σ2 vs1 ∧ tt1 σ3 H5 fun b H6 =>
        if b = true then tk σ3 H6 fun y H7 => tv σ3 H7 fun z H8 => ∃ H9, DPut H8 D y z H9 ∧ Nx1 H9 else Nx1 H6)
    else Nx H3)
theorem dc2_core {pins : List (Addr × Obj)} {s : Shared} {σ : L2.St} {H : Hp} {Q : VK} {kx vx tg iter tg1 iter1 : Expr} {ifs ifs1 : List Expr} {scope : Scope} {own : List (Str × Nat)} {vs1 : List Nat} {pos pos' : Pos} {wi wi1 : TI} {g g1 : TG} {tt tt1 : TT} {tk tv : TE} {use : Option (Value → Sem Unit)} {Qf : Value → Shared → Prop}
    {o0 : HO} (e0 : ∀ (H : Hp) (h : Heap), sysModules < h.objs.size → ObjOk X.prog X.w H (h.push { cls := .type "dict", data := .dict #[] }) h.objs.size o0) (hu : X.A.units + 1 < cLine) (hc : X.calm = true) (hN : X.N.Nodup) (I : Inv X pins σ H s) (hi : PI X tg iter wi) (ok : BlkOk X.N X.env.scope scope own) (hv : ∀ i ∈ vs1, i ∈ own.map (·.2))
    (hg : ∀ (s : Shared) (H : Hp) (C : Addr) (cl : List (Str × Addr)) (fp : List Addr), PG (X.blk s H scope (compEnvC scope cl C X.env) fp) tg g) (ht : ∀ (s : Shared) (H : Hp) (C : Addr) (cl : List (Str × Addr)) (fp : List Addr), PTs (X.blk s H scope (compEnvC scope cl C X.env) fp) ifs tt)
    (hk : ∀ (s : Shared) (H : Hp) (C : Addr) (cl : List (Str × Addr)) (fp : List Addr), PE (X.blk s H scope (compEnvC scope cl C X.env) fp) kx tk)
    (he : ∀ (s : Shared) (H : Hp) (C : Addr) (cl : List (Str × Addr)) (fp : List Addr), PE (X.blk s H scope (compEnvC scope cl C X.env) fp) vx tv) (hs : ∀ x, foldedSetIterable iter X.env x = pure x)
    (hi1 : ∀ (s : Shared) (H : Hp) (C : Addr) (cl : List (Str × Addr)) (fp : List Addr), PI (X.blk s H scope (compEnvC scope cl C X.env) fp) tg1 iter1 wi1)
    (hg1 : ∀ (s : Shared) (H : Hp) (C : Addr) (cl : List (Str × Addr)) (fp : List Addr), PG (X.blk s H scope (compEnvC scope cl C X.env) fp) tg1 g1)
    (ht1 : ∀ (s : Shared) (H : Hp) (C : Addr) (cl : List (Str × Addr)) (fp : List Addr), PTs (X.blk s H scope (compEnvC scope cl C X.env) fp) ifs1 tt1)
    (hs1 : ∀ env x, foldedSetIterable iter1 env x = pure x)
    (h : tDc2 o0 wi g tt wi1 g1 tt1 tk tv (own.map (·.2)) vs1 σ H Q)
    (hRR : ∀ D C s' m H', Inv X pins σ H' s' → Q (.ref D) H' → s'.heap.Ns C m → FpOk X pins H' C → compPost (model X.prog X.w) X.A X.xe use Qf (.ref D) C (.ok .next) s') :
    wpAny (model X.prog X.w) X.A (comprehension (.DictComp kx vx [⟨tg, iter, ifs, 0⟩, ⟨tg1, iter1, ifs1, 0⟩] scope pos) scope X.env pos' newDict false (eval iter X.env) use) Qf X.xe s := by
  have hfree : ∀ y ∈ scope.names, y.2 = .free → ∃ c, X.env.cells.lookup y.1 = some c := fun y hy e => by
    rcases ok.free y hy e with k | k
    · exact I.ok.has _ (.inl k)
    · exact I.ok.has _ (.inr k)
  refine wpAny_comprehension_free (use := use) rfl hs (closure_ok hfree) ok.kind (fun y hy e => by rw [ok.uniq y hy, e])
    (thn (hi.run pins s σ H _ I h) fun xv s1 hx => thn hx fun itv s2 h2 => ?_)
  obtain ⟨it, fp, tn, J, H2, e, I2, T, st2, f2, q⟩ := h2
  subst e
  refine wpAny_newObj_type (newEnv_comp ?_)
  generalize hD : s2.heap.objs.size = D
  have hDn : H2 D = none := I2.hok.fresh (Nat.le_of_eq hD)
  obtain ⟨W, ⟨m0, w0⟩, turn⟩ := q D hDn
  -- the new list
  generalize hs3 : ({ s2 with heap := s2.heap.push { cls := .type "dict", data := .dict #[] } } : Shared) = s3
  have I3 : Inv X pins σ (upd H2 D o0) s3 := by
    rw [← hs3]
    refine I2.laid (t' := s2.toks) (fun b o e => Heap.get?_push_of_some _ e) (Nat.le_of_eq hD) ?_
    rw [← hD]
    exact e0 _ s2.heap I2.big
  have h3 : s3.heap = s2.heap.push { cls := .type "dict", data := .dict #[] } := by rw [← hs3]
  have sz : ∀ b ∈ fp, b < s2.heap.objs.size := fun b hb => by
    obtain ⟨o, e, _⟩ := T.obj _ _ st2 b hb
    exact Heap.lt_size e
  have f3 : ∀ b ∈ fp, FpOk X pins (upd H2 D o0) b ∧ b < s3.heap.objs.size := fun b hb => by
    have hlt := sz b hb
    refine ⟨⟨?_, (f2 b hb).2⟩, by rw [h3, Heap.size_push]; exact Nat.lt_succ_of_lt hlt⟩
    rw [upd_ne (by rw [← hD]; exact Nat.ne_of_lt hlt)]
    exact (f2 b hb).1
  have st3 : tn 0 s3.heap := T.keep _ _ _ st2 fun b _ o e => by rw [h3]; exact Heap.get?_push_of_some _ e
  have I4 := block_start I3 ok hN f3
  have pg := hg s3 (upd H2 D o0) s3.heap.objs.size (cellsFrom (s3.heap.objs.size + 1) scope.names (cloFrom X.env.cells scope.names [])) fp
  have pt := ht s3 (upd H2 D o0) s3.heap.objs.size (cellsFrom (s3.heap.objs.size + 1) scope.names (cloFrom X.env.cells scope.names [])) fp
  have pk := hk s3 (upd H2 D o0) s3.heap.objs.size (cellsFrom (s3.heap.objs.size + 1) scope.names (cloFrom X.env.cells scope.names [])) fp
  have pe := he s3 (upd H2 D o0) s3.heap.objs.size (cellsFrom (s3.heap.objs.size + 1) scope.names (cloFrom X.env.cells scope.names [])) fp
  have pi1 := hi1 s3 (upd H2 D o0) s3.heap.objs.size (cellsFrom (s3.heap.objs.size + 1) scope.names (cloFrom X.env.cells scope.names [])) fp
  have pg1 := hg1 s3 (upd H2 D o0) s3.heap.objs.size (cellsFrom (s3.heap.objs.size + 1) scope.names (cloFrom X.env.cells scope.names [])) fp
  have pt1 := ht1 s3 (upd H2 D o0) s3.heap.objs.size (cellsFrom (s3.heap.objs.size + 1) scope.names (cloFrom X.env.cells scope.names [])) fp
  show codeAny _ _ (.compStart (.DictComp kx vx [⟨tg, iter, ifs, 0⟩, ⟨tg1, iter1, ifs1, 0⟩] scope pos) 0 (.ref it) (.ref D) (compEnvC scope (cellsFrom (s3.heap.objs.size + 1) scope.names (cloFrom X.env.cells scope.names [])) s3.heap.objs.size X.env)) (compPost (model X.prog X.w) X.A X.xe use Qf (.ref D) s3.heap.objs.size) { s3 with heap := pushCells (s3.heap.push { cls := .type "dict", data := .dict #[] }) scope.names }
  have nfp : ∀ b ∈ fp, (upd H2 D o0) b = none := fun b hb => (f3 b hb).1.1
  generalize hce : compEnvC scope (cellsFrom (s3.heap.objs.size + 1) scope.names (cloFrom X.env.cells scope.names [])) s3.heap.objs.size X.env = ce at I4 pg pt pk pe pi1 pg1 pt1 ⊢
  have cL : ce.locals = s3.heap.objs.size := by subst hce; rfl
  generalize hH3 : upd H2 D o0 = H3 at I3 I4 pg pt pk pe pi1 pg1 pt1 w0 nfp f3
  generalize hs4 : ({ s3 with heap := pushCells (s3.heap.push { cls := .type "dict", data := .dict #[] }) scope.names } : Shared) = s4 at I4 ⊢
  have st4 : tn 0 s4.heap := T.keep _ _ _ st3 fun b _ o e => by rw [← hs4]; exact pushCells_keeps _ _ _ _ (Heap.get?_push_of_some _ e)
  have stat : ∀ {σ' : L2.St} {H' : Hp} {s' : Shared}, Inv (X.blk s3 H3 scope ce fp) [] σ' H' s' → (∀ b ∈ fp, H' b = none) → ∀ b ∈ fp, FpOk (X.blk s3 H3 scope ce fp) [] H' b := fun {σ' H' s'} I' hn b hb =>
    ⟨hn b hb, (I'.ok.exf b hb).1, I'.ok.exfs b hb, .inl hb, fun x c e => (I'.ok.exf b hb).2 x c e, fun p hp => absurd (show p ∈ ([] : List (Addr × Obj)) ++ [] from hp) (by simp)⟩
  have loop : codeAny (model X.prog X.w) X.A (.compLoop (.DictComp kx vx [⟨tg, iter, ifs, 0⟩, ⟨tg1, iter1, ifs1, 0⟩] scope pos) 0 (.ref it) (.ref D) ce) (compPost (model X.prog X.w) X.A X.xe use Qf (.ref D) s3.heap.objs.size) s4 := by
    refine compLoopD_out (hs1 ce) (fun n s' => ∃ i H', Inv (X.blk s3 H3 scope ce fp) [] (wipe σ (own.map (·.2))) H' s' ∧ tn i s'.heap ∧ (∀ b ∈ fp, H' b = none) ∧ W i n H') ?_ m0 ⟨0, H3, I4, st4, nfp, w0⟩
    rintro n s5 ⟨i, H5, I5, st5, n5, w5⟩
    rcases turn i n H5 w5 with ⟨stop, qq⟩ | ⟨go, Nx, hNx, step⟩
    · have td := T.done (X.blk s3 H3 scope ce fp) rfl rfl rfl hc i [] s5 _ H5 (fun _ _ => False) I5 (stat I5 n5) st5 stop
      refine thnF td fun r s6 ⟨hr, I6⟩ => ?_
      subst hr
      -- back in the def's context
      have I7 : Inv X pins σ H5 s6 := I3.call' (ch := fp) I6.os I6.base I6.hok I6.bare fun b hb => ⟨(f3 b hb).1.2.2.2.1, (f3 b hb).1.2.1, (f3 b hb).1.2.2.2.2.1, (f3 b hb).1.2.2.2.2.2⟩
      have nC : H5 s3.heap.objs.size = none := by
        have z : H5 ce.locals = none := I6.free
        rw [cL] at z
        exact z
      obtain ⟨m, hn, _⟩ := I6.loc
      have hn : s6.heap.Ns ce.locals m := hn
      rw [cL] at hn
      exact hRR D s3.heap.objs.size s6 m H5 I7 qq hn (I3.fpOk (Nat.le_refl _) nC)
    · have ti := T.item (X.blk s3 H3 scope ce fp) rfl rfl rfl hc i [] s5 _ H5 (fun _ _ => False) I5 (stat I5 n5) st5 go
      refine thnF ti fun r s6 ⟨u, hr, h6⟩ => ?_
      subst hr
      refine thnF h6 fun _ s7 ⟨x, H7, I7, r7, y7, st7, n7⟩ => ?_
      have I7' := I7.pinned (stat I7 n7) (T.obj _ _ st7)
      refine thnF (pg.run _ s7 _ H7 x u _ I7' r7 (step x H7 y7)) fun _ s8 ⟨σ8, H8, I8, hw8, q8⟩ => ?_
      refine thnF (pt.run _ s8 σ8 H8 _ I8 q8) fun b s9 ⟨H9, I9, q9⟩ => ?_
      -- the turn's end, from any slots that know what the block knew at its start
      have fin : ∀ {σ9 : L2.St} {s' : Shared} {H' : Hp}, Inv (X.blk s3 H3 scope ce fp) ([] ++ pinsAt fp s7.heap) σ9 H' s' → (wipe σ (own.map (·.2))).length = σ9.length → (∀ (j : Nat) v, (wipe σ (own.map (·.2)))[j]? = some (some v) → σ9[j]? = some (some v)) → Nx H' →
          ∃ m, m < n ∧ ∃ i H', Inv (X.blk s3 H3 scope ce fp) [] (wipe σ (own.map (·.2))) H' s' ∧ tn i s'.heap ∧ (∀ b ∈ fp, H' b = none) ∧ W i m H' := fun {σ9 s' H'} I' hl hk nx => by
        obtain ⟨m', hm, w'⟩ := hNx H' nx
        have pin' : ∀ b ∈ fp, ∀ o, s7.heap.get? b = some o → s'.heap.get? b = some o ∧ H' b = none := fun b hb o e =>
          let z := I'.pin (b, o) (List.mem_append_right _ (List.mem_append_right _ (mem_pinsAt hb e)))
          ⟨z.1, z.2.1⟩
        refine ⟨m', hm, i + 1, H', (I'.unpinned (pins := [])).weak hl hk, T.keep _ _ _ st7 fun b hb o e => (pin' b hb o e).1, fun b hb => ?_, w'⟩
        obtain ⟨o, e, _⟩ := T.obj _ _ st7 b hb
        exact (pin' b hb o e).2
      have hl8 : (wipe σ (own.map (·.2))).length = σ8.length := by rw [← hw8, wipe_length]
      have hk8 : ∀ (j : Nat) v, (wipe σ (own.map (·.2)))[j]? = some (some v) → σ8[j]? = some (some v) := fun j v e => by
        rw [← hw8] at e
        exact (wipe_some e).1
      have hk9 : ∀ (j : Nat) v, (wipe σ (own.map (·.2)))[j]? = some (some v) → (wipe σ8 vs1)[j]? = some (some v) := fun j v e => by
        rw [← hw8] at e
        obtain ⟨e1, e2⟩ := wipe_some e
        rw [wipe_out fun z => e2 (hv j z)]
        exact e1
      cases b with
      | false =>
        simp only [Bool.false_eq_true, if_false] at q9 ⊢
        exact fin I9 hl8 hk8 q9
      | true =>
        simp only [if_true] at q9 ⊢
        refine thnF (pi1.run _ s9 σ8 H9 _ I9 q9) fun xv s10 hx => thnF hx fun itv s11 h11 => ?_
        obtain ⟨it1, fp1, tn1, J1, H11, e1, I11, T1, st11, f11, W1, ⟨m1, w1⟩, turn1⟩ := h11
        subst e1
        -- the inner loop
        have stat1 : ∀ {H' : Hp}, (∀ b ∈ fp1, H' b = none) → ∀ b ∈ fp1, FpOk (X.blk s3 H3 scope ce fp) ([] ++ pinsAt fp s7.heap) H' b := fun hn b hb => ⟨hn b hb, (f11 b hb).2⟩
        have loop1 : codeAny (model X.prog X.w) X.A (.compLoop (.DictComp kx vx [⟨tg, iter, ifs, 0⟩, ⟨tg1, iter1, ifs1, 0⟩] scope pos) 1 (.ref it1) (.ref D) ce)
            (fun r s' => match r with
              | .ok _ => ∃ m, m < n ∧ ∃ i H', Inv (X.blk s3 H3 scope ce fp) [] (wipe σ (own.map (·.2))) H' s' ∧ tn i s'.heap ∧ (∀ b ∈ fp, H' b = none) ∧ W i m H'
              | .error _ => False) s11 := by
          refine compLoopD_in (fun k s' => ∃ j H', Inv (X.blk s3 H3 scope ce fp) ([] ++ pinsAt fp s7.heap) (wipe σ8 vs1) H' s' ∧ tn1 j s'.heap ∧ (∀ b ∈ fp1, H' b = none) ∧ W1 j k H') ?_ m1 ⟨0, H11, I11.weak (wipe_length _ _) (fun j v e => (wipe_some e).1), st11, fun b hb => (f11 b hb).1, w1⟩
          rintro k s12 ⟨j, H12, I12, st12, n12, w12⟩
          rcases turn1 j k H12 w12 with ⟨stop1, nx1⟩ | ⟨go1, Nx1, hNx1, step1⟩
          · refine thnF (T1.done (X.blk s3 H3 scope ce fp) rfl rfl rfl hc j _ s12 (wipe σ8 vs1) H12 (fun _ _ => False) I12 (stat1 n12) st12 stop1) fun r s13 ⟨hr, I13⟩ => ?_
            subst hr
            exact fin I13 (hl8.trans (wipe_length σ8 vs1).symm) hk9 nx1
          · refine thnF (T1.item (X.blk s3 H3 scope ce fp) rfl rfl rfl hc j _ s12 (wipe σ8 vs1) H12 (fun _ _ => False) I12 (stat1 n12) st12 go1) fun r s13 ⟨u1, hr, h13⟩ => ?_
            subst hr
            refine thnF h13 fun _ s14 ⟨x1, H14, I14, r14, y14, st14, n14⟩ => ?_
            have I14' := I14.pinned (stat1 n14) (T1.obj _ _ st14)
            refine thnF (pg1.run _ s14 (wipe σ8 vs1) H14 x1 u1 _ I14' r14 (step1 x1 H14 y14)) fun _ s15 ⟨σ15, H15, I15, hw15, q15⟩ => ?_
            refine thnF (pt1.run _ s15 σ15 H15 _ I15 q15) fun b1 s16 ⟨H16, I16, q16⟩ => ?_
            have fin1 : ∀ {s' : Shared} {H' : Hp}, Inv (X.blk s3 H3 scope ce fp) (([] ++ pinsAt fp s7.heap) ++ pinsAt fp1 s14.heap) σ15 H' s' → Nx1 H' → ∃ m, m < k ∧ ∃ j H', Inv (X.blk s3 H3 scope ce fp) ([] ++ pinsAt fp s7.heap) (wipe σ8 vs1) H' s' ∧ tn1 j s'.heap ∧ (∀ b ∈ fp1, H' b = none) ∧ W1 j m H' := fun {s' H'} I' nx => by
              obtain ⟨m', hm, w'⟩ := hNx1 H' nx
              have pin' : ∀ b ∈ fp1, ∀ o, s14.heap.get? b = some o → s'.heap.get? b = some o ∧ H' b = none := fun b hb o e =>
                let z := I'.pin (b, o) (List.mem_append_right _ (List.mem_append_right _ (mem_pinsAt hb e)))
                ⟨z.1, z.2.1⟩
              refine ⟨m', hm, j + 1, H', I'.unpinned.weak (by rw [← hw15, wipe_length]) (fun j v e => by rw [← hw15] at e; exact (wipe_some e).1), T1.keep _ _ _ st14 fun b hb o e => (pin' b hb o e).1, fun b hb => ?_, w'⟩
              obtain ⟨o, e, _⟩ := T1.obj _ _ st14 b hb
              exact (pin' b hb o e).2
            cases b1 with
            | false =>
              simp only [Bool.false_eq_true, if_false] at q16 ⊢
              exact fin1 I16 q16
            | true =>
              simp only [if_true] at q16 ⊢
              refine thnF (pk.run _ s16 σ15 H16 _ I16 q16) fun z s17 ⟨yk, H17, I17, r17, q17⟩ => ?_
              refine thnF (pe.run _ s17 σ15 H17 _ I17 q17) fun z2 s18 ⟨yv, H18, I18, r18, H19, g19, nx⟩ => ?_
              exact d_dictSet2 (X := X.blk s3 H3 scope ce fp) hu I18 g19 r17 r18 fun s19 I19 => fin1 I19 nx
        exact compStartD_ok loop1 (T1.self X.A 0 _ _ _ st11 loop1)
  exact codeAny_compStart_dict loop (T.self X.A 0 _ _ _ st4 loop)
/-- as a value -/
theorem pe_dc2 {kx vx tg iter tg1 iter1 : Expr} {ifs ifs1 : List Expr} {scope : Scope} {own : List (Str × Nat)} {vs1 : List Nat} {pos : Pos} {wi wi1 : TI} {g g1 : TG} {tt tt1 : TT} {tk tv : TE} {o0 : HO} (e0 : ∀ (H : Hp) (h : Heap), sysModules < h.objs.size → ObjOk X.prog X.w H (h.push { cls := .type "dict", data := .dict #[] }) h.objs.size o0) (hu : X.A.units + 1 < cLine) (hc : X.calm = true) (hN : X.N.Nodup) (hi : PI X tg iter wi) (ok : BlkOk X.N X.env.scope scope own) (hv : ∀ i ∈ vs1, i ∈ own.map (·.2))
    (hg : ∀ (s : Shared) (H : Hp) (C : Addr) (cl : List (Str × Addr)) (fp : List Addr), PG (X.blk s H scope (compEnvC scope cl C X.env) fp) tg g) (ht : ∀ (s : Shared) (H : Hp) (C : Addr) (cl : List (Str × Addr)) (fp : List Addr), PTs (X.blk s H scope (compEnvC scope cl C X.env) fp) ifs tt)
    (hi1 : ∀ (s : Shared) (H : Hp) (C : Addr) (cl : List (Str × Addr)) (fp : List Addr), PI (X.blk s H scope (compEnvC scope cl C X.env) fp) tg1 iter1 wi1)
    (hg1 : ∀ (s : Shared) (H : Hp) (C : Addr) (cl : List (Str × Addr)) (fp : List Addr), PG (X.blk s H scope (compEnvC scope cl C X.env) fp) tg1 g1) (ht1 : ∀ (s : Shared) (H : Hp) (C : Addr) (cl : List (Str × Addr)) (fp : List Addr), PTs (X.blk s H scope (compEnvC scope cl C X.env) fp) ifs1 tt1)
    (hk : ∀ (s : Shared) (H : Hp) (C : Addr) (cl : List (Str × Addr)) (fp : List Addr), PE (X.blk s H scope (compEnvC scope cl C X.env) fp) kx tk)
    (he : ∀ (s : Shared) (H : Hp) (C : Addr) (cl : List (Str × Addr)) (fp : List Addr), PE (X.blk s H scope (compEnvC scope cl C X.env) fp) vx tv) (hs : ∀ x, foldedSetIterable iter X.env x = pure x := by intro _; rfl) (hs1 : ∀ env x, foldedSetIterable iter1 env x = pure x := by intro _ _; rfl) :
    PE X (.DictComp kx vx [⟨tg, iter, ifs, 0⟩, ⟨tg1, iter1, ifs1, 0⟩] scope pos) (tDc2 o0 wi g tt wi1 g1 tt1 tk tv (own.map (·.2)) vs1) := by
  refine ⟨fun pins s σ H Q I h => ?_⟩
  rw [arm_eval_DictComp]
  refine dc2_core e0 hu hc hN I hi ok hv hg ht hk he hs hi1 hg1 ht1 hs1 h fun D C s' m H' I' q hn f => ⟨m, hn, fun h'' sb => ?_⟩
  obtain ⟨f0, f1, f2, f3, f4, f5⟩ := f
  exact ⟨.ref D, H', I'.turned (t' := s'.toks) (fun b o hb e => (sb.2 b hb).trans e) f0 f1 f3 f4 f5, rfl, q⟩
end
end K80
end
section
set_option Elab.async false
set_option linter.all false
set_option maxRecDepth 100000
set_option maxHeartbeats 4000000
namespace K80
open PySem PySem.Spec PyProof.Rows L2
/-! ### what is known of the heap, and how it grows -/
theorem Same.new {H : Hp} {p : Addr} {o : HO} (h : H p = none) : Same H (upd H p o) := fun b u e => by
  rw [upd_ne (ne_of_none e h)]
  exact e
theorem Same.new2 {G H : Hp} {p : Addr} {o : HO} (h : Same G H) : Same (upd G p o) (upd H p o) := fun b u e => by
  by_cases hb : b = p
  · subst hb
    rw [upd_same] at e ⊢
    exact e
  · rw [upd_ne hb] at e ⊢
    exact h b u e
/-- no tuple -/
def NT (o : Option HO) : Prop := ∀ xs, o ≠ some (.tup xs)
/-- G: the part that is known and stays; H: all. S: what may change -/
structure Gr (S : List Addr) (G H G' H' : Hp) : Prop where
  gg : Same G G'
  sub : Same G' H'
  keep : ∀ b o, b ∉ S → H b = some o → H' b = some o
  own : ∀ b, G b = none → H b ≠ none → (b ∈ S ∨ NT (H b)) → G' b = none
  dom : ∀ b, H b ≠ none → H' b ≠ none
section
variable {S : List Addr} {G H G' H' G1 H1 G2 H2 : Hp} {p : Addr} {o : HO}
theorem Gr.refl (h : Same G H) : Gr S G H G H := ⟨Same.refl _, h, fun _ _ _ e => e, fun _ e _ _ => e, fun _ e => e⟩
theorem Gr.trans (a : Gr S G H G1 H1) (b : Gr S G1 H1 G2 H2) : Gr S G H G2 H2 where
  gg := a.gg.trans b.gg
  sub := b.sub
  keep := fun c u hc e => b.keep c u hc (a.keep c u hc e)
  own := fun c e1 e2 e3 => by
    have q := a.own c e1 e2 e3
    by_cases hb : c ∈ S
    · exact b.own c q (a.dom c e2) (.inl hb)
    · cases h0 : H c with
      | none => exact absurd h0 e2
      | some u =>
        have h1 := a.keep c u hb h0
        refine b.own c q (by rw [h1]; simp) (.inr ?_)
        rw [h1, ← h0]
        exact e3.resolve_left hb
  dom := fun c e => b.dom c (a.dom c e)
theorem Gr.mono {S' : List Addr} (a : Gr S G H G' H') (h : ∀ b ∈ S, b ∈ S') (hS : ∀ b ∈ S', G b = none → b ∉ S → NT (H b)) : Gr S' G H G' H' :=
  ⟨a.gg, a.sub, fun b o hb e => a.keep b o (fun z => hb (h b z)) e, fun b e1 e2 e3 => by
    by_cases hb : b ∈ S
    · exact a.own b e1 e2 (.inl hb)
    · rcases e3 with e3 | e3
      · exact a.own b e1 e2 (.inr (hS b e3 e1 hb))
      · exact a.own b e1 e2 (.inr e3), a.dom⟩
/-- a new object, known from now on -/
theorem Gr.new (h : Same G H) (hp : H p = none) : Gr S G H (upd G p o) (upd H p o) where
  gg := Same.new (Same.free h hp)
  sub := Same.new2 h
  keep := fun b u _ e => by rw [upd_ne (ne_of_none e hp)]; exact e
  own := fun b e1 e2 _ => by
    have hb : b ≠ p := fun z => e2 (z ▸ hp)
    rw [upd_ne hb]
    exact e1
  dom := fun b e => by
    have hb : b ≠ p := fun z => e (z ▸ hp)
    rw [upd_ne hb]
    exact e
/-- a new object of the def's own -/
theorem Gr.hid (h : Same G H) (hp : H p = none) : Gr S G H G (upd H p o) where
  gg := Same.refl _
  sub := h.trans (Same.new hp)
  keep := fun b u _ e => by rw [upd_ne (ne_of_none e hp)]; exact e
  own := fun b e1 _ _ => e1
  dom := fun b e => by
    have hb : b ≠ p := fun z => e (z ▸ hp)
    rw [upd_ne hb]
    exact e
/-- an own object is written: it is new since the beginning, or among those that may change -/
theorem Gr.put (a : Gr S G H G1 H1) (hp : H p = none ∨ p ∈ S) (hg : G1 p = none) : Gr S G H G1 (upd H1 p o) where
  gg := a.gg
  sub := fun b u e => by rw [upd_ne (ne_of_none e hg)]; exact a.sub b u e
  keep := fun b u hb e => by
    have hbp : b ≠ p := by
      rintro rfl
      rcases hp with q | q
      · rw [q] at e; cases e
      · exact hb q
    rw [upd_ne hbp]
    exact a.keep b u hb e
  own := a.own
  dom := fun b e => by
    by_cases hb : b = p
    · rw [hb, upd_same]; simp
    · rw [upd_ne hb]; exact a.dom b e
/-- an own object becomes known -/
theorem Gr.pub (a : Gr S G H G1 H1) (hp : H p = none) (hG : G p = none) (hg : G1 p = none) (ho : H1 p = some o) : Gr S G H (upd G1 p o) H1 where
  gg := fun b u e => by rw [upd_ne (ne_of_none e hG)]; exact a.gg b u e
  sub := fun b u e => by
    by_cases hb : b = p
    · subst hb; rw [upd_same] at e; rw [← e]; exact ho
    · rw [upd_ne hb] at e; exact a.sub b u e
  keep := a.keep
  own := fun b e1 e2 e3 => by
    have hb : b ≠ p := fun z => e2 (z ▸ hp)
    rw [upd_ne hb]
    exact a.own b e1 e2 e3
  dom := a.dom
theorem Gr.same (h : Same G H) (s : Same H H') : Gr S G H G H' := ⟨Same.refl _, h.trans s, fun b o _ e => s b o e, fun b e _ _ => e, fun b e z => by
  cases q : H b with
  | none => exact e q
  | some o => rw [s b o q] at z; cases z⟩
theorem Gr.all (a : Gr [] G H G' H') : Same H H' := fun b o e => a.keep b o (by simp) e
/-- what the call made is new: it may be dropped again, or written -/
theorem Gr.drop (a : Gr S G H G1 H1) (h : Same G H) : Gr S G H G H1 := ⟨Same.refl _, a.gg.trans a.sub, a.keep, fun _ e _ _ => e, a.dom⟩
/-- all that is new since H becomes known -/
def allN (G1 H H1 : Hp) : Hp := fun b => match H b with
  | none => H1 b
  | some _ => G1 b
theorem allN_new (h : H p = none) : allN G1 H H1 p = H1 p := by
  unfold allN
  rw [h]
theorem allN_old (h : H p = some o) : allN G1 H H1 p = G1 p := by
  unfold allN
  rw [h]
theorem Gr.pubAll (a : Gr S G H G1 H1) (h : Same G H) : Gr S G H (allN G1 H H1) H1 where
  gg := fun b u e => by rw [allN_old (h b u e)]; exact a.gg b u e
  sub := fun b u e => by
    cases q : H b with
    | none => rw [allN_new q] at e; exact e
    | some o => rw [allN_old q] at e; exact a.sub b u e
  keep := a.keep
  own := fun b e1 e2 e3 => by
    cases q : H b with
    | none => exact absurd q e2
    | some o => rw [allN_old q]; exact a.own b e1 e2 e3
  dom := a.dom
/-- all tuples of the heap are known -/
def tups (G H : Hp) : Hp := fun b => match H b with
  | some (.tup xs) => some (.tup xs)
  | _ => G b
theorem tups_at {xs : List V} (h : H p = some (.tup xs)) : tups G H p = some (.tup xs) := by
  unfold tups
  rw [h]
theorem tups_nt (h : NT (H p)) : tups G H p = G p := by
  unfold tups
  split
  · rename_i xs e
    exact absurd e (h xs)
  · rfl
theorem Gr.tup (h : Same G H) (hS : ∀ b ∈ S, NT (H b)) : Gr S G H (tups G H) H := by
  have k : Same (tups G H) H := fun b u e => by
    unfold tups at e
    split at e
    · rename_i xs q
      rw [← e]; exact q
    · exact h b u e
  refine ⟨fun b u e => ?_, k, fun _ _ _ e => e, fun b e1 e2 e3 => ?_, fun _ e => e⟩
  · have := h b u e
    unfold tups
    split
    · rename_i xs q
      rw [this] at q
      rw [← q]
    · exact e
  · have hn : NT (H b) := e3.elim (hS b) id
    rw [tups_nt hn]
    exact e1
end
/-! ### walks in a comprehension, whatever a turn does -/
section
variable {K : PySem.W.Frag} {a : Addr} {xs : List V} {Step : (Hp → Prop) → V → Hp → Prop} {Fin : Hp → Prop} {H0 : Hp}
theorem hp_list (Pv : Nat → Hp → Prop) (h0 : Pv 0 H0) (hl : ∀ i H, i ≤ xs.length → Pv i H → SqL K H a xs) (hs : ∀ i x H, xs[i]? = some x → Pv i H → Step (Pv (i + 1)) x H) (hd : ∀ H, Pv xs.length H → Fin H) :
    ∃ W : Nat → Nat → Hp → Prop, (∃ m, W 0 m H0) ∧ ∀ i m H, W i m H → ((Itl K a).stop i H ∧ Fin H) ∨ ((Itl K a).go i H ∧ ∃ Nx : Hp → Prop, (∀ H', Nx H' → ∃ m', m' < m ∧ W (i + 1) m' H') ∧ ∀ x H', (Itl K a).yld i H x H' → Step Nx x H') := by
  refine ⟨fun i m H => m = xs.length - i ∧ i ≤ xs.length ∧ Pv i H, ⟨xs.length, by simp, Nat.zero_le _, h0⟩, ?_⟩
  rintro i m H ⟨rfl, hi, p⟩
  have q := hl i H hi p
  by_cases hlt : i < xs.length
  · refine .inr ⟨⟨xs, xs[i], q, by simp [hlt]⟩, Pv (i + 1), fun H' p' => ⟨xs.length - (i + 1), by omega, rfl, hlt, p'⟩, fun x H' y => ?_⟩
    obtain ⟨e, y⟩ := y
    subst e
    exact hs i x _ (y xs q) p
  · have e : i = xs.length := by omega
    subst e
    exact .inl ⟨⟨xs, q, Nat.le_refl _⟩, hd H p⟩
theorem hp_tup (Pv : Nat → Hp → Prop) (h0 : Pv 0 H0) (hl : ∀ i H, i ≤ xs.length → Pv i H → SqT K H a xs) (hs : ∀ i x H, xs[i]? = some x → Pv i H → Step (Pv (i + 1)) x H) (hd : ∀ H, Pv xs.length H → Fin H) :
    ∃ W : Nat → Nat → Hp → Prop, (∃ m, W 0 m H0) ∧ ∀ i m H, W i m H → ((Itt K a).stop i H ∧ Fin H) ∨ ((Itt K a).go i H ∧ ∃ Nx : Hp → Prop, (∀ H', Nx H' → ∃ m', m' < m ∧ W (i + 1) m' H') ∧ ∀ x H', (Itt K a).yld i H x H' → Step Nx x H') := by
  refine ⟨fun i m H => m = xs.length - i ∧ i ≤ xs.length ∧ Pv i H, ⟨xs.length, by simp, Nat.zero_le _, h0⟩, ?_⟩
  rintro i m H ⟨rfl, hi, p⟩
  have q := hl i H hi p
  by_cases hlt : i < xs.length
  · refine .inr ⟨⟨xs, xs[i], q, by simp [hlt]⟩, Pv (i + 1), fun H' p' => ⟨xs.length - (i + 1), by omega, rfl, hlt, p'⟩, fun x H' y => ?_⟩
    obtain ⟨e, y⟩ := y
    subst e
    exact hs i x _ (y xs q) p
  · have e : i = xs.length := by omega
    subst e
    exact .inl ⟨⟨xs, q, Nat.le_refl _⟩, hd H p⟩
theorem hp_range {lo : Int} {n : Nat} (Pv : Nat → Hp → Prop) (h0 : Pv 0 H0) (hs : ∀ i H, i < n → Pv i H → Step (Pv (i + 1)) (.int (lo + i)) H) (hd : ∀ H, Pv n H → Fin H) :
    ∃ W : Nat → Nat → Hp → Prop, (∃ m, W 0 m H0) ∧ ∀ i m H, W i m H → ((Itr lo n).stop i H ∧ Fin H) ∨ ((Itr lo n).go i H ∧ ∃ Nx : Hp → Prop, (∀ H', Nx H' → ∃ m', m' < m ∧ W (i + 1) m' H') ∧ ∀ x H', (Itr lo n).yld i H x H' → Step Nx x H') := by
  refine ⟨fun i m H => m = n - i ∧ i ≤ n ∧ Pv i H, ⟨n, by simp, Nat.zero_le _, h0⟩, ?_⟩
  rintro i m H ⟨rfl, hi, p⟩
  by_cases hlt : i < n
  · refine .inr ⟨hlt, Pv (i + 1), fun H' p' => ⟨n - (i + 1), by omega, rfl, hlt, p'⟩, fun x H' y => ?_⟩
    obtain ⟨e, y⟩ := y
    subst e y
    exact hs i _ hlt p
  · have e : i = n := by omega
    subst e
    exact .inl ⟨Nat.le_refl _, hd H p⟩
theorem hp_str {z : Str} (Pv : Nat → Hp → Prop) (h0 : Pv 0 H0) (hs : ∀ i c H, z.cps[i]? = some c → Pv i H → Step (Pv (i + 1)) (.str ⟨#[c]⟩) H) (hd : ∀ H, Pv z.cps.size H → Fin H) :
    ∃ W : Nat → Nat → Hp → Prop, (∃ m, W 0 m H0) ∧ ∀ i m H, W i m H → ((Its z).stop i H ∧ Fin H) ∨ ((Its z).go i H ∧ ∃ Nx : Hp → Prop, (∀ H', Nx H' → ∃ m', m' < m ∧ W (i + 1) m' H') ∧ ∀ x H', (Its z).yld i H x H' → Step Nx x H') := by
  refine ⟨fun i m H => m = z.cps.size - i ∧ i ≤ z.cps.size ∧ Pv i H, ⟨z.cps.size, by simp, Nat.zero_le _, h0⟩, ?_⟩
  rintro i m H ⟨rfl, hi, p⟩
  by_cases hlt : i < z.cps.size
  · refine .inr ⟨hlt, Pv (i + 1), fun H' p' => ⟨z.cps.size - (i + 1), by omega, rfl, hlt, p'⟩, fun x H' y => ?_⟩
    obtain ⟨e, c, hc, rfl⟩ := y
    subst e
    exact hs i c _ hc p
  · have e : i = z.cps.size := by omega
    subst e
    exact .inl ⟨Nat.le_refl _, hd H p⟩
theorem hp_keys {d : Addr} {o : Obj} {kvs : List (Key × V)} (Pv : Nat → Hp → Prop) (h0 : Pv 0 H0) (hl : ∀ i H, Pv i H → H d = some (.frz o (.dK kvs))) (hs : ∀ i k v H, kvs[i]? = some (k, v) → Pv i H → Step (Pv (i + 1)) (kV k) H) (hd : ∀ H, Pv kvs.length H → Fin H) :
    ∃ W : Nat → Nat → Hp → Prop, (∃ m, W 0 m H0) ∧ ∀ i m H, W i m H → ((Itk d o kvs).stop i H ∧ Fin H) ∨ ((Itk d o kvs).go i H ∧ ∃ Nx : Hp → Prop, (∀ H', Nx H' → ∃ m', m' < m ∧ W (i + 1) m' H') ∧ ∀ x H', (Itk d o kvs).yld i H x H' → Step Nx x H') := by
  refine ⟨fun i m H => m = kvs.length - i ∧ i ≤ kvs.length ∧ Pv i H, ⟨kvs.length, by simp, Nat.zero_le _, h0⟩, ?_⟩
  rintro i m H ⟨rfl, hi, p⟩
  by_cases hlt : i < kvs.length
  · refine .inr ⟨⟨hl i H p, hlt⟩, Pv (i + 1), fun H' p' => ⟨kvs.length - (i + 1), by omega, rfl, hlt, p'⟩, fun x H' y => ?_⟩
    obtain ⟨e, k, v, hk, rfl⟩ := y
    subst e
    exact hs i k v _ hk p
  · have e : i = kvs.length := by omega
    subst e
    exact .inl ⟨⟨hl _ H p, Nat.le_refl _⟩, hd H p⟩
theorem hp_keysT {d : Addr} {o : Obj} {kvs : List (List Key × V)} (Pv : Nat → Hp → Prop) (h0 : Pv 0 H0) (hl : ∀ i H, Pv i H → H d = some (.frz o (.dT kvs))) (hs : ∀ i k v q H, kvs[i]? = some (k, v) → H q = some (.tup (k.map kV)) → Pv i H → Step (Pv (i + 1)) (.ref q) H) (hd : ∀ H, Pv kvs.length H → Fin H) :
    ∃ W : Nat → Nat → Hp → Prop, (∃ m, W 0 m H0) ∧ ∀ i m H, W i m H → ((Itkt d o kvs).stop i H ∧ Fin H) ∨ ((Itkt d o kvs).go i H ∧ ∃ Nx : Hp → Prop, (∀ H', Nx H' → ∃ m', m' < m ∧ W (i + 1) m' H') ∧ ∀ x H', (Itkt d o kvs).yld i H x H' → Step Nx x H') := by
  refine ⟨fun i m H => m = kvs.length - i ∧ i ≤ kvs.length ∧ Pv i H, ⟨kvs.length, by simp, Nat.zero_le _, h0⟩, ?_⟩
  rintro i m H ⟨rfl, hi, p⟩
  by_cases hlt : i < kvs.length
  · refine .inr ⟨⟨hl i H p, hlt⟩, Pv (i + 1), fun H' p' => ⟨kvs.length - (i + 1), by omega, rfl, hlt, p'⟩, fun x H' y => ?_⟩
    obtain ⟨e, k, v, q, hk, rfl, hq⟩ := y
    subst e
    exact hs i k v q _ hk hq p
  · have e : i = kvs.length := by omega
    subst e
    exact .inl ⟨⟨hl _ H p, Nat.le_refl _⟩, hd H p⟩
end
/-! ### data -/
abbrev Pair := Str × Str
/-- a list of texts, a tuple of them -/
def Nm (G : Hp) (a : Addr) (ns : List Str) : Prop := G a = some (.lst (ns.map V.str))
def NmT (G : Hp) (a : Addr) (ns : List Str) : Prop := G a = some (.tup (ns.map V.str))
def NmQ (G : Hp) (a : Addr) (ns : List Str) : Prop := Nm G a ns ∨ NmT G a ns
/-- a list of pairs of texts: l tells where each stands -/
def PrL (G : Hp) (a : Addr) (l : List (Addr × Pair)) : Prop := G a = some (.lst (l.map fun e => V.ref e.1)) ∧ ∀ e ∈ l, G e.1 = some (.tup [.str e.2.1, .str e.2.2])
def Prs (G : Hp) (a : Addr) (ps : List Pair) : Prop := ∃ l, PrL G a l ∧ l.map (·.2) = ps
/-- a list of lists of texts -/
def Lol (G : Hp) (a : Addr) (ls : List (List Str)) : Prop := ∃ l : List (Addr × List Str), G a = some (.lst (l.map fun e => V.ref e.1)) ∧ (∀ e ∈ l, Nm G e.1 e.2) ∧ l.map (·.2) = ls
section
variable {G G' H : Hp} {a : Addr} {ns : List Str} {ps : List Pair} {K : PySem.W.Frag}
theorem Nm.up (h : Nm G a ns) (e : Same G G') : Nm G' a ns := e _ _ h
theorem NmT.up (h : NmT G a ns) (e : Same G G') : NmT G' a ns := e _ _ h
theorem NmQ.up (h : NmQ G a ns) (e : Same G G') : NmQ G' a ns := h.elim (fun h => .inl (h.up e)) fun h => .inr (h.up e)
theorem PrL.up {l : List (Addr × Pair)} (h : PrL G a l) (e : Same G G') : PrL G' a l := ⟨e _ _ h.1, fun z hz => e _ _ (h.2 z hz)⟩
theorem Prs.up (h : Prs G a ps) (e : Same G G') : Prs G' a ps := let ⟨l, h1, h2⟩ := h; ⟨l, h1.up e, h2⟩
theorem Lol.up {ls : List (List Str)} (h : Lol G a ls) (e : Same G G') : Lol G' a ls := let ⟨l, h1, h2, h3⟩ := h; ⟨l, e _ _ h1, fun z hz => (h2 z hz).up e, h3⟩
theorem Nm.l (h : Nm G a ns) : SqL K G a (ns.map V.str) := SqL.of h
theorem NmT.t (h : NmT G a ns) : SqT K G a (ns.map V.str) := SqT.of h
theorem NmQ.q (h : NmQ G a ns) : SqQ K G a (ns.map V.str) := h.elim (fun h => .inl h.l) fun h => .inr h.t
theorem get_map {α β : Type} {f : α → β} {l : List α} {i : Nat} {y : β} (h : (l.map f)[i]? = some y) : ∃ x, l[i]? = some x ∧ f x = y := by
  rw [List.getElem?_map] at h
  cases e : l[i]? with
  | none => rw [e] at h; cases h
  | some x => rw [e] at h; exact ⟨x, rfl, Option.some.inj h⟩
theorem take_succ {α : Type} {l : List α} {i : Nat} {x : α} (h : l[i]? = some x) : l.take (i + 1) = l.take i ++ [x] := by
  rw [List.take_add_one, h]
  rfl
theorem lt_of_get {α : Type} {l : List α} {i : Nat} {x : α} (h : l[i]? = some x) : i < l.length := (List.getElem?_eq_some_iff.mp h).1
theorem sz {n : Nat} (h : n ≤ 1000000) : n ≤ sizeLine := Nat.le_trans h (by decide)
theorem szl {n : Nat} (h : n ≤ 1000000) : n < sizeLine := Nat.lt_of_le_of_lt h (by decide)
end
end K80
end
section
set_option Elab.async false
set_option linter.all false
set_option maxRecDepth 100000
set_option maxHeartbeats 4000000
namespace K80
open PySem PySem.Spec PyProof.Rows L2
/-! ### kinds -/
/-- what kind a value is of -/
inductive Kd (K : PySem.W.Frag) (H : Hp) : V → String → Prop
  | non : Kd K H .non "NoneType"
  | bl (b : Bool) : Kd K H (.bl b) "bool"
  | int (i : Int) : Kd K H (.int i) "int"
  | str (z : Str) : Kd K H (.str z) "str"
  | lst {a : Addr} {xs : List V} : H a = some (.lst xs) → Kd K H (.ref a) "list"
  | tup {a : Addr} {xs : List V} : H a = some (.tup xs) → Kd K H (.ref a) "tuple"
  | dK {a : Addr} {kvs : List (Key × V)} : H a = some (.dK kvs) → Kd K H (.ref a) "dict"
theorem Kd.x {K : PySem.W.Frag} {H : Hp} {x : V} {n : String} (h : Kd K H x n) : TyX K H x (.type n) := by
  cases h with
  | non => exact .base .non
  | bl b => exact .base (.bl b)
  | int i => exact .base (.int i)
  | str z => exact .base (.str z)
  | lst e => exact .base (.lst e)
  | tup e => exact .base (.tup e)
  | dK e => exact .base (.dK e)
theorem Kd.up {K : PySem.W.Frag} {H H' : Hp} {x : V} {n : String} (h : Kd K H x n) (e : Same H H') : Kd K H' x n := by
  cases h with
  | non => exact .non
  | bl b => exact .bl b
  | int i => exact .int i
  | str z => exact .str z
  | lst q => exact .lst (e _ _ q)
  | tup q => exact .tup (e _ _ q)
  | dK q => exact .dK (e _ _ q)
def kinds : List String := ["NoneType", "bool", "int", "str", "list", "tuple", "dict"]
theorem Kd.mem {K : PySem.W.Frag} {H : Hp} {x : V} {n : String} (h : Kd K H x n) : n ∈ kinds := by
  cases h <;> decide
/-- bool is an int, else a kind is itself -/
def isKind (n m : String) : Bool := n == m || (n == "bool" && m == "int")
theorem kit1 {K : PySem.W.Frag} {n m : String} (hn : n ∈ kinds) (hm : m ∈ ["bool", "int", "str", "list", "tuple", "dict"]) : PySem.W.kitOne K (.type n) (.type m) = some (isKind n m) := by
  refine kit_ty ?_
  have : ∀ n ∈ kinds, ∀ m ∈ (["bool", "int", "str", "list", "tuple", "dict"] : List String), kitB n m = some (isKind n m) := by decide +kernel
  exact this n hn m hm
theorem kitA {K : PySem.W.Frag} {n : String} (hn : n ∈ kinds) : ∀ {ms : List String}, (∀ m ∈ ms, m ∈ ["bool", "int", "str", "list", "tuple", "dict"]) → PySem.W.kitAny K (.type n) (ms.map Value.type) = some (ms.any fun m => isKind n m)
  | [], _ => rfl
  | m :: ms, h => by
    rw [List.map_cons, List.any_cons]
    refine kitAny_cons (kit1 hn (h m (by simp))) (fun e => ?_) (fun e => by rw [e]; rfl)
    rw [e, Bool.false_or]
    exact kitA hn fun q hq => h q (by simp [hq])
/-! ### is_list -/
section
variable {P : Program} {w : World} {K : PySem.W.Frag} {mg : Str → Option Value} {base : Heap}
def listy (n : String) : Bool := n == "list" || n == "tuple"
def spIsList (K : PySem.W.Frag) : Sp := fun vs H Q _ => ∃ x n, vs = [x] ∧ Kd K H x n ∧ ∀ H', Same H H' → Q (.bl (listy n)) H'
theorem sc_is_list : FnScope ["thing"] ["thing"] (defScope s_is_list) := ⟨rfl, rfl, rfl, by decide +kernel, rfl, by decide +kernel, by decide +kernel⟩
theorem ok_is_list (D : Df K mg "is_list" s_is_list) (T : Txt K mg) : Ok P w K mg base CX0 1 "is_list" ["thing"] (spIsList K) := by
  refine mkOk D sc_is_list (fun _ _ _ _ _ _ us hl => match us, hl with | [_], _ => rfl) (fun vs H Q E h => ?_) fun cdv A outer s H vs Q E hr h => ?_
  · obtain ⟨x, n, rfl, _⟩ := h
    rfl
  · obtain ⟨x, n, rfl, hk, k⟩ := h
    refine ⟨_, pss_one (ps_ret (pe_callB call_isiT (by rfl) T.isi (by decide +kernel) (pa_cons (pv 0) (pa_cons (pe_tup (pa_cons (pe_bltn (by rfl) T.list (by decide +kernel) (show RelV (.ty "list") (.type "list") from rfl)) (pa_cons (pe_bltn (by rfl) T.tuple (by decide +kernel) (show RelV (.ty "tuple") (.type "tuple") from rfl)) pa_nil))) pa_nil)))), ?_⟩
    refine ⟨_, rfl, by show 2 ≤ sizeLine; decide, fun p hp => ?_⟩
    have e1 := Same.new (o := .tup [.ty "list", .ty "tuple"]) hp
    refine ⟨x, p, _, _, _, listy n, rfl, upd_same, .cons (.ty "list") (.cons (.ty "tuple") .nil), (hk.up e1).x, ?_, k _ e1⟩
    have := kitA (K := K) hk.mem (ms := ["list", "tuple"]) (by decide)
    have e : (["list", "tuple"] : List String).any (fun m => isKind n m) = listy n := by
      have : ∀ n ∈ kinds, (["list", "tuple"] : List String).any (fun m => isKind n m) = listy n := by decide
      exact this n hk.mem
    rw [e] at this
    exact this
end
end K80
end
section
set_option Elab.async false
set_option linter.all false
set_option maxRecDepth 100000
set_option maxHeartbeats 4000000
namespace K80
open PySem PySem.Spec PyProof.Rows L2
/-! ### comprehensions, read -/
section
variable {K : PySem.W.Frag} {a : Addr} {g : TG} {tt : TT} {te : TE} {vs : List Nat} {σ : L2.St} {H1 : Hp} {D : Addr} {Qd : Hp → Prop} {α : Type}
/-- one turn of a comprehension, what follows left open -/
abbrev Turn1 (g : TG) (tt : TT) (te : TE) (vs : List Nat) (σ : L2.St) (x : V) (H : Hp) (Qn : Hp → Prop) (Qy : VK) : Prop :=
  g x (wipe σ vs) H fun σ2 H2 => wipe σ2 vs = wipe σ vs ∧ tt σ2 H2 fun b H3 => if b = true then te σ2 H3 Qy else Qn H3
abbrev LcStep (g : TG) (tt : TT) (te : TE) (vs : List Nat) (σ : L2.St) (D : Addr) : (Hp → Prop) → V → Hp → Prop := fun Nx x H =>
  g x (wipe σ vs) H fun σ2 H2 => wipe σ2 vs = wipe σ vs ∧ tt σ2 H2 fun b H3 => if b = true then te σ2 H3 fun y H4 => ∃ acc, H4 D = some (.lst acc) ∧ acc.length < sizeLine ∧ Nx (upd H4 D (.lst (acc ++ [y]))) else Nx H3
theorem same_put {H0 H : Hp} {D : Addr} {o : HO} (h : Same H0 H) (hD : H0 D = none) : Same H0 (upd H D o) := fun b u e => by
  rw [upd_ne (ne_of_none e hD)]
  exact h b u e
/-- what a filtering, mapping comprehension keeps -/
def FmI (l : List α) (p : α → Bool) (f : α → V) (H1 : Hp) (D : Addr) (i : Nat) (H : Hp) : Prop := Same H1 H ∧ H D = some (.lst (((l.take i).filter p).map f))
theorem fm_step {l : List α} {ev : α → V} {p : α → Bool} {f : α → V} (hD : H1 D = none) (hz : l.length ≤ 1000000)
    (turn : ∀ x ∈ l, ∀ H, Same H1 H → ∀ (Qn : Hp → Prop) (Qy : VK), (p x = false → ∀ H', Same H H' → Qn H') → (p x = true → ∀ H', Same H H' → Qy (f x) H') → Turn1 g tt te vs σ (ev x) H Qn Qy)
    (i : Nat) (x : α) (H : Hp) (hx : l[i]? = some x) (h : FmI l p f H1 D i H) : LcStep g tt te vs σ D (FmI l p f H1 D (i + 1)) (ev x) H := by
  obtain ⟨s1, hd⟩ := h
  refine turn x (List.mem_of_getElem? hx) H s1 _ _ (fun hp H' e => ⟨s1.trans e, ?_⟩) (fun hp H' e => ⟨_, e _ _ hd, szl ?_, same_put (s1.trans e) hD, ?_⟩)
  · rw [take_succ hx, List.filter_append, List.filter_cons, hp]
    simp only [List.filter_nil, List.append_nil, if_neg Bool.false_ne_true]
    exact e _ _ hd
  · rw [List.length_map]
    refine Nat.le_trans (List.length_filter_le _ _) ?_
    rw [List.length_take]
    omega
  · rw [take_succ hx, List.filter_append, List.filter_cons, hp, List.map_append]
    exact upd_same
theorem fm_end {l : List α} {p : α → Bool} {f : α → V} (hd : ∀ H', Same H1 H' → H' D = some (.lst ((l.filter p).map f)) → Qd H') (H : Hp) (h : FmI l p f H1 D l.length H) : Qd H := by
  obtain ⟨s1, e⟩ := h
  rw [List.take_length] at e
  exact hd H s1 e
theorem fm_start {l : List α} {p : α → Bool} {f : α → V} (hD : H1 D = none) : FmI l p f H1 D 0 (upd H1 D (.lst [])) := ⟨Same.new hD, by rw [upd_same]; rfl⟩
/-- over a list -/
theorem lc_fm (l : List α) (ev : α → V) (p : α → Bool) (f : α → V) (hx : SqL K H1 a (l.map ev)) (hz : l.length ≤ 1000000) (hD : H1 D = none)
    (turn : ∀ x ∈ l, ∀ H, Same H1 H → ∀ (Qn : Hp → Prop) (Qy : VK), (p x = false → ∀ H', Same H H' → Qn H') → (p x = true → ∀ H', Same H H' → Qy (f x) H') → Turn1 g tt te vs σ (ev x) H Qn Qy)
    (hd : ∀ H', Same H1 H' → H' D = some (.lst ((l.filter p).map f)) → Qd H') :
    ∃ W : Nat → Nat → Hp → Prop, (∃ m, W 0 m (upd H1 D (.lst []))) ∧ ∀ i m H, W i m H → ((Itl K a).stop i H ∧ Qd H) ∨ ((Itl K a).go i H ∧ ∃ Nx : Hp → Prop, (∀ H', Nx H' → ∃ m', m' < m ∧ W (i + 1) m' H') ∧ ∀ x H', (Itl K a).yld i H x H' → LcStep g tt te vs σ D Nx x H') := by
  refine hp_list (xs := l.map ev) (Step := LcStep g tt te vs σ D) (FmI l p f H1 D) (fm_start hD) (fun i H _ h => h.1.seq hx) (fun i x H hx h => ?_) (fun H h => fm_end hd H (by rw [List.length_map] at h; exact h))
  obtain ⟨y, hy, rfl⟩ := get_map hx
  exact fm_step hD hz turn i y H hy h
/-- over a locked dict's text keys -/
theorem lc_fmK {d : Addr} {o : Obj} (l : List (Str × V)) (p : Str × V → Bool) (f : Str × V → V) (hx : H1 d = some (.frz o (.dK (l.map fun e => (Sum.inr e.1, e.2))))) (hz : l.length ≤ 1000000) (hD : H1 D = none)
    (turn : ∀ x ∈ l, ∀ H, Same H1 H → ∀ (Qn : Hp → Prop) (Qy : VK), (p x = false → ∀ H', Same H H' → Qn H') → (p x = true → ∀ H', Same H H' → Qy (f x) H') → Turn1 g tt te vs σ (.str x.1) H Qn Qy)
    (hd : ∀ H', Same H1 H' → H' D = some (.lst ((l.filter p).map f)) → Qd H') :
    ∃ W : Nat → Nat → Hp → Prop, (∃ m, W 0 m (upd H1 D (.lst []))) ∧ ∀ i m H, W i m H → ((Itk d o (l.map fun e => (Sum.inr e.1, e.2))).stop i H ∧ Qd H) ∨ ((Itk d o (l.map fun e => (Sum.inr e.1, e.2))).go i H ∧ ∃ Nx : Hp → Prop, (∀ H', Nx H' → ∃ m', m' < m ∧ W (i + 1) m' H') ∧ ∀ x H', (Itk d o (l.map fun e => (Sum.inr e.1, e.2))).yld i H x H' → LcStep g tt te vs σ D Nx x H') := by
  refine hp_keys (Step := LcStep g tt te vs σ D) (FmI l p f H1 D) (fm_start hD) (fun i H h => h.1 _ _ hx) (fun i k v H hk h => ?_) (fun H h => fm_end hd H (by rw [List.length_map] at h; exact h))
  obtain ⟨y, hy, e⟩ := get_map hk
  injection e with e1 e2
  rw [← e1]
  exact fm_step (ev := fun e => V.str e.1) hD hz turn i y H hy h
/-! the same where what is made is known from then on -/
/-- R i acc G: of i turns acc was made, G is known -/
structure LgI (S : List Addr) (G1 H1 : Hp) (D : Addr) (R : Nat → List V → Hp → Hp → Prop) (i : Nat) (H : Hp) : Prop where
  ex : ∃ acc G, Gr S G1 H1 G H ∧ G D = none ∧ H D = some (.lst acc) ∧ acc.length ≤ i ∧ R i acc G H
theorem lg_step {S : List Addr} {G1 : Hp} {R : Nat → List V → Hp → Hp → Prop} (hs : Same G1 H1) (hD : H1 D = none) (hDS : D ∉ S) {n : Nat} (hz : n ≤ 1000000)
    (hR : ∀ i acc G H o, R i acc G H → H D ≠ none → R i acc G (upd H D o))
    (i : Nat) (x : V) (H : Hp) (hi : i < n)
    (turn : ∀ acc G, Gr S G1 H1 G H → H D = some (.lst acc) → R i acc G H → ∀ (Qn : Hp → Prop) (Qy : VK), (∀ G' H', Gr S G H G' H' → R (i + 1) acc G' H' → Qn H') → (∀ y G' H', Gr S G H G' H' → R (i + 1) (acc ++ [y]) G' H' → Qy y H') → Turn1 g tt te vs σ x H Qn Qy)
    (h : LgI S G1 H1 D R i H) : LcStep g tt te vs σ D (LgI S G1 H1 D R (i + 1)) x H := by
  obtain ⟨acc, G, g1, gD, hd, hl, r⟩ := h.ex
  have nt : NT (H D) := fun xs z => by rw [hd] at z; cases z
  refine turn acc G g1 hd r _ _ (fun G' H' g2 r2 => ⟨acc, G', g1.trans g2, g2.own D gD (by rw [hd]; simp) (.inr nt), g2.keep D _ hDS hd, by omega, r2⟩) (fun y G' H' g2 r2 => ?_)
  have hd' := g2.keep D _ hDS hd
  have gD' := g2.own D gD (by rw [hd]; simp) (.inr nt)
  exact ⟨acc, hd', szl (by omega), acc ++ [y], G', (g1.trans g2).put (.inl hD) gD', gD', upd_same, by rw [List.length_append]; show acc.length + 1 ≤ i + 1; omega, hR _ _ _ _ _ r2 (by rw [hd']; simp)⟩
theorem lg_start {S : List Addr} {G1 : Hp} {R : Nat → List V → Hp → Hp → Prop} (hs : Same G1 H1) (hD : H1 D = none) (h0 : R 0 [] G1 (upd H1 D (.lst []))) : LgI S G1 H1 D R 0 (upd H1 D (.lst [])) :=
  ⟨[], G1, .hid hs hD, Same.free hs hD, upd_same, Nat.le_refl _, h0⟩
end

theorem filt_all {α : Type} (l : List α) : l.filter (fun _ => true) = l := List.filter_eq_self.mpr fun _ _ => rfl
/-! ### a list or a tuple, walked; sliced; its length -/
section
variable {X : Cx} {tg : Expr}
def iSeq (K : PySem.W.Frag) (tl : TE) : TI := fun σ H R => tl σ H fun x H1 => ∃ a xs, x = .ref a ∧ ((SqL K H1 a xs ∧ R (Itl K a) H1) ∨ (SqT K H1 a xs ∧ R (Itt K a) H1))
theorem pi_seq {l : Expr} {tl : TE} (hl : PE X l tl) : PI X tg l (iSeq X.K tl) := by
  refine ⟨fun pins s σ H R I h => ?_⟩
  refine thn (hl.run pins s σ H _ I h) fun v s1 ⟨x, H1, I1, r1, q1⟩ => ?_
  obtain ⟨a, xs, e, q1⟩ := q1
  subst e
  cases r1
  have fin : ∀ b, b ∈ [s1.heap.objs.size] → FpOk X pins H1 b := fun b hb => by
    have e : b = s1.heap.objs.size := by simpa using hb
    subst e
    exact I1.fpOk (Nat.le_refl _) (I1.hok.fresh (Nat.le_refl _))
  rcases q1 with ⟨hq, q⟩ | ⟨hq, q⟩
  · obtain ⟨its, rv, p, hz⟩ := I1.list hq
    exact wpAny_pyIter_list p.isList ⟨_, [_], _, _, H1, rfl, I1.kept (t' := s1.toks) fun b o e => Heap.get?_push_of_some _ e, turn_list a _, ⟨_, Heap.get?_push_size _ rfl, rfl, rfl⟩, fin, q⟩
  · obtain ⟨its, rv, p, hz⟩ := I1.tuple hq
    exact wpAny_pyIter_tuple (show s1.heap.IsTuple a its.toArray from p) ⟨_, [_], _, _, H1, rfl, I1.kept (t' := s1.toks) fun b o e => Heap.get?_push_of_some _ e, turn_tuple a _, ⟨_, Heap.get?_push_size _ rfl, rfl, rfl⟩, fin, q⟩
end
section
variable {K : PySem.W.Frag} {a : Addr} {g : TG} {tt : TT} {te : TE} {vs : List Nat} {σ : L2.St} {H1 : Hp} {D : Addr} {Qd : Addr → Hp → Prop} {α : Type}
/-- over a list or a tuple -/
theorem lc_fmQ (l : List α) (ev : α → V) (p : α → Bool) (f : α → V) (hx : SqQ K H1 a (l.map ev)) (hz : l.length ≤ 1000000)
    (turn : ∀ D, H1 D = none → ∀ x ∈ l, ∀ H, Same H1 H → ∀ (Qn : Hp → Prop) (Qy : VK), (p x = false → ∀ H', Same H H' → Qn H') → (p x = true → ∀ H', Same H H' → Qy (f x) H') → Turn1 g tt te vs σ (ev x) H Qn Qy)
    (hd : ∀ D H', H1 D = none → Same H1 H' → H' D = some (.lst ((l.filter p).map f)) → Qd D H') :
    ∃ (a' : Addr) (xs' : List V), V.ref a = .ref a' ∧ ((SqL K H1 a' xs' ∧ ∀ D, H1 D = none → ∃ W : Nat → Nat → Hp → Prop, (∃ m, W 0 m (upd H1 D (.lst []))) ∧ ∀ i m H, W i m H → ((Itl K a').stop i H ∧ Qd D H) ∨ ((Itl K a').go i H ∧ ∃ Nx : Hp → Prop, (∀ H', Nx H' → ∃ m', m' < m ∧ W (i + 1) m' H') ∧ ∀ x H', (Itl K a').yld i H x H' → LcStep g tt te vs σ D Nx x H')) ∨
      (SqT K H1 a' xs' ∧ ∀ D, H1 D = none → ∃ W : Nat → Nat → Hp → Prop, (∃ m, W 0 m (upd H1 D (.lst []))) ∧ ∀ i m H, W i m H → ((Itt K a').stop i H ∧ Qd D H) ∨ ((Itt K a').go i H ∧ ∃ Nx : Hp → Prop, (∀ H', Nx H' → ∃ m', m' < m ∧ W (i + 1) m' H') ∧ ∀ x H', (Itt K a').yld i H x H' → LcStep g tt te vs σ D Nx x H'))) := by
  refine ⟨a, l.map ev, rfl, ?_⟩
  rcases hx with hx | hx
  · exact .inl ⟨hx, fun D hD => lc_fm l ev p f hx hz hD (turn D hD) (fun H' e q => hd D H' hD e q)⟩
  · refine .inr ⟨hx, fun D hD => ?_⟩
    refine hp_tup (xs := l.map ev) (Step := LcStep g tt te vs σ D) (FmI l p f H1 D) (fm_start hD) (fun i H _ h => Same.seqT h.1 hx) (fun i x H hx h => ?_) (fun H h => fm_end (Qd := Qd D) (fun H' e q => hd D H' hD e q) H (by rw [List.length_map] at h; exact h))
    obtain ⟨y, hy, rfl⟩ := get_map hx
    exact fm_step hD hz (turn D hD) i y H hy h
end
/-- slices of lists and tuples -/
def rSlQ (K : PySem.W.Frag) (x : V) (lo hi : Option Int) (H : Hp) (Q : VK) : Prop := rSlL K x lo hi H Q ∨ rSlA K x lo hi H Q
theorem sl_seq {X : Cx} : SlR X (rSlQ X.K) := SlR.or sl_list sl_tupA

section
variable {K : PySem.W.Frag} {H : Hp} {a : Addr} {xs : List V} {Q : VK}
theorem cut_take (i : Nat) : cutV xs none (some (i : Int)) = xs.take i := by
  unfold cutV
  rw [show HT.sIx xs.length 0 none = 0 from rfl, HT.sIx_nat, List.drop_zero, Nat.sub_zero]
  rcases Nat.le_total i xs.length with h | h
  · rw [Nat.min_eq_left h]
  · rw [Nat.min_eq_right h, List.take_of_length_le h, List.take_length]
theorem sl_take {i : Nat} (h : SqQ K H a xs) (hi : i < xs.length) (k : ∀ p H', Same H H' → SqQ K H' p (xs.take i) → Q (.ref p) H') : rSlQ K (.ref a) none (some (i : Int)) H Q := by
  have e := cut_take (xs := xs) i
  rcases h with h | h
  · refine .inl ⟨a, xs, rfl, h, fun p hp => ?_⟩
    rw [e]
    exact k p _ (Same.new hp) (.inl (SqL.of upd_same))
  · refine .inr ⟨a, xs, rfl, h, fun z => ?_, fun _ p hp => ?_⟩
    · have z2 := z.2
      rw [HT.sIx_nat, Nat.min_eq_left (Nat.le_of_lt hi)] at z2
      omega
    · rw [e]
      exact k p _ (Same.new hp) (.inr (SqT.of upd_same))
theorem inV_str (z : Str) : ∀ ns : List Str, inV (.str z) (ns.map V.str) = decide (z ∈ ns)
  | [] => rfl
  | y :: ns => by
    have ih := inV_str z ns
    unfold inV at ih ⊢
    rw [List.map_cons, List.any_cons, ih]
    show ((y == z) || decide (z ∈ ns)) = decide (z ∈ y :: ns)
    by_cases e : y = z
    · subst e; simp
    · have e' : ¬ z = y := fun q => e q.symm
      simp [e, e']
theorem all_flat (ns : List Str) : (ns.map V.str).all flatV = true := by
  rw [List.all_eq_true]
  intro v hv
  obtain ⟨z, _, rfl⟩ := List.mem_map.mp hv
  rfl
theorem not_mem_take {ns : List Str} (hn : ns.Nodup) {i : Nat} {z : Str} (h : ns[i]? = some z) : z ∉ ns.take i := by
  intro hm
  obtain ⟨j, hj⟩ := List.mem_iff_getElem?.mp hm
  rw [List.getElem?_take] at hj
  split at hj
  · rename_i hlt
    have := nd_ix hn h hj
    omega
  · cases hj
theorem set2 {v1 v2 x y : Option V} {a : Option V} : (([a, v1, v2] : L2.St).set 1 x).set 2 y = [a, x, y] := rfl
end

/-! ### what sorted tells -/
theorem srt_map {β : Type} (v : β → V) (enc : β → PyData) (l : List β) : (srt (l.map fun b => (v b, enc b))).map (·.1) = (l.mergeSort (PySem.W.dataLe false enc)).map v := by
  have h := mergeSort_map (fun b : β => (v b, enc b)) (PySem.W.dataLe false (·.2)) l
  unfold srt
  rw [← h, List.map_map]
  rfl
theorem sortIt_str {K : PySem.W.Frag} {H : Hp} (ns : List Str) : SortIt K H (ns.map fun z => (V.str z, PyData.str z)) := by
  refine ⟨fun b hb => ?_, fun d hd d' hd' => ?_, .inr fun d hd => ?_, fun b hb => ?_⟩
  · obtain ⟨z, _, rfl⟩ := List.mem_map.mp hb
    exact .str z
  · rw [List.map_map] at hd hd'
    obtain ⟨z, _, rfl⟩ := List.mem_map.mp hd
    obtain ⟨z', _, rfl⟩ := List.mem_map.mp hd'
    rfl
  · rw [List.map_map] at hd
    obtain ⟨z, _, rfl⟩ := List.mem_map.mp hd
    exact ⟨by simp, by simp⟩
  · obtain ⟨z, _, rfl⟩ := List.mem_map.mp hb
    simp [PyData.depth]
theorem sort_strs {K : PySem.W.Frag} {H : Hp} {a : Addr} {ns : List Str} {Q : VK} (h : SqQ K H a (ns.map V.str)) (k : ∀ p, H p = none → Q (.ref p) (upd H p (.lst ((sortS ns).map V.str)))) : rSortQ K [.ref a] H Q := by
  refine ⟨a, ns.map (fun z => (V.str z, PyData.str z)), rfl, ?_, sortIt_str ns, fun p hp => ?_⟩
  · rw [List.map_map]
    exact h
  · have e := srt_map V.str PyData.str ns
    rw [e]
    exact k p hp
theorem sort_prs {K : PySem.W.Frag} {H : Hp} {a : Addr} {l : List (Addr × Pair)} {Q : VK} (h : PrL H a l) (k : ∀ p, H p = none → ∀ l' : List (Addr × Pair), l'.Perm l → l'.map (·.2) = sortP (l.map (·.2)) → Q (.ref p) (upd H p (.lst (l'.map fun e => V.ref e.1)))) : rSortQ K [.ref a] H Q := by
  refine ⟨a, l.map (fun e => (V.ref e.1, encP e.2)), rfl, .inl ?_, ⟨fun b hb => ?_, fun d hd d' hd' => ?_, .inl fun d hd => ?_, fun b hb => ?_⟩, fun p hp => ?_⟩
  · rw [List.map_map]
    exact SqL.of h.1
  · obtain ⟨e, he, rfl⟩ := List.mem_map.mp hb
    exact .tup (SqT.of (h.2 e he)) (.cons (.str _) (.cons (.str _) .nil))
  · rw [List.map_map] at hd hd'
    obtain ⟨e, _, rfl⟩ := List.mem_map.mp hd
    obtain ⟨e', _, rfl⟩ := List.mem_map.mp hd'
    exact alike_pp _ _
  · rw [List.map_map] at hd
    obtain ⟨e, _, rfl⟩ := List.mem_map.mp hd
    exact ⟨_, _, rfl⟩
  · obtain ⟨e, he, rfl⟩ := List.mem_map.mp hb
    show (encP e.2).depth ≤ 50
    simp [encP, PyData.depth, PyData.depthAll]
  · have e := srt_map (fun e : Addr × Pair => V.ref e.1) (fun e => encP e.2) l
    rw [e]
    refine k p hp _ (List.mergeSort_perm l _) ?_
    exact mergeSort_map (fun e : Addr × Pair => e.2) leP l
end K80
end
section
set_option Elab.async false
set_option linter.all false
set_option maxRecDepth 100000
set_option maxHeartbeats 4000000
namespace K80
open PySem PySem.Spec PyProof.Rows L2
def tys : List String := ["bool", "int", "str", "list", "tuple", "dict"]
section
variable {X : Cx} {e : Expr} {te : TE}
def rIs1 (K : PySem.W.Frag) : List V → Hp → VK → Prop := fun xs H Q => ∃ x n m, xs = [x, .ty m] ∧ Kd K H x n ∧ m ∈ tys ∧ Q (.bl (isKind n m)) H
theorem call_is1 : CallR X (.builtin "isinstance") (rIs1 X.K) := by
  intro pins s σ H xs us Q I r h
  obtain ⟨x, n, m, rfl, hk, hm, q⟩ := h
  exact call_isi pins s σ H _ us Q I r ⟨x, .ty m, _, _, _, rfl, .ty m, hk.x, kit1 hk.mem hm, q⟩
def rIsM (K : PySem.W.Frag) : List V → Hp → VK → Prop := fun xs H Q => ∃ (x : V) (n : String) (tp : Addr) (ms : List String), xs = [x, .ref tp] ∧ H tp = some (.tup (ms.map V.ty)) ∧ (∀ m ∈ ms, m ∈ tys) ∧ Kd K H x n ∧ Q (.bl (ms.any fun m => isKind n m)) H
theorem clsVs : ∀ ms : List String, Paired ClsV (ms.map V.ty) (ms.map Value.type)
  | [] => .nil
  | m :: ms => .cons (.ty m) (clsVs ms)
theorem call_isM : CallR X (.builtin "isinstance") (rIsM X.K) := by
  intro pins s σ H xs us Q I r h
  obtain ⟨x, n, tp, ms, rfl, ht, hm, hk, q⟩ := h
  exact call_isiT pins s σ H _ us Q I r ⟨x, tp, _, _, _, _, rfl, ht, clsVs ms, hk.x, kitA hk.mem hm, q⟩
/-- a built-in class by its name -/
theorem pe_ty (m : String) {z : Str} {p : Pos} (hz : X.mg z = none) (hb : bootBuiltins z = some (.type m) := by decide +kernel) (hg : Gl X z := by rfl) (hn : z ≠ "__name__" := by decide) (hd : (z == ("__debug__" : Str)) = false := by decide) : PE X (.Name z p) (tC (.ty m)) :=
  pe_bltn hg hz hb (show RelV (.ty m) (.type m) from rfl) hn hd
end
/-! ### is_name -/
section
variable {P : Program} {w : World} {K : PySem.W.Frag} {mg : Str → Option Value} {base : Heap}
def small : Str := "abcdefghijklmnopqrstuvwxyz"
def figs : Str := "0123456789"
structure okName (z : Str) : Prop where
  l0 : 0 < z.length
  l1 : z.length ≤ 12
  hd : ∃ c, z.cps[0]? = some c ∧ c ∈ small.cps.toList
  tl : ∀ c ∈ z.cps.toList, c ∈ (small ++ figs).cps.toList
def spIsName : Sp := fun vs H Q _ => ∃ z, vs = [.str z] ∧ okName z ∧ ∀ H', Same H H' → Q (.bl true) H'
theorem sc_is_name : FnScope ["thing", "sign"] ["thing"] (defScope s_is_name) := ⟨rfl, rfl, rfl, by decide +kernel, rfl, by decide +kernel, by decide +kernel⟩
theorem ok_is_name (D : Df K mg "is_name" s_is_name) (T : Txt K mg) : Ok P w K mg base CX0 1 "is_name" ["thing"] spIsName := by
  refine mkOk D sc_is_name (fun _ _ _ _ _ _ us hl => match us, hl with | [_], _ => rfl) (fun vs H Q E h => ?_) fun cdv A outer s H vs Q E hr h => ?_
  · obtain ⟨x, rfl, _⟩ := h
    rfl
  · obtain ⟨z, rfl, hz, k⟩ := h
    obtain ⟨ts, hsm⟩ := T.small
    obtain ⟨tf, hfi⟩ := T.figs
    refine ⟨_, pss_cons (ps_if (PW.pt (pw_or (pt_not (pt_val (pe_callB call_is1 (by rfl) T.isi (by decide +kernel) (pa_cons (pv 0) (pa_cons (pe_ty "str" T.str) pa_nil))))) (pw_or (pt_not (pt_chain op_lt op_le pe_int (pe_callB call_len_str (by rfl) T.len PySem.boot_len (pa_cons (pv 0) pa_nil)) pe_int)) (pw_or1 (pt_cmpR op_notIn_sign (pe_ix ix_str (pv 0) pe_int (fun _ _ => rfl)) (pe_glob (v := .str small) (by rfl) hsm ⟨_, rfl⟩) (by rfl)))))) (pss_one (ps_ret pe_bl)) pss_nil)
      (pss_one (ps_ret (pe_callB (cr_all rfl) (by rfl) T.all (by decide +kernel) (pa_cons (pe_lc (own := [("sign", 1)]) (g := gName 1) (tt := tYes) rfl sc_is_name.nd (pi_str (pv 0)) (blkOk_by (own := [("sign", 1)]) (N := ["thing", "sign"]) (sc := defScope s_is_name) (by decide +kernel))
        (fun _ _ _ _ _ => pg_name (i := 1) sc_is_name.nd rfl (Or.inl rfl)) (fun _ _ _ _ _ => pts_nil) (fun _ _ _ _ _ => pe_cmpR op_in_sign (pv 1) (pe_op op_add_str (pe_glob (v := .str small) (by rfl) hsm ⟨_, rfl⟩) (pe_glob (v := .str figs) (by rfl) hfi ⟨_, rfl⟩)) (by rfl))) pa_nil)))), ?_⟩
    obtain ⟨c0, hc0, hm0⟩ := hz.hd
    refine ⟨_, rfl, .str z, "str", "str", rfl, .str z, by decide, true, by rfl, ?_⟩
    refine ⟨_, rfl, z, rfl, sz (by have := hz.l1; omega), ?_⟩
    have h1 : (0 : Int) < (z.length : Int) := by have := hz.l0; omega
    have h2 : (z.length : Int) ≤ 12 := by have := hz.l1; omega
    refine ⟨_, _, rfl, rfl, true, congrArg V.bl (decide_eq_true h1), iteT ⟨_, _, rfl, rfl, true, congrArg V.bl (decide_eq_true h2), iteF ?_⟩⟩
    refine ⟨_, rfl, z, 0, c0, rfl, rfl, sz (by have := hz.l1; omega), (show atI z.cps.toList ((0 : Nat) : Int) = some c0 from atI_nat (show z.cps.toList[0]? = some c0 by simpa using hc0)), c0, small, rfl, rfl, false, congrArg V.bl (by rw [decide_eq_true hm0]; rfl), iteF ?_⟩
    refine ⟨_, rfl, z, rfl, fun D hD => ?_⟩
    refine hp_str (Step := LcStep _ _ _ _ _ D) (FmI z.cps.toList (fun _ => true) (fun _ => V.bl true) H D) (fm_start hD) (fun i c H' hc h => ?_) (fun H' h => ?_)
    · have hc' : z.cps.toList[i]? = some c := by simpa using hc
      refine fm_step (l := z.cps.toList) (ev := fun c => V.str ⟨#[c]⟩) hD (by have := hz.l1; show z.cps.toList.length ≤ _; rw [Array.length_toList]; have : z.cps.size ≤ 12 := this; omega) (fun x hx H2 s2 Qn Qy hn hy => ?_) i c H' hc' h
      refine ⟨rfl, _, rfl, small, figs, rfl, rfl, by decide, x, small ++ figs, rfl, rfl, ?_⟩
      rw [decide_eq_true (hz.tl x hx)]
      exact hy rfl H2 (Same.refl _)
    · refine fm_end (l := z.cps.toList) (p := fun _ => true) (f := fun _ => V.bl true) (D := D) (H1 := H) (fun H2 s2 e => ?_) H' (by rw [Array.length_toList]; exact h)
      refine ⟨D, (z.cps.toList.map fun _ => true), rfl, SqL.of ?_, ?_⟩
      · rw [e, List.map_map, filt_all]
        rfl
      · have : (z.cps.toList.map fun _ => true).all id = true := by simp
        rw [this]
        exact k H2 s2
end
end K80
end
section
set_option Elab.async false
set_option linter.all false
set_option maxRecDepth 100000
set_option maxHeartbeats 4000000
namespace K80
open PySem PySem.Spec PyProof.Rows L2
/-! ### the kit's rules with the written part named: for use within a comprehension's block -/
section
variable {X : Cx} {K : PySem.W.Frag}
theorem inK (K : PySem.W.Frag) (h : X.K = K := by rfl) : OpR X (compareOp .In) (rIn K false) := h ▸ op_in_seq
theorem notInK (K : PySem.W.Frag) (h : X.K = K := by rfl) : OpR X (compareOp .NotIn) (rIn K true) := h ▸ op_notIn_seq
theorem isK (K : PySem.W.Frag) (h : X.K = K := by rfl) : CallR X (.builtin "isinstance") (rIs1 K) := h ▸ call_is1
theorem lenK (K : PySem.W.Frag) (h : X.K = K := by rfl) : CallR X (.builtin "len") (fun xs H Q => ∃ p ys, xs = [.ref p] ∧ (SqL K H p ys ∨ SqT K H p ys) ∧ Q (.int ys.length) H) := h ▸ call_len_seq
theorem allK (K : PySem.W.Frag) (hc : X.calm = true := by rfl) (h : X.K = K := by rfl) : CallR X (.builtin "all") (rAll K) := h ▸ cr_all hc
theorem anyK (K : PySem.W.Frag) (hc : X.calm = true := by rfl) (h : X.K = K := by rfl) : CallR X (.builtin "any") (rAny K) := h ▸ cr_any hc
theorem ixLK (K : PySem.W.Frag) (h : X.K = K := by rfl) : IxR X (rIxL K) := h ▸ ix_list
theorem ixTK (K : PySem.W.Frag) (h : X.K = K := by rfl) : IxR X (rIxT K) := h ▸ ix_tup
theorem eqDK (K : PySem.W.Frag) (hu : X.A.units + 64 < cLine) (h : X.K = K := by rfl) : OpR X (compareOp .Eq) (rEqD K) := h ▸ op_eqD hu
theorem neDK (K : PySem.W.Frag) (hu : X.A.units + 64 < cLine) (h : X.K = K := by rfl) : OpR X (compareOp .NotEq) (rNeD K) := h ▸ op_neD hu
theorem inDK (K : PySem.W.Frag) (hu : X.A.units + 65 < cLine) (h : X.K = K := by rfl) : OpR X (compareOp .In) (rInD K) := h ▸ op_inD hu
theorem notInDK (K : PySem.W.Frag) (hu : X.A.units + 65 < cLine) (h : X.K = K := by rfl) : OpR X (compareOp .NotIn) (rNotInD K) := h ▸ op_notInD hu
theorem listK (K : PySem.W.Frag) (h : X.K = K := by rfl) : CallR X (.type "list") (fun xs H Q => ∃ p ys, xs = [.ref p] ∧ (SqL K H p ys ∨ SqT K H p ys) ∧ ∀ l, H l = none → Q (.ref l) (upd H l (.lst ys))) := h ▸ call_list_of
theorem piLK (K : PySem.W.Frag) {tg l : Expr} {tl : TE} (hl : PE X l tl) (h : X.K = K := by rfl) : PI X tg l (iList K tl) := h ▸ pi_list hl
theorem fldK (K : PySem.W.Frag) {e : Expr} {f : Str} {pos : Pos} {ta : TE} (ha : PE X e ta) (hb : attributeBase e f X.env (eval e X.env) = eval e X.env := by rfl) (h : X.K = K := by rfl) : PE X (.Attribute e f pos) (tFld K ta f) := h ▸ pe_fld ha hb
theorem tupK (K : PySem.W.Frag) {es : List Expr} {k : Nat} {t : TGs} {n : Nat} {pos : Pos} (hc : X.calm = true) (hg : PGs X es t) (hn : (assignEach es X.env).length = n := by rfl) (hst : (assignEach es X.env).findIdx? (·.1) = none := by rfl) (h : X.K = K := by rfl) : PG X (.Tuple es k pos) (gTup K n t) := h ▸ pg_tup hc hg hn hst
end
end K80
end
section
set_option Elab.async false
set_option linter.all false
set_option maxRecDepth 100000
set_option maxHeartbeats 4000000
namespace K80
open PySem PySem.Spec PyProof.Rows L2
section
variable {P : Program} {w : World} {K : PySem.W.Frag} {mg : Str → Option Value} {base : Heap}
/-- a pair as it may be handed in: a list or a tuple of two texts -/
def PairIn (G : Hp) (v : V) (p : Pair) : Prop := ∃ a, v = .ref a ∧ NmQ G a [p.1, p.2]
theorem PairIn.up {G G' : Hp} {v : V} {p : Pair} (h : PairIn G v p) (e : Same G G') : PairIn G' v p := let ⟨a, h1, h2⟩ := h; ⟨a, h1, h2.up e⟩
theorem NmQ.kd {K : PySem.W.Frag} {G : Hp} {a : Addr} {ns : List Str} (h : NmQ G a ns) : ∃ n, Kd K G (.ref a) n ∧ listy n = true := by
  rcases h with h | h
  · exact ⟨_, .lst h, rfl⟩
  · exact ⟨_, .tup h, rfl⟩
/-! ### as_tuples: of a text, of a pair -/
def spAsT0 : Sp := fun vs H Q _ => ∃ z, vs = [.str z] ∧ ∀ H', Same H H' → Q (.str z) H'
def spAsT1 : Sp := fun vs H Q _ => ∃ G v p, vs = [v] ∧ Same G H ∧ PairIn G v p ∧ ∀ t H', Same H H' → H' t = some (.tup [.str p.1, .str p.2]) → Q (.ref t) H'
theorem sc_as_tuples : FnScope ["thing", "part"] ["thing"] (defScope s_as_tuples) := ⟨rfl, rfl, rfl, by decide +kernel, rfl, by decide +kernel, by decide +kernel⟩
theorem pe_never {X : Cx} {e : Expr} : PE X e (fun _ _ _ => False) := ⟨fun _ _ _ _ _ _ h => h.elim⟩
theorem ok_as_tuples0 (D : Df K mg "as_tuples" s_as_tuples) (T : Txt K mg) (O : Ok P w K mg base CX0 1 "is_list" ["thing"] (spIsList K)) : Ok P w K mg base CX0 2 "as_tuples" ["thing"] spAsT0 := by
  refine mkOk D sc_as_tuples (fun _ _ _ _ _ _ us hl => match us, hl with | [_], _ => rfl) (fun vs H Q E h => ?_) fun cdv A outer s H vs Q E hr h => ?_
  · obtain ⟨x, rfl, _⟩ := h
    rfl
  · obtain ⟨z, rfl, k⟩ := h
    refine ⟨_, pss_one (ps_ret (pe_ifExp (pt_val (pe_cl O hr (pa_cons (pv 0) pa_nil))) pe_never (pv 0))), ?_⟩
    refine ⟨_, rfl, .str z, "str", rfl, .str z, fun H1 e1 => ⟨_, rfl, iteF ⟨_, rfl, k H1 e1⟩⟩⟩
theorem ok_as_tuples1 (D : Df K mg "as_tuples" s_as_tuples) (T : Txt K mg) (O : Ok P w K mg base CX0 1 "is_list" ["thing"] (spIsList K)) (O0 : Ok P w K mg base CX0 2 "as_tuples" ["thing"] spAsT0) : Ok P w K mg base CX0 3 "as_tuples" ["thing"] spAsT1 := by
  refine mkOk D sc_as_tuples (fun _ _ _ _ _ _ us hl => match us, hl with | [_], _ => rfl) (fun vs H Q E h => ?_) fun cdv A outer s H vs Q E hr h => ?_
  · obtain ⟨_, x, _, rfl, _⟩ := h
    rfl
  · obtain ⟨G, v, p, rfl, hG, hp, k⟩ := h
    obtain ⟨a, rfl, ha⟩ := hp
    have hr1 : Room 1 _ := hr.mono (by decide)
    refine ⟨_, pss_one (ps_ret (pe_ifExp (pt_val (pe_cl O hr1 (pa_cons (pv 0) pa_nil))) (pe_callTy call_tuple_of (by rfl) T.tuple (by decide +kernel) (pa_cons (pe_lc (own := [("part", 1)]) (g := gName 1) (tt := tYes) rfl sc_as_tuples.nd (pi_seq (pv 0)) (blkOk_by (own := [("part", 1)]) (N := ["thing", "part"]) (sc := defScope s_as_tuples) (by decide +kernel))
        (fun _ _ _ _ _ => pg_name (i := 1) sc_as_tuples.nd rfl (Or.inl rfl)) (fun _ _ _ _ _ => pts_nil) (fun _ _ _ _ _ => pe_cl O0 hr (pa_cons (pv 1) pa_nil))) pa_nil)) (pv 0))), ?_⟩
    obtain ⟨n, kd, hn⟩ := (ha.up hG).kd (K := K)
    refine ⟨_, rfl, .ref a, n, rfl, kd, fun H1 e1 => ⟨_, rfl, ?_⟩⟩
    rw [hn]
    refine ⟨_, rfl, lc_fmQ [p.1, p.2] V.str (fun _ => true) V.str ((ha.up (hG.trans e1)).q) (by simp) (fun D hD x hx H2 s2 Qn Qy hn hy => ?_) fun D H2 hD s2 e => ?_⟩
    · exact ⟨rfl, _, rfl, x, rfl, fun H3 e3 => hy rfl H3 e3⟩
    · refine ⟨D, _, rfl, .inl ⟨SqL.of e, fun l hl => ?_⟩⟩
      exact k l _ (e1.trans (s2.trans (Same.new hl))) upd_same
/-! ### checked_statements: of unlike names -/
def spChkS : Sp := fun vs H Q _ => ∃ G a ns, vs = [.ref a] ∧ Same G H ∧ NmQ G a ns ∧ ns.Nodup ∧ (∀ z ∈ ns, okName z) ∧ ns.length ≤ 100 ∧ ∀ l G' H', Gr [] G H G' H' → Nm G' l (sortS ns) → H l = none → Q (.ref l) H'
theorem sc_checked_statements : FnScope ["statements", "index", "thing"] ["statements"] (defScope s_checked_statements) := ⟨rfl, rfl, rfl, by decide +kernel, rfl, by decide +kernel, by decide +kernel⟩
theorem ok_checked_statements (D : Df K mg "checked_statements" s_checked_statements) (T : Txt K mg) (O : Ok P w K mg base CX0 1 "is_list" ["thing"] (spIsList K)) (ON : Ok P w K mg base CX0 1 "is_name" ["thing"] spIsName) : Ok P w K mg base CX0 2 "checked_statements" ["statements"] spChkS := by
  refine mkOk D sc_checked_statements (fun _ _ _ _ _ _ us hl => match us, hl with | [_], _ => rfl) (fun vs H Q E h => ?_) fun cdv A outer s H vs Q E hr h => ?_
  · obtain ⟨_, x, _, rfl, _⟩ := h
    rfl
  · obtain ⟨G, a, ns, rfl, hG, ha, hnd, hok, hlen, k⟩ := h
    have hu := hr.units
    refine ⟨_, pss_cons (ps_if (pt_not (pt_val (pe_cl O hr (pa_cons (pv 0) pa_nil)))) (pss_one ps_never) pss_nil)
      (pss_cons (ps_for PassesOwn.never rfl (pi_enumQ T.enum (pa_cons (pv 0) pa_nil)) (pg_tup rfl (pgs_cons (pg_name (i := 1) sc_checked_statements.nd rfl (.inl rfl)) (pgs_cons (pg_name (i := 2) sc_checked_statements.nd rfl (.inl rfl)) pgs_nil)))
        (pss_one (ps_if (PW.pt (pw_or (pt_not (pt_val (pe_cl ON hr (pa_cons (pv 2) pa_nil)))) (pw_or1 (pt_cmpR op_in_seq (pv 2) (pe_slice sl_seq (pv 0) po_none (po_some (pv 1))) (by rfl))))) (pss_one ps_never) pss_nil)))
      (pss_one (ps_ret (pe_callB (cr_sortQ hu) (by rfl) T.sorted (by decide +kernel) (pa_cons (pv 0) pa_nil))))), ?_⟩
    obtain ⟨n, kd, hn⟩ := (ha.up hG).kd (K := K)
    refine ⟨_, rfl, .ref a, n, rfl, kd, fun H1 e1 => ⟨_, rfl, ?_⟩⟩
    rw [hn]
    refine ⟨_, rfl, for_enumQ (K := K) (xs := ns.map V.str) (fun i σ Hc => ∃ v1 v2, σ = [some (.ref a), v1, v2] ∧ Same H1 Hc) ((ha.up (hG.trans e1)).q) ⟨none, none, rfl, Same.refl _⟩ (fun i σ Hc ⟨_, _, _, s⟩ => fun o q => s _ _ q) ?_ ?_⟩
    · rintro i x T' σ Hc hx ⟨v1, v2, rfl, s1⟩ hT
      obtain ⟨z, hz, rfl⟩ := get_map hx
      refine ⟨T', _, rfl, SqT.of upd_same, rfl, ?_⟩
      refine ⟨_, _, rfl, _, _, rfl, rfl, ?_⟩
      have hzm : z ∈ ns := List.mem_of_getElem? hz
      have s2 := s1.trans (Same.new (o := .tup [V.int ↑i, V.str z]) hT)
      refine ⟨_, rfl, z, rfl, hok z hzm, fun H2 e2 => ⟨_, rfl, ?_⟩⟩
      refine ⟨_, rfl, _, rfl, _, rfl, _, rfl, sl_take ((ha.up (hG.trans (e1.trans (s2.trans e2)))).q) (by rw [List.length_map]; exact lt_of_get hz) fun p H3 e3 hp => ?_⟩
      rw [← List.map_take] at hp
      refine ⟨p, _, rfl, hp, rfl, all_flat _, false, ?_, ?_⟩
      · rw [inV_str, decide_eq_false (not_mem_take hnd hz)]
        rfl
      · exact ⟨_, _, rfl, s2.trans (e2.trans e3)⟩
    · rintro σ Hc ⟨v1, v2, rfl, s1⟩
      refine ⟨_, rfl, sort_strs ((ha.up (hG.trans (e1.trans s1))).q) fun p hp => ?_⟩
      have hs : Same H Hc := e1.trans s1
      exact k p (upd G p _) _ ((Gr.same hG hs).trans (Gr.new (hG.trans hs) hp)) upd_same (Same.free hs hp)
end
end K80
end
section
set_option Elab.async false
set_option linter.all false
set_option maxRecDepth 100000
set_option maxHeartbeats 4000000
namespace K80
open PySem PySem.Spec PyProof.Rows L2
section
variable {P : Program} {w : World} {K : PySem.W.Frag} {mg : Str → Option Value} {base : Heap}
/-! ### is_pair_of: of a pair of statements -/
def spIsPair : Sp := fun vs H Q _ => ∃ G v p b ns, vs = [v, .ref b] ∧ Same G H ∧ PairIn G v p ∧ Nm G b ns ∧ p.1 ∈ ns ∧ p.2 ∈ ns ∧ ∀ H', Same H H' → Q (.bl true) H'
theorem sc_is_pair_of : FnScope ["thing", "statements", "one"] ["thing", "statements"] (defScope s_is_pair_of) := ⟨rfl, rfl, rfl, by decide +kernel, rfl, by decide +kernel, by decide +kernel⟩
theorem ok_is_pair_of (D : Df K mg "is_pair_of" s_is_pair_of) (T : Txt K mg) (O : Ok P w K mg base CX0 1 "is_list" ["thing"] (spIsList K)) : Ok P w K mg base CX0 2 "is_pair_of" ["thing", "statements"] spIsPair := by
  refine mkOk D sc_is_pair_of (fun _ _ _ _ _ _ us hl => match us, hl with | [_, _], _ => rfl) (fun vs H Q E h => ?_) fun cdv A outer s H vs Q E hr h => ?_
  · obtain ⟨_, _, _, _, _, rfl, _⟩ := h
    rfl
  · obtain ⟨G, v, p, b, ns, rfl, hG, hp, hb, m1, m2, k⟩ := h
    obtain ⟨a, rfl, ha⟩ := hp
    refine ⟨_, pss_one (ps_ret (pe_and (pe_cl O hr (pa_cons (pv 0) pa_nil)) (pe_and (pe_cmpR op_eq (pe_callB call_len_seq (by rfl) T.len PySem.boot_len (pa_cons (pv 0) pa_nil)) pe_int (nomark _))
      (pe_one (pe_callB (cr_all rfl) (by rfl) T.all (by decide +kernel) (pa_cons (pe_lc (own := [("one", 2)]) (g := gName 2) (tt := tYes) rfl sc_is_pair_of.nd (pi_seq (pv 0)) (blkOk_by (own := [("one", 2)]) (N := ["thing", "statements", "one"]) (sc := defScope s_is_pair_of) (by decide +kernel))
        (fun _ _ _ _ _ => pg_name (i := 2) sc_is_pair_of.nd rfl (Or.inl rfl)) (fun _ _ _ _ _ => pts_nil)
        (fun _ _ _ _ _ => pe_and (pe_callB (isK K) (by rfl) T.isi (by decide +kernel) (pa_cons (pv 2) (pa_cons (pe_ty "str" T.str) pa_nil))) (pe_one (pe_cmpR (inK K) (pv 2) (pv 1) (by rfl))))) pa_nil)))))), ?_⟩
    obtain ⟨n, kd, hn⟩ := (ha.up hG).kd (K := K)
    refine ⟨_, rfl, .ref a, n, rfl, kd, fun H1 e1 => ⟨_, rfl, ?_⟩⟩
    rw [hn]
    have hq := (ha.up (hG.trans e1)).q (K := K)
    refine ⟨_, rfl, a, _, rfl, hq, rfl, _, rfl, _, rfl, lc_fmQ [p.1, p.2] V.str (fun _ => true) (fun _ => V.bl true) hq (by simp) (fun D hD x hx H2 s2 Qn Qy hn hy => ?_) fun D H2 hD s2 e => ?_⟩
    · have hxn : x ∈ ns := by
        rcases List.mem_cons.mp hx with e | hx
        · rw [e]; exact m1
        · rcases List.mem_cons.mp hx with e | hx
          · rw [e]; exact m2
          · cases hx
      refine ⟨rfl, _, rfl, .str x, "str", "str", rfl, .str x, by decide, _, rfl, ?_⟩
      refine ⟨_, rfl, _, rfl, b, _, rfl, .inl ((hb.up (hG.trans (e1.trans s2))).l), rfl, all_flat ns, ?_⟩
      rw [inV_str, decide_eq_true hxn]
      exact hy rfl H2 (Same.refl _)
    · refine ⟨D, [true, true], rfl, SqL.of ?_, k H2 (e1.trans s2)⟩
      rw [e]
      rfl
/-! ### checked_objections -/
/-- pairs as they may be handed in: a list or a tuple of pairs -/
def LoosP (G : Hp) (a : Addr) (ps : List Pair) : Prop := ∃ l : List (V × Pair), l.map (·.2) = ps ∧ (G a = some (.lst (l.map (·.1))) ∨ G a = some (.tup (l.map (·.1)))) ∧ ∀ e ∈ l, PairIn G e.1 e.2
theorem LoosP.up {G G' : Hp} {a : Addr} {ps : List Pair} (h : LoosP G a ps) (e : Same G G') : LoosP G' a ps :=
  let ⟨l, h1, h2, h3⟩ := h; ⟨l, h1, h2.elim (fun h => .inl (e _ _ h)) fun h => .inr (e _ _ h), fun z hz => (h3 z hz).up e⟩
theorem Prs.loos {G : Hp} {a : Addr} {ps : List Pair} (h : Prs G a ps) : LoosP G a ps := by
  obtain ⟨l, ⟨h1, h2⟩, h3⟩ := h
  refine ⟨l.map fun e => (V.ref e.1, e.2), by rw [List.map_map]; exact h3, .inl (by rw [List.map_map]; exact h1), fun e he => ?_⟩
  obtain ⟨z, hz, rfl⟩ := List.mem_map.mp he
  exact ⟨z.1, rfl, .inr (h2 z hz)⟩
def spChkO : Sp := fun vs H Q _ => ∃ G a ps b ns, vs = [.ref a, .ref b] ∧ Same G H ∧ LoosP G a ps ∧ Nm G b ns ∧ ps.Nodup ∧ (∀ p ∈ ps, p.1 ∈ ns ∧ p.2 ∈ ns) ∧ ps.length ≤ 1000 ∧ ∀ l G' H', Gr [] G H G' H' → Prs G' l (sortP ps) → H l = none → Q (.ref l) H'
def kvT (ps : List Pair) : List (List Key × V) := ps.map fun p => (keyP p, V.bl true)
theorem kvT_none {ps : List Pair} {p : Pair} (h : p ∉ ps) : valV (kvT ps) (keyP p) = none := by
  cases e : valV (kvT ps) (keyP p) with
  | none => rfl
  | some v =>
    have := valV_in e
    unfold kvT at this
    rw [List.map_map] at this
    obtain ⟨q, hq, e2⟩ := List.mem_map.mp this
    exact absurd (keyP_inj e2 ▸ hq) h
theorem sc_checked_objections : FnScope ["objections", "statements", "known", "index", "thing"] ["objections", "statements"] (defScope s_checked_objections) := ⟨rfl, rfl, rfl, by decide +kernel, rfl, by decide +kernel, by decide +kernel⟩
theorem nd_take {α : Type} {l : List α} (hn : l.Nodup) {i : Nat} {z : α} (h : l[i]? = some z) : z ∉ l.take i := by
  intro hm
  obtain ⟨j, hj⟩ := List.mem_iff_getElem?.mp hm
  rw [List.getElem?_take] at hj
  split at hj
  · rename_i hlt
    have := nd_ix hn h hj
    omega
  · cases hj
theorem ok_checked_objections (D : Df K mg "checked_objections" s_checked_objections) (T : Txt K mg) (O : Ok P w K mg base CX0 1 "is_list" ["thing"] (spIsList K)) (OP : Ok P w K mg base CX0 2 "is_pair_of" ["thing", "statements"] spIsPair)
    (OT : Ok P w K mg base CX0 3 "as_tuples" ["thing"] spAsT1) : Ok P w K mg base CX0 4 "checked_objections" ["objections", "statements"] spChkO := by
  refine mkOk D sc_checked_objections (fun _ _ _ _ _ _ us hl => match us, hl with | [_, _], _ => rfl) (fun vs H Q E h => ?_) fun cdv A outer s H vs Q E hr h => ?_
  · obtain ⟨_, _, _, _, _, rfl, _⟩ := h
    rfl
  · obtain ⟨G, a, ps, b, ns, rfl, hG, ha, hb, hnd, hin, hlen, k⟩ := h
    have hu := hr.units
    have hu1 := hu_of hr
    refine ⟨_, pss_cons (ps_if (pt_not (pt_val (pe_cl O (hr.mono (by decide)) (pa_cons (pv 0) pa_nil)))) (pss_one ps_never) pss_nil)
      (pss_cons (ps_set (i := 2) sc_checked_objections.nd rfl (.inl rfl) pe_dnewT)
      (pss_cons (ps_for PassesOwn.never rfl (pi_enumQ T.enum (pa_cons (pv 0) pa_nil)) (pg_tup rfl (pgs_cons (pg_name (i := 3) sc_checked_objections.nd rfl (.inl rfl)) (pgs_cons (pg_name (i := 4) sc_checked_objections.nd rfl (.inl rfl)) pgs_nil)))
        (pss_cons (ps_if (PW.pt (pw_or (pt_not (pt_val (pe_cl OP (hr.mono (by decide)) (pa_cons (pv 4) (pa_cons (pv 1) pa_nil))))) (pw_or1 (pt_cmp (pc_din hu1 (pe_cl OT hr (pa_cons (pv 4) pa_nil)) (pv 2)))))) (pss_one ps_never) pss_nil)
        (pss_one (ps_dput hu1 (pv 2) (pe_cl OT hr (pa_cons (pv 4) pa_nil)) pe_bl rfl))))
      (pss_one (ps_ret (pe_callB (cr_sortT rfl hu) (by rfl) T.sorted (by decide +kernel) (pa_cons (pv 2) pa_nil)))))), ?_⟩
    obtain ⟨l, hl, ha2, hpi⟩ := ha
    have kd : ∃ n, Kd K H (.ref a) n ∧ listy n = true := by
      rcases ha2 with q | q
      · exact ⟨_, .lst (hG _ _ q), rfl⟩
      · exact ⟨_, .tup (hG _ _ q), rfl⟩
    obtain ⟨n, kd, hn⟩ := kd
    refine ⟨_, rfl, .ref a, n, rfl, kd, fun H1 e1 => ⟨_, rfl, ?_⟩⟩
    rw [hn]
    intro d hd
    have hsq : ∀ {H'}, Same G H' → SqQ K H' a (l.map (·.1)) := fun e => ha2.elim (fun q => .inl (SqL.of (e _ _ q))) fun q => .inr (SqT.of (e _ _ q))
    have ex := hG.trans e1
    have had : ∀ {H' : Hp}, Same G H' → H' d = none → a ≠ d := fun e z => ha2.elim (fun q => ne_of_none (e _ _ q) z) fun q => ne_of_none (e _ _ q) z
    refine ⟨_, rfl, for_enumQ (K := K) (xs := l.map (·.1)) (fun i σ Hc => ∃ v1 v2, σ = [some (.ref a), some (.ref b), some (.ref d), v1, v2] ∧ Same H1 Hc ∧ Hc d = some (.dT (kvT (ps.take i)))) (hsq (ex.trans (Same.new hd))) ⟨none, none, rfl, Same.new hd, upd_same⟩
      (fun i σ Hc ⟨_, _, _, s, _⟩ o q => s _ _ (by rw [upd_ne (had ex hd)] at q; exact q)) ?_ ?_⟩
    · rintro i x T' σ Hc hx ⟨v1, v2, rfl, s1, hdc⟩ hT
      obtain ⟨e, he, rfl⟩ := get_map hx
      have hem : e ∈ l := List.mem_of_getElem? he
      have hpe : ps[i]? = some e.2 := by rw [← hl, List.getElem?_map, he]; rfl
      have hpm : e.2 ∈ ps := List.mem_of_getElem? hpe
      refine ⟨T', _, rfl, SqT.of upd_same, rfl, ?_⟩
      refine ⟨_, _, rfl, _, _, rfl, rfl, ?_⟩
      have s2 : Same Hc (upd Hc T' (.tup [V.int ↑i, e.1])) := Same.new hT
      have g2 := (ex.trans s1).trans s2
      refine ⟨_, rfl, _, rfl, G, e.1, e.2, b, ns, rfl, g2, hpi e hem, hb, (hin _ hpm).1, (hin _ hpm).2, fun H2 e2 => ⟨_, rfl, ?_⟩⟩
      refine ⟨_, rfl, G, e.1, e.2, rfl, g2.trans e2, hpi e hem, fun t H3 e3 ht => ?_⟩
      have d3 : H3 d = some (.dT (kvT (ps.take i))) := e3 _ _ (e2 _ _ (s2 _ _ hdc))
      refine ⟨_, rfl, d, valV (kvT (ps.take i)) (keyP e.2), rfl, DGet.t (k := keyP e.2) d3 ht, _, rfl, ?_⟩
      rw [kvT_none (nd_take hnd hpe)]
      refine ⟨_, rfl, _, rfl, G, e.1, e.2, rfl, g2.trans (e2.trans e3), hpi e hem, fun t2 H4 e4 ht2 => ?_⟩
      have d4 := e4 _ _ d3
      have hl1 : (kvT (ps.take i)).length < sizeLine := szl (by unfold kvT; rw [List.length_map, List.length_take]; omega)
      refine ⟨d, _, rfl, DPut.t (k := keyP e.2) d4 ht2 hl1, _, _, rfl, same_put ((s1.trans s2).trans (e2.trans (e3.trans e4))) hd, ?_⟩
      rw [upd_same, putK_new _ (kvT_none (nd_take hnd hpe)), take_succ hpe]
      unfold kvT
      rw [List.map_append]
      rfl
    · rintro σ Hc ⟨v1, v2, rfl, s1, hdc⟩
      rw [List.length_map, ← List.length_map (f := (·.2)), hl, List.take_length] at hdc
      have sx : Same H Hc := e1.trans s1
      refine ⟨_, rfl, d, _, ps, rfl, .inl hdc, by unfold kvT; rw [List.map_map]; rfl, fun p l' h1 h2 hp => ?_⟩
      have gt : Gr [] G Hc (tups G Hc) Hc := Gr.tup (hG.trans sx) (fun _ z => by cases z)
      have gn : Gr [] (tups G Hc) Hc _ _ := Gr.new (o := .lst ((l'.mergeSort (PySem.W.dataLe false fun e => encP e.2)).map fun e => V.ref e.1)) gt.sub hp
      refine k p _ _ (((Gr.same hG sx).trans gt).trans gn) ⟨l'.mergeSort (PySem.W.dataLe false fun e => encP e.2), ⟨upd_same, fun z hz => ?_⟩, ?_⟩ (Same.free sx hp)
      · have hz' : z ∈ l' := (List.mergeSort_perm l' _).mem_iff.mp hz
        have hzt := h2 z hz'
        rw [upd_ne (ne_of_none hzt hp)]
        exact tups_at hzt
      · have := mergeSort_map (fun e : Addr × Pair => e.2) leP l'
        rw [h1] at this
        exact this
end
end K80
end
section
set_option Elab.async false
set_option linter.all false
set_option maxRecDepth 100000
set_option maxHeartbeats 4000000
namespace K80
open PySem PySem.Spec PyProof.Rows L2
/-! ### what a debate is -/
def objrs (ps : List Pair) (s : Str) : List Str := (ps.filter fun p => decide (p.2 = s)).map (·.1)
def objd (ps : List Pair) (s : Str) : List Str := (ps.filter fun p => decide (p.1 = s)).map (·.2)
/-- statements and objections as a debate keeps them -/
structure DebOk (ns : List Str) (ps : List Pair) : Prop where
  nd : ns.Nodup
  so : sortS ns = ns
  nm : ∀ z ∈ ns, okName z
  nl : ns.length ≤ 100
  pd : ps.Nodup
  po : sortP ps = ps
  pin : ∀ p ∈ ps, p.1 ∈ ns ∧ p.2 ∈ ns
  pl : ps.length ≤ 1000
theorem DebOk.mk' {ns : List Str} {ps : List Pair} (h1 : ns.Nodup) (h2 : ∀ z ∈ ns, okName z) (h3 : ns.length ≤ 100) (h4 : ps.Nodup) (h5 : ∀ p ∈ ps, p.1 ∈ ns ∧ p.2 ∈ ns) (h6 : ps.length ≤ 1000) : DebOk (sortS ns) (sortP ps) :=
  ⟨nodup_sortS h1, sortS_idem ns, fun z hz => h2 z (mem_sortS.mp hz), by rw [sortS_len]; exact h3, nodup_sortP h4, sortP_idem ps, fun p hp => ⟨mem_sortS.mpr (h5 p (mem_sortP.mp hp)).1, mem_sortS.mpr (h5 p (mem_sortP.mp hp)).2⟩, by rw [sortP_len]; exact h6⟩
/-- rows: a dict from names to where their lists stand -/
def rowV (L : List (Str × Addr)) : List (Key × V) := L.map fun e => (Sum.inr e.1, V.ref e.2)
def Rows (G : Hp) (d : Addr) (ns : List Str) (f : Str → List Str) : Prop := ∃ L : List (Str × Addr), L.map (·.1) = ns ∧ G d = some (.dK (rowV L)) ∧ ∀ e ∈ L, Nm G e.2 (f e.1)
theorem Rows.up {G G' : Hp} {d : Addr} {ns : List Str} {f : Str → List Str} (h : Rows G d ns f) (e : Same G G') : Rows G' d ns f := let ⟨L, h1, h2, h3⟩ := h; ⟨L, h1, e _ _ h2, fun z hz => (h3 z hz).up e⟩
theorem row_at {L : List (Str × Addr)} (hn : (L.map (·.1)).Nodup) {e : Str × Addr} (he : e ∈ L) : valV (rowV L) (Sum.inr e.1 : Key) = some (.ref e.2) := by
  induction L with
  | nil => cases he
  | cons a r ih =>
    have hn' : (a.1 :: r.map (·.1)).Nodup := hn
    obtain ⟨n1, n2⟩ := List.nodup_cons.mp hn'
    rcases List.mem_cons.mp he with rfl | he
    · exact valV_pos (p := ((Sum.inr e.1 : Key), V.ref e.2)) rfl
    · have ne : ¬ (Sum.inr a.1 : Key) = Sum.inr e.1 := fun z => n1 (Sum.inr.inj z ▸ List.mem_map.mpr ⟨e, he, rfl⟩)
      have := valV_neg (p := ((Sum.inr a.1 : Key), V.ref a.2)) (r := rowV r) ne
      exact this.trans (ih n2 he)
theorem row_none {L : List (Str × Addr)} {z : Str} (h : z ∉ L.map (·.1)) : valV (rowV L) (Sum.inr z : Key) = none := by
  cases e : valV (rowV L) (Sum.inr z : Key) with
  | none => rfl
  | some v =>
    have := valV_in e
    unfold rowV at this
    rw [List.map_map] at this
    obtain ⟨q, hq, e2⟩ := List.mem_map.mp this
    exact absurd (List.mem_map.mpr ⟨q, hq, Sum.inr.inj e2⟩) h
/-- a debate's attributes -/
def dfs (so oo d1 d2 : Addr) : List (Str × V) := [(("own_statements" : Str), V.ref so), (("own_objections" : Str), V.ref oo), (("own_objectors" : Str), V.ref d1), (("own_objected" : Str), V.ref d2)]
structure DebIn (G : Hp) (so oo d1 d2 : Addr) (ns : List Str) (ps : List Pair) : Prop where
  st : Nm G so ns
  ob : Prs G oo ps
  r1 : Rows G d1 ns (objrs ps)
  r2 : Rows G d2 ns (objd ps)
theorem DebIn.up {G G' : Hp} {so oo d1 d2 : Addr} {ns : List Str} {ps : List Pair} (h : DebIn G so oo d1 d2 ns ps) (e : Same G G') : DebIn G' so oo d1 d2 ns ps := ⟨h.st.up e, h.ob.up e, h.r1.up e, h.r2.up e⟩
/-- a debate stands at p -/
structure DebAt (C : Addr) (G : Hp) (p : Addr) (ns : List Str) (ps : List Pair) : Prop where
  ex : ∃ dx so oo d1 d2, G p = some (.ins C dx (dfs so oo d1 d2)) ∧ DebIn G so oo d1 d2 ns ps
  ok : DebOk ns ps
theorem DebAt.up {C : Addr} {G G' : Hp} {p : Addr} {ns : List Str} {ps : List Pair} (h : DebAt C G p ns ps) (e : Same G G') : DebAt C G' p ns ps := let ⟨dx, so, oo, d1, d2, h1, h2⟩ := h.ex; ⟨⟨dx, so, oo, d1, d2, e _ _ h1, h2.up e⟩, h.ok⟩
/-- the class, as the walk asks it -/
structure DTxt (K : PySem.W.Frag) (mg : Str → Option Value) (C fI : Addr) : Prop where
  cl : Cls K C
  n1 : NoAttr K C "own_statements"
  n2 : NoAttr K C "own_objections"
  n3 : NoAttr K C "own_objectors"
  n4 : NoAttr K C "own_objected"
  mg : mg "Debate" = some (.ref C)
  maker : Mk K C fI
theorem fne12 : ¬ (("own_statements" : Str) = "own_objections") := by decide +kernel
theorem fne13 : ¬ (("own_statements" : Str) = "own_objectors") := by decide +kernel
theorem fne14 : ¬ (("own_statements" : Str) = "own_objected") := by decide +kernel
theorem fne23 : ¬ (("own_objections" : Str) = "own_objectors") := by decide +kernel
theorem fne24 : ¬ (("own_objections" : Str) = "own_objected") := by decide +kernel
theorem fne34 : ¬ (("own_objectors" : Str) = "own_objected") := by decide +kernel
theorem put1 (a : V) : putF ("own_statements" : Str) a [] = [(("own_statements" : Str), a)] := rfl
theorem put2 (a b : V) : putF ("own_objections" : Str) b [(("own_statements" : Str), a)] = [(("own_statements" : Str), a), (("own_objections" : Str), b)] := by
  simp only [putF, if_neg fne12]
theorem put3 (a b c : V) : putF ("own_objectors" : Str) c [(("own_statements" : Str), a), (("own_objections" : Str), b)] = [(("own_statements" : Str), a), (("own_objections" : Str), b), (("own_objectors" : Str), c)] := by
  simp only [putF, if_neg fne13, if_neg fne23]
theorem put4 (a b c d : V) : putF ("own_objected" : Str) d [(("own_statements" : Str), a), (("own_objections" : Str), b), (("own_objectors" : Str), c)] = [(("own_statements" : Str), a), (("own_objections" : Str), b), (("own_objectors" : Str), c), (("own_objected" : Str), d)] := by
  simp only [putF, if_neg fne14, if_neg fne24, if_neg fne34]
theorem look1 (so oo d1 d2 : Addr) : (dfs so oo d1 d2).lookup ("own_statements" : Str) = some (V.ref so) := by
  simp [dfs, List.lookup]
theorem look2 (so oo d1 d2 : Addr) : (dfs so oo d1 d2).lookup ("own_objections" : Str) = some (V.ref oo) := by
  have h : (("own_objections" : Str) == ("own_statements" : Str)) = false := by decide +kernel
  simp [dfs, List.lookup, h]
theorem look3 (so oo d1 d2 : Addr) : (dfs so oo d1 d2).lookup ("own_objectors" : Str) = some (V.ref d1) := by
  have h : (("own_objectors" : Str) == ("own_statements" : Str)) = false := by decide +kernel
  have h2 : (("own_objectors" : Str) == ("own_objections" : Str)) = false := by decide +kernel
  simp [dfs, List.lookup, h, h2]
theorem look4 (so oo d1 d2 : Addr) : (dfs so oo d1 d2).lookup ("own_objected" : Str) = some (V.ref d2) := by
  have h : (("own_objected" : Str) == ("own_statements" : Str)) = false := by decide +kernel
  have h2 : (("own_objected" : Str) == ("own_objections" : Str)) = false := by decide +kernel
  have h3 : (("own_objected" : Str) == ("own_objectors" : Str)) = false := by decide +kernel
  simp [dfs, List.lookup, h, h2, h3]
theorem lookB (so : Addr) : List.lookup ("own_statements" : Str) [(("own_statements" : Str), V.ref so)] = some (V.ref so) := by simp [List.lookup]

/-! ### rows while they are filled -/
theorem nd_inj {α β : Type} {f : α → β} : ∀ {l : List α}, (l.map f).Nodup → ∀ {a b : α}, a ∈ l → b ∈ l → f a = f b → a = b
  | [], _, _, _, ha, _, _ => by cases ha
  | x :: l, h, a, b, ha, hb, e => by
    rw [List.map_cons, List.nodup_cons] at h
    rcases List.mem_cons.mp ha with rfl | ha2 <;> rcases List.mem_cons.mp hb with rfl | hb2
    · rfl
    · exact absurd (List.mem_map.mpr ⟨b, hb2, e.symm⟩) h.1
    · exact absurd (List.mem_map.mpr ⟨a, ha2, e⟩) h.1
    · exact nd_inj h.2 ha2 hb2 e
def RowsH (H : Hp) (L : List (Str × Addr)) (f : Str → List Str) : Prop := ∀ e ∈ L, H e.2 = some (.lst ((f e.1).map V.str))
theorem RowsH.put {H : Hp} {L : List (Str × Addr)} {f f' : Str → List Str} {e0 : Str × Addr} (h : RowsH H L f) (nd1 : (L.map (·.1)).Nodup) (nd2 : (L.map (·.2)).Nodup) (he : e0 ∈ L) (ho : ∀ s, s ≠ e0.1 → f' s = f s) : RowsH (upd H e0.2 (.lst ((f' e0.1).map V.str))) L f' := by
  intro e hm
  by_cases q : e.2 = e0.2
  · have : e = e0 := nd_inj nd2 hm he q
    rw [this, upd_same]
  · rw [upd_ne q, h e hm, ho]
    exact fun z => q (by rw [nd_inj nd1 hm he z])
theorem RowsH.other {H : Hp} {L : List (Str × Addr)} {f : Str → List Str} {p : Addr} {o : HO} (h : RowsH H L f) (hp : ∀ e ∈ L, e.2 ≠ p) : RowsH (upd H p o) L f := fun e hm => by rw [upd_ne (hp e hm)]; exact h e hm
theorem objrs_snoc (ps : List Pair) (p : Pair) (s : Str) : objrs (ps ++ [p]) s = if p.2 = s then objrs ps s ++ [p.1] else objrs ps s := by
  unfold objrs
  rw [List.filter_append, List.map_append, List.filter_cons]
  by_cases h : p.2 = s <;> simp [h]
theorem objd_snoc (ps : List Pair) (p : Pair) (s : Str) : objd (ps ++ [p]) s = if p.1 = s then objd ps s ++ [p.2] else objd ps s := by
  unfold objd
  rw [List.filter_append, List.map_append, List.filter_cons]
  by_cases h : p.1 = s <;> simp [h]
theorem objrs_len (ps : List Pair) (s : Str) : (objrs ps s).length ≤ ps.length := by
  unfold objrs
  rw [List.length_map]
  exact List.length_filter_le _ _
theorem objd_len (ps : List Pair) (s : Str) : (objd ps s).length ≤ ps.length := by
  unfold objd
  rw [List.length_map]
  exact List.length_filter_le _ _
/-- one turn of a dict comprehension -/
abbrev DcStep (g : TG) (tt : TT) (tk tv : TE) (vs : List Nat) (σ : L2.St) (D : Addr) : (Hp → Prop) → V → Hp → Prop := fun Nx x H =>
  g x (wipe σ vs) H fun σ2 H2 => wipe σ2 vs = wipe σ vs ∧ tt σ2 H2 fun b H3 => if b = true then tk σ2 H3 fun y H4 => tv σ2 H4 fun z H5 => ∃ H6, DPut H5 D y z H6 ∧ Nx H6 else Nx H3
structure FreshRows (H1 : Hp) (D : Addr) (ks : List Str) (H : Hp) : Prop where
  ex : ∃ L : List (Str × Addr), L.map (·.1) = ks ∧ H D = some (.dK (rowV L)) ∧ RowsH H L (fun _ => []) ∧ (L.map (·.2)).Nodup ∧ ∀ e ∈ L, H1 e.2 = none
  same : Same H1 H
theorem dc_rows {K : PySem.W.Frag} {a : Addr} {ns : List Str} {H1 : Hp} {g : TG} {tt : TT} {tk tv : TE} {vs : List Nat} {σ : L2.St} {D : Addr} {Qd : Hp → Prop} (hx : SqL K H1 a (ns.map V.str)) (hnd : ns.Nodup) (hl : ns.length ≤ 1000) (hD : H1 D = none)
    (turn : ∀ z H (Nx : Hp → Prop), (∀ l, H l = none → ∃ H6, DPut (upd H l (.lst [])) D (.str z) (.ref l) H6 ∧ Nx H6) → DcStep g tt tk tv vs σ D Nx (.str z) H)
    (hd : ∀ H, FreshRows H1 D ns H → Qd H) :
    ∃ W : Nat → Nat → Hp → Prop, (∃ m, W 0 m (upd H1 D (.dK []))) ∧ ∀ i m H, W i m H → ((Itl K a).stop i H ∧ Qd H) ∨ ((Itl K a).go i H ∧ ∃ Nx : Hp → Prop, (∀ H', Nx H' → ∃ m', m' < m ∧ W (i + 1) m' H') ∧ ∀ x H', (Itl K a).yld i H x H' → DcStep g tt tk tv vs σ D Nx x H') := by
  refine hp_list (xs := ns.map V.str) (Step := DcStep g tt tk tv vs σ D) (fun i H => FreshRows H1 D (ns.take i) H) ⟨⟨[], rfl, upd_same, (fun _ h => nomatch h), List.nodup_nil, (fun _ h => nomatch h)⟩, Same.new hD⟩ (fun i H _ h => h.same.seq hx) (fun i x H hx h => ?_) (fun H h => hd H (by rw [List.length_map, List.take_length] at h; exact h))
  obtain ⟨z, hz, rfl⟩ := get_map hx
  obtain ⟨L, h1, h2, h3, h4, h5⟩ := h.ex
  refine turn z H _ fun l hl0 => ?_
  have hDl : D ≠ l := ne_of_none h2 hl0
  have hzn : valV (rowV L) (Sum.inr z : Key) = none := row_none (by rw [h1]; exact not_mem_take hnd hz)
  have d2 : (upd H l (.lst [])) D = some (.dK (rowV L)) := by rw [upd_ne hDl]; exact h2
  have len : (rowV L).length < sizeLine := szl (by
    unfold rowV
    have : L.length = (ns.take i).length := by rw [← h1, List.length_map]
    rw [List.length_map, this, List.length_take]
    omega)
  have hll : H1 l = none := Same.free h.same hl0
  have nl : ∀ e ∈ L, e.2 ≠ l := fun e he => ne_of_none (h3 e he) hl0
  have nD : ∀ e ∈ L, e.2 ≠ D := fun e he z => by
    have := h3 e he
    rw [z, h2] at this
    cases this
  refine ⟨_, DPut.k (k := (Sum.inr z : Key)) d2 len, ⟨L ++ [(z, l)], by rw [List.map_append, h1, take_succ hz]; rfl, ?_, ?_, ?_, ?_⟩, same_put (h.same.trans (Same.new hl0)) hD⟩
  · rw [upd_same, putK_new _ hzn]
    unfold rowV
    rw [List.map_append]
    rfl
  · intro e he
    rcases List.mem_append.mp he with he | he
    · rw [upd_ne (nD e he), upd_ne (nl e he)]
      exact h3 e he
    · have e1 : e = (z, l) := by simpa using he
      subst e1
      rw [upd_ne (Ne.symm hDl), upd_same]
      rfl
  · rw [List.map_append, List.nodup_append]
    refine ⟨h4, by simp, fun u hu v hv => ?_⟩
    obtain ⟨e, he, rfl⟩ := List.mem_map.mp hu
    have : v = l := by simpa using hv
    rw [this]
    exact nl e he
  · intro e he
    rcases List.mem_append.mp he with he | he
    · exact h5 e he
    · have e1 : e = (z, l) := by simpa using he
      subst e1
      exact hll
end K80
end
section
set_option Elab.async false
set_option linter.all false
set_option maxRecDepth 100000
set_option maxHeartbeats 4000000
namespace K80
open PySem PySem.Spec PyProof.Rows L2
theorem allN_same {G1 H H1 : Hp} (h : Same G1 H1) : Same G1 (allN G1 H H1) := fun b u e => by
  cases q : H b with
  | none => rw [allN_new q]; exact h b u e
  | some o => rw [allN_old q]; exact e
theorem Gr.off {S : List Addr} {G H G' H' : Hp} {p : Addr} (g : Gr S G H G' H') (h : H' p = none) : H p = none := by
  cases q : H p with
  | none => rfl
  | some o => exact absurd h (g.dom p (by rw [q]; simp))
section
variable {P : Program} {w : World} {K : PySem.W.Frag} {mg : Str → Option Value} {base : Heap}
def spInit (C : Addr) : Sp := fun vs H Q _ => ∃ G x a b ns ps dx, vs = [.ref x, .ref a, .ref b] ∧ Same G H ∧ H x = some (.ins C dx []) ∧ G x = none ∧ NmQ G a ns ∧ LoosP G b ps ∧ ns.Nodup ∧ (∀ z ∈ ns, okName z) ∧ ns.length ≤ 100 ∧ ps.Nodup ∧ (∀ p ∈ ps, p.1 ∈ ns ∧ p.2 ∈ ns) ∧ ps.length ≤ 1000 ∧
  ∀ G' H' so oo d1 d2 dx', Gr [x] G H G' H' → H' x = some (.ins C dx' (dfs so oo d1 d2)) → G' x = none → DebIn G' so oo d1 d2 (sortS ns) (sortP ps) → Q .non H'
theorem sc_init : FnScope ["self", "statements", "objections", "one", "other", "statement"] ["self", "statements", "objections"] (defScope s_Debate_init) := ⟨rfl, rfl, rfl, by decide +kernel, rfl, by decide +kernel, by decide +kernel⟩
theorem ok_init {C fI : Addr} {fd : FuncData} (F : FunD K "__init__" "Debate.__init__" (defArgs s_Debate_init) (defBody s_Debate_init) (defScope s_Debate_init) [] [] fI fd) (T : Txt K mg) (DT : DTxt K mg C fI)
    (OS : Ok P w K mg base CX0 2 "checked_statements" ["statements"] spChkS) (OO : Ok P w K mg base CX0 4 "checked_objections" ["objections", "statements"] spChkO) : FnOk P w K mg base CX0 5 fI fd ["self", "statements", "objections"] (spInit C) := by
  refine F.ok sc_init (fun vs H Q E h => ?_) fun cdv A outer s H vs Q E hr h => ?_
  · obtain ⟨_, _, _, _, _, _, _, rfl, _⟩ := h
    rfl
  · obtain ⟨G, x, a, b, ns, ps, dx, rfl, hG, hx, gx, ha, hb, h1, h2, h3, h4, h5, h6, k⟩ := h
    have hu1 := hu_of hr
    have term : ∃ t, PSs (cxOf CX0 P w K mg base ["self", "statements", "objections", "one", "other", "statement"] "Debate.__init__" (defScope s_Debate_init) fI cdv A outer s H E).nox (defBody s_Debate_init) t ∧ t { nx := fun _ H' => Q .non H', rt := Q } (start ["self", "statements", "objections", "one", "other", "statement"] [.ref x, .ref a, .ref b]) H := by
      refine ⟨_, pss_cons (ps_fld (pv 0) (pe_cl OS (hr.mono (by decide)) (pa_cons (pv 1) pa_nil)) rfl)
        (pss_cons (ps_fld (pv 0) (pe_cl OO hr (pa_cons (pv 2) (pa_cons (pe_fld (pv 0) rfl) pa_nil))) rfl)
        (pss_cons (ps_fld (pv 0) (pe_dcG (own := [("statement", 5)]) (g := gName 5) (tt := tYes) (fun H h hb => dk_empty h hb) hu1 rfl sc_init.nd (pi_list (pe_fld (pv 0) rfl)) (blkOk_by (own := [("statement", 5)]) (N := ["self", "statements", "objections", "one", "other", "statement"]) (sc := defScope s_Debate_init) (by decide +kernel))
            (fun _ _ _ _ _ => pg_name (i := 5) sc_init.nd rfl (Or.inl rfl)) (fun _ _ _ _ _ => pts_nil) (fun _ _ _ _ _ => pv 5) (fun _ _ _ _ _ => pe_lst pa_nil)) rfl)
        (pss_cons (ps_fld (pv 0) (pe_dcG (own := [("statement", 5)]) (g := gName 5) (tt := tYes) (fun H h hb => dk_empty h hb) hu1 rfl sc_init.nd (pi_list (pe_fld (pv 0) rfl)) (blkOk_by (own := [("statement", 5)]) (N := ["self", "statements", "objections", "one", "other", "statement"]) (sc := defScope s_Debate_init) (by decide +kernel))
            (fun _ _ _ _ _ => pg_name (i := 5) sc_init.nd rfl (Or.inl rfl)) (fun _ _ _ _ _ => pts_nil) (fun _ _ _ _ _ => pv 5) (fun _ _ _ _ _ => pe_lst pa_nil)) rfl)
        (pss_one (ps_for PassesOwn.never rfl (pi_list (pe_fld (pv 0) rfl)) (pg_tup rfl (pgs_cons (pg_name (i := 3) sc_init.nd rfl (.inl rfl)) (pgs_cons (pg_name (i := 4) sc_init.nd rfl (.inl rfl)) pgs_nil)))
          (pss_cons (ps_expr (pe_bm PySem.F.plainAttrs_list PySem.F.slot_list_append PySem.F.type_list_append mt_append (pe_dget hu1 (pe_fld (pv 0) rfl) (pv 4) (fun _ _ => rfl)) (pa_cons (pv 3) pa_nil)))
          (pss_one (ps_expr (pe_bm PySem.F.plainAttrs_list PySem.F.slot_list_append PySem.F.type_list_append mt_append (pe_dget hu1 (pe_fld (pv 0) rfl) (pv 3) (fun _ _ => rfl)) (pa_cons (pv 4) pa_nil)))))))))), ?_⟩
      refine ⟨_, rfl, G, a, ns, rfl, hG, ha, h1, h2, h3, fun so G1 H1 g1 so1 _ => ?_⟩
      have x1 : H1 x = some (.ins C dx []) := g1.all _ _ hx
      have gx1 : G1 x = none := g1.own x gx (by rw [hx]; simp) (.inr (by rw [hx]; intro xs z; cases z))
      have q1 : Gr [x] G H G1 H1 := g1.mono (by simp) (fun b hb _ _ => by rw [List.mem_singleton.mp hb, hx]; intro xs z; cases z)
      refine ⟨_, rfl, x, C, dx, [], rfl, x1, DT.cl, DT.n1, by decide, ?_⟩
      rw [put1]
      have q2 : Gr [x] G H G1 _ := q1.put (o := .ins C dx [(("own_statements" : Str), V.ref so)]) (.inr (by simp)) gx1
      refine ⟨_, rfl, _, rfl, x, C, dx, _, .ref so, rfl, upd_same, DT.cl, DT.n1, lookB so, ?_⟩
      refine ⟨G1, b, ps, so, sortS ns, rfl, q2.sub, hb.up q2.gg, so1, h4, fun p hp => ⟨mem_sortS.mpr (h5 p hp).1, mem_sortS.mpr (h5 p hp).2⟩, h6, fun oo G2 H2 g2 oo2 _ => ?_⟩
      have x2 : H2 x = _ := g2.all _ _ upd_same
      have gx2 : G2 x = none := g2.own x gx1 (by rw [upd_same]; simp) (.inr (by rw [upd_same]; intro xs z; cases z))
      have q3 : Gr [x] G H G2 H2 := q2.trans (g2.mono (by simp) (fun b hb _ _ => by rw [List.mem_singleton.mp hb, upd_same]; intro xs z; cases z))
      refine ⟨_, rfl, x, C, dx, _, rfl, x2, DT.cl, DT.n2, by simp, ?_⟩
      rw [put2]
      have q4 : Gr [x] G H G2 _ := q3.put (o := .ins C dx [(("own_statements" : Str), V.ref so), (("own_objections" : Str), V.ref oo)]) (.inr (by simp)) gx2
      have so2 := so1.up g2.gg
      refine ⟨_, rfl, x, C, dx, _, .ref so, rfl, upd_same, DT.cl, DT.n1, by simp [List.lookup], so, rfl, ⟨_, (so2.up q4.sub).l⟩, fun D1 hD1 => ?_⟩
      have hlen : (sortS ns).length ≤ 1000 := by rw [sortS_len]; omega
      have hnd : (sortS ns).Nodup := nodup_sortS h1
      refine dc_rows ((so2.up q4.sub).l) hnd hlen hD1 (fun z Hz Nx hz => ?_) fun H3 f3 => ?_
      · exact ⟨rfl, _, rfl, by decide, fun l hl => hz l hl⟩
      obtain ⟨L1, l11, l12, l13, l14, l15⟩ := f3.ex
      have x3 := f3.same _ _ (upd_same (H := H2) (a := x) (o := .ins C dx [(("own_statements" : Str), V.ref so), (("own_objections" : Str), V.ref oo)]))
      have q5 : Gr [x] G H G2 H3 := q4.trans (Gr.same q4.sub f3.same)
      refine ⟨_, rfl, x, C, dx, _, rfl, x3, DT.cl, DT.n3, by simp, ?_⟩
      rw [put3]
      have q6 : Gr [x] G H G2 _ := q5.put (o := .ins C dx [(("own_statements" : Str), V.ref so), (("own_objections" : Str), V.ref oo), (("own_objectors" : Str), V.ref D1)]) (.inr (by simp)) gx2
      refine ⟨_, rfl, x, C, dx, _, .ref so, rfl, upd_same, DT.cl, DT.n1, by simp [List.lookup], so, rfl, ⟨_, (so2.up q6.sub).l⟩, fun D2 hD2 => ?_⟩
      refine dc_rows ((so2.up q6.sub).l) hnd hlen hD2 (fun z Hz Nx hz => ?_) fun H4 f4 => ?_
      · exact ⟨rfl, _, rfl, by decide, fun l hl => hz l hl⟩
      obtain ⟨L2, l21, l22, l23, l24, l25⟩ := f4.ex
      have x4 := f4.same _ _ (upd_same (H := H3) (a := x) (o := .ins C dx [(("own_statements" : Str), V.ref so), (("own_objections" : Str), V.ref oo), (("own_objectors" : Str), V.ref D1)]))
      have q7 : Gr [x] G H G2 H4 := q6.trans (Gr.same q6.sub f4.same)
      refine ⟨_, rfl, x, C, dx, _, rfl, x4, DT.cl, DT.n4, by simp, ?_⟩
      rw [put4]
      have q8 : Gr [x] G H G2 _ := q7.put (o := .ins C dx (dfs so oo D1 D2)) (.inr (by simp)) gx2
      have xD1 : D1 ≠ x := fun z => by rw [z, upd_same] at hD1; cases hD1
      have xD2 : D2 ≠ x := fun z => by rw [z, upd_same] at hD2; cases hD2
      have xL1 : ∀ e ∈ L1, e.2 ≠ x := fun e he z => by have := l15 e he; rw [z, upd_same] at this; cases this
      have xL2 : ∀ e ∈ L2, e.2 ≠ x := fun e he z => by have := l25 e he; rw [z, upd_same] at this; cases this
      have nL1 : ∀ e ∈ L1, H e.2 = none ∧ G2 e.2 = none := fun e he => ⟨q4.off (l15 e he), Same.free q4.sub (l15 e he)⟩
      have nL2 : ∀ e ∈ L2, H e.2 = none ∧ G2 e.2 = none := fun e he => ⟨q6.off (l25 e he), Same.free q6.sub (l25 e he)⟩
      have nD1 : H D1 = none := q4.off hD1
      have nD2 : H D2 = none := q6.off hD2
      have L12 : ∀ e ∈ L1, ∀ e' ∈ L2, e.2 ≠ e'.2 := fun e he e' he' z => by
        have z1 := l25 e' he'
        rw [← z, upd_ne (xL1 e he), l13 e he] at z1
        cases z1
      have kL1 : (L1.map (·.1)).Nodup := by rw [l11]; exact hnd
      have kL2 : (L2.map (·.1)).Nodup := by rw [l21]; exact hnd
      have d14 : H4 D1 = some (.dK (rowV L1)) := f4.same _ _ (by rw [upd_ne xD1]; exact l12)
      have r14 : RowsH H4 L1 (fun _ => []) := fun e he => f4.same _ _ (by rw [upd_ne (xL1 e he)]; exact l13 e he)
      obtain ⟨l, ⟨lo, lt⟩, lp⟩ := oo2
      have hq : ∀ {Hc}, Same G2 Hc → SqL K Hc oo (l.map fun e => V.ref e.1) := fun e => SqL.of (e _ _ lo)
      refine ⟨_, rfl, x, C, dx, _, .ref oo, rfl, upd_same, DT.cl, DT.n2, look2 so oo D1 D2, oo, rfl, ⟨_, hq q8.sub⟩, for_list (K := K) (xs := l.map fun e => V.ref e.1) (fun i σ Hc => ∃ v1 v2, σ = [some (.ref x), some (.ref a), some (.ref b), v1, v2, none] ∧ Gr [x] G H G2 Hc ∧ Hc x = some (.ins C dx (dfs so oo D1 D2)) ∧ Hc D1 = some (.dK (rowV L1)) ∧ Hc D2 = some (.dK (rowV L2)) ∧ RowsH Hc L1 (objrs ((sortP ps).take i)) ∧ RowsH Hc L2 (objd ((sortP ps).take i)))
        ⟨none, none, rfl, q8, upd_same, by rw [upd_ne xD1]; exact d14, by rw [upd_ne xD2]; exact l22, r14.other xL1, l23.other xL2⟩ (fun i σ Hc _ ⟨_, _, _, g, _⟩ => hq g.sub) ?_ ?_⟩
      · rintro i y σ Hc hy ⟨v1, v2, rfl, g, xc, dc1, dc2, rc1, rc2⟩
        obtain ⟨e, he, rfl⟩ := get_map hy
        have hpe : (sortP ps)[i]? = some e.2 := by rw [← lp, List.getElem?_map, he]; rfl
        have hpm : e.2 ∈ ps := mem_sortP.mp (List.mem_of_getElem? hpe)
        have hi : i ≤ 1000 := by have := lt_of_get hpe; rw [sortP_len] at this; omega
        refine ⟨e.1, _, rfl, SqT.of (g.sub _ _ (lt e (List.mem_of_getElem? he))), rfl, _, _, rfl, _, _, rfl, rfl, ?_⟩
        have m1 : e.2.1 ∈ L1.map (·.1) := by rw [l11]; exact mem_sortS.mpr (h5 _ hpm).1
        have m2 : e.2.2 ∈ L1.map (·.1) := by rw [l11]; exact mem_sortS.mpr (h5 _ hpm).2
        have m1' : e.2.1 ∈ L2.map (·.1) := by rw [l21]; exact mem_sortS.mpr (h5 _ hpm).1
        obtain ⟨r1, hr1, er1⟩ := List.mem_map.mp m2
        obtain ⟨r2, hr2, er2⟩ := List.mem_map.mp m1'
        have v1e := row_at kL1 hr1
        have v2e := row_at kL2 hr2
        rw [er1] at v1e
        rw [er2] at v2e
        have t1 := rc1 r1 hr1
        refine ⟨_, rfl, x, C, dx, _, .ref D1, rfl, xc, DT.cl, DT.n3, look3 so oo D1 D2, _, rfl, D1, .ref r1.2, rfl, ?_, ?_⟩
        · rw [← v1e]
          exact DGet.k (k := (Sum.inr e.2.2 : Key)) dc1
        have hs1 : (objrs ((sortP ps).take (i + 1)) r1.1).map V.str = (objrs ((sortP ps).take i) r1.1).map V.str ++ [V.str e.2.1] := by
          rw [take_succ hpe, objrs_snoc, if_pos er1.symm, List.map_append]
          rfl
        have hs2 : (objd ((sortP ps).take (i + 1)) r2.1).map V.str = (objd ((sortP ps).take i) r2.1).map V.str ++ [V.str e.2.2] := by
          rw [take_succ hpe, objd_snoc, if_pos er2.symm, List.map_append]
          rfl
        have n1x := xL1 r1 hr1
        have n2x := xL2 r2 hr2
        have k11 : D1 ≠ r1.2 := fun z => by rw [← z, dc1] at t1; cases t1
        have k12 : D2 ≠ r1.2 := fun z => by rw [← z, dc2] at t1; cases t1
        have t2 := rc2 r2 hr2
        have k21 : D1 ≠ r2.2 := fun z => by rw [← z, dc1] at t2; cases t2
        have k22 : D2 ≠ r2.2 := fun z => by rw [← z, dc2] at t2; cases t2
        have n12 := L12 r1 hr1 r2 hr2
        refine ⟨.inl ⟨rfl, _, SqL.of t1⟩, _, rfl, r1.2, _, _, rfl, rfl, t1, szl (by rw [List.length_map]; refine Nat.le_trans (objrs_len _ _) ?_; rw [List.length_take]; omega), ?_⟩
        refine ⟨_, rfl, x, C, dx, _, .ref D2, rfl, (by rw [upd_ne (Ne.symm n1x)]; exact xc), DT.cl, DT.n4, look4 so oo D1 D2, _, rfl, D2, .ref r2.2, rfl, ?_, ?_⟩
        · rw [← v2e]
          exact DGet.k (k := (Sum.inr e.2.1 : Key)) (by rw [upd_ne k12]; exact dc2)
        have t2' : (upd Hc r1.2 (.lst ((objrs ((sortP ps).take i) r1.1).map V.str ++ [V.str e.2.1]))) r2.2 = _ := (upd_ne (Ne.symm n12)).trans t2
        refine ⟨.inl ⟨rfl, _, SqL.of t2'⟩, _, rfl, r2.2, _, _, rfl, rfl, t2', szl (by rw [List.length_map]; refine Nat.le_trans (objd_len _ _) ?_; rw [List.length_take]; omega), ?_⟩
        rw [← hs1, ← hs2]
        refine ⟨_, _, rfl, (g.put (.inl (nL1 r1 hr1).1) (nL1 r1 hr1).2).put (.inl (nL2 r2 hr2).1) (nL2 r2 hr2).2, ?_, ?_, ?_, ?_, ?_⟩
        · rw [upd_ne (Ne.symm n2x), upd_ne (Ne.symm n1x)]; exact xc
        · rw [upd_ne k21, upd_ne k11]; exact dc1
        · rw [upd_ne k22, upd_ne k12]; exact dc2
        · refine (rc1.put (f' := objrs ((sortP ps).take (i + 1))) kL1 l14 hr1 fun s hs => ?_).other (fun e he => L12 e he r2 hr2)
          rw [take_succ hpe, objrs_snoc, if_neg (fun z => hs (by rw [er1, z]))]
        · refine (rc2.other (fun e he => Ne.symm (L12 r1 hr1 e he))).put (f' := objd ((sortP ps).take (i + 1))) kL2 l24 hr2 fun s hs => ?_
          rw [take_succ hpe, objd_snoc, if_neg (fun z => hs (by rw [er2, z]))]
      · rintro σ Hc ⟨v1, v2, rfl, g, xc, dc1, dc2, rc1, rc2⟩
        rw [List.length_map, ← List.length_map (f := (·.2)), lp, List.take_length] at rc1 rc2
        have s2 := allN_same (H := H) g.sub
        refine k _ Hc so oo D1 D2 dx (g.pubAll hG) xc (by rw [allN_old hx]; exact gx2) ⟨so2.up s2, ⟨l, PrL.up ⟨lo, lt⟩ s2, lp⟩, ⟨L1, l11, by rw [allN_new nD1]; exact dc1, fun e he => ?_⟩, ⟨L2, l21, by rw [allN_new nD2]; exact dc2, fun e he => ?_⟩⟩
        · show allN G2 H Hc e.2 = _
          rw [allN_new (nL1 e he).1]
          exact rc1 e he
        · show allN G2 H Hc e.2 = _
          rw [allN_new (nL2 e he).1]
          exact rc2 e he
    obtain ⟨t, h1, h2⟩ := term
    exact ⟨t, h1.nox, h2⟩
end
end K80
end
section
set_option Elab.async false
set_option linter.all false
set_option maxRecDepth 100000
set_option maxHeartbeats 4000000
namespace K80
open PySem PySem.Spec PyProof.Rows L2
/-! ### texts, lists of them, lists of pairs, as data -/
theorem okName.lay {z : Str} (h : okName z) : PyData.strOk z = true := by
  have e : ∀ c ∈ (small ++ figs).cps.toList, (decide (c < 0x110000)) = true := by decide +kernel
  unfold PyData.strOk
  rw [Array.all_eq_true]
  intro i hi
  exact e _ (h.tl _ (by rw [Array.mem_toList_iff]; exact Array.getElem_mem hi))
def encS (ns : List Str) : PyData := .list (ns.map .str)
def encPs (ps : List Pair) : PyData := .list (ps.map encP)
section
variable {K : PySem.W.Frag} {G : Hp} {a : Addr}
theorem dpAll_strs : ∀ ns : List Str, DpAll K G (ns.map V.str) (ns.map PyData.str)
  | [] => .nil
  | z :: ns => .cons (.str z) (dpAll_strs ns)
theorem Nm.dp {ns : List Str} (h : Nm G a ns) : Dp K G (.ref a) (encS ns) := .lst h.l (dpAll_strs ns)
theorem dpAll_prs : ∀ {l : List (Addr × Pair)}, (∀ e ∈ l, G e.1 = some (.tup [.str e.2.1, .str e.2.2])) → DpAll K G (l.map fun e => V.ref e.1) ((l.map (·.2)).map encP)
  | [], _ => .nil
  | e :: l, h => .cons (.tup (SqT.of (h e (by simp))) (.cons (.str _) (.cons (.str _) .nil))) (dpAll_prs fun z hz => h z (by simp [hz]))
theorem Prs.dp {ps : List Pair} (h : Prs G a ps) : Dp K G (.ref a) (encPs ps) := by
  obtain ⟨l, ⟨h1, h2⟩, rfl⟩ := h
  exact .lst (SqL.of h1) (dpAll_prs h2)
end
theorem layAll : ∀ ns : List Str, (∀ z ∈ ns, okName z) → PyData.canLayAll0 (ns.map PyData.str) = true
  | [], _ => by simp [PyData.canLayAll0]
  | z :: ns, h => by
    have h1 := (h z (by simp)).lay
    have h2 := layAll ns fun y hy => h y (by simp [hy])
    simp [PyData.canLayAll0, PyData.canLay0, h1, h2]
theorem depAll : ∀ ns : List Str, PyData.depthAll (ns.map PyData.str) = 0
  | [] => by simp [PyData.depthAll]
  | z :: ns => by simp [PyData.depthAll, PyData.depth, depAll ns]
theorem encS_shaped {ns : List Str} (h : ∀ z ∈ ns, okName z) : SeqAt.shaped (encS ns) = true := by
  have h1 := layAll ns h
  have h2 := depAll ns
  simp [SeqAt.shaped, encS, PyData.canLay0, PyData.depth, h1, h2]
def okPair (p : Pair) : Prop := okName p.1 ∧ okName p.2
theorem encP_shaped {p : Pair} (h : okPair p) : SeqAt.shaped (encP p) = true := by
  have h1 := h.1.lay
  have h2 := h.2.lay
  simp [SeqAt.shaped, encP, PyData.canLay0, PyData.canLayAll0, PyData.depth, PyData.depthAll, h1, h2]
theorem layAllP : ∀ ps : List Pair, (∀ p ∈ ps, okPair p) → PyData.canLayAll0 (ps.map encP) = true
  | [], _ => by simp [PyData.canLayAll0]
  | p :: ps, h => by
    have h1 := (h p (by simp)).1.lay
    have h2 := (h p (by simp)).2.lay
    have h3 := layAllP ps fun y hy => h y (by simp [hy])
    simp [PyData.canLayAll0, PyData.canLay0, encP, h1, h2, h3]
theorem depAllP : ∀ ps : List Pair, PyData.depthAll (ps.map encP) ≤ 1
  | [] => by simp [PyData.depthAll]
  | p :: ps => by
    have := depAllP ps
    simp [PyData.depthAll, PyData.depth, encP]
    omega
theorem encPs_shaped {ps : List Pair} (h : ∀ p ∈ ps, okPair p) : SeqAt.shaped (encPs ps) = true := by
  have h1 := layAllP ps h
  have h2 := depAllP ps
  simp [SeqAt.shaped, encPs, PyData.canLay0, PyData.depth, h1]
  omega
theorem eqvAll_strs : ∀ a b : List Str, PyData.eqvAll (a.map .str) (b.map .str) = decide (a = b)
  | [], [] => by simp [PyData.eqvAll]
  | [], _ :: _ => by simp [PyData.eqvAll]
  | _ :: _, [] => by simp [PyData.eqvAll]
  | x :: a, y :: b => by
    have := eqvAll_strs a b
    simp only [List.map_cons, PyData.eqvAll, PyData.eqv, this]
    by_cases h1 : x = y <;> by_cases h2 : a = b <;> simp [h1, h2]
theorem eqv_encS (a b : List Str) : PyData.eqv (encS a) (encS b) = decide (a = b) := by
  unfold encS
  simp only [PyData.eqv]
  exact eqvAll_strs a b
theorem eqv_encP (a b : Pair) : PyData.eqv (encP a) (encP b) = decide (a = b) := by
  obtain ⟨a1, a2⟩ := a
  obtain ⟨b1, b2⟩ := b
  simp only [encP, PyData.eqv, PyData.eqvAll]
  by_cases h1 : a1 = b1 <;> by_cases h2 : a2 = b2 <;> simp [h1, h2]
theorem eqvAll_prs : ∀ a b : List Pair, PyData.eqvAll (a.map encP) (b.map encP) = decide (a = b)
  | [], [] => by simp [PyData.eqvAll]
  | [], _ :: _ => by simp [PyData.eqvAll]
  | _ :: _, [] => by simp [PyData.eqvAll]
  | x :: a, y :: b => by
    have := eqvAll_prs a b
    simp only [List.map_cons, PyData.eqvAll, eqv_encP, this]
    by_cases h1 : x = y <;> by_cases h2 : a = b <;> simp [h1, h2]
theorem eqv_encPs (a b : List Pair) : PyData.eqv (encPs a) (encPs b) = decide (a = b) := by
  unfold encPs
  simp only [PyData.eqv]
  exact eqvAll_prs a b
theorem any_encP (p : Pair) : ∀ ps : List Pair, ((ps.map encP).any fun z => PyData.eqv z (encP p)) = decide (p ∈ ps)
  | [] => rfl
  | q :: ps => by
    rw [List.map_cons, List.any_cons, any_encP p ps, eqv_encP]
    by_cases h1 : q = p
    · subst h1; simp
    · have h2 : ¬ p = q := fun z => h1 z.symm
      by_cases h3 : p ∈ ps <;> simp [h1, h2, h3]
end K80
end
section
set_option Elab.async false
set_option linter.all false
set_option maxRecDepth 100000
set_option maxHeartbeats 4000000
namespace K80
open PySem PySem.Spec PyProof.Rows L2
/-- a function at f keeps the promise sp -/
def OkM (P : Program) (w : World) (K : PySem.W.Frag) (mg : Str → Option Value) (base : Heap) (CX : CXT) (k : Nat) (f : Addr) (ps : List Str) (sp : Sp) : Prop := ∃ fd, FnOk P w K mg base CX k f fd ps sp ∧ Binds K fd ps []
/-- what isinstance and == ask of the class, and its methods -/
structure DMore (K : PySem.W.Frag) (C fS fO fE : Addr) : Prop where
  ic : PySem.W.findIn K (.ref C) "__class__" = some (some (.builtin "object.__class__"))
  ig : PySem.W.specialIn K (.builtin "object.__class__") "__get__" = some (some (.builtin "getset_descriptor.__get__"))
  it : PySem.W.takesIn K (.builtin "object.__class__") = some true
  im : PySem.W.mroIn K C (.type "object") = some true
  ms : Meth K C "statements" fS
  mo : Meth K C "objections" fO
  me : Meth K C "__eq__" fE
section
variable {P : Program} {w : World} {K : PySem.W.Frag} {mg : Str → Option Value} {base : Heap}
theorem ok_init' {C fI : Addr} {fd : FuncData} (F : FunD K "__init__" "Debate.__init__" (defArgs s_Debate_init) (defBody s_Debate_init) (defScope s_Debate_init) [] [] fI fd) (T : Txt K mg) (DT : DTxt K mg C fI)
    (OS : Ok P w K mg base CX0 2 "checked_statements" ["statements"] spChkS) (OO : Ok P w K mg base CX0 4 "checked_objections" ["objections", "statements"] spChkO) : OkM P w K mg base CX0 5 fI ["self", "statements", "objections"] (spInit C) :=
  ⟨fd, ok_init F T DT OS OO, F.bindsN fun _ _ _ _ _ _ us hl => match us, hl with | [_, _, _], _ => rfl⟩
/-- Debate(..): what the call asks and gives -/
theorem pe_mk {X : Cx} {C fI : Addr} {e : Expr} {es : List Expr} {t : TA} {p pos : Pos} (DT : DTxt X.K X.mg C fI) (O : OkM X.prog X.w X.K X.mg X.base CX0 5 fI ["self", "statements", "objections"] (spInit C)) (hr : Room 6 X.A) (ha : PA X (e :: es) t) (hg : Gl X "Debate" := by rfl)
    (he : starEach (e :: es) X.env = (false, eval e X.env) :: starEach es X.env := by rfl) (hpl : (backTo pos (starEach es X.env)).any (·.1) = false := by rfl) : PE X (.Call (.Name "Debate" p) (e :: es) [] pos) (tMake C (spInit C) [] E0 t) := by
  obtain ⟨fd, F, hb⟩ := O
  exact pe_make DT.maker F hr hg DT.mg hb .nil pass0 ha (by decide) he hpl
/-- reading it -/
theorem rd_mk {C : Addr} {G H : Hp} {a b : Addr} {ns : List Str} {ps : List Pair} {Q : VK} (hG : Same G H) (ha : NmQ G a ns) (hb : LoosP G b ps) (h1 : ns.Nodup) (h2 : ∀ z ∈ ns, okName z) (h3 : ns.length ≤ 100) (h4 : ps.Nodup) (h5 : ∀ p ∈ ps, p.1 ∈ ns ∧ p.2 ∈ ns) (h6 : ps.length ≤ 1000)
    (k : ∀ x G' H', Gr [] G H G' H' → DebAt C G' x (sortS ns) (sortP ps) → H x = none → Q (.ref x) H') :
    ∀ x dx, H x = none → H dx = none → dx ≠ x → spInit C (.ref x :: ([.ref a, .ref b] ++ [])) (upd (upd H dx (.own x)) x (.ins C dx [])) (fun v H2 => v = .non ∧ Q (.ref x) H2) E0 := by
  intro x dx hx hdx hne
  have s1 : Same H (upd (upd H dx (.own x)) x (.ins C dx [])) := (Same.new hdx).trans (Same.new (by rw [upd_ne (Ne.symm hne)]; exact hx))
  have gx : G x = none := Same.free hG hx
  refine ⟨G, x, a, b, ns, ps, dx, rfl, hG.trans s1, upd_same, gx, ha, hb, h1, h2, h3, h4, h5, h6, fun G' H' so oo d1 d2 dx' g hx' gx' di => ⟨rfl, ?_⟩⟩
  have g0 : Gr [] G H G' H' := ⟨g.gg, g.sub, fun b o _ e => g.keep b o (by
      intro z
      rw [List.mem_singleton.mp z, hx] at e
      cases e) (s1 _ _ e), fun b e1 e2 e3 => by
      have hb : b ≠ x := fun z => e2 (z ▸ hx)
      cases q : H b with
      | none => exact absurd q e2
      | some o =>
        refine g.own b e1 (by rw [s1 _ _ q]; simp) (.inr ?_)
        rw [s1 _ _ q, ← q]
        exact e3.resolve_left (by simp), fun b e => g.dom b (by
        cases q : H b with
        | none => exact absurd q e
        | some o => rw [s1 _ _ q]; simp)⟩
  refine k x _ H' (g0.pub hx gx gx' hx') ⟨⟨dx', so, oo, d1, d2, upd_same, di.up (Same.new gx')⟩, DebOk.mk' h1 h2 h3 h4 h5 h6⟩ hx
/-! ### statements, objections -/
def spGetS (C : Addr) : Sp := fun vs H Q _ => ∃ G a ns ps, vs = [.ref a] ∧ Same G H ∧ DebAt C G a ns ps ∧ ∀ l G' H', Gr [] G H G' H' → Nm G' l ns → Q (.ref l) H'
def spGetO (C : Addr) : Sp := fun vs H Q _ => ∃ G a ns ps, vs = [.ref a] ∧ Same G H ∧ DebAt C G a ns ps ∧ ∀ l G' H', Gr [] G H G' H' → Prs G' l ps → Q (.ref l) H'
def spDEq (C : Addr) : Sp := fun vs H Q _ => ∃ G a b ns ps ns' ps', vs = [.ref a, .ref b] ∧ Same G H ∧ DebAt C G a ns ps ∧ DebAt C G b ns' ps' ∧ ∀ H', Same H H' → Q (.bl (decide (ns = ns' ∧ ps = ps'))) H'
theorem sc_statements : FnScope ["self"] ["self"] (defScope s_Debate_statements) := ⟨rfl, rfl, rfl, by decide +kernel, rfl, by decide +kernel, by decide +kernel⟩
theorem sc_objections : FnScope ["self"] ["self"] (defScope s_Debate_objections) := ⟨rfl, rfl, rfl, by decide +kernel, rfl, by decide +kernel, by decide +kernel⟩
theorem sc_deq : FnScope ["self", "other"] ["self", "other"] (defScope s_Debate_eq) := ⟨rfl, rfl, rfl, by decide +kernel, rfl, by decide +kernel, by decide +kernel⟩
theorem ok_statements {C fI f : Addr} {fd : FuncData} (F : FunD K "statements" "Debate.statements" (defArgs s_Debate_statements) (defBody s_Debate_statements) (defScope s_Debate_statements) [] [] f fd) (T : Txt K mg) (DT : DTxt K mg C fI) : OkM P w K mg base CX0 1 f ["self"] (spGetS C) := by
  refine ⟨fd, F.ok sc_statements (fun vs H Q E h => ?_) (fun cdv A outer s H vs Q E hr h => ?_), F.bindsN fun _ _ _ _ _ _ us hl => match us, hl with | [_], _ => rfl⟩
  · obtain ⟨_, _, _, _, rfl, _⟩ := h
    rfl
  · obtain ⟨G, a, ns, ps, rfl, hG, hd, k⟩ := h
    have term : ∃ t, PSs (cxOf CX0 P w K mg base ["self"] "Debate.statements" (defScope s_Debate_statements) f cdv A outer s H E).nox (defBody s_Debate_statements) t ∧ t { nx := fun _ H' => Q .non H', rt := Q } (start ["self"] [.ref a]) H := by
      refine ⟨_, pss_one (ps_ret (pe_callTy call_list_of (by rfl) T.list (by decide +kernel) (pa_cons (pe_fld (pv 0) rfl) pa_nil))), ?_⟩
      obtain ⟨dx, so, oo, d1, d2, ha, hi⟩ := hd.ex
      refine ⟨_, rfl, a, C, dx, _, .ref so, rfl, hG _ _ ha, DT.cl, DT.n1, look1 so oo d1 d2, so, _, rfl, .inl (hi.st.up hG).l, fun l hl => ?_⟩
      exact k l _ _ (Gr.new hG hl) upd_same
    obtain ⟨t, h1, h2⟩ := term
    exact ⟨t, h1.nox, h2⟩
theorem ok_objections {C fI f : Addr} {fd : FuncData} (F : FunD K "objections" "Debate.objections" (defArgs s_Debate_objections) (defBody s_Debate_objections) (defScope s_Debate_objections) [] [] f fd) (T : Txt K mg) (DT : DTxt K mg C fI) : OkM P w K mg base CX0 1 f ["self"] (spGetO C) := by
  refine ⟨fd, F.ok sc_objections (fun vs H Q E h => ?_) (fun cdv A outer s H vs Q E hr h => ?_), F.bindsN fun _ _ _ _ _ _ us hl => match us, hl with | [_], _ => rfl⟩
  · obtain ⟨_, _, _, _, rfl, _⟩ := h
    rfl
  · obtain ⟨G, a, ns, ps, rfl, hG, hd, k⟩ := h
    have term : ∃ t, PSs (cxOf CX0 P w K mg base ["self"] "Debate.objections" (defScope s_Debate_objections) f cdv A outer s H E).nox (defBody s_Debate_objections) t ∧ t { nx := fun _ H' => Q .non H', rt := Q } (start ["self"] [.ref a]) H := by
      refine ⟨_, pss_one (ps_ret (pe_callTy call_list_of (by rfl) T.list (by decide +kernel) (pa_cons (pe_fld (pv 0) rfl) pa_nil))), ?_⟩
      obtain ⟨dx, so, oo, d1, d2, ha, hi⟩ := hd.ex
      obtain ⟨l0, ⟨p1, p2⟩, p3⟩ := hi.ob
      refine ⟨_, rfl, a, C, dx, _, .ref oo, rfl, hG _ _ ha, DT.cl, DT.n2, look2 so oo d1 d2, oo, _, rfl, .inl (SqL.of (hG _ _ p1)), fun l hl => ?_⟩
      exact k l _ _ (Gr.new hG hl) ⟨l0, ⟨upd_same, fun z hz => (Same.new (Same.free hG hl)) _ _ (p2 z hz)⟩, p3⟩
    obtain ⟨t, h1, h2⟩ := term
    exact ⟨t, h1.nox, h2⟩
theorem ok_deq {C fI fS fO f : Addr} {fd : FuncData} (F : FunD K "__eq__" "Debate.__eq__" (defArgs s_Debate_eq) (defBody s_Debate_eq) (defScope s_Debate_eq) [] [] f fd) (T : Txt K mg) (DT : DTxt K mg C fI) (DM : DMore K C fS fO f) : OkM P w K mg base CX0 1 f ["self", "other"] (spDEq C) := by
  refine ⟨fd, F.ok sc_deq (fun vs H Q E h => ?_) (fun cdv A outer s H vs Q E hr h => ?_), F.bindsN fun _ _ _ _ _ _ us hl => match us, hl with | [_, _], _ => rfl⟩
  · obtain ⟨_, _, _, _, _, _, _, rfl, _⟩ := h
    rfl
  · obtain ⟨G, a, b, ns, ps, ns', ps', rfl, hG, hd, hd', k⟩ := h
    have hu := hr.units
    have term : ∃ t, PSs (cxOf CX0 P w K mg base ["self", "other"] "Debate.__eq__" (defScope s_Debate_eq) f cdv A outer s H E).nox (defBody s_Debate_eq) t ∧ t { nx := fun _ H' => Q .non H', rt := Q } (start ["self", "other"] [.ref a, .ref b]) H := by
      refine ⟨_, pss_cons (ps_if (pt_not (pt_val (pe_callB call_isi (by rfl) T.isi (by decide +kernel) (pa_cons (pv 1) (pa_cons (pe_glob (v := .ref C) (by rfl) DT.mg rfl) pa_nil))))) (pss_one ps_never) pss_nil)
        (pss_one (ps_ret (pe_and (pe_cmpR (op_eqD hu) (pe_fld (pv 0) rfl) (pe_fld (pv 1) rfl) (by rfl)) (pe_one (pe_cmpR (op_eqD hu) (pe_fld (pv 0) rfl) (pe_fld (pv 1) rfl) (by rfl)))))), ?_⟩
      obtain ⟨dx, so, oo, d1, d2, ha, hi⟩ := hd.ex
      obtain ⟨ex, so', oo', e1, e2, hb, hi'⟩ := hd'.ex
      have okp : ∀ p ∈ ps, okPair p := fun p hp => ⟨hd.ok.nm _ (hd.ok.pin p hp).1, hd.ok.nm _ (hd.ok.pin p hp).2⟩
      have okp' : ∀ p ∈ ps', okPair p := fun p hp => ⟨hd'.ok.nm _ (hd'.ok.pin p hp).1, hd'.ok.nm _ (hd'.ok.pin p hp).2⟩
      refine ⟨_, rfl, .ref b, .ref C, .ref C, .ref C, true, rfl, .own C, .base (.ins (hG _ _ hb) DT.cl DM.ic DM.ig DM.it DM.im), by unfold PySem.W.kitOne; rw [if_pos (by simp)], _, rfl, ?_⟩
      refine ⟨_, rfl, a, C, dx, _, .ref so, rfl, hG _ _ ha, DT.cl, DT.n1, look1 so oo d1 d2, _, rfl, b, C, ex, _, .ref so', rfl, hG _ _ hb, DT.cl, DT.n1, look1 so' oo' e1 e2, ?_⟩
      refine ⟨_, _, (hi.st.up hG).dp, (hi'.st.up hG).dp, encS_shaped hd.ok.nm, encS_shaped hd'.ok.nm, ?_⟩
      rw [eqv_encS]
      refine ⟨_, rfl, ?_⟩
      by_cases hn : ns = ns'
      · rw [decide_eq_true hn]
        refine iteT ⟨_, rfl, a, C, dx, _, .ref oo, rfl, hG _ _ ha, DT.cl, DT.n2, look2 so oo d1 d2, _, rfl, b, C, ex, _, .ref oo', rfl, hG _ _ hb, DT.cl, DT.n2, look2 so' oo' e1 e2, ?_⟩
        refine ⟨_, _, (hi.ob.up hG).dp, (hi'.ob.up hG).dp, encPs_shaped okp, encPs_shaped okp', ?_⟩
        rw [eqv_encPs]
        have := k H (Same.refl _)
        simpa [hn] using this
      · rw [decide_eq_false hn]
        refine iteF ?_
        have := k H (Same.refl _)
        simpa [hn] using this
    obtain ⟨t, h1, h2⟩ := term
    exact ⟨t, h1.nox, h2⟩
end
end K80
end
section
set_option Elab.async false
set_option linter.all false
set_option maxRecDepth 100000
set_option maxHeartbeats 4000000
namespace K80
open PySem PySem.Spec PyProof.Rows L2
section
variable {P : Program} {w : World} {K : PySem.W.Frag} {mg : Str → Option Value} {base : Heap}
/-! ### checked_lot of a lot -/
def spLot (C : Addr) : Sp := fun vs H Q _ => ∃ G d a ns ps ms, vs = [.ref d, .ref a] ∧ Same G H ∧ DebAt C G d ns ps ∧ NmQ G a ms ∧ ms.Nodup ∧ (∀ z ∈ ms, z ∈ ns) ∧ ∀ l G' H', Gr [] G H G' H' → Nm G' l (sortS ms) → H l = none → Q (.ref l) H'
theorem rows_get {G : Hp} {d : Addr} {ns : List Str} {f : Str → List Str} (h : Rows G d ns f) (hn : ns.Nodup) (z : Str) : ∃ L, G d = some (.dK (rowV L)) ∧ (valV (rowV L) (Sum.inr z : Key)).isSome = decide (z ∈ ns) ∧ (z ∈ ns → ∃ p, valV (rowV L) (Sum.inr z : Key) = some (.ref p) ∧ Nm G p (f z)) := by
  obtain ⟨L, h1, h2, h3⟩ := h
  refine ⟨L, h2, ?_, fun hz => ?_⟩
  · by_cases hz : z ∈ ns
    · have hz' := hz
      rw [← h1] at hz'
      obtain ⟨e, he, rfl⟩ := List.mem_map.mp hz'
      rw [row_at (by rw [h1]; exact hn) he, decide_eq_true hz]
      rfl
    · rw [row_none (by rw [h1]; exact hz), decide_eq_false hz]
      rfl
  · rw [← h1] at hz
    obtain ⟨e, he, rfl⟩ := List.mem_map.mp hz
    exact ⟨e.2, row_at (by rw [h1]; exact hn) he, h3 e he⟩
theorem sc_checked_lot : FnScope ["debate", "lot", "index", "thing"] ["debate", "lot"] (defScope s_checked_lot) := ⟨rfl, rfl, rfl, by decide +kernel, rfl, by decide +kernel, by decide +kernel⟩
theorem ok_checked_lot {C fI : Addr} (D : Df K mg "checked_lot" s_checked_lot) (T : Txt K mg) (DT : DTxt K mg C fI) (O : Ok P w K mg base CX0 1 "is_list" ["thing"] (spIsList K)) : Ok P w K mg base CX0 2 "checked_lot" ["debate", "lot"] (spLot C) := by
  refine mkOk D sc_checked_lot (fun _ _ _ _ _ _ us hl => match us, hl with | [_, _], _ => rfl) (fun vs H Q E h => ?_) fun cdv A outer s H vs Q E hr h => ?_
  · obtain ⟨_, _, _, _, _, _, rfl, _⟩ := h
    rfl
  · obtain ⟨G, d, a, ns, ps, ms, rfl, hG, hd, ha, hnd, hin, k⟩ := h
    have hu := hr.units
    have hu1 := hu_of hr
    refine ⟨_, pss_cons (ps_if (pt_not (pt_val (pe_cl O hr (pa_cons (pv 1) pa_nil)))) (pss_one ps_never) pss_nil)
      (pss_cons (ps_for PassesOwn.never rfl (pi_enumQ T.enum (pa_cons (pv 1) pa_nil)) (pg_tup rfl (pgs_cons (pg_name (i := 2) sc_checked_lot.nd rfl (.inl rfl)) (pgs_cons (pg_name (i := 3) sc_checked_lot.nd rfl (.inl rfl)) pgs_nil)))
        (pss_one (ps_if (PW.pt (pw_or (pt_not (pt_val (pe_callB call_is1 (by rfl) T.isi (by decide +kernel) (pa_cons (pv 3) (pa_cons (pe_ty "str" T.str) pa_nil))))) (pw_or (pt_cmp (pc_dnotin hu1 (pv 3) (pe_fld (pv 0) rfl))) (pw_or1 (pt_cmpR op_in_seq (pv 3) (pe_slice sl_seq (pv 1) po_none (po_some (pv 2))) (by rfl)))))) (pss_one ps_never) pss_nil)))
      (pss_one (ps_ret (pe_callB (cr_sortQ hu) (by rfl) T.sorted (by decide +kernel) (pa_cons (pv 1) pa_nil))))), ?_⟩
    obtain ⟨n, kd, hn⟩ := (ha.up hG).kd (K := K)
    refine ⟨_, rfl, .ref a, n, rfl, kd, fun H1 e1 => ⟨_, rfl, ?_⟩⟩
    rw [hn]
    refine ⟨_, rfl, for_enumQ (K := K) (xs := ms.map V.str) (fun i σ Hc => ∃ v1 v2, σ = [some (.ref d), some (.ref a), v1, v2] ∧ Same H1 Hc) ((ha.up (hG.trans e1)).q) ⟨none, none, rfl, Same.refl _⟩ (fun i σ Hc ⟨_, _, _, s⟩ => fun o q => s _ _ q) ?_ ?_⟩
    · rintro i x T' σ Hc hx ⟨v1, v2, rfl, s1⟩ hT
      obtain ⟨z, hz, rfl⟩ := get_map hx
      refine ⟨T', _, rfl, SqT.of upd_same, rfl, ?_⟩
      refine ⟨_, _, rfl, _, _, rfl, rfl, ?_⟩
      have hzm : z ∈ ms := List.mem_of_getElem? hz
      have s2 := s1.trans (Same.new (o := .tup [V.int ↑i, V.str z]) hT)
      have gx := hG.trans (e1.trans s2)
      refine ⟨_, rfl, .str z, "str", "str", rfl, .str z, by decide, _, rfl, ?_⟩
      obtain ⟨dx, so, oo, d1, d2, hda, hi⟩ := hd.ex
      obtain ⟨L, l1, l2, l3⟩ := rows_get hi.r1 hd.ok.nd z
      refine ⟨_, rfl, _, rfl, d, C, dx, _, .ref d1, rfl, gx _ _ hda, DT.cl, DT.n3, look3 so oo d1 d2, d1, _, rfl, DGet.k (k := (Sum.inr z : Key)) (gx _ _ l1), false, ?_, iteF ?_⟩
      · rw [l2, decide_eq_true (hin z hzm)]
        rfl
      refine ⟨_, rfl, _, rfl, _, rfl, _, rfl, sl_take ((ha.up gx).q) (by rw [List.length_map]; exact lt_of_get hz) fun p H3 e3 hp => ?_⟩
      rw [← List.map_take] at hp
      refine ⟨p, _, rfl, hp, rfl, all_flat _, false, ?_, ?_⟩
      · rw [inV_str, decide_eq_false (not_mem_take hnd hz)]
        rfl
      · exact ⟨_, _, rfl, s2.trans e3⟩
    · rintro σ Hc ⟨v1, v2, rfl, s1⟩
      refine ⟨_, rfl, sort_strs ((ha.up (hG.trans (e1.trans s1))).q) fun p hp => ?_⟩
      have hs : Same H Hc := e1.trans s1
      exact k p (upd G p _) _ ((Gr.same hG hs).trans (Gr.new (hG.trans hs) hp)) upd_same (Same.free hs hp)
/-! ### hit_by, answered_in -/
def spHit (C : Addr) : Sp := fun vs H Q _ => ∃ G d a ns ps ms, vs = [.ref d, .ref a] ∧ Same G H ∧ DebAt C G d ns ps ∧ Nm G a ms ∧ ms.length ≤ 100 ∧ (∀ z ∈ ms, z ∈ ns) ∧ ∀ l G' H' kvs, Gr [] G H G' H' → H l = none → G' l = some (.dK kvs) → (∀ z : Str, (valV kvs (Sum.inr z : Key)).isSome = decide (∃ m ∈ ms, (m, z) ∈ ps)) → Q (.ref l) H'
theorem sc_hit_by : FnScope ["debate", "members", "member", "other"] ["debate", "members"] (defScope s_hit_by) := ⟨rfl, rfl, rfl, by decide +kernel, rfl, by decide +kernel, by decide +kernel⟩
/-- one turn of the outer walk of a dict comprehension of two clauses -/
theorem hits_snoc (ms : List Str) (m : Str) (ps : List Pair) (z : Str) : (∃ x ∈ ms ++ [m], (x, z) ∈ ps) ↔ ((∃ x ∈ ms, (x, z) ∈ ps) ∨ (m, z) ∈ ps) := by
  constructor
  · rintro ⟨x, hx, h⟩
    rcases List.mem_append.mp hx with hx | hx
    · exact .inl ⟨x, hx, h⟩
    · exact .inr (by rw [List.mem_singleton.mp hx] at h; exact h)
  · rintro (⟨x, hx, h⟩ | h)
    · exact ⟨x, List.mem_append_left _ hx, h⟩
    · exact ⟨m, by simp, h⟩
theorem mem_objd {ps : List Pair} {m z : Str} : z ∈ objd ps m ↔ (m, z) ∈ ps := by
  unfold objd
  rw [List.mem_map]
  constructor
  · rintro ⟨p, hp, rfl⟩
    obtain ⟨h1, h2⟩ := List.mem_filter.mp hp
    have : p.1 = m := of_decide_eq_true h2
    rw [← this]
    exact h1
  · intro h
    exact ⟨(m, z), List.mem_filter.mpr ⟨h, by simp⟩, rfl⟩
theorem mem_objrs {ps : List Pair} {m z : Str} : z ∈ objrs ps m ↔ (z, m) ∈ ps := by
  unfold objrs
  rw [List.mem_map]
  constructor
  · rintro ⟨p, hp, rfl⟩
    obtain ⟨h1, h2⟩ := List.mem_filter.mp hp
    have : p.2 = m := of_decide_eq_true h2
    rw [← this]
    exact h1
  · intro h
    exact ⟨(z, m), List.mem_filter.mpr ⟨h, by simp⟩, rfl⟩
theorem ok_hit_by {C fI : Addr} (D : Df K mg "hit_by" s_hit_by) (T : Txt K mg) (DT : DTxt K mg C fI) : Ok P w K mg base CX0 1 "hit_by" ["debate", "members"] (spHit C) := by
  refine mkOk D sc_hit_by (fun _ _ _ _ _ _ us hl => match us, hl with | [_, _], _ => rfl) (fun vs H Q E h => ?_) fun cdv A outer s H vs Q E hr h => ?_
  · obtain ⟨_, _, _, _, _, _, rfl, _⟩ := h
    rfl
  · obtain ⟨G, d, a, ns, ps, ms, rfl, hG, hd, ha, hlen, hin, k⟩ := h
    have hu := hr.units
    have hu1 := hu_of hr
    refine ⟨_, pss_one (ps_ret (pe_dc2 (own := [("member", 2), ("other", 3)]) (vs1 := [3]) (g := gName 2) (tt := tYes) (g1 := gName 3) (tt1 := tYes) (fun H h hb => dk_empty h hb) hu1 rfl sc_hit_by.nd (pi_list (pv 1)) (blkOk_by (own := [("member", 2), ("other", 3)]) (N := ["debate", "members", "member", "other"]) (sc := defScope s_hit_by) (by decide +kernel)) (by decide)
      (fun _ _ _ _ _ => pg_name (i := 2) sc_hit_by.nd rfl (Or.inl rfl)) (fun _ _ _ _ _ => pts_nil) (fun _ _ _ _ _ => piLK K (pe_dget hu1 (fldK K (pv 0)) (pv 2) (fun _ _ => rfl)))
      (fun _ _ _ _ _ => pg_name (i := 3) sc_hit_by.nd rfl (Or.inl rfl)) (fun _ _ _ _ _ => pts_nil) (fun _ _ _ _ _ => pv 3) (fun _ _ _ _ _ => pe_bl))), ?_⟩
    obtain ⟨dx, so, oo, d1, d2, hda, hi⟩ := hd.ex
    refine ⟨_, rfl, a, rfl, ⟨_, (ha.up hG).l⟩, fun R hR => ?_⟩
    let Inv : Nat → Nat → Hp → Prop := fun i j Hc => ∃ kvs, Same H Hc ∧ Hc R = some (.dK kvs) ∧ kvs.length ≤ i * 1000 + j ∧ ∀ z : Str, (valV kvs (Sum.inr z : Key)).isSome = decide (∃ m ∈ ms.take i, (m, z) ∈ ps)
    refine hp_list (xs := ms.map V.str) (Step := fun Nx x H' => _) (fun i Hc => Inv i 0 Hc) ⟨[], Same.new hR, upd_same, Nat.zero_le _, fun z => by simp [valV]⟩ (fun i Hc _ ⟨_, s, _⟩ => (ha.up (hG.trans s)).l) (fun i x Hc hx h => ?_) (fun Hc h => ?_)
    · obtain ⟨m, hm, rfl⟩ := get_map hx
      obtain ⟨kvs, s1, hk, hl, hz⟩ := h
      have hmm : m ∈ ms := List.mem_of_getElem? hm
      obtain ⟨L, l1, l2, l3⟩ := rows_get hi.r2 hd.ok.nd m
      obtain ⟨p, hp, np⟩ := l3 (hin m hmm)
      have plen : (objd ps m).length ≤ 1000 := Nat.le_trans (objd_len _ _) hd.ok.pl
      refine ⟨rfl, _, rfl, d, C, dx, _, .ref d2, rfl, s1 _ _ (hG _ _ hda), DT.cl, DT.n4, look4 so oo d1 d2, _, rfl, d2, .ref p, rfl, (by rw [← hp]; exact DGet.k (k := (Sum.inr m : Key)) (s1 _ _ (hG _ _ l1))), p, rfl, ⟨_, (np.up (hG.trans s1)).l⟩, ?_⟩
      refine hp_list (xs := (objd ps m).map V.str) (Step := fun Nx x H' => _) (fun j Hc => ∃ kvs, Same H Hc ∧ Hc R = some (.dK kvs) ∧ kvs.length ≤ i * 1000 + j ∧ ∀ z : Str, (valV kvs (Sum.inr z : Key)).isSome = decide ((∃ m ∈ ms.take i, (m, z) ∈ ps) ∨ z ∈ (objd ps m).take j))
        ⟨kvs, s1, hk, hl, fun z => by rw [hz]; simp⟩ (fun j Hc _ ⟨_, s, _⟩ => (np.up (hG.trans s)).l) (fun j y Hc hy h => ?_) (fun Hc h => ?_)
      · obtain ⟨z, hz', rfl⟩ := get_map hy
        obtain ⟨kvs, s1, hk, hl, hz⟩ := h
        have hi100 : i < ms.length := lt_of_get hm
        have hj := lt_of_get hz'
        refine ⟨rfl, _, rfl, _, DPut.k (k := (Sum.inr z : Key)) hk (szl (by omega)), _, same_put s1 hR, upd_same, ?_, fun y => ?_⟩
        · have := length_putK kvs (Sum.inr z : Key) (V.bl true)
          omega
        · rw [valV_put, take_succ hz']
          by_cases e : (Sum.inr y : Key) = Sum.inr z
          · have e' := Sum.inr.inj e
            subst e'
            rw [if_pos rfl]
            simp
          · rw [if_neg e, hz]
            have e' : ¬ y = z := fun q => e (by rw [q])
            simp [e']
      · obtain ⟨kvs, s1, hk, hl, hz⟩ := h
        rw [List.length_map] at hl hz
        refine ⟨kvs, s1, hk, by omega, fun z => ?_⟩
        rw [hz, take_succ hm, List.take_length]
        refine decide_eq_decide.mpr ?_
        rw [hits_snoc, mem_objd]
    · obtain ⟨kvs, s1, hk, hl, hz⟩ := h
      rw [List.length_map, List.take_length] at hz
      refine k R (upd G R (.dK kvs)) Hc kvs ?_ hR upd_same hz
      have hid : Gr [] G H G Hc := Gr.same hG s1
      exact hid.pub hR (Same.free hG hR) (Same.free hG hR) hk
end
end K80
end
section
set_option Elab.async false
set_option linter.all false
set_option maxRecDepth 100000
set_option maxHeartbeats 4000000
namespace K80
open PySem PySem.Spec PyProof.Rows L2
/-! ### pairs as a relation -/
def rel (ps : List Pair) (a b : Str) : Bool := decide ((a, b) ∈ ps)
theorem hit_dec (ps : List Pair) (ms : List Str) (z : Str) : decide (∃ m ∈ ms, (m, z) ∈ ps) = hit (rel ps) ms z := by
  refine bool_eq ?_
  rw [decide_eq_true_iff, hit_iff]
  unfold rel
  simp
theorem ans_objrs {ns : List Str} {ps : List Pair} (ms : List Str) (z : Str) (hp : ∀ p ∈ ps, p.1 ∈ ns) : (objrs ps z).all (fun o => hit (rel ps) ms o) = ans (rel ps) ns ms z := by
  refine bool_eq ?_
  rw [List.all_eq_true, ans_iff]
  constructor
  · intro h y _ r
    exact h y (mem_objrs.mpr (of_decide_eq_true r))
  · intro h y hy
    have := mem_objrs.mp hy
    exact h y (hp _ this) (decide_eq_true this)
section
variable {P : Program} {w : World} {K : PySem.W.Frag} {mg : Str → Option Value} {base : Heap}
def spAnswered (C : Addr) : Sp := fun vs H Q _ => ∃ G d a ns ps ms, vs = [.ref d, .ref a] ∧ Same G H ∧ DebAt C G d ns ps ∧ Nm G a ms ∧ ms.length ≤ 100 ∧ (∀ z ∈ ms, z ∈ ns) ∧ ∀ l G' H', Gr [] G H G' H' → Nm G' l (stp (rel ps) ns ms) → Q (.ref l) H'
theorem sc_answered_in : FnScope ["debate", "members", "hit", "rows", "statement", "objector"] ["debate", "members"] (defScope s_answered_in) := ⟨rfl, rfl, rfl, by decide +kernel, rfl, by decide +kernel, by decide +kernel⟩
theorem ok_answered_in {C fI : Addr} (D : Df K mg "answered_in" s_answered_in) (T : Txt K mg) (DT : DTxt K mg C fI) (OH : Ok P w K mg base CX0 1 "hit_by" ["debate", "members"] (spHit C)) : Ok P w K mg base CX0 2 "answered_in" ["debate", "members"] (spAnswered C) := by
  refine mkOk D sc_answered_in (fun _ _ _ _ _ _ us hl => match us, hl with | [_, _], _ => rfl) (fun vs H Q E h => ?_) fun cdv A outer s H vs Q E hr h => ?_
  · obtain ⟨_, _, _, _, _, _, rfl, _⟩ := h
    rfl
  · obtain ⟨G, d, a, ns, ps, ms, rfl, hG, hd, ha, hlen, hin, k⟩ := h
    have hu := hr.units
    have hu1 := hu_of hr
    refine ⟨_, pss_cons (ps_set (i := 2) sc_answered_in.nd rfl (.inr rfl) (pe_cl OH hr (pa_cons (pv 0) (pa_cons (pv 1) pa_nil))))
      (pss_cons (ps_set (i := 3) sc_answered_in.nd rfl (.inr rfl) (pe_fld (pv 0) rfl))
      (pss_one (ps_ret (pe_lock (pe_lc (own := [("statement", 4)]) (g := gName 4) rfl sc_answered_in.nd (pi_keys (pv 3)) (blkOk_by (own := [("statement", 4)]) (N := ["debate", "members", "hit", "rows", "statement", "objector"]) (sc := defScope s_answered_in) (by decide +kernel))
        (fun _ _ _ _ _ => pg_name (i := 4) sc_answered_in.nd rfl (Or.inl rfl))
        (fun _ _ _ _ _ => pts_one (pt_val (pe_callB (allK K) (by rfl) T.all (by decide +kernel) (pa_cons (pe_lc (own := [("objector", 5)]) (g := gName 5) (tt := tYes) rfl sc_answered_in.nd (piLK K (pe_dget hu1 (pv 3) (pv 4) (fun _ _ => rfl))) (blkOk_by (own := [("objector", 5)]) (by rfl))
          (fun _ _ _ _ _ => pg_name (i := 5) sc_answered_in.nd rfl (Or.inl rfl)) (fun _ _ _ _ _ => pts_nil) (fun _ _ _ _ _ => pe_cmp (pc_din hu1 (pv 5) (pv 2)))) pa_nil))))
        (fun _ _ _ _ _ => pv 4)))))), ?_⟩
    refine ⟨_, rfl, _, rfl, G, d, a, ns, ps, ms, rfl, hG, hd, ha, hlen, hin, fun hh G1 H1 kvs g1 hhn hhd hhk => ?_⟩
    obtain ⟨dx, so, oo, d1, d2, hda, hi⟩ := hd.ex
    obtain ⟨L, l1, l2, l3⟩ := hi.r1
    have s1 := hG.trans g1.all
    refine ⟨_, rfl, d, C, dx, _, .ref d1, rfl, s1 _ _ hda, DT.cl, DT.n3, look3 so oo d1 d2, ?_⟩
    have e0 : rowV L = (L.map fun e => (e.1, V.ref e.2)).map fun e => ((Sum.inr e.1 : Key), e.2) := by rw [List.map_map]; rfl
    have l2' := l2
    rw [e0] at l2'
    refine ⟨d1, _, s1 _ _ l2', trivial, fun od => ?_⟩
    refine ⟨_, rfl, d1, od, rfl, .inl ⟨_, upd_same, fun R hR => ?_⟩⟩
    have dR : R ≠ d1 := fun z => by rw [z, upd_same] at hR; cases hR
    have hR1 : H1 R = none := by rw [upd_ne dR] at hR; exact hR
    have nH : hh ≠ d1 := fun z => by rw [z, hG _ _ l2] at hhn; cases hhn
    have nP : ∀ e ∈ L, e.2 ≠ d1 := fun e he z => by
      have := l3 e he
      rw [z] at this
      unfold Nm at this
      rw [l2] at this
      cases this
    refine lc_fmK (L.map fun e => (e.1, V.ref e.2)) (fun e => ans (rel ps) ns ms e.1) (fun e => V.str e.1) upd_same (by rw [List.length_map]; have := hd.ok.nl; rw [← l1, List.length_map] at this; omega) hR (fun e' he' Hc sc Qn Qy hn hy => ?_) fun Hc sc hc => ?_
    · obtain ⟨e, he, rfl⟩ := List.mem_map.mp he'
      have hzn : e.1 ∈ ns := by rw [← l1]; exact List.mem_map.mpr ⟨e, he, rfl⟩
      have np : Nm Hc e.2 (objrs ps e.1) := sc _ _ (by rw [upd_ne (nP e he)]; exact s1 _ _ (l3 e he))
      have hk : Hc hh = some (.dK kvs) := sc _ _ (by rw [upd_ne nH]; exact g1.sub _ _ hhd)
      refine ⟨rfl, _, rfl, _, rfl, d1, .ref e.2, rfl, .inl ⟨_, (Sum.inr e.1 : Key), .inr ⟨od, sc _ _ upd_same⟩, rfl, ?_⟩, e.2, rfl, ⟨_, np.l⟩, fun D2 hD2 => ?_⟩
      · rw [← e0]
        exact (row_at (by rw [l1]; exact hd.ok.nd) he).symm
      · refine lc_fm (objrs ps e.1) V.str (fun _ => true) (fun o => V.bl (hit (rel ps) ms o)) np.l (Nat.le_trans (objrs_len _ _) (by have := hd.ok.pl; omega)) hD2 (fun o ho H2 s2 Qn2 Qy2 hn2 hy2 => ?_) fun H2 s2 h2 => ?_
        · refine ⟨rfl, _, rfl, _, rfl, hh, _, rfl, DGet.k (k := (Sum.inr o : Key)) (s2 _ _ hk), ?_⟩
          rw [hhk, hit_dec]
          exact hy2 rfl H2 (Same.refl _)
        · rw [filt_all] at h2
          refine ⟨D2, (objrs ps e.1).map fun o => hit (rel ps) ms o, rfl, SqL.of (by rw [h2, List.map_map]; rfl), _, rfl, ?_⟩
          have ea : ((objrs ps e.1).map fun o => hit (rel ps) ms o).all id = ans (rel ps) ns ms e.1 := by
            rw [← ans_objrs ms e.1 (fun p hp => (hd.ok.pin p hp).1), List.all_map]
            rfl
          rw [ea]
          cases q : ans (rel ps) ns ms e.1 with
          | false => exact iteF (hn q H2 s2)
          | true => exact ⟨_, rfl, hy q H2 s2⟩
    · refine ⟨sc _ _ upd_same, ?_⟩
      have sA : Same H1 (upd Hc d1 (.dK ((L.map fun e => (e.1, V.ref e.2)).map fun e => ((Sum.inr e.1 : Key), e.2)))) := fun b u e => by
        by_cases hb : b = d1
        · rw [hb] at e ⊢
          rw [s1 _ _ l2', ] at e
          rw [upd_same]
          exact e
        · rw [upd_ne hb]
          exact sc _ _ (by rw [upd_ne hb]; exact e)
      have hRl : (upd Hc d1 (.dK ((L.map fun e => (e.1, V.ref e.2)).map fun e => ((Sum.inr e.1 : Key), e.2)))) R = some (.lst ((stp (rel ps) ns ms).map V.str)) := by
        rw [upd_ne dR, hc]
        congr 2
        unfold stp
        rw [← l1, List.filter_map, List.filter_map, List.map_map, List.map_map]
        rfl
      have g2 : Gr [] G H G _ := Gr.same hG (g1.all.trans sA)
      have hRG : G R = none := Same.free s1 hR1
      have hRH : H R = none := Gr.off g1 hR1
      exact k R _ _ (g2.pub hRH hRG hRG hRl) upd_same
end
end K80
end
section
set_option Elab.async false
set_option linter.all false
set_option maxRecDepth 100000
set_option maxHeartbeats 4000000
namespace K80
open PySem PySem.Spec PyProof.Rows L2
section
variable {P : Program} {w : World} {K : PySem.W.Frag} {mg : Str → Option Value} {base : Heap}
theorem itr_len (R : Str → Str → Bool) (ns : List Str) : ∀ k, (itr R ns k).length ≤ ns.length
  | 0 => Nat.zero_le _
  | k + 1 => stp_len _ _ _
/-! ### least_lot -/
def spLeast (C : Addr) : Sp := fun vs H Q _ => ∃ G d ns ps, vs = [.ref d] ∧ Same G H ∧ DebAt C G d ns ps ∧ ∀ l G' H', Gr [] G H G' H' → Nm G' l (lst (rel ps) ns) → Q (.ref l) H'
theorem sc_least_lot : FnScope ["debate", "members", "later"] ["debate"] (defScope s_least_lot) := ⟨rfl, rfl, rfl, by decide +kernel, rfl, by decide +kernel, by decide +kernel⟩
theorem ok_least_lot {C fI : Addr} (D : Df K mg "least_lot" s_least_lot) (T : Txt K mg) (DT : DTxt K mg C fI) (OA : Ok P w K mg base CX0 2 "answered_in" ["debate", "members"] (spAnswered C)) : Ok P w K mg base CX0 3 "least_lot" ["debate"] (spLeast C) := by
  refine mkOk D sc_least_lot (fun _ _ _ _ _ _ us hl => match us, hl with | [_], _ => rfl) (fun vs H Q E h => ?_) fun cdv A outer s H vs Q E hr h => ?_
  · obtain ⟨_, _, _, _, rfl, _⟩ := h
    rfl
  · obtain ⟨G, d, ns, ps, rfl, hG, hd, k⟩ := h
    have hu := hr.units
    refine ⟨_, pss_cons (ps_set (i := 1) sc_least_lot.nd rfl (.inl rfl) (pe_lst pa_nil))
      (pss_one (ps_while PassesOwn.never (pt_val pe_bl) (pss_cons (ps_set (i := 2) sc_least_lot.nd rfl (.inl rfl) (pe_cl OA hr (pa_cons (pv 0) (pa_cons (pv 1) pa_nil))))
        (pss_cons (ps_if (pt_cmpR (op_eqD hu) (pv 2) (pv 1) (by rfl)) (pss_one (ps_ret (pv 1))) pss_nil) (pss_one (ps_set (i := 1) sc_least_lot.nd rfl (.inl rfl) (pv 2))))))), ?_⟩
    refine ⟨by decide, fun a0 ha0 => ?_⟩
    refine ⟨fun m σ Hc => ∃ i G' a v, σ = [some (.ref d), some (.ref a), v] ∧ Gr [] G H G' Hc ∧ Nm G' a (itr (rel ps) ns i) ∧ m = ns.length - (itr (rel ps) ns i).length, ⟨_, 0, upd G a0 (.lst []), a0, none, rfl, Gr.new hG ha0, upd_same, rfl⟩, ?_⟩
    rintro m σ Hc ⟨i, G', a, v, rfl, g, ha, rfl⟩
    refine ⟨_, rfl, iteT ⟨fun σ' H' => ∃ m', m' < ns.length - (itr (rel ps) ns i).length ∧ ∃ i G' a v, σ' = [some (.ref d), some (.ref a), v] ∧ Gr [] G H G' H' ∧ Nm G' a (itr (rel ps) ns i) ∧ m' = ns.length - (itr (rel ps) ns i).length, fun σ' H' h => h, ?_⟩⟩
    have hlen := itr_len (rel ps) ns i
    have hnl := hd.ok.nl
    refine ⟨_, rfl, _, rfl, G', d, a, ns, ps, _, rfl, g.sub, hd.up g.gg, ha, by omega, fun z hz => itr_sub hz, fun l G2 H2 g2 hl => ?_⟩
    have ha2 := ha.up g2.gg
    refine ⟨_, rfl, _, rfl, _, _, (hl.up g2.sub).dp, (ha2.up g2.sub).dp, encS_shaped fun z hz => hd.ok.nm z (itr_sub (k := i + 1) hz), encS_shaped fun z hz => hd.ok.nm z (itr_sub hz), _, rfl, ?_⟩
    rw [eqv_encS]
    by_cases e : stp (rel ps) ns (itr (rel ps) ns i) = itr (rel ps) ns i
    · rw [decide_eq_true e]
      refine iteT ⟨_, rfl, ?_⟩
      have : lst (rel ps) ns = itr (rel ps) ns i := (lst_is _ _).unique ⟨e, i, rfl⟩
      exact k a G2 H2 (g.trans g2) (by rw [this]; exact ha2)
    · rw [decide_eq_false e]
      refine iteF ⟨_, rfl, ?_⟩
      have h1 := itr_grow (R := rel ps) (T := ns) (k := i) e
      have h2 := itr_len (rel ps) ns (i + 1)
      exact ⟨_, by omega, i + 1, G2, l, _, rfl, g.trans g2, hl, rfl⟩
end
end K80
end
section
set_option Elab.async false
set_option linter.all false
set_option maxRecDepth 100000
set_option maxHeartbeats 4000000
namespace K80
open PySem PySem.Spec PyProof.Rows L2
theorem at0 {a b : V} : atI [a, b] (0 : Int) = some a := atI_nat (xs := [a, b]) (j := 0) rfl
theorem at1 {a b : V} : atI [a, b] (1 : Int) = some b := atI_nat (xs := [a, b]) (j := 1) rfl
section
variable {P : Program} {w : World} {K : PySem.W.Frag} {mg : Str → Option Value} {base : Heap}
/-! ### clash_in, unanswered_in: none -/
def spClash (C : Addr) : Sp := fun vs H Q _ => ∃ G d a ns ps ms, vs = [.ref d, .ref a] ∧ Same G H ∧ DebAt C G d ns ps ∧ Nm G a ms ∧ (∀ p ∈ ps, p.1 ∈ ms → p.2 ∈ ms → False) ∧ ∀ H', Same H H' → Q .non H'
def spUnans (C : Addr) : Sp := fun vs H Q _ => ∃ G d a ns ps ms, vs = [.ref d, .ref a] ∧ Same G H ∧ DebAt C G d ns ps ∧ Nm G a ms ∧ ms.length ≤ 100 ∧ (∀ z ∈ ms, z ∈ ns) ∧ (∀ m ∈ ms, ∀ o ∈ objrs ps m, hit (rel ps) ms o = true) ∧ ∀ H', Same H H' → Q .non H'
theorem sc_clash_in : FnScope ["debate", "members", "pairs", "pair"] ["debate", "members"] (defScope s_clash_in) := ⟨rfl, rfl, rfl, by decide +kernel, rfl, by decide +kernel, by decide +kernel⟩
theorem sc_unanswered_in : FnScope ["debate", "members", "hit", "member", "objector"] ["debate", "members"] (defScope s_unanswered_in) := ⟨rfl, rfl, rfl, by decide +kernel, rfl, by decide +kernel, by decide +kernel⟩
/-- pair[0] in ms and pair[1] in ms -/
abbrev pIn (ms : List Str) (p : Pair) : Bool := decide (p.1 ∈ ms) && decide (p.2 ∈ ms)
theorem ok_clash_in {C fI : Addr} (D : Df K mg "clash_in" s_clash_in) (T : Txt K mg) (DT : DTxt K mg C fI) : Ok P w K mg base CX0 1 "clash_in" ["debate", "members"] (spClash C) := by
  refine mkOk D sc_clash_in (fun _ _ _ _ _ _ us hl => match us, hl with | [_, _], _ => rfl) (fun vs H Q E h => ?_) fun cdv A outer s H vs Q E hr h => ?_
  · obtain ⟨_, _, _, _, _, _, rfl, _⟩ := h
    rfl
  · obtain ⟨G, d, a, ns, ps, ms, rfl, hG, hd, ha, hno, k⟩ := h
    have hu := hr.units
    refine ⟨_, pss_cons (ps_setLc (i := 2) (own := [("pair", 3)]) (g := gName 3) rfl sc_clash_in.nd rfl rfl (sw_true rfl rfl rfl (by decide +kernel)) (pi_list (pe_fld (pv 0) rfl)) (blkOk_by (own := [("pair", 3)]) (N := ["debate", "members", "pairs", "pair"]) (sc := defScope s_clash_in) (by decide +kernel))
        (fun _ _ _ _ _ => pg_name (i := 3) sc_clash_in.nd rfl (Or.inl rfl))
        (fun _ _ _ _ _ => pts_one (PW.pt (pw_and (pt_cmpR (inK K) (pe_ix (ixTK K) (pv 3) pe_int (fun _ _ => rfl)) (pv 1) (by rfl)) (pw_and1 (pt_cmpR (inK K) (pe_ix (ixTK K) (pv 3) pe_int (fun _ _ => rfl)) (pv 1) (by rfl))))))
        (fun _ _ _ _ _ => pv 3))
      (pss_one (ps_ret (pe_ifExp (pt_cmpR (op_neD hu) (pv 2) (pe_lst pa_nil) (by rfl)) pe_never pe_non))), ?_⟩
    obtain ⟨dx, so, oo, d1, d2, hda, hi⟩ := hd.ex
    obtain ⟨l, ⟨p1, p2⟩, rfl⟩ := hi.ob
    have hps := hd.ok.pl
    rw [List.length_map] at hps
    refine ⟨_, rfl, d, C, dx, _, .ref oo, rfl, hG _ _ hda, DT.cl, DT.n2, look2 so oo d1 d2, oo, rfl, ⟨_, SqL.of (hG _ _ p1)⟩, fun R hR => ?_⟩
    refine lc_fm l (fun e => V.ref e.1) (fun e => pIn ms e.2) (fun e => V.ref e.1) (SqL.of (hG _ _ p1)) (by omega) hR (fun e he Hc sc Qn Qy hn hy => ?_) fun Hc sc hc => ?_
    · have sq : SqT K Hc e.1 [V.str e.2.1, V.str e.2.2] := SqT.of (sc _ _ (hG _ _ (p2 e he)))
      have hm := ((ha.up (hG.trans sc)).l (K := K))
      refine ⟨rfl, _, rfl, _, _, _, _, rfl, rfl, sq, at0, _, rfl, a, _, rfl, .inl hm, rfl, all_flat ms, _, rfl, ?_⟩
      rw [inV_str]
      by_cases h1 : e.2.1 ∈ ms
      · rw [decide_eq_true h1]
        refine iteT ⟨_, rfl, _, _, _, _, rfl, rfl, sq, at1, _, rfl, a, _, rfl, .inl hm, rfl, all_flat ms, _, rfl, ?_⟩
        rw [inV_str]
        by_cases h2 : e.2.2 ∈ ms
        · exact (hno e.2 (List.mem_map.mpr ⟨e, he, rfl⟩) h1 h2).elim
        · rw [decide_eq_false h2]
          exact iteF (hn (by simp [pIn, h2]) Hc (Same.refl _))
      · rw [decide_eq_false h1]
        exact iteF (iteF (hn (by simp [pIn, h1]) Hc (Same.refl _)))
    · have e : l.filter (fun e => pIn ms e.2) = [] := by
        rw [List.filter_eq_nil_iff]
        intro e he h
        have h' : (decide (e.2.1 ∈ ms) && decide (e.2.2 ∈ ms)) = true := h
        rw [Bool.and_eq_true, decide_eq_true_iff, decide_eq_true_iff] at h'
        exact hno e.2 (List.mem_map.mpr ⟨e, he, rfl⟩) h'.1 h'.2
      rw [e] at hc
      refine ⟨_, rfl, by decide, fun q hq => ⟨.list [], .list [], .lst (SqL.of (by rw [upd_ne (ne_of_none hc hq)]; exact hc)) .nil, .lst (SqL.of upd_same) .nil, by decide, by decide, false, by simp [PyData.eqv, PyData.eqvAll], iteF (k _ (sc.trans (Same.new hq)))⟩⟩
theorem ok_unanswered_in {C fI : Addr} (D : Df K mg "unanswered_in" s_unanswered_in) (T : Txt K mg) (DT : DTxt K mg C fI) (OH : Ok P w K mg base CX0 1 "hit_by" ["debate", "members"] (spHit C)) : Ok P w K mg base CX0 2 "unanswered_in" ["debate", "members"] (spUnans C) := by
  refine mkOk D sc_unanswered_in (fun _ _ _ _ _ _ us hl => match us, hl with | [_, _], _ => rfl) (fun vs H Q E h => ?_) fun cdv A outer s H vs Q E hr h => ?_
  · obtain ⟨_, _, _, _, _, _, rfl, _⟩ := h
    rfl
  · obtain ⟨G, d, a, ns, ps, ms, rfl, hG, hd, ha, hlen, hin, hans, k⟩ := h
    have hu := hr.units
    have hu1 := hu_of hr
    refine ⟨_, pss_cons (ps_set (i := 2) sc_unanswered_in.nd rfl (.inl rfl) (pe_cl OH hr (pa_cons (pv 0) (pa_cons (pv 1) pa_nil))))
      (pss_cons (ps_for PassesOwn.never rfl (pi_list (pv 1)) (pg_name (i := 3) sc_unanswered_in.nd rfl (.inl rfl))
        (pss_one (ps_for PassesOwn.never rfl (pi_list (pe_dget hu1 (pe_fld (pv 0) rfl) (pv 3) (fun _ _ => rfl))) (pg_name (i := 4) sc_unanswered_in.nd rfl (.inl rfl))
          (pss_one (ps_if (pt_cmp (pc_dnotin hu1 (pv 4) (pv 2))) (pss_one ps_never) pss_nil)))))
      (pss_one (ps_ret pe_non))), ?_⟩
    refine ⟨_, rfl, _, rfl, G, d, a, ns, ps, ms, rfl, hG, hd, ha, hlen, hin, fun hh G1 H1 kvs g1 hhn hhd hhk => ?_⟩
    obtain ⟨dx, so, oo, d1, d2, hda, hi⟩ := hd.ex
    have s1 := hG.trans g1.all
    have hk1 : H1 hh = some (.dK kvs) := g1.sub _ _ hhd
    refine ⟨_, rfl, a, rfl, ⟨_, (ha.up s1).l⟩, for_list (K := K) (xs := ms.map V.str) (fun i σ Hc => ∃ v3 v4, σ = [some (.ref d), some (.ref a), some (.ref hh), v3, v4] ∧ Same H1 Hc) ⟨none, none, rfl, Same.refl _⟩ (fun i σ Hc _ ⟨_, _, _, s⟩ => (ha.up (s1.trans s)).l) ?_ ?_⟩
    · rintro i x σ Hc hx ⟨v3, v4, rfl, sc⟩
      obtain ⟨m, hm, rfl⟩ := get_map hx
      have hmm := List.mem_of_getElem? hm
      obtain ⟨L, l1, l2, l3⟩ := rows_get hi.r1 hd.ok.nd m
      obtain ⟨p, hp, np⟩ := l3 (hin m hmm)
      have sg := s1.trans sc
      refine ⟨_, rfl, d, C, dx, _, .ref d1, rfl, sg _ _ hda, DT.cl, DT.n3, look3 so oo d1 d2, _, rfl, d1, .ref p, rfl, (by rw [← hp]; exact DGet.k (k := (Sum.inr m : Key)) (sg _ _ l1)), p, rfl, ⟨_, (np.up sg).l⟩, ?_⟩
      refine for_list (K := K) (xs := (objrs ps m).map V.str) (fun j σ Hc => ∃ v4, σ = [some (.ref d), some (.ref a), some (.ref hh), some (.str m), v4] ∧ Same H1 Hc) ⟨v4, rfl, sc⟩ (fun j σ Hc _ ⟨_, _, s⟩ => (np.up (s1.trans s)).l) ?_ ?_
      · rintro j y σ Hc hy ⟨v4, rfl, sc⟩
        obtain ⟨o, ho, rfl⟩ := get_map hy
        refine ⟨_, rfl, _, rfl, hh, _, rfl, DGet.k (k := (Sum.inr o : Key)) (sc _ _ hk1), false, ?_, iteF ⟨_, rfl, sc⟩⟩
        rw [hhk, hit_dec, hans m hmm o (List.mem_of_getElem? ho)]
        rfl
      · rintro σ Hc ⟨v4, rfl, sc⟩
        exact ⟨_, _, rfl, sc⟩
    · rintro σ Hc ⟨v3, v4, rfl, sc⟩
      exact k Hc (g1.all.trans sc)
end
end K80
end
section
set_option Elab.async false
set_option linter.all false
set_option maxRecDepth 100000
set_option maxHeartbeats 4000000
namespace K80
open PySem PySem.Spec PyProof.Rows L2
theorem pt_never {X : Cx} {e : Expr} : PT X e (fun _ _ _ => False) := ⟨fun _ _ _ _ _ _ h => h.elim⟩
theorem ne_calm : decide (V.str ("whole" : Str) = V.str ("calm" : Str)) = false := by rw [dec_str]; decide +kernel
theorem ne_settled : decide (V.str ("whole" : Str) = V.str ("settled" : Str)) = false := by rw [dec_str]; decide +kernel
theorem ne_held : decide (V.str ("whole" : Str) = V.str ("held" : Str)) = false := by rw [dec_str]; decide +kernel
theorem ne_least : decide (V.str ("whole" : Str) = V.str ("least" : Str)) = false := by rw [dec_str]; decide +kernel
theorem ne_greatest : decide (V.str ("whole" : Str) = V.str ("greatest" : Str)) = false := by rw [dec_str]; decide +kernel
section
variable {P : Program} {w : World} {K : PySem.W.Frag} {mg : Str → Option Value} {base : Heap}
/-! ### a whole lot has no fault -/
def spFaultH (C : Addr) : Sp := fun vs H Q _ => ∃ G d a ns ps ms, vs = [.ref d, .str "whole", .ref a] ∧ Same G H ∧ DebAt C G d ns ps ∧ Nm G a ms ∧ ms.length ≤ 100 ∧ (∀ z ∈ ms, z ∈ ns) ∧ (∀ z ∈ stp (rel ps) ns ms, z ∈ ms) ∧ ∀ H', Same H H' → Q .non H'
def spFault (C : Addr) : Sp := fun vs H Q _ => ∃ G d a ns ps ms, vs = [.ref d, .str "whole", .ref a] ∧ Same G H ∧ DebAt C G d ns ps ∧ Nm G a ms ∧ ms.length ≤ 100 ∧ (∀ z ∈ ms, z ∈ ns) ∧ (∀ z ∈ stp (rel ps) ns ms, z ∈ ms) ∧
  (∀ p ∈ ps, p.1 ∈ ms → p.2 ∈ ms → False) ∧ (∀ m ∈ ms, ∀ o ∈ objrs ps m, hit (rel ps) ms o = true) ∧ ∀ H', Same H H' → Q .non H'
theorem sc_fault_among_held : FnScope ["debate", "way", "members", "lacks", "greater", "statement"] ["debate", "way", "members"] (defScope s_fault_among_held) := ⟨rfl, rfl, rfl, by decide +kernel, rfl, by decide +kernel, by decide +kernel⟩
theorem sc_fault_in : FnScope ["debate", "way", "members", "clash", "spared", "left"] ["debate", "way", "members"] (defScope s_fault_in) := ⟨rfl, rfl, rfl, by decide +kernel, rfl, by decide +kernel, by decide +kernel⟩
theorem ok_fault_among_held {C fI : Addr} (D : Df K mg "fault_among_held" s_fault_among_held) (T : Txt K mg) (DT : DTxt K mg C fI) (OA : Ok P w K mg base CX0 2 "answered_in" ["debate", "members"] (spAnswered C)) : Ok P w K mg base CX0 3 "fault_among_held" ["debate", "way", "members"] (spFaultH C) := by
  refine mkOk D sc_fault_among_held (fun _ _ _ _ _ _ us hl => match us, hl with | [_, _, _], _ => rfl) (fun vs H Q E h => ?_) fun cdv A outer s H vs Q E hr h => ?_
  · obtain ⟨_, _, _, _, _, _, rfl, _⟩ := h
    rfl
  · obtain ⟨G, d, a, ns, ps, ms, rfl, hG, hd, ha, hlen, hin, hst, k⟩ := h
    have hu := hr.units
    refine ⟨_, pss_cons (ps_setLc (i := 3) (own := [("statement", 5)]) (g := gName 5) rfl sc_fault_among_held.nd rfl rfl (sw_true rfl rfl rfl (by decide +kernel)) (pi_list (pe_cl OA hr (pa_cons (pv 0) (pa_cons (pv 2) pa_nil)))) (blkOk_by (own := [("statement", 5)]) (N := ["debate", "way", "members", "lacks", "greater", "statement"]) (sc := defScope s_fault_among_held) (by decide +kernel))
        (fun _ _ _ _ _ => pg_name (i := 5) sc_fault_among_held.nd rfl (Or.inl rfl))
        (fun _ _ _ _ _ => pts_one (pt_cmpR (notInK K) (pv 5) (pv 2) (by rfl)))
        (fun _ _ _ _ _ => pv 5))
      (pss_cons (ps_if (pt_cmpR (op_neD hu) (pv 3) (pe_lst pa_nil) (by rfl)) (pss_one ps_never) pss_nil)
      (pss_cons (ps_if (PW.pt (pw_and (pt_cmpR op_eq (pv 1) pe_str (nomark _)) (pw_and1 pt_never))) (pss_one ps_never) pss_nil)
      (pss_cons (ps_if (pt_cmpR op_eq (pv 1) pe_str (nomark _)) (pss_cons ps_never (pss_one ps_never)) pss_nil)
      (pss_one (ps_ret pe_non))))), ?_⟩
    refine ⟨_, rfl, _, rfl, G, d, a, ns, ps, ms, rfl, hG, hd, ha, hlen, hin, fun l G1 H1 g1 hl => ?_⟩
    refine ⟨l, rfl, ⟨_, (hl.up g1.sub).l⟩, fun R hR => ?_⟩
    have stl : (stp (rel ps) ns ms).length ≤ 1000 := by have := stp_len (rel ps) ns ms; have := hd.ok.nl; omega
    refine lc_fm (stp (rel ps) ns ms) V.str (fun z => !decide (z ∈ ms)) V.str ((hl.up g1.sub).l) (by omega) hR (fun z hz Hc sc Qn Qy hn hy => ?_) fun Hc sc hc => ?_
    · refine ⟨rfl, _, rfl, _, rfl, a, _, rfl, .inl ((ha.up (hG.trans (g1.all.trans sc))).l), rfl, all_flat ms, _, rfl, ?_⟩
      rw [inV_str, decide_eq_true (hst z hz)]
      exact iteF (hn (by simp [hst z hz]) Hc (Same.refl _))
    · have e : (stp (rel ps) ns ms).filter (fun z => !decide (z ∈ ms)) = [] := by
        rw [List.filter_eq_nil_iff]
        intro z hz h
        simp [hst z hz] at h
      rw [e] at hc
      refine ⟨_, rfl, by decide, fun q hq => ⟨.list [], .list [], .lst (SqL.of (by rw [upd_ne (ne_of_none hc hq)]; exact hc)) .nil, .lst (SqL.of upd_same) .nil, by decide, by decide, false, by simp [PyData.eqv, PyData.eqvAll], iteF ?_⟩⟩
      refine ⟨_, rfl, rfl, false, congrArg V.bl ne_least, iteF (iteF ?_)⟩
      refine ⟨_, rfl, rfl, false, congrArg V.bl ne_greatest, iteF ?_⟩
      exact k _ (g1.all.trans (sc.trans (Same.new hq)))
theorem ok_fault_in {C fI : Addr} (D : Df K mg "fault_in" s_fault_in) (T : Txt K mg) (DT : DTxt K mg C fI) (OC : Ok P w K mg base CX0 1 "clash_in" ["debate", "members"] (spClash C)) (OU : Ok P w K mg base CX0 2 "unanswered_in" ["debate", "members"] (spUnans C))
    (OF : Ok P w K mg base CX0 3 "fault_among_held" ["debate", "way", "members"] (spFaultH C)) : Ok P w K mg base CX0 4 "fault_in" ["debate", "way", "members"] (spFault C) := by
  refine mkOk D sc_fault_in (fun _ _ _ _ _ _ us hl => match us, hl with | [_, _, _], _ => rfl) (fun vs H Q E h => ?_) fun cdv A outer s H vs Q E hr h => ?_
  · obtain ⟨_, _, _, _, _, _, rfl, _⟩ := h
    rfl
  · obtain ⟨G, d, a, ns, ps, ms, rfl, hG, hd, ha, hlen, hin, hst, hcl, hun, k⟩ := h
    refine ⟨_, pss_cons (ps_set (i := 3) sc_fault_in.nd rfl (.inl rfl) (pe_cl OC (hr.mono (by decide)) (pa_cons (pv 0) (pa_cons (pv 2) pa_nil))))
      (pss_cons (ps_if (pt_cmp (pc_notN (pv 3))) (pss_one ps_never) pss_nil)
      (pss_cons (ps_if (pt_cmpR op_eq (pv 1) pe_str (nomark _)) (pss_one ps_never) pss_nil)
      (pss_cons (ps_if (pt_cmpR op_eq (pv 1) pe_str (nomark _)) (pss_cons ps_never (pss_one ps_never)) pss_nil)
      (pss_cons (ps_set (i := 5) sc_fault_in.nd rfl (.inl rfl) (pe_cl OU (hr.mono (by decide)) (pa_cons (pv 0) (pa_cons (pv 2) pa_nil))))
      (pss_cons (ps_if (pt_cmp (pc_notN (pv 5))) (pss_one ps_never) pss_nil)
      (pss_one (ps_ret (pe_ifExp (pt_cmpR op_eq (pv 1) pe_str (nomark _)) pe_never (pe_cl OF hr (pa_cons (pv 0) (pa_cons (pv 1) (pa_cons (pv 2) pa_nil)))))))))))), ?_⟩
    refine ⟨_, rfl, _, rfl, G, d, a, ns, ps, ms, rfl, hG, hd, ha, hcl, fun H1 e1 => ?_⟩
    refine ⟨_, rfl, _, rfl, iteF ?_⟩
    refine ⟨_, rfl, rfl, false, congrArg V.bl ne_calm, iteF ?_⟩
    refine ⟨_, rfl, rfl, false, congrArg V.bl ne_settled, iteF ?_⟩
    refine ⟨_, rfl, _, rfl, G, d, a, ns, ps, ms, rfl, hG.trans e1, hd, ha, hlen, hin, hun, fun H2 e2 => ?_⟩
    refine ⟨_, rfl, _, rfl, iteF ?_⟩
    refine ⟨_, rfl, rfl, false, congrArg V.bl ne_held, iteF ?_⟩
    exact ⟨_, rfl, _, rfl, _, rfl, G, d, a, ns, ps, ms, rfl, hG.trans (e1.trans e2), hd, ha, hlen, hin, hst, fun H3 e3 => k H3 (e1.trans (e2.trans e3))⟩
end
end K80
end
section
set_option Elab.async false
set_option linter.all false
set_option maxRecDepth 100000
set_option maxHeartbeats 4000000
namespace K80
open PySem PySem.Spec PyProof.Rows L2
/-! ### labels -/
def labS (R : Str → Str → Bool) (L : List Str) (x : Str) : Str := if decide (x ∈ L) = true then "in" else if hit R L x = true then "out" else "undecided"
noncomputable def vdS (ps : List Pair) (T : List Str) : List (Str × Str) := T.map fun x => (x, labS (rel ps) (lst (rel ps) T) x)
theorem labS_congr {R S : Str → Str → Bool} {L : List Str} {x : Str} (h : ∀ z, z ∈ L → R z x = S z x) : labS R L x = labS S L x := by
  unfold labS
  rw [hit_congr h]
theorem vdS_rel {ps qs : List Pair} {T : List Str} (h : ∀ a b, a ∈ T → b ∈ T → rel ps a b = rel qs a b) : vdS ps T = vdS qs T := by
  unfold vdS
  rw [lst_rel h]
  refine List.map_congr_left fun x hx => ?_
  rw [labS_congr fun z hz => h z x (lst_sub hz) hx]
theorem rel_cut {ps : List Pair} {T : List Str} {a b : Str} (ha : a ∈ T) (hb : b ∈ T) : rel (ps.filter (pIn T)) a b = rel ps a b := by
  unfold rel
  refine decide_eq_decide.mpr ?_
  rw [List.mem_filter]
  simp [pIn, ha, hb]
theorem vdS_cut (ps : List Pair) (T : List Str) : vdS (ps.filter (pIn T)) T = vdS ps T := vdS_rel fun a b ha hb => rel_cut ha hb
theorem sortS_filt {ns : List Str} (h : sortS ns = ns) (p : Str → Bool) : sortS (ns.filter p) = ns.filter p := by rw [sortS_filter, h]
theorem sortP_filt {ps : List Pair} (h : sortP ps = ps) (p : Pair → Bool) : sortP (ps.filter p) = ps.filter p := by rw [sortP_filter, h]
theorem lst_stp (R : Str → Str → Bool) (T : List Str) : lst R T = T.filter (ans R T (lst R T)) := (lst_fix R T).symm
theorem lst_sort {R : Str → Str → Bool} {T : List Str} (h : sortS T = T) : sortS (lst R T) = lst R T := by
  have := sortS_filt h (ans R T (lst R T))
  rw [← lst_stp] at this
  exact this
theorem lst_nodup {R : Str → Str → Bool} {T : List Str} (h : T.Nodup) : (lst R T).Nodup := by
  rw [lst_stp]
  exact h.sublist List.filter_sublist
theorem lst_len (R : Str → Str → Bool) (T : List Str) : (lst R T).length ≤ T.length := by
  rw [lst_stp]
  exact List.length_filter_le _ _
section
variable {P : Program} {w : World} {K : PySem.W.Frag} {mg : Str → Option Value} {base : Heap}
def lbl (ps : List Pair) (ms ns : List Str) : List (Str × Str) := ns.map fun x => (x, labS (rel ps) ms x)
def spLabels (C : Addr) : Sp := fun vs H Q _ => ∃ G d a ns ps ms, vs = [.ref d, .ref a] ∧ Same G H ∧ DebAt C G d ns ps ∧ Nm G a ms ∧ ms.length ≤ 100 ∧ (∀ z ∈ ms, z ∈ ns) ∧ ∀ l G' H', Gr [] G H G' H' → H l = none → G' l = some (.dK (dv (lbl ps ms ns))) → Q (.ref l) H'
theorem sc_labels_by : FnScope ["debate", "members", "hit", "found", "statement"] ["debate", "members"] (defScope s_labels_by) := ⟨rfl, rfl, rfl, by decide +kernel, rfl, by decide +kernel, by decide +kernel⟩
theorem lbl_none {ps : List Pair} {ms ns : List Str} {z : Str} (h : z ∉ ns) : valV (dv (lbl ps ms ns)) (Sum.inr z : Key) = none := by
  cases e : valV (dv (lbl ps ms ns)) (Sum.inr z : Key) with
  | none => rfl
  | some v =>
    have := valV_in e
    unfold dv lbl at this
    rw [List.map_map, List.map_map] at this
    obtain ⟨q, hq, e2⟩ := List.mem_map.mp this
    have : q = z := Sum.inr.inj e2
    exact absurd (this ▸ hq) h
theorem ok_labels_by {C fI : Addr} (D : Df K mg "labels_by" s_labels_by) (T : Txt K mg) (DT : DTxt K mg C fI) (OH : Ok P w K mg base CX0 1 "hit_by" ["debate", "members"] (spHit C)) : Ok P w K mg base CX0 2 "labels_by" ["debate", "members"] (spLabels C) := by
  refine mkOk D sc_labels_by (fun _ _ _ _ _ _ us hl => match us, hl with | [_, _], _ => rfl) (fun vs H Q E h => ?_) fun cdv A outer s H vs Q E hr h => ?_
  · obtain ⟨_, _, _, _, _, _, rfl, _⟩ := h
    rfl
  · obtain ⟨G, d, a, ns, ps, ms, rfl, hG, hd, ha, hlen, hin, k⟩ := h
    have hu := hr.units
    have hu1 := hu_of hr
    refine ⟨_, pss_cons (ps_par (i := 2) (j := 3) rfl sc_labels_by.nd rfl rfl (by decide) rfl rfl (pa_cons (pe_cl OH hr (pa_cons (pv 0) (pa_cons (pv 1) pa_nil))) (pa_cons pe_dnewK pa_nil)) rfl)
      (pss_cons (ps_for PassesOwn.never rfl (pi_list (pe_fld (pv 0) rfl)) (pg_name (i := 4) sc_labels_by.nd rfl (.inl rfl))
        (pss_one (ps_dput hu1 (pv 3) (pv 4) (pe_ifExp (pt_cmpR op_in_seq (pv 4) (pv 1) (by rfl)) pe_str (pe_ifExp (pt_cmp (pc_din hu1 (pv 4) (pv 2))) pe_str pe_str)) rfl)))
      (pss_one (ps_ret (pv 3)))), ?_⟩
    refine ⟨_, rfl, _, rfl, G, d, a, ns, ps, ms, rfl, hG, hd, ha, hlen, hin, fun hh G1 H1 kvs g1 hhn hhd hhk => ?_⟩
    obtain ⟨dx, so, oo, d1, d2, hda, hi⟩ := hd.ex
    have s1 := hG.trans g1.all
    have hk1 : H1 hh = some (.dK kvs) := g1.sub _ _ hhd
    have hnl := hd.ok.nl
    refine fun f hf => ⟨_, _, rfl, ?_⟩
    have sf : Same H1 (upd H1 f (.dK [])) := Same.new hf
    refine ⟨_, rfl, d, C, dx, _, .ref so, rfl, sf _ _ (s1 _ _ hda), DT.cl, DT.n1, look1 so oo d1 d2, so, rfl, ⟨_, (hi.st.up (s1.trans sf)).l⟩, ?_⟩
    refine for_list (K := K) (xs := ns.map V.str) (fun i σ Hc => ∃ v4, σ = [some (.ref d), some (.ref a), some (.ref hh), some (.ref f), v4] ∧ Same H1 Hc ∧ Hc f = some (.dK (dv (lbl ps ms (ns.take i))))) ⟨none, rfl, sf, upd_same⟩ (fun i σ Hc _ ⟨_, _, s, _⟩ => (hi.st.up (s1.trans s)).l) ?_ ?_
    · rintro i x σ Hc hx ⟨v4, rfl, sc, hc⟩
      obtain ⟨z, hz, rfl⟩ := get_map hx
      have fin : ∃ (a' : Addr) (H4 : Hp), V.ref f = .ref a' ∧ DPut Hc a' (.str z) (.str (labS (rel ps) ms z)) H4 ∧ (∃ v4, [some (V.ref d), some (.ref a), some (.ref hh), some (.ref f), some (.str z)] = ([some (V.ref d), some (.ref a), some (.ref hh), some (.ref f), v4] : L2.St) ∧ Same H1 H4 ∧ H4 f = some (.dK (dv (lbl ps ms (ns.take (i + 1)))))) := by
        refine ⟨f, _, rfl, DPut.k (k := (Sum.inr z : Key)) hc (szl (by unfold dv lbl; rw [List.length_map, List.length_map, List.length_take]; omega)), _, rfl, same_put sc hf, ?_⟩
        rw [upd_same, putK_new _ (lbl_none (not_mem_take hd.ok.nd hz)), take_succ hz]
        unfold lbl dv
        rw [List.map_append, List.map_append]
        rfl
      refine ⟨_, rfl, _, rfl, a, _, rfl, .inl ((ha.up (s1.trans sc)).l), rfl, all_flat ms, _, rfl, ?_⟩
      rw [inV_str]
      by_cases h1 : z ∈ ms
      · have e : labS (rel ps) ms z = "in" := by unfold labS; rw [if_pos (decide_eq_true h1)]
        rw [e] at fin
        rw [decide_eq_true h1]
        exact iteT ⟨_, rfl, _, rfl, fin⟩
      · rw [decide_eq_false h1]
        refine iteF ⟨_, rfl, _, rfl, hh, _, rfl, DGet.k (k := (Sum.inr z : Key)) (sc _ _ hk1), _, rfl, ?_⟩
        rw [hhk, hit_dec]
        have e1 : labS (rel ps) ms z = (if hit (rel ps) ms z = true then ("out" : Str) else ("undecided" : Str)) := by unfold labS; rw [if_neg (by simp [h1])]
        cases q : hit (rel ps) ms z with
        | true =>
          rw [e1, q, if_pos rfl] at fin
          exact iteT ⟨_, rfl, _, rfl, fin⟩
        | false =>
          rw [e1, q, if_neg Bool.false_ne_true] at fin
          exact iteF ⟨_, rfl, _, rfl, fin⟩
    · rintro σ Hc ⟨v4, rfl, sc, hc⟩
      rw [List.length_map, List.take_length] at hc
      have hfG : G f = none := Same.free s1 hf
      exact ⟨_, rfl, k f (upd G f _) Hc (((g1.drop hG).trans (Gr.same s1 sc)).pub (g1.off hf) hfG hfG hc) (g1.off hf) upd_same⟩
/-! ### cut_by -/
def spCut (C : Addr) : Sp := fun vs H Q _ => ∃ G d a ns ps ms, vs = [.ref d, .ref a] ∧ Same G H ∧ DebAt C G d ns ps ∧ Nm G a ms ∧ ms.Nodup ∧ (∀ z ∈ ms, z ∈ ns) ∧ ∀ x G' H', Gr [] G H G' H' → DebAt C G' x (sortS ms) (ps.filter (pIn ms)) → Q (.ref x) H'
theorem sc_cut_by : FnScope ["debate", "members", "kept", "pair"] ["debate", "members"] (defScope s_cut_by) := ⟨rfl, rfl, rfl, by decide +kernel, rfl, by decide +kernel, by decide +kernel⟩
theorem ok_cut_by {C fI : Addr} (D : Df K mg "cut_by" s_cut_by) (T : Txt K mg) (DT : DTxt K mg C fI) (OI : OkM P w K mg base CX0 5 fI ["self", "statements", "objections"] (spInit C)) : Ok P w K mg base CX0 7 "cut_by" ["debate", "members"] (spCut C) := by
  refine mkOk D sc_cut_by (fun _ _ _ _ _ _ us hl => match us, hl with | [_, _], _ => rfl) (fun vs H Q E h => ?_) fun cdv A outer s H vs Q E hr h => ?_
  · obtain ⟨_, _, _, _, _, _, rfl, _⟩ := h
    rfl
  · obtain ⟨G, d, a, ns, ps, ms, rfl, hG, hd, ha, hnd, hin, k⟩ := h
    refine ⟨_, pss_cons (ps_setLc (i := 2) (own := [("pair", 3)]) (g := gName 3) rfl sc_cut_by.nd rfl rfl (sw_true rfl rfl rfl (by decide +kernel)) (pi_list (pe_fld (pv 0) rfl)) (blkOk_by (own := [("pair", 3)]) (N := ["debate", "members", "kept", "pair"]) (sc := defScope s_cut_by) (by decide +kernel))
        (fun _ _ _ _ _ => pg_name (i := 3) sc_cut_by.nd rfl (Or.inl rfl))
        (fun _ _ _ _ _ => pts_one (PW.pt (pw_and (pt_cmpR (inK K) (pe_ix (ixTK K) (pv 3) pe_int (fun _ _ => rfl)) (pv 1) (by rfl)) (pw_and1 (pt_cmpR (inK K) (pe_ix (ixTK K) (pv 3) pe_int (fun _ _ => rfl)) (pv 1) (by rfl))))))
        (fun _ _ _ _ _ => pv 3))
      (pss_one (ps_ret (pe_mk DT OI hr (pa_cons (pv 1) (pa_cons (pv 2) pa_nil))))), ?_⟩
    obtain ⟨dx, so, oo, d1, d2, hda, hi⟩ := hd.ex
    obtain ⟨l, ⟨p1, p2⟩, hl⟩ := hi.ob
    have hps := hd.ok.pl
    have hll : l.length = ps.length := by rw [← hl, List.length_map]
    refine ⟨_, rfl, d, C, dx, _, .ref oo, rfl, hG _ _ hda, DT.cl, DT.n2, look2 so oo d1 d2, oo, rfl, ⟨_, SqL.of (hG _ _ p1)⟩, fun R hR => ?_⟩
    refine lc_fm l (fun e => V.ref e.1) (fun e => pIn ms e.2) (fun e => V.ref e.1) (SqL.of (hG _ _ p1)) (by omega) hR (fun e he Hc sc Qn Qy hn hy => ?_) fun Hc sc hc => ?_
    · have sq : SqT K Hc e.1 [V.str e.2.1, V.str e.2.2] := SqT.of (sc _ _ (hG _ _ (p2 e he)))
      have hm := ((ha.up (hG.trans sc)).l (K := K))
      refine ⟨rfl, _, rfl, _, _, _, _, rfl, rfl, sq, at0, _, rfl, a, _, rfl, .inl hm, rfl, all_flat ms, _, rfl, ?_⟩
      rw [inV_str]
      by_cases h1 : e.2.1 ∈ ms
      · rw [decide_eq_true h1]
        refine iteT ⟨_, rfl, _, _, _, _, rfl, rfl, sq, at1, _, rfl, a, _, rfl, .inl hm, rfl, all_flat ms, _, rfl, ?_⟩
        rw [inV_str]
        by_cases h2 : e.2.2 ∈ ms
        · rw [decide_eq_true h2]
          exact ⟨_, rfl, hy (by simp [pIn, h1, h2]) Hc (Same.refl _)⟩
        · rw [decide_eq_false h2]
          exact iteF (hn (by simp [pIn, h2]) Hc (Same.refl _))
      · rw [decide_eq_false h1]
        exact iteF (iteF (hn (by simp [pIn, h1]) Hc (Same.refl _)))
    · have hRG : G R = none := Same.free hG hR
      have g1 : Gr [] G H (upd G R (.lst ((l.filter fun e => pIn ms e.2).map fun e => V.ref e.1))) Hc := (Gr.same hG sc).pub hR hRG hRG hc
      have hpr : Prs (upd G R (.lst ((l.filter fun e => pIn ms e.2).map fun e => V.ref e.1))) R (ps.filter (pIn ms)) := by
        refine ⟨l.filter fun e => pIn ms e.2, ⟨upd_same, fun z hz => ?_⟩, ?_⟩
        · rw [upd_ne (ne_of_none (p2 z (List.mem_filter.mp hz).1) hRG)]
          exact p2 z (List.mem_filter.mp hz).1
        · rw [← hl, List.filter_map]
          rfl
      have hpin : ∀ p ∈ ps.filter (pIn ms), p.1 ∈ ms ∧ p.2 ∈ ms := fun p hp => by
        have := (List.mem_filter.mp hp).2
        simpa [pIn] using this
      have hml : ms.length ≤ 100 := Nat.le_trans (hnd.length_le_of_subset hin) hd.ok.nl
      refine ⟨_, rfl, _, rfl, rd_mk g1.sub (.inl (ha.up g1.gg)) hpr.loos hnd (fun z hz => hd.ok.nm z (hin z hz)) hml (hd.ok.pd.sublist List.filter_sublist) hpin (Nat.le_trans (List.length_filter_le _ _) hd.ok.pl) fun x G2 H2 g2 dx _ => ?_⟩
      rw [sortP_filt hd.ok.po] at dx
      exact k x G2 H2 (g1.trans g2) dx
end
end K80
end
section
set_option Elab.async false
set_option linter.all false
set_option maxRecDepth 100000
set_option maxHeartbeats 4000000
namespace K80
open PySem PySem.Spec PyProof.Rows L2
section
variable {P : Program} {w : World} {K : PySem.W.Frag} {mg : Str → Option Value} {base : Heap}
/-! ### labels_of, cut_to, verdict_by, verdict -/
def spLabelsOf (C : Addr) : Sp := fun vs H Q _ => ∃ G d a ns ps, vs = [.ref d, .ref a] ∧ Same G H ∧ DebAt C G d ns ps ∧ Nm G a (lst (rel ps) ns) ∧ ∀ l G' H', Gr [] G H G' H' → G' l = some (.dK (dv (vdS ps ns))) → Q (.ref l) H'
def spCutTo (C : Addr) : Sp := fun vs H Q _ => ∃ G d a ns ps ms, vs = [.ref d, .ref a] ∧ Same G H ∧ DebAt C G d ns ps ∧ NmQ G a ms ∧ ms.Nodup ∧ (∀ z ∈ ms, z ∈ ns) ∧ ∀ x G' H', Gr [] G H G' H' → DebAt C G' x (sortS ms) (ps.filter (pIn ms)) → Q (.ref x) H'
def spVerdictBy (C : Addr) : Sp := fun vs H Q _ => ∃ G d a ns ps ms, vs = [.ref d, .ref a] ∧ Same G H ∧ DebAt C G d ns ps ∧ Nm G a ms ∧ ms.Nodup ∧ (∀ z ∈ ms, z ∈ ns) ∧ ∀ l G' H', Gr [] G H G' H' → H l = none → G' l = some (.dK (dv (vdS ps (sortS ms)))) → Q (.ref l) H'
def spVerdict (C : Addr) : Sp := fun vs H Q _ => ∃ G d a ns ps ms, vs = [.ref d, .ref a] ∧ Same G H ∧ DebAt C G d ns ps ∧ NmQ G a ms ∧ ms.Nodup ∧ (∀ z ∈ ms, z ∈ ns) ∧ ms ≠ [] ∧ ∀ l G' H', Gr [] G H G' H' → H l = none → G' l = some (.dK (dv (vdS ps (sortS ms)))) → Q (.ref l) H'
theorem sc_labels_of : FnScope ["debate", "lot", "members", "fault"] ["debate", "lot"] (defScope s_labels_of) := ⟨rfl, rfl, rfl, by decide +kernel, rfl, by decide +kernel, by decide +kernel⟩
theorem sc_cut_to : FnScope ["debate", "lot"] ["debate", "lot"] (defScope s_cut_to) := ⟨rfl, rfl, rfl, by decide +kernel, rfl, by decide +kernel, by decide +kernel⟩
theorem sc_verdict_by : FnScope ["debate", "members", "some"] ["debate", "members"] (defScope s_verdict_by) := ⟨rfl, rfl, rfl, by decide +kernel, rfl, by decide +kernel, by decide +kernel⟩
theorem sc_verdict : FnScope ["debate", "table", "members"] ["debate", "table"] (defScope s_verdict) := ⟨rfl, rfl, rfl, by decide +kernel, rfl, by decide +kernel, by decide +kernel⟩
theorem ok_labels_of {C fI : Addr} (D : Df K mg "labels_of" s_labels_of) (T : Txt K mg) (DT : DTxt K mg C fI) (OC : Ok P w K mg base CX0 2 "checked_lot" ["debate", "lot"] (spLot C)) (OF : Ok P w K mg base CX0 4 "fault_in" ["debate", "way", "members"] (spFault C))
    (OL : Ok P w K mg base CX0 2 "labels_by" ["debate", "members"] (spLabels C)) : Ok P w K mg base CX0 5 "labels_of" ["debate", "lot"] (spLabelsOf C) := by
  refine mkOk D sc_labels_of (fun _ _ _ _ _ _ us hl => match us, hl with | [_, _], _ => rfl) (fun vs H Q E h => ?_) fun cdv A outer s H vs Q E hr h => ?_
  · obtain ⟨_, _, _, _, _, rfl, _⟩ := h
    rfl
  · obtain ⟨G, d, a, ns, ps, rfl, hG, hd, ha, k⟩ := h
    refine ⟨_, pss_cons (ps_set (i := 2) sc_labels_of.nd rfl (.inl rfl) (pe_cl OC (hr.mono (by decide)) (pa_cons (pv 0) (pa_cons (pv 1) pa_nil))))
      (pss_cons (ps_set (i := 3) sc_labels_of.nd rfl (.inl rfl) (pe_cl OF hr (pa_cons (pv 0) (pa_cons pe_str (pa_cons (pv 2) pa_nil)))))
      (pss_cons (ps_if (pt_cmp (pc_notN (pv 3))) (pss_one ps_never) pss_nil)
      (pss_one (ps_ret (pe_cl OL (hr.mono (by decide)) (pa_cons (pv 0) (pa_cons (pv 2) pa_nil))))))), ?_⟩
    have hln : (lst (rel ps) ns).length ≤ 100 := Nat.le_trans (lst_len _ _) hd.ok.nl
    refine ⟨_, rfl, _, rfl, G, d, a, ns, ps, _, rfl, hG, hd, .inl ha, lst_nodup hd.ok.nd, fun z hz => lst_sub hz, fun l G1 H1 g1 hl _ => ?_⟩
    rw [lst_sort hd.ok.so] at hl
    refine ⟨_, rfl, _, rfl, G1, d, l, ns, ps, _, rfl, g1.sub, hd.up g1.gg, hl, hln, fun z hz => lst_sub hz, fun z hz => by rw [lst_fix] at hz; exact hz, fun p hp h1 h2 => ?_, fun m hm o ho => ?_, fun H2 e2 => ?_⟩
    · have := lst_calm h1 h2
      unfold rel at this
      exact (of_decide_eq_false this) hp
    · rw [lst_stp] at hm
      have hm2 := (List.mem_filter.mp hm).2
      have := mem_objrs.mp ho
      exact ans_iff.mp hm2 o (hd.ok.pin _ this).1 (decide_eq_true this)
    · refine ⟨_, rfl, _, rfl, iteF ?_⟩
      have g2 : Gr [] G H G1 H2 := g1.trans (Gr.same g1.sub e2)
      exact ⟨_, rfl, _, rfl, G1, d, l, ns, ps, _, rfl, g2.sub, hd.up g1.gg, hl, hln, fun z hz => lst_sub hz, fun x G3 H3 g3 _ hx => k x G3 H3 (g2.trans g3) hx⟩
theorem ok_cut_to {C fI : Addr} (D : Df K mg "cut_to" s_cut_to) (T : Txt K mg) (DT : DTxt K mg C fI) (OC : Ok P w K mg base CX0 2 "checked_lot" ["debate", "lot"] (spLot C)) (OB : Ok P w K mg base CX0 7 "cut_by" ["debate", "members"] (spCut C)) : Ok P w K mg base CX0 8 "cut_to" ["debate", "lot"] (spCutTo C) := by
  refine mkOk D sc_cut_to (fun _ _ _ _ _ _ us hl => match us, hl with | [_, _], _ => rfl) (fun vs H Q E h => ?_) fun cdv A outer s H vs Q E hr h => ?_
  · obtain ⟨_, _, _, _, _, _, rfl, _⟩ := h
    rfl
  · obtain ⟨G, d, a, ns, ps, ms, rfl, hG, hd, ha, hnd, hin, k⟩ := h
    refine ⟨_, pss_one (ps_ret (pe_cl OB hr (pa_cons (pv 0) (pa_cons (pe_cl OC (hr.mono (by decide)) (pa_cons (pv 0) (pa_cons (pv 1) pa_nil))) pa_nil)))), ?_⟩
    refine ⟨_, rfl, _, rfl, _, rfl, G, d, a, ns, ps, ms, rfl, hG, hd, ha, hnd, hin, fun l G1 H1 g1 hl _ => ?_⟩
    refine ⟨G1, d, l, ns, ps, sortS ms, rfl, g1.sub, hd.up g1.gg, hl, nodup_sortS hnd, fun z hz => hin z (mem_sortS.mp hz), fun x G2 H2 g2 hx => ?_⟩
    have e : ps.filter (pIn (sortS ms)) = ps.filter (pIn ms) := List.filter_congr fun p _ => by simp only [pIn, mem_sortS]
    rw [sortS_idem, e] at hx
    exact k x G2 H2 (g1.trans g2) hx
theorem ok_verdict_by {C fI : Addr} (D : Df K mg "verdict_by" s_verdict_by) (T : Txt K mg) (DT : DTxt K mg C fI) (OB : Ok P w K mg base CX0 7 "cut_by" ["debate", "members"] (spCut C)) (OL : Ok P w K mg base CX0 2 "labels_by" ["debate", "members"] (spLabels C))
    (OM : Ok P w K mg base CX0 3 "least_lot" ["debate"] (spLeast C)) : Ok P w K mg base CX0 8 "verdict_by" ["debate", "members"] (spVerdictBy C) := by
  refine mkOk D sc_verdict_by (fun _ _ _ _ _ _ us hl => match us, hl with | [_, _], _ => rfl) (fun vs H Q E h => ?_) fun cdv A outer s H vs Q E hr h => ?_
  · obtain ⟨_, _, _, _, _, _, rfl, _⟩ := h
    rfl
  · obtain ⟨G, d, a, ns, ps, ms, rfl, hG, hd, ha, hnd, hin, k⟩ := h
    refine ⟨_, pss_cons (ps_set (i := 2) sc_verdict_by.nd rfl (.inl rfl) (pe_cl OB hr (pa_cons (pv 0) (pa_cons (pv 1) pa_nil))))
      (pss_one (ps_ret (pe_cl OL (hr.mono (by decide)) (pa_cons (pv 2) (pa_cons (pe_cl OM (hr.mono (by decide)) (pa_cons (pv 2) pa_nil)) pa_nil))))), ?_⟩
    refine ⟨_, rfl, _, rfl, G, d, a, ns, ps, ms, rfl, hG, hd, ha, hnd, hin, fun x G1 H1 g1 hx => ?_⟩
    refine ⟨_, rfl, _, rfl, G1, x, _, _, rfl, g1.sub, hx, fun l G2 H2 g2 hl => ?_⟩
    refine ⟨G2, x, l, _, _, _, rfl, g2.sub, hx.up g2.gg, hl, Nat.le_trans (lst_len _ _) hx.ok.nl, fun z hz => lst_sub hz, fun y G3 H3 g3 hy hyd => ?_⟩
    have e : lbl (ps.filter (pIn ms)) (lst (rel (ps.filter (pIn ms))) (sortS ms)) (sortS ms) = vdS ps (sortS ms) := by
      have e2 : ps.filter (pIn ms) = ps.filter (pIn (sortS ms)) := List.filter_congr fun p _ => by simp only [pIn, mem_sortS]
      rw [e2]
      exact vdS_cut ps (sortS ms)
    rw [e] at hyd
    exact k y G3 H3 ((g1.trans g2).trans g3) (g1.off (g2.off hy)) hyd
theorem ok_verdict {C fI : Addr} (D : Df K mg "verdict" s_verdict) (T : Txt K mg) (DT : DTxt K mg C fI) (OC : Ok P w K mg base CX0 2 "checked_lot" ["debate", "lot"] (spLot C)) (OV : Ok P w K mg base CX0 8 "verdict_by" ["debate", "members"] (spVerdictBy C)) : Ok P w K mg base CX0 9 "verdict" ["debate", "table"] (spVerdict C) := by
  refine mkOk D sc_verdict (fun _ _ _ _ _ _ us hl => match us, hl with | [_, _], _ => rfl) (fun vs H Q E h => ?_) fun cdv A outer s H vs Q E hr h => ?_
  · obtain ⟨_, _, _, _, _, _, rfl, _⟩ := h
    rfl
  · obtain ⟨G, d, a, ns, ps, ms, rfl, hG, hd, ha, hnd, hin, hne, k⟩ := h
    have hu := hr.units
    refine ⟨_, pss_cons (ps_set (i := 2) sc_verdict.nd rfl (.inl rfl) (pe_cl OC (hr.mono (by decide)) (pa_cons (pv 0) (pa_cons (pv 1) pa_nil))))
      (pss_cons (ps_if (pt_cmpR (op_eqD hu) (pv 2) (pe_lst pa_nil) (by rfl)) (pss_one ps_never) pss_nil)
      (pss_one (ps_ret (pe_cl OV hr (pa_cons (pv 0) (pa_cons (pv 2) pa_nil)))))), ?_⟩
    refine ⟨_, rfl, _, rfl, G, d, a, ns, ps, ms, rfl, hG, hd, ha, hnd, hin, fun l G1 H1 g1 hl _ => ?_⟩
    have hne2 : sortS ms ≠ [] := fun z => hne (List.length_eq_zero_iff.mp (by rw [← sortS_len, z]; rfl))
    refine ⟨_, rfl, by decide, fun q hq => ⟨encS (sortS ms), encS [], (hl.up (g1.sub.trans (Same.new hq))).dp, .lst (SqL.of upd_same) .nil, encS_shaped fun z hz => hd.ok.nm z (hin z (mem_sortS.mp hz)), by decide, false, by rw [eqv_encS, decide_eq_false hne2], iteF ?_⟩⟩
    have g2 : Gr [] G H G1 (upd H1 q (.lst [])) := g1.trans (Gr.same g1.sub (Same.new hq))
    refine ⟨_, rfl, _, rfl, G1, d, l, ns, ps, sortS ms, rfl, g2.sub, hd.up g1.gg, hl, nodup_sortS hnd, fun z hz => hin z (mem_sortS.mp hz), fun y G3 H3 g3 hy hyd => ?_⟩
    rw [sortS_idem] at hyd
    exact k y G3 H3 (g2.trans g3) (g2.off hy) hyd
end
end K80
end
section
set_option Elab.async false
set_option linter.all false
set_option maxRecDepth 100000
set_option maxHeartbeats 4000000
namespace K80
open PySem PySem.Spec PyProof.Rows L2
/-! ### twins -/
def seen (ps : List Pair) (p : Pair) : Bool := decide (p.1 = p.2) || (!decide ((p.2, p.2) ∈ ps) || (!decide ((p.1, p.1) ∈ ps) && !decide ((p.2, p.1) ∈ ps)))
def tw (ps : List Pair) : List Pair := ps.filter (seen ps)
theorem rd_up {H H' : Hp} {a : Addr} {o : HO} (h : Rd H a o) (e : Same H H') : Rd H' a o := by
  rcases h with h | ⟨od, h⟩
  · exact .inl (e _ _ h)
  · exact .inr ⟨od, e _ _ h⟩
theorem kvT_some (ps : List Pair) (p : Pair) : (valV (kvT ps) (keyP p)).isSome = decide (p ∈ ps) := by
  by_cases h : p ∈ ps
  · rw [decide_eq_true h]
    induction ps with
    | nil => cases h
    | cons q r ih =>
      by_cases e : q = p
      · subst e
        rw [show valV (kvT (q :: r)) (keyP q) = some (V.bl true) from valV_pos (p := (keyP q, V.bl true)) rfl]
        rfl
      · rw [show valV (kvT (q :: r)) (keyP p) = valV (kvT r) (keyP p) from valV_neg (p := (keyP q, V.bl true)) (fun z => e (keyP_inj z))]
        rcases List.mem_cons.mp h with h | h
        · exact absurd h.symm e
        · exact ih h
  · rw [decide_eq_false h, kvT_none h]
    rfl
section
variable {P : Program} {w : World} {K : PySem.W.Frag} {mg : Str → Option Value} {base : Heap}
def spSeen : Sp := fun vs H Q _ => ∃ (q b : Addr) (p : Pair) (ps : List Pair), vs = [.ref q, .ref b] ∧ H q = some (.tup [.str p.1, .str p.2]) ∧ Rd H b (.dT (kvT ps)) ∧ ∀ H', Same H H' → Q (.bl (seen ps p)) H'
theorem sc_is_seen : FnScope ["pair", "pairs", "one", "other"] ["pair", "pairs"] (defScope s_is_seen) := ⟨rfl, rfl, rfl, by decide +kernel, rfl, by decide +kernel, by decide +kernel⟩
theorem ok_is_seen (D : Df K mg "is_seen" s_is_seen) (T : Txt K mg) : Ok P w K mg base CX0 1 "is_seen" ["pair", "pairs"] spSeen := by
  refine mkOk D sc_is_seen (fun _ _ _ _ _ _ us hl => match us, hl with | [_, _], _ => rfl) (fun vs H Q E h => ?_) fun cdv A outer s H vs Q E hr h => ?_
  · obtain ⟨_, _, _, _, rfl, _⟩ := h
    rfl
  · obtain ⟨q, b, p, ps, rfl, hq, hb, k⟩ := h
    have hu1 := hu_of hr
    refine ⟨_, pss_cons (ps_asg (pv 0) (pg_tup rfl (pgs_cons (pg_name (i := 2) sc_is_seen.nd rfl (.inl rfl)) (pgs_cons (pg_name (i := 3) sc_is_seen.nd rfl (.inl rfl)) pgs_nil))))
      (pss_cons (ps_if (PW.pt (pw_or (pt_cmpR op_eq (pv 2) (pv 3) (by rfl)) (pw_or1 (pt_cmp (pc_dnotin hu1 (pe_tup (pa_cons (pv 3) (pa_cons (pv 3) pa_nil))) (pv 1)))))) (pss_one (ps_ret pe_bl)) pss_nil)
      (pss_one (ps_ret (pe_and (pe_cmp (pc_dnotin hu1 (pe_tup (pa_cons (pv 2) (pa_cons (pv 2) pa_nil))) (pv 1))) (pe_one (pe_cmp (pc_dnotin hu1 (pe_tup (pa_cons (pv 3) (pa_cons (pv 2) pa_nil))) (pv 1)))))))), ?_⟩
    refine ⟨_, rfl, q, _, rfl, SqT.of hq, rfl, _, _, rfl, _, _, rfl, rfl, ?_⟩
    refine ⟨_, rfl, _, rfl, rfl, decide (p.1 = p.2), congrArg V.bl (by rw [dec_str]; exact (Bool.beq_eq_decide_eq _ _)), ?_⟩
    have two : 2 ≤ sizeLine := by decide
    by_cases h1 : p.1 = p.2
    · rw [decide_eq_true h1]
      have := k H (Same.refl _)
      unfold seen at this
      rw [decide_eq_true h1, Bool.true_or] at this
      exact this
    · rw [decide_eq_false h1]
      refine iteF ?_
      have s1 : seen ps p = (!decide ((p.2, p.2) ∈ ps) || (!decide ((p.1, p.1) ∈ ps) && !decide ((p.2, p.1) ∈ ps))) := by unfold seen; rw [decide_eq_false h1, Bool.false_or]
      refine ⟨_, rfl, _, rfl, two, fun t ht => ⟨_, rfl, b, _, rfl, .inr ⟨_, keyP (p.2, p.2), t, rd_up hb (Same.new ht), rfl, upd_same, rfl⟩, _, rfl, ?_⟩⟩
      rw [kvT_some]
      have e1 : Same H (upd H t (.tup [V.str p.2, V.str p.2])) := Same.new ht
      by_cases h2 : (p.2, p.2) ∈ ps
      · rw [decide_eq_true h2] at s1 ⊢
        refine iteF ?_
        refine ⟨_, rfl, _, rfl, two, fun t2 ht2 => ⟨_, rfl, b, _, rfl, .inr ⟨_, keyP (p.1, p.1), t2, rd_up hb (e1.trans (Same.new ht2)), rfl, upd_same, rfl⟩, _, rfl, ?_⟩⟩
        rw [kvT_some]
        have e2 := e1.trans (Same.new (o := .tup [V.str p.1, V.str p.1]) ht2)
        by_cases h3 : (p.1, p.1) ∈ ps
        · rw [decide_eq_true h3] at s1 ⊢
          refine iteF ?_
          have := k _ e2
          rw [s1] at this
          exact this
        · rw [decide_eq_false h3] at s1 ⊢
          refine iteT ?_
          refine ⟨_, rfl, _, rfl, two, fun t3 ht3 => ⟨_, rfl, b, _, rfl, .inr ⟨_, keyP (p.2, p.1), t3, rd_up hb (e2.trans (Same.new ht3)), rfl, upd_same, rfl⟩, ?_⟩⟩
          rw [kvT_some]
          have := k _ (e2.trans (Same.new (o := .tup [V.str p.2, V.str p.1]) ht3))
          rw [s1] at this
          simpa using this
      · rw [decide_eq_false h2] at s1 ⊢
        have := k _ e1
        rw [s1] at this
        exact this
/-! ### least_twin, are_twins -/
def spTwin (C : Addr) : Sp := fun vs H Q _ => ∃ G d ns ps, vs = [.ref d] ∧ Same G H ∧ DebAt C G d ns ps ∧ ∀ x G' H', Gr [] G H G' H' → DebAt C G' x ns (tw ps) → Q (.ref x) H'
def spTwins (C : Addr) : Sp := fun vs H Q _ => ∃ G d ns ps d' ns' ps', vs = [.ref d, .ref d'] ∧ Same G H ∧ DebAt C G d ns ps ∧ DebAt C G d' ns' ps' ∧ ∀ H', Same H H' → Q (.bl (decide (ns = ns' ∧ tw ps = tw ps'))) H'
theorem sc_least_twin : FnScope ["debate", "known", "pair"] ["debate"] (defScope s_least_twin) := ⟨rfl, rfl, rfl, by decide +kernel, rfl, by decide +kernel, by decide +kernel⟩
theorem sc_are_twins : FnScope ["one", "other"] ["one", "other"] (defScope s_are_twins) := ⟨rfl, rfl, rfl, by decide +kernel, rfl, by decide +kernel, by decide +kernel⟩
theorem ok_least_twin {C fI : Addr} (D : Df K mg "least_twin" s_least_twin) (T : Txt K mg) (DT : DTxt K mg C fI) (OI : OkM P w K mg base CX0 5 fI ["self", "statements", "objections"] (spInit C)) (OS : Ok P w K mg base CX0 1 "is_seen" ["pair", "pairs"] spSeen) : Ok P w K mg base CX0 7 "least_twin" ["debate"] (spTwin C) := by
  refine mkOk D sc_least_twin (fun _ _ _ _ _ _ us hl => match us, hl with | [_], _ => rfl) (fun vs H Q E h => ?_) fun cdv A outer s H vs Q E hr h => ?_
  · obtain ⟨_, _, _, _, rfl, _⟩ := h
    rfl
  · obtain ⟨G, d, ns, ps, rfl, hG, hd, k⟩ := h
    have hu1 := hu_of hr
    have hr1 : Room 1 _ := hr.mono (by decide)
    refine ⟨_, pss_cons (ps_set (i := 1) sc_least_twin.nd rfl (.inr rfl) (pe_dcG (own := [("pair", 2)]) (g := gName 2) (tt := tYes) (fun H h hb => dt_empty h hb) hu1 rfl sc_least_twin.nd (pi_list (pe_fld (pv 0) rfl)) (blkOk_by (own := [("pair", 2)]) (N := ["debate", "known", "pair"]) (sc := defScope s_least_twin) (by decide +kernel))
            (fun _ _ _ _ _ => pg_name (i := 2) sc_least_twin.nd rfl (Or.inl rfl)) (fun _ _ _ _ _ => pts_nil) (fun _ _ _ _ _ => pv 2) (fun _ _ _ _ _ => pe_bl)))
      (pss_one (ps_ret (pe_mk DT OI hr (pa_cons (pe_fld (pv 0) rfl) (pa_cons (pe_lock (pe_lc (own := [("pair", 2)]) (g := gName 2) rfl sc_least_twin.nd (pi_keys (pv 1)) (blkOk_by (own := [("pair", 2)]) (N := ["debate", "known", "pair"]) (sc := defScope s_least_twin) (by decide +kernel))
        (fun _ _ _ _ _ => pg_name (i := 2) sc_least_twin.nd rfl (Or.inl rfl))
        (fun _ _ _ _ _ => pts_one (pt_val (pe_cl OS hr1 (pa_cons (pv 2) (pa_cons (pv 1) pa_nil)))))
        (fun _ _ _ _ _ => pv 2))) pa_nil))))), ?_⟩
    obtain ⟨dx, so, oo, d1, d2, hda, hi⟩ := hd.ex
    obtain ⟨l, ⟨p1, p2⟩, hl⟩ := hi.ob
    have hps := hd.ok.pl
    have hll : l.length = ps.length := by rw [← hl, List.length_map]
    refine ⟨_, rfl, d, C, dx, _, .ref oo, rfl, hG _ _ hda, DT.cl, DT.n2, look2 so oo d1 d2, oo, rfl, ⟨_, SqL.of (hG _ _ p1)⟩, fun R hR => ?_⟩
    refine hp_list (xs := l.map fun e => V.ref e.1) (Step := fun Nx x H' => _) (fun i Hc => Same H Hc ∧ Hc R = some (.dT (kvT (ps.take i)))) ⟨Same.new hR, upd_same⟩ (fun i Hc _ h => SqL.of (h.1 _ _ (hG _ _ p1))) (fun i x Hc hx h => ?_) (fun Hc h => ?_)
    · obtain ⟨e, he, rfl⟩ := get_map hx
      obtain ⟨s1, hc⟩ := h
      have hpe : ps[i]? = some e.2 := by rw [← hl, List.getElem?_map, he]; rfl
      have hlt := lt_of_get hpe
      refine ⟨rfl, _, rfl, _, DPut.t (k := keyP e.2) hc (s1 _ _ (hG _ _ (p2 e (List.mem_of_getElem? he)))) (szl (by unfold kvT; rw [List.length_map, List.length_take]; omega)), same_put s1 hR, ?_⟩
      rw [upd_same, putK_new _ (kvT_none (nd_take hd.ok.pd hpe)), take_succ hpe]
      unfold kvT
      rw [List.map_append]
      rfl
    · obtain ⟨s1, hc⟩ := h
      rw [List.length_map, hll, List.take_length] at hc
      have sg := hG.trans s1
      refine ⟨_, rfl, d, C, dx, _, .ref so, rfl, sg _ _ hda, DT.cl, DT.n1, look1 so oo d1 d2, ?_⟩
      refine ⟨R, _, hc, trivial, fun od => ?_⟩
      refine ⟨_, rfl, R, od, rfl, .inr ⟨_, upd_same, fun S hS => ?_⟩⟩
      have nSR : S ≠ R := fun z => by rw [z, upd_same] at hS; cases hS
      have hSc : Hc S = none := by rw [upd_ne nSR] at hS; exact hS
      refine hp_keysT (Step := fun Nx x H' => _) (fun i Hd => Same (upd Hc R (.frz od (.dT (kvT ps)))) Hd ∧ ∃ l' : List (Addr × Pair), Hd S = some (.lst (l'.map fun e => V.ref e.1)) ∧ (∀ e ∈ l', Hd e.1 = some (.tup [.str e.2.1, .str e.2.2])) ∧ l'.map (·.2) = (ps.take i).filter (seen ps)) ⟨Same.new hS, [], upd_same, (fun _ h => nomatch h), rfl⟩
        (fun i Hd h => h.1 _ _ upd_same) (fun i kk v q Hd hk hq h => ?_) (fun Hd h => ?_)
      · obtain ⟨sd, l', h1, h2, h3⟩ := h
        obtain ⟨p, hp, ek⟩ := get_map (f := fun p : Pair => (keyP p, V.bl true)) hk
        injection ek with ek1 ek2
        subst ek1
        have ltp := lt_of_get hp
        have hql : Hd q = some (.tup [.str p.1, .str p.2]) := hq
        have len : l'.length ≤ i := by
          have e1 : l'.length = ((ps.take i).filter (seen ps)).length := by rw [← h3, List.length_map]
          have e2 : ((ps.take i).filter (seen ps)).length ≤ (ps.take i).length := List.length_filter_le _ _
          rw [List.length_take] at e2
          omega
        refine ⟨rfl, _, rfl, _, rfl, q, R, p, ps, rfl, hql, .inr ⟨od, sd _ _ upd_same⟩, fun H2 e2 => ⟨_, rfl, ?_⟩⟩
        rw [take_succ hp, List.filter_append, List.filter_cons, List.filter_nil]
        cases hs : seen ps p with
        | false =>
          refine iteF ⟨sd.trans e2, l', e2 _ _ h1, fun e he => e2 _ _ (h2 e he), ?_⟩
          rw [h3, if_neg Bool.false_ne_true, List.append_nil]
        | true =>
          refine iteT ⟨_, rfl, _, e2 _ _ h1, szl (by rw [List.length_map]; omega), same_put (sd.trans e2) hS, l' ++ [(q, p)], ?_, ?_, ?_⟩
          · rw [upd_same, List.map_append]
            rfl
          · intro e he
            have hne : e.1 ≠ S := by
              rcases List.mem_append.mp he with he | he
              · intro z
                have := h2 e he
                rw [z, h1] at this
                cases this
              · intro z
                rw [List.mem_singleton.mp he] at z
                have z' : q = S := z
                rw [z', h1] at hql
                cases hql
            rw [upd_ne hne]
            rcases List.mem_append.mp he with he | he
            · exact e2 _ _ (h2 e he)
            · rw [List.mem_singleton.mp he]
              exact e2 _ _ hql
          · rw [List.map_append, h3, if_pos rfl]
            rfl
      · obtain ⟨sd, l', h1, h2, h3⟩ := h
        have e0 : (kvT ps).length = ps.length := by unfold kvT; rw [List.length_map]
        rw [e0, List.take_length] at h3
        refine ⟨sd _ _ upd_same, ?_⟩
        have sf : Same Hc (upd Hd R (.dT (kvT ps))) := fun b u e => by
          by_cases hb : b = R
          · rw [hb] at e ⊢
            rw [hc] at e
            rw [upd_same]
            exact e
          · rw [upd_ne hb]
            exact sd _ _ (by rw [upd_ne hb]; exact e)
        have hSf : (upd Hd R (.dT (kvT ps))) S = some (.lst (l'.map fun e => V.ref e.1)) := by rw [upd_ne nSR]; exact h1
        have hTf : ∀ e ∈ l', (upd Hd R (.dT (kvT ps))) e.1 = some (.tup [.str e.2.1, .str e.2.2]) := fun e he => by
          rw [upd_ne]
          · exact h2 e he
          · intro z
            have := h2 e he
            rw [z, sd _ _ upd_same] at this
            cases this
        have gA : Gr [] G H G (upd Hd R (.dT (kvT ps))) := Gr.same hG (s1.trans sf)
        have gB := gA.trans (Gr.tup gA.sub (fun _ z => by cases z))
        have hSG : tups G (upd Hd R (.dT (kvT ps))) S = none := by
          rw [tups_nt (by rw [hSf]; intro xs z; cases z)]
          exact Same.free sg hSc
        have hSH : H S = none := by
          cases q : H S with
          | none => rfl
          | some o => rw [s1 _ _ q] at hSc; cases hSc
        have gC := gB.pub hSH (Same.free hG hSH) hSG hSf
        have hpr : Prs (upd (tups G (upd Hd R (.dT (kvT ps)))) S (.lst (l'.map fun e => V.ref e.1))) S (tw ps) := by
          refine ⟨l', ⟨upd_same, fun e he => ?_⟩, h3⟩
          have ht := tups_at (G := G) (hTf e he)
          rw [upd_ne (ne_of_none ht hSG)]
          exact ht
        have hpin : ∀ p ∈ tw ps, p.1 ∈ ns ∧ p.2 ∈ ns := fun p hp => hd.ok.pin p (List.mem_filter.mp hp).1
        refine rd_mk gC.sub (.inl (hi.st.up gC.gg)) hpr.loos hd.ok.nd hd.ok.nm hd.ok.nl (hd.ok.pd.sublist List.filter_sublist) hpin (Nat.le_trans (List.length_filter_le _ _) hd.ok.pl) fun x G2 H2 g2 hx _ => ?_
        unfold tw at hx
        rw [hd.ok.so, sortP_filt hd.ok.po] at hx
        exact k x G2 H2 (gC.trans g2) hx
theorem ok_are_twins {C fI fS fO fE : Addr} (D : Df K mg "are_twins" s_are_twins) (T : Txt K mg) (DT : DTxt K mg C fI) (DM : DMore K C fS fO fE) (OL : Ok P w K mg base CX0 7 "least_twin" ["debate"] (spTwin C)) (OE : OkM P w K mg base CX0 1 fE ["self", "other"] (spDEq C)) : Ok P w K mg base CX0 8 "are_twins" ["one", "other"] (spTwins C) := by
  refine mkOk D sc_are_twins (fun _ _ _ _ _ _ us hl => match us, hl with | [_, _], _ => rfl) (fun vs H Q E h => ?_) fun cdv A outer s H vs Q E hr h => ?_
  · obtain ⟨_, _, _, _, _, _, _, rfl, _⟩ := h
    rfl
  · obtain ⟨G, d, ns, ps, d', ns', ps', rfl, hG, hd, hd', k⟩ := h
    obtain ⟨fd, FE, hb⟩ := OE
    refine ⟨_, pss_one (ps_ret (pe_cmpR (op_eqOwn FE DM.me.at_ DM.me.fn hb (E := E0) pass0 (hr.mono (by decide))) (pe_cl OL hr (pa_cons (pv 0) pa_nil)) (pe_cl OL hr (pa_cons (pv 1) pa_nil)) (by rfl))), ?_⟩
    refine ⟨_, rfl, G, d, ns, ps, rfl, hG, hd, fun x G1 H1 g1 hx => ?_⟩
    refine ⟨_, rfl, G1, d', ns', ps', rfl, g1.sub, hd'.up g1.gg, fun y G2 H2 g2 hy => ?_⟩
    have hx2 := hx.up g2.gg
    obtain ⟨dx, so, oo, d1, d2, hxa, _⟩ := hx2.ex
    obtain ⟨ex, so', oo', e1, e2, hya, _⟩ := hy.ex
    refine ⟨x, y, dx, ex, _, _, rfl, rfl, g2.sub _ _ hxa, g2.sub _ _ hya, G2, x, y, ns, tw ps, ns', tw ps', rfl, g2.sub, hx2, hy, fun H3 e3 => ⟨_, rfl, k H3 ((g1.trans g2).all.trans e3)⟩⟩
end
end K80
end
section
set_option Elab.async false
set_option linter.all false
set_option maxRecDepth 100000
set_option maxHeartbeats 4000000
namespace K80
open PySem PySem.Spec PyProof.Rows L2
/-! ### BadLot -/
/-- what the walk asks of the class -/
structure BTxt (K : PySem.W.Frag) (mg : Str → Option Value) (B fB : Addr) : Prop where
  ox : OexC K B
  iC : PySem.W.findIn K (.ref B) "__init__" = some (some (.ref fB))
  tI : PySem.W.typeIn K (.ref fB) = some (.type "function")
  no : PySem.W.findIn K (.ref B) "index" = some none
  mg : mg "BadLot" = some (.ref B)
def ixF (i : Int) : List (Str × V) := [(("index" : Str), V.int i)]
section
variable {P : Program} {w : World} {K : PySem.W.Frag} {mg : Str → Option Value} {base : Heap}
def spBL (B : Addr) : Sp := fun vs H Q _ => ∃ (e : Addr) (i : Int), vs = [.ref e, .int i] ∧ H e = some (exo e B none) ∧ ∀ dx, H dx = none → dx ≠ e → Q .non (upd (upd H dx (exd dx (ixF i))) e (exo e B (some dx)))
theorem sc_badlot : FnScope ["self", "index"] ["self", "index"] (defScope s_BadLot_init) := ⟨rfl, rfl, rfl, by decide +kernel, rfl, by decide +kernel, by decide +kernel⟩
theorem ok_badlot {B f : Addr} {fd : FuncData} (F : FunD K "__init__" "BadLot.__init__" (defArgs s_BadLot_init) (defBody s_BadLot_init) (defScope s_BadLot_init) [] [] f fd) (BT : BTxt K mg B f) : OkM P w K mg base CX0 1 f ["self", "index"] (spBL B) := by
  refine ⟨fd, F.ok sc_badlot (fun vs H Q E h => ?_) (fun cdv A outer s H vs Q E hr h => ?_), F.bindsN fun _ _ _ _ _ _ us hl => match us, hl with | [_, _], _ => rfl⟩
  · obtain ⟨_, _, rfl, _⟩ := h
    rfl
  · obtain ⟨e, i, rfl, he, k⟩ := h
    have term : ∃ t, PSs (cxOf CX0 P w K mg base ["self", "index"] "BadLot.__init__" (defScope s_BadLot_init) f cdv A outer s H E).nox (defBody s_BadLot_init) t ∧ t { nx := fun _ H' => Q .non H', rt := Q } (start ["self", "index"] [.ref e, .int i]) H := by
      refine ⟨_, pss_one (ps_ost (pv 0) (pv 1)), ?_⟩
      exact ⟨_, rfl, _, rfl, e, B, rfl, BT.ox, BT.no, .inl ⟨he, fun dx h1 h2 => k dx h1 h2⟩⟩
    obtain ⟨t, h1, h2⟩ := term
    exact ⟨t, h1.nox, h2⟩
/-- raise BadLot(i) -/
theorem ps_bad {X : Cx} {B fB : Addr} {e : Expr} {ta : TA} {W : WX} {p pos pos' : Pos} (BT : BTxt X.K X.mg B fB) (O : OkM X.prog X.w X.K X.mg X.base CX0 1 fB ["self", "index"] (spBL B)) (hr : Room 2 X.A) (hc : X.calm = true) (tk : Takes X W) (ha : PA X [e] ta) (hg : Gl X "BadLot" := by rfl)
    (he : starEach [e] X.env = (false, eval e X.env) :: starEach [] X.env := by rfl) (hpl : (backTo pos (starEach [] X.env)).any (·.1) = false := by rfl) :
    PS X (.Raise (some (.Call (.Name "BadLot" p) [e] [] pos)) none pos') (fun _ σ H => tMkO B (spBL B) [] ta σ H fun cls d H' => W cls d σ H') := by
  obtain ⟨fd, F, hb⟩ := O
  exact ps_raise hc tk (pmk_oex BT.ox BT.iC BT.tI F hr hb .nil pass0 hg BT.mg ha (by decide) he hpl)
/-- what is told of it: its dict holds the index -/
theorem rd_bad {B : Addr} {H : Hp} {i : Int} {E : XK} (k : ∀ d H', Same H H' → H' d = some (.xd (ixF i)) → E (.ref B) (some d) H') :
    ([V.int i] : List V).length ≤ 1000 ∧ ∀ a, H a = none → spBL B (.ref a :: ([V.int i] ++ [])) (upd H a (exo a B none))
      (fun v H2 => v = .non ∧ ∃ (d : Addr) (fs : List (Str × V)), H2 a = some (exo a B (some d)) ∧ H2 d = some (exd d fs) ∧ H d = none ∧ E (.ref B) (some d) (upd (del H2 a) d (.xd fs))) (fun _ _ _ => False) := by
  refine ⟨show 1 ≤ 1000 by decide, fun a ha => ⟨a, i, rfl, upd_same, fun dx hdx hne => ⟨rfl, dx, ixF i, upd_same, ?_, ?_, k dx _ ?_ upd_same⟩⟩⟩
  · rw [upd_ne hne, upd_same]
  · rw [upd_ne hne] at hdx
    exact hdx
  · have hdx' : H dx = none := by rw [upd_ne hne] at hdx; exact hdx
    intro b u e
    have h1 : b ≠ dx := ne_of_none e hdx'
    have h2 : b ≠ a := ne_of_none e ha
    rw [upd_ne h1, del_ne h2, upd_ne h2, upd_ne h1, upd_ne h2]
    exact e
/-! ### checked_lot of what is no lot -/
/-- v in a lot behind gs is not taken -/
inductive Odd (K : PySem.W.Frag) (G : Hp) (ns gs : List Str) : V → Prop
  | odd {v : V} {n : String} : Kd K G v n → n ≠ "str" → Odd K G ns gs v
  | far {z : Str} : (z ∉ ns ∨ z ∈ gs) → Odd K G ns gs (.str z)
/-- v is no lot: refused at i -/
inductive NoLot (K : PySem.W.Frag) (G : Hp) (ns : List Str) : V → Int → Prop
  | kind {v : V} {n : String} : Kd K G v n → listy n = false → NoLot K G ns v 0
  | item {a : Addr} {gs : List Str} {v : V} {r : List V} : G a = some (.lst (gs.map V.str ++ v :: r)) → gs.Nodup → (∀ z ∈ gs, z ∈ ns) → Odd K G ns gs v → NoLot K G ns (.ref a) gs.length
def spLotX (K : PySem.W.Frag) (C B : Addr) : Sp := fun vs H Q E => ∃ G d v ns ps, vs = [.ref d, v] ∧ Same G H ∧ DebAt C G d ns ps ∧
  ((∃ i, NoLot K G ns v i ∧ ∀ e H', Same H H' → H' e = some (.xd (ixF i)) → E (.ref B) (some e) H') ∨
    (∃ a, v = .ref a ∧ NmQ G a [] ∧ ∀ l H', Same H H' → H' l = some (.lst []) → Q (.ref l) H'))
theorem ok_checked_lotX {C fI B fB : Addr} (D : Df K mg "checked_lot" s_checked_lot) (T : Txt K mg) (DT : DTxt K mg C fI) (BT : BTxt K mg B fB) (O : Ok P w K mg base CX0 1 "is_list" ["thing"] (spIsList K)) (OB : OkM P w K mg base CX0 1 fB ["self", "index"] (spBL B)) :
    Ok P w K mg base (L2.CX P w) 3 "checked_lot" ["debate", "lot"] (spLotX K C B) := by
  refine mkOkX D sc_checked_lot (fun _ _ _ _ _ _ us hl => match us, hl with | [_, _], _ => rfl) (fun vs H Q E h => ?_) fun cdv A outer s H vs Q E hr h => ?_
  · obtain ⟨_, _, _, _, _, rfl, _⟩ := h
    rfl
  · obtain ⟨G, d, v, ns, ps, rfl, hG, hd, hh⟩ := h
    have hu := hr.units
    have hu1 := hu_of hr
    refine ⟨_, pss_cons (ps_if (pt_not (pt_val (pe_cl O (hr.mono (by decide)) (pa_cons (pv 1) pa_nil)))) (pss_one (ps_bad BT OB hr rfl (takes_of rfl rfl rfl rfl) (pa_cons pe_int pa_nil))) pss_nil)
      (pss_cons (ps_for (passes_of rfl) rfl (pi_enumQ T.enum (pa_cons (pv 1) pa_nil)) (pg_tup rfl (pgs_cons (pg_name (i := 2) sc_checked_lot.nd rfl (.inl rfl)) (pgs_cons (pg_name (i := 3) sc_checked_lot.nd rfl (.inl rfl)) pgs_nil)))
        (pss_one (ps_if (PW.pt (pw_or (pt_not (pt_val (pe_callB call_is1 (by rfl) T.isi (by decide +kernel) (pa_cons (pv 3) (pa_cons (pe_ty "str" T.str) pa_nil))))) (pw_or (pt_cmp (pc_dnotin hu1 (pv 3) (pe_fld (pv 0) rfl))) (pw_or1 (pt_cmpR op_in_seq (pv 3) (pe_slice sl_seq (pv 1) po_none (po_some (pv 2))) (by rfl)))))) (pss_one (ps_bad BT OB hr rfl (takes_of rfl rfl rfl rfl) (pa_cons (pv 2) pa_nil))) pss_nil)))
      (pss_one (ps_ret (pe_callB (cr_sortQ hu) (by rfl) T.sorted (by decide +kernel) (pa_cons (pv 1) pa_nil))))), ?_⟩
    rcases hh with ⟨i, hb, kE⟩ | ⟨a, rfl, ha, kQ⟩
    · cases hb with
      | @kind _ n kd hn =>
        refine ⟨_, rfl, v, n, rfl, kd.up hG, fun H1 e1 => ⟨_, rfl, ?_⟩⟩
        rw [hn]
        exact rd_bad fun e H' e2 he => kE e H' (e1.trans e2) he
      | @item a gs v r ha hnd hin ho =>
        refine ⟨_, rfl, .ref a, "list", rfl, .lst (hG _ _ ha), fun H1 e1 => ⟨_, rfl, ?_⟩⟩
        have s1 := hG.trans e1
        obtain ⟨dx, so, oo, d1, d2, hda, hi⟩ := hd.ex
        refine ⟨_, rfl, for_enumQ (K := K) (xs := gs.map V.str ++ v :: r) (fun i σ Hc => i ≤ gs.length ∧ ∃ v1 v2, σ = [some (.ref d), some (.ref a), v1, v2] ∧ Same H1 Hc) (.inl (SqL.of (s1 _ _ ha))) ⟨Nat.zero_le _, none, none, rfl, Same.refl _⟩ (fun i σ Hc ⟨_, _, _, _, s⟩ => fun o q => s _ _ q) ?_ ?_⟩
        · rintro i x T' σ Hc hx ⟨hle, v1, v2, rfl, sc⟩ hT
          refine ⟨T', _, rfl, SqT.of upd_same, rfl, ?_⟩
          refine ⟨_, _, rfl, _, _, rfl, rfl, ?_⟩
          have s2 := sc.trans (Same.new (o := .tup [V.int ↑i, x]) hT)
          have gx := s1.trans s2
          have slice : ∀ {Q : VK}, (∀ p H', Same (upd Hc T' (.tup [V.int ↑i, x])) H' → SqQ K H' p ((gs.take i).map V.str) → Q (.ref p) H') → rSlQ K (.ref a) none (some (i : Int)) (upd Hc T' (.tup [V.int ↑i, x])) Q := fun {Q} kk => by
            refine sl_take (.inl (SqL.of (gx _ _ ha))) (by rw [List.length_append, List.length_map, List.length_cons]; omega) fun p H3 e3 hp => kk p H3 e3 ?_
            rw [List.take_append_of_le_length (by rw [List.length_map]; exact hle), ← List.map_take] at hp
            exact hp
          by_cases hlt : i < gs.length
          · rw [List.getElem?_append_left (by rw [List.length_map]; exact hlt)] at hx
            obtain ⟨z, hz, rfl⟩ := get_map hx
            have hzm : z ∈ gs := List.mem_of_getElem? hz
            refine ⟨_, rfl, .str z, "str", "str", rfl, .str z, by decide, _, rfl, ?_⟩
            obtain ⟨L, l1, l2, l3⟩ := rows_get hi.r1 hd.ok.nd z
            refine ⟨_, rfl, _, rfl, d, C, dx, _, .ref d1, rfl, gx _ _ hda, DT.cl, DT.n3, look3 so oo d1 d2, d1, _, rfl, DGet.k (k := (Sum.inr z : Key)) (gx _ _ l1), false, ?_, iteF ?_⟩
            · rw [l2, decide_eq_true (hin z hzm)]
              rfl
            refine ⟨_, rfl, _, rfl, _, rfl, _, rfl, slice fun p H3 e3 hp => ⟨p, _, rfl, hp, rfl, all_flat _, false, ?_, ?_⟩⟩
            · rw [inV_str, decide_eq_false (not_mem_take hnd hz)]
              rfl
            · exact ⟨hlt, _, _, rfl, s2.trans e3⟩
          · have hi' : i = gs.length := by omega
            subst hi'
            rw [List.getElem?_append_right (by rw [List.length_map]; omega), List.length_map, Nat.sub_self] at hx
            obtain rfl : v = x := Option.some.inj hx
            have fin : ∀ {Hx : Hp} {σ : L2.St}, Same (upd Hc T' (.tup [V.int ↑gs.length, v])) Hx → σ[2]? = some (some (V.int (gs.length : Int))) → tMkO B (spBL B) [] (tCons (tVar 2) tNil) σ Hx (fun cls d H' => E cls d H') := fun {Hx σ} ex hσ =>
              ⟨_, hσ, rd_bad fun e H' e2 he => kE e H' (e1.trans ((s2.trans ex).trans e2)) he⟩
            cases ho with
            | @odd _ n kd hn =>
              refine ⟨_, rfl, v, n, "str", rfl, kd.up gx, by decide, _, rfl, ?_⟩
              have e0 : isKind n "str" = false := by
                have hm := kd.mem
                have : ∀ n ∈ kinds, n ≠ "str" → isKind n "str" = false := by decide
                exact this n hm hn
              rw [e0]
              exact fin (Same.refl _) rfl
            | @far z hz =>
              refine ⟨_, rfl, .str z, "str", "str", rfl, .str z, by decide, _, rfl, ?_⟩
              obtain ⟨L, l1, l2, l3⟩ := rows_get hi.r1 hd.ok.nd z
              refine ⟨_, rfl, _, rfl, d, C, dx, _, .ref d1, rfl, gx _ _ hda, DT.cl, DT.n3, look3 so oo d1 d2, d1, _, rfl, DGet.k (k := (Sum.inr z : Key)) (gx _ _ l1), !decide (z ∈ ns), by rw [l2], ?_⟩
              by_cases hzn : z ∈ ns
              · rw [decide_eq_true hzn]
                have hzg : z ∈ gs := hz.resolve_left (fun q => q hzn)
                refine iteF ⟨_, rfl, _, rfl, _, rfl, _, rfl, slice fun p H3 e3 hp => ⟨p, _, rfl, hp, rfl, all_flat _, true, ?_, ?_⟩⟩
                · rw [inV_str, List.take_length, decide_eq_true hzg]
                  rfl
                · exact fin e3 rfl
              · rw [decide_eq_false hzn]
                exact fin (Same.refl _) rfl
        · rintro σ Hc ⟨hle, _⟩
          rw [List.length_append, List.length_map, List.length_cons] at hle
          omega
    · obtain ⟨n, kd, hn⟩ := (ha.up hG).kd (K := K)
      refine ⟨_, rfl, .ref a, n, rfl, kd, fun H1 e1 => ⟨_, rfl, ?_⟩⟩
      rw [hn]
      have s1 := hG.trans e1
      refine ⟨_, rfl, for_enumQ (K := K) (xs := []) (fun i σ Hc => σ = [some (.ref d), some (.ref a), none, none] ∧ Same H1 Hc) ((ha.up s1).q) ⟨rfl, Same.refl _⟩ (fun i σ Hc ⟨_, s⟩ => fun o q => s _ _ q) (fun i x T' σ Hc hx => by cases hx) ?_⟩
      rintro σ Hc ⟨rfl, sc⟩
      refine ⟨_, rfl, sort_strs ((ha.up (s1.trans sc)).q) fun p hp => ?_⟩
      exact kQ p _ ((e1.trans sc).trans (Same.new hp)) (by rw [upd_same]; simp [sortS])
end
end K80
end
section
set_option Elab.async false
set_option linter.all false
set_option maxRecDepth 100000
set_option maxHeartbeats 4000000
namespace K80
open PySem PySem.Spec PyProof.Rows L2
section
variable {P : Program} {w : World} {K : PySem.W.Frag} {mg : Str → Option Value} {base : Heap}
/-- the call of a def that may let an exception out -/
theorem pe_clX {X : Cx} {x : Str} {ps : List Str} {sp : Sp} {k : Nat} {E : XK} {e : Expr} {es : List Expr} {t : TA} {p pos : Pos} (O : Ok X.prog X.w X.K X.mg X.base (L2.CX X.prog X.w) k x ps sp) (hx : Passes (L2.CX X.prog X.w) X E) (hr : Room k X.A) (ha : PA X (e :: es) t) (hg : Gl X x := by rfl)
    (hdb : (x == ("__debug__" : Str)) = false := by decide) (he : starEach (e :: es) X.env = (false, eval e X.env) :: starEach es X.env := by rfl) (hpl : (backTo pos (starEach es X.env)).any (·.1) = false := by rfl) :
    PE X (.Call (.Name x p) (e :: es) [] pos) (tCall sp [] E t) := by
  obtain ⟨fd, F, hm, hk, hb⟩ := O
  exact pe_call F hr hg hm hk hb .nil hx ha hdb he hpl
/-- v is no table: refused at i -/
def NoTab (K : PySem.W.Frag) (G : Hp) (ns : List Str) (v : V) (i : Int) : Prop := NoLot K G ns v i ∨ (i = 0 ∧ ∃ a, v = .ref a ∧ NmQ G a [])
def spVerdictX (K : PySem.W.Frag) (C B : Addr) : Sp := fun vs H _ E => ∃ G d v ns ps i, vs = [.ref d, v] ∧ Same G H ∧ DebAt C G d ns ps ∧ NoTab K G ns v i ∧ ∀ e H', Same H H' → H' e = some (.xd (ixF i)) → E (.ref B) (some e) H'
theorem ok_verdictX {C fI B fB : Addr} (D : Df K mg "verdict" s_verdict) (T : Txt K mg) (DT : DTxt K mg C fI) (BT : BTxt K mg B fB) (OC : Ok P w K mg base (L2.CX P w) 3 "checked_lot" ["debate", "lot"] (spLotX K C B)) (OB : OkM P w K mg base CX0 1 fB ["self", "index"] (spBL B)) :
    Ok P w K mg base (L2.CX P w) 4 "verdict" ["debate", "table"] (spVerdictX K C B) := by
  refine mkOkX D sc_verdict (fun _ _ _ _ _ _ us hl => match us, hl with | [_, _], _ => rfl) (fun vs H Q E h => ?_) fun cdv A outer s H vs Q E hr h => ?_
  · obtain ⟨_, _, _, _, _, _, rfl, _⟩ := h
    rfl
  · obtain ⟨G, d, v, ns, ps, i, rfl, hG, hd, hb, kE⟩ := h
    have hu := hr.units
    refine ⟨_, pss_cons (ps_set (i := 2) sc_verdict.nd rfl (.inl rfl) (pe_clX OC (passes_call (takes_of rfl rfl rfl rfl) (fun _ _ _ _ h => h)) hr (pa_cons (pv 0) (pa_cons (pv 1) pa_nil))))
      (pss_cons (ps_if (pt_cmpR (op_eqD hu) (pv 2) (pe_lst pa_nil) (by rfl)) (pss_one (ps_bad BT OB (hr.mono (by decide)) rfl (takes_of rfl rfl rfl rfl) (pa_cons pe_int pa_nil))) pss_nil)
      (pss_one ps_never)), ?_⟩
    rcases hb with hb | ⟨rfl, a, rfl, ha⟩
    · exact ⟨_, rfl, _, rfl, G, d, v, ns, ps, rfl, hG, hd, .inl ⟨i, hb, fun e H' s he => kE e H' s he⟩⟩
    · refine ⟨_, rfl, _, rfl, G, d, _, ns, ps, rfl, hG, hd, .inr ⟨a, rfl, ha, fun l H1 e1 hl => ?_⟩⟩
      refine ⟨_, rfl, by decide, fun q hq => ⟨.list [], .list [], .lst (SqL.of (by rw [upd_ne (ne_of_none hl hq)]; exact hl)) .nil, .lst (SqL.of upd_same) .nil, by decide, by decide, true, by simp [PyData.eqv, PyData.eqvAll], iteT ?_⟩⟩
      exact rd_bad fun e H' e2 he => kE e H' ((e1.trans (Same.new hq)).trans e2) he
end
end K80
end
section
set_option Elab.async false
set_option linter.all false
set_option maxRecDepth 100000
set_option maxHeartbeats 4000000
namespace K80
open PySem PySem.Spec PyProof.Rows L2
/-! ### the stream -/
structure Strm (st ci : Addr) (fuel : Nat) (G H : Hp) : Prop where
  gs : G st = none
  gc : G ci = none
  ne : st ≠ ci
  ex : ∃ (cs : List Int) (b n m : Int), H st = some (.lst [.ref ci, .int b, .int n, .int m]) ∧ H ci = some (.lst (cs.map V.int)) ∧ 0 ≤ b ∧ 0 ≤ n ∧ n + fuel ≤ 1000000000000 ∧ 0 ≤ m ∧ m < 2147483647
section
variable {st ci : Addr} {fuel : Nat} {G H G' H' : Hp}
theorem Strm.less {f' : Nat} (h : Strm st ci fuel G H) (hf : f' ≤ fuel) : Strm st ci f' G H := by
  obtain ⟨g1, g2, g3, cs, b, n, m, h1, h2, h3, h4, h5, h6⟩ := h
  exact ⟨g1, g2, g3, cs, b, n, m, h1, h2, h3, h4, by omega, h6⟩
theorem Strm.nt (h : Strm st ci fuel G H) : NT (H st) ∧ NT (H ci) ∧ H st ≠ none ∧ H ci ≠ none := by
  obtain ⟨_, _, _, cs, b, n, m, h1, h2, _⟩ := h
  rw [h1, h2]
  refine ⟨(fun xs z => by cases z), (fun xs z => by cases z), by simp, by simp⟩
theorem Strm.ntS (h : Strm st ci fuel G H) : ∀ b ∈ [st, ci], NT (H b) := by
  obtain ⟨h1, h2, _⟩ := h.nt
  intro b hb
  rcases List.mem_cons.mp hb with rfl | hb
  · exact h1
  · rw [List.mem_singleton.mp hb]
    exact h2
/-- what does not touch the stream keeps it -/
theorem Strm.step (h : Strm st ci fuel G H) (g : Gr [] G H G' H') : Strm st ci fuel G' H' := by
  obtain ⟨n1, n2, e1, e2⟩ := h.nt
  obtain ⟨g1, g2, g3, cs, b, n, m, h1, h2, h3⟩ := h
  exact ⟨g.own _ g1 e1 (.inr n1), g.own _ g2 e2 (.inr n2), g3, cs, b, n, m, g.all _ _ h1, g.all _ _ h2, h3⟩
theorem Strm.same (h : Strm st ci fuel G H) (e : Same H H') : Strm st ci fuel G H' := by
  obtain ⟨g1, g2, g3, cs, b, n, m, h1, h2, h3⟩ := h
  exact ⟨g1, g2, g3, cs, b, n, m, e _ _ h1, e _ _ h2, h3⟩
/-- an own object is written -/
theorem Strm.put {p : Addr} {o : HO} (h : Strm st ci fuel G H) (n1 : p ≠ st) (n2 : p ≠ ci) : Strm st ci fuel G (upd H p o) := by
  obtain ⟨g1, g2, g3, cs, b, n, m, h1, h2, h3⟩ := h
  exact ⟨g1, g2, g3, cs, b, n, m, by rw [upd_ne (Ne.symm n1)]; exact h1, by rw [upd_ne (Ne.symm n2)]; exact h2, h3⟩
/-- more is known -/
theorem Strm.pub {p : Addr} {o : HO} (h : Strm st ci fuel G H) (n1 : p ≠ st) (n2 : p ≠ ci) : Strm st ci fuel (upd G p o) H := by
  obtain ⟨g1, g2, g3, h3⟩ := h
  exact ⟨by rw [upd_ne (Ne.symm n1)]; exact g1, by rw [upd_ne (Ne.symm n2)]; exact g2, g3, h3⟩
theorem Strm.nes (h : Strm st ci fuel G H) {p : Addr} (hp : H p = none) : p ≠ st ∧ p ≠ ci := by
  obtain ⟨_, _, e1, e2⟩ := h.nt
  exact ⟨fun z => e1 (z ▸ hp), fun z => e2 (z ▸ hp)⟩
end
theorem Gr.lift {S : List Addr} {G H G' H' : Hp} (g : Gr [] G H G' H') (hS : ∀ b ∈ S, NT (H b)) : Gr S G H G' H' := g.mono (fun _ h => nomatch h) fun b hb _ _ => hS b hb
theorem ints_lay : ∀ cs : List Int, PyData.canLayAll0 (cs.map PyData.int) = true
  | [] => by simp [PyData.canLayAll0]
  | c :: cs => by simp [PyData.canLayAll0, PyData.canLay0, ints_lay cs]
theorem ints_dep : ∀ cs : List Int, PyData.depthAll (cs.map PyData.int) = 0
  | [] => by simp [PyData.depthAll]
  | c :: cs => by simp [PyData.depthAll, PyData.depth, ints_dep cs]
theorem ints_shaped (cs : List Int) : SeqAt.shaped (.list (cs.map PyData.int)) = true := by
  simp [SeqAt.shaped, PyData.canLay0, PyData.depth, ints_lay cs, ints_dep cs]
theorem dpAll_ints {K : PySem.W.Frag} {G : Hp} : ∀ cs : List Int, DpAll K G (cs.map V.int) (cs.map PyData.int)
  | [] => .nil
  | c :: cs => .cons (.int c) (dpAll_ints cs)
theorem at40 {a b c d : V} : atI [a, b, c, d] (0 : Int) = some a := atI_nat (xs := [a, b, c, d]) (j := 0) rfl
theorem at41 {a b c d : V} : atI [a, b, c, d] (1 : Int) = some b := atI_nat (xs := [a, b, c, d]) (j := 1) rfl
theorem at42 {a b c d : V} : atI [a, b, c, d] (2 : Int) = some c := atI_nat (xs := [a, b, c, d]) (j := 2) rfl
theorem at43 {a b c d : V} : atI [a, b, c, d] (3 : Int) = some d := atI_nat (xs := [a, b, c, d]) (j := 3) rfl
section
variable {P : Program} {w : World} {K : PySem.W.Frag} {mg : Str → Option Value} {base : Heap}
def spDraw : Sp := fun vs H Q _ => ∃ (G : Hp) (st ci : Addr) (fuel : Nat) (many : Nat), vs = [.ref st, .int many] ∧ Same G H ∧ Strm st ci (fuel + 1) G H ∧ 0 < many ∧ many < 1073741824 ∧ ∀ (d : Nat) (H' : Hp), Gr [st, ci] G H G H' → Strm st ci fuel G H' → d < many → Q (.int d) H'
theorem sc_draw : FnScope ["_law_stream", "_law_many", "_law_cell", "_law_digit", "_law_mixed_here"] ["_law_stream", "_law_many"] (defScope s_L_draw) := ⟨rfl, rfl, rfl, by decide +kernel, rfl, by decide +kernel, by decide +kernel⟩
theorem ok_draw (D : Df K mg "_law_draw" s_L_draw) (T : Txt K mg) : Ok P w K mg base CX0 1 "_law_draw" ["_law_stream", "_law_many"] spDraw := by
  refine mkOk D sc_draw (fun _ _ _ _ _ _ us hl => match us, hl with | [_, _], _ => rfl) (fun vs H Q E h => ?_) fun cdv A outer s H vs Q E hr h => ?_
  · obtain ⟨_, _, _, _, _, rfl, _⟩ := h
    rfl
  · obtain ⟨G, st, ci, fuel, many, rfl, hG, hs, hm0, hm1, k⟩ := h
    have hu := hr.units
    obtain ⟨gs, gc, ne, cs, b, n, m, h1, h2, hb, hn, hf, hm, hm2⟩ := hs
    have tail : ∃ tt, PSs (cxOf CX0 P w K mg base ["_law_stream", "_law_many", "_law_cell", "_law_digit", "_law_mixed_here"] "_law_draw" (defScope s_L_draw) (He.ga K "_law_draw") cdv A outer s H E).nox ((defBody s_L_draw).drop 2) tt ∧
        ∀ (cs : List Int) (b m : Int) (v : Option V) (Hc : Hp), Gr [st, ci] G H G Hc → Hc st = some (.lst [.ref ci, .int b, .int (n + 1), .int m]) → Hc ci = some (.lst (cs.map V.int)) → 0 ≤ b → 0 ≤ m → m < 2147483647 →
          tt { nx := fun _ H' => Q .non H', rt := Q } [some (.ref st), some (.int many), v, none, none] Hc := by
      refine ⟨_, (pss_cons (ps_if (pt_cmpR op_gt (pe_ix ix_list (pv 0) pe_int (fun _ _ => rfl)) pe_int (nomark _))
        (pss_cons (ps_set (i := 3) sc_draw.nd rfl (.inl rfl) (pe_op op_mod (pe_callTy call_int1 (by rfl) T.int (by decide +kernel) (pa_cons (pe_ix ix_list (pv 0) pe_int (fun _ _ => rfl)) pa_nil)) (pv 1)))
        (pss_cons (ps_asg (pe_op op_fdiv (pe_ix ix_list (pv 0) pe_int (fun _ _ => rfl)) (pv 1)) (pg_sub (pv 0) pe_int set_list))
        (pss_one (ps_ret (pv 3))))) pss_nil)
      (pss_cons (ps_set (i := 4) sc_draw.nd rfl (.inl rfl) (pe_op op_mod (pe_callTy call_int1 (by rfl) T.int (by decide +kernel) (pa_cons (pe_op op_pow (pe_op op_add (pe_op op_add (pe_ix ix_list (pv 0) pe_int (fun _ _ => rfl)) (pe_op op_mul pe_int (pe_ix ix_list (pv 0) pe_int (fun _ _ => rfl)))) pe_int) pe_int) pa_nil)) pe_int))
      (pss_one (ps_ret (pe_op op_mod (pe_op op_mod (pe_callTy call_int1 (by rfl) T.int (by decide +kernel) (pa_cons (pe_op op_pow (pe_op op_add (pe_op op_add (pe_op op_mul (pv 4) pe_int) (pe_op op_mul pe_int (pe_ix ix_list (pv 0) pe_int (fun _ _ => rfl)))) pe_int) pe_int) pa_nil)) pe_int) (pv 1)))))), fun cs b m v Hc g h1 h2 hb hm hm2 => ?_⟩
      have sq := SqL.of (K := K) h1
      refine ⟨_, rfl, st, _, 1, _, rfl, rfl, sq, at41, _, _, rfl, rfl, _, rfl, ?_⟩
      have hm0' : (0 : Int) < (many : Int) := by omega
      by_cases h0 : 0 < b
      · rw [decide_eq_true h0]
        refine iteT ?_
        refine ⟨_, rfl, st, _, 1, _, rfl, rfl, sq, at41, .inl ⟨_, rfl, _, rfl, _, _, rfl, rfl, hm0', ?_⟩⟩
        refine ⟨_, rfl, st, _, 1, _, rfl, rfl, sq, at41, _, rfl, _, _, rfl, rfl, ⟨hm0', by omega⟩, _, rfl, st, _, 1, 1, rfl, rfl, h1, rfl, ?_⟩
        have e1 := Int.emod_nonneg b (Int.ne_of_gt hm0')
        have e2 := Int.emod_lt_of_pos b hm0'
        obtain ⟨d, hd⟩ := Int.eq_ofNat_of_zero_le e1
        have hr := k d _ (g.put (o := .lst [.ref ci, .int (b / many), .int (n + 1), .int m]) (.inr (by simp)) gs) ⟨gs, gc, ne, cs, b / many, n + 1, m, upd_same, by rw [upd_ne (Ne.symm ne)]; exact h2, Int.ediv_nonneg hb (by omega), by omega, by omega, hm, hm2⟩ (by omega)
        rw [← hd] at hr
        exact ⟨_, rfl, hr⟩
      · rw [decide_eq_false h0]
        refine iteF ?_
        refine ⟨_, rfl, st, _, 3, _, rfl, rfl, sq, at43, _, rfl, st, _, 2, _, rfl, rfl, sq, at42, _, _, rfl, rfl, .inl (by omega), _, _, rfl, rfl, _, _, rfl, rfl, _, _, rfl, rfl, ⟨by decide, by decide, ?_⟩, .inl ⟨_, rfl, _, _, rfl, rfl, (show (0 : Int) < 2147483629 by decide), ?_⟩⟩
        · omega
        have e1 := Int.emod_nonneg ((m + 7919 * (n + 1) + 104729) ^ 5) (show (2147483629 : Int) ≠ 0 by decide)
        have e2 := Int.emod_lt_of_pos ((m + 7919 * (n + 1) + 104729) ^ 5) (show (0 : Int) < 2147483629 by decide)
        generalize hx : ((m + 7919 * (n + 1) + 104729) ^ 5) % 2147483629 = x at e1 e2
        refine ⟨_, rfl, _, _, rfl, rfl, .inr (by omega), _, rfl, st, _, 2, _, rfl, rfl, sq, at42, _, _, rfl, rfl, .inl (by omega), _, _, rfl, rfl, _, _, rfl, rfl, _, _, rfl, rfl, ⟨by decide, by decide, ?_⟩, .inl ⟨_, rfl, _, _, rfl, rfl, (show (0 : Int) < 1000000007 by decide), _, rfl, _, _, rfl, rfl, hm0', ?_⟩⟩
        · rw [show ((m + 7919 * (n + 1) + 104729) ^ Int.toNat 5) % 2147483629 = x from hx]
          omega
        rw [show ((m + 7919 * (n + 1) + 104729) ^ Int.toNat 5) % 2147483629 = x from hx]
        generalize hz : ((x * 48271 + 30011 * (n + 1) + 29) ^ Int.toNat 3 % 1000000007) = z
        have f1 := Int.emod_nonneg z (Int.ne_of_gt hm0')
        have f2 := Int.emod_lt_of_pos z hm0'
        obtain ⟨d, hd⟩ := Int.eq_ofNat_of_zero_le f1
        have hr := k d Hc g ⟨gs, gc, ne, cs, b, n + 1, m, h1, h2, hb, by omega, by omega, hm, hm2⟩ (by omega)
        rw [← hd] at hr
        exact hr
    obtain ⟨tt, hp, ht⟩ := tail
    refine ⟨_, pss_cons (ps_asg (pe_op op_add (pe_ix ix_list (pv 0) pe_int (fun _ _ => rfl)) pe_int) (pg_sub (pv 0) pe_int set_list))
      (pss_cons (ps_while PassesOwn.never (PW.pt (pw_and (pt_cmpR op_eq (pe_ix ix_list (pv 0) pe_int (fun _ _ => rfl)) pe_int (nomark _)) (pw_and1 (pt_cmpR (op_neD hu) (pe_ix ix_list (pv 0) pe_int (fun _ _ => rfl)) (pe_lst pa_nil) (by rfl)))))
        (pss_cons (ps_set (i := 2) sc_draw.nd rfl (.inl rfl) (pe_bm PySem.F.plainAttrs_list PySem.F.slot_list_pop PySem.F.type_list_pop mt_popAt (pe_ix ix_list (pv 0) pe_int (fun _ _ => rfl)) (pa_cons pe_int pa_nil)))
        (pss_cons (ps_asg (pe_op op_mod (pe_callTy call_int1 (by rfl) T.int (by decide +kernel) (pa_cons (pe_op op_add (pe_op op_add (pe_op op_mul (pe_ix ix_list (pv 0) pe_int (fun _ _ => rfl)) pe_int) (pv 2)) pe_int) pa_nil)) pe_int) (pg_sub (pv 0) pe_int set_list))
        (pss_one (ps_asg (pe_ifExp (pt_cmpR op_ge (pv 2) (pe_op op_pow pe_int pe_int) (nomark _)) (pv 2) pe_int) (pg_sub (pv 0) pe_int set_list))))))
      hp), ?_⟩
    refine ⟨_, rfl, st, _, 2, _, rfl, rfl, SqL.of h1, at42, _, _, rfl, rfl, _, rfl, st, _, 2, 2, rfl, rfl, h1, rfl, ?_⟩
    refine ⟨fun t σ Hc => ∃ (cs : List Int) (b m : Int) (v : Option V), σ = [some (.ref st), some (.int many), v, none, none] ∧ Gr [st, ci] G H G Hc ∧ Hc st = some (.lst [.ref ci, .int b, .int (n + 1), .int m]) ∧ Hc ci = some (.lst (cs.map V.int)) ∧ 0 ≤ b ∧ 0 ≤ m ∧ m < 2147483647 ∧ t = cs.length,
      ⟨_, cs, b, m, none, rfl, (Gr.refl hG).put (.inr (by simp)) gs, upd_same, by rw [upd_ne (Ne.symm ne)]; exact h2, hb, hm, hm2, rfl⟩, ?_⟩
    clear h1 h2 hb hm hm2 cs b m
    rintro t σ Hc ⟨cs, b, m, v, rfl, g, h1, h2, hb, hm, hm2, rfl⟩
    have sq := SqL.of (K := K) h1
    refine ⟨_, rfl, st, _, 1, _, rfl, rfl, sq, at41, rfl, _, rfl, ?_⟩
    by_cases hb0 : b = 0
    · subst hb0
      rw [decide_eq_true rfl]
      refine iteT ⟨_, rfl, st, _, 0, _, rfl, rfl, sq, at40, by decide, fun q hq => ?_⟩
      have nst : st ≠ q := ne_of_none h1 hq
      have nci : ci ≠ q := ne_of_none h2 hq
      have sn : Same Hc (upd Hc q (.lst [])) := Same.new hq
      have gq : Gr [st, ci] G H G (upd Hc q (.lst [])) := g.trans (Gr.hid g.sub hq)
      have h1q := sn _ _ h1
      have h2q := sn _ _ h2
      refine ⟨.list (cs.map PyData.int), .list [], .lst (SqL.of h2q) (dpAll_ints cs), .lst (SqL.of upd_same) .nil, ints_shaped cs, by decide, _, rfl, ?_⟩
      cases cs with
      | nil => exact ht [] 0 m v _ gq h1q h2q hb hm hm2
      | cons c cs =>
        have e0 : (!PyData.eqv (.list ((c :: cs).map PyData.int)) (.list [])) = true := by simp [PyData.eqv, PyData.eqvAll]
        rw [e0]
        refine iteT ⟨fun σ' H' => ∃ t, t < (c :: cs).length ∧ ∃ (cs : List Int) (b m : Int) (v : Option V), σ' = [some (.ref st), some (.int many), v, none, none] ∧ Gr [st, ci] G H G H' ∧ H' st = some (.lst [.ref ci, .int b, .int (n + 1), .int m]) ∧ H' ci = some (.lst (cs.map V.int)) ∧ 0 ≤ b ∧ 0 ≤ m ∧ m < 2147483647 ∧ t = cs.length, fun σ' H' h => h, ?_⟩
        have sq1 := SqL.of (K := K) h1q
        have sk : seqIndex? 0 ((c :: cs).map V.int).length = some 0 := seqIndex_of (by decide) (by simp)
        refine ⟨_, rfl, st, _, 0, _, rfl, rfl, sq1, at40, .inl ⟨rfl, _, SqL.of h2q⟩, ci, _, 0, 0, .int c, rfl, rfl, h2q, by decide, by decide, sk, rfl, ?_⟩
        have h1p : upd (upd Hc q (.lst [])) ci (.lst (((c :: cs).map V.int).eraseIdx 0)) st = _ := (upd_ne ne).trans h1q
        have gp := gq.put (p := ci) (o := .lst (((c :: cs).map V.int).eraseIdx 0)) (.inr (by simp)) gc
        have sq2 := SqL.of (K := K) h1p
        refine ⟨_, rfl, st, _, 3, _, rfl, rfl, sq2, at43, _, _, rfl, rfl, .inl (by omega), _, rfl, _, _, rfl, rfl, _, _, rfl, rfl, .inl ⟨_, rfl, _, _, rfl, rfl, (show (0 : Int) < 2147483647 by decide), _, rfl, st, _, 3, 3, rfl, rfl, h1p, rfl, ?_⟩⟩
        have e1 := Int.emod_nonneg (m * 8191 + c + 3) (show (2147483647 : Int) ≠ 0 by decide)
        have e2 := Int.emod_lt_of_pos (m * 8191 + c + 3) (show (0 : Int) < 2147483647 by decide)
        have gr := gp.put (p := st) (o := .lst [.ref ci, .int 0, .int (n + 1), .int ((m * 8191 + c + 3) % 2147483647)]) (.inr (by simp)) gs
        have h1r : (upd (upd (upd Hc q (.lst [])) ci (.lst (((c :: cs).map V.int).eraseIdx 0))) st (.lst [.ref ci, .int 0, .int (n + 1), .int ((m * 8191 + c + 3) % 2147483647)])) st = _ := upd_same
        have h2r : (upd (upd (upd Hc q (.lst [])) ci (.lst (((c :: cs).map V.int).eraseIdx 0))) st (.lst [.ref ci, .int 0, .int (n + 1), .int ((m * 8191 + c + 3) % 2147483647)])) ci = some (.lst (cs.map V.int)) := by
          rw [upd_ne (Ne.symm ne), upd_same]
          rfl
        refine ⟨_, rfl, _, _, rfl, rfl, ⟨by decide, by decide, by decide⟩, _, _, rfl, rfl, _, rfl, ?_⟩
        have fin : ∀ b2 : Int, 0 ≤ b2 → ∃ p xs k j, V.ref st = .ref p ∧ V.int 1 = .int k ∧ (upd (upd (upd Hc q (.lst [])) ci (.lst (((c :: cs).map V.int).eraseIdx 0))) st (.lst [.ref ci, .int 0, .int (n + 1), .int ((m * 8191 + c + 3) % 2147483647)])) p = some (.lst xs) ∧ ixN xs.length k = some j ∧
          (∃ t, t < (c :: cs).length ∧ ∃ (cs' : List Int) (b' m' : Int) (v' : Option V), [some (V.ref st), some (V.int many), some (V.int c), none, none] = ([some (V.ref st), some (V.int many), v', none, none] : L2.St) ∧ Gr [st, ci] G H G (upd (upd (upd (upd Hc q (.lst [])) ci (.lst (((c :: cs).map V.int).eraseIdx 0))) st (.lst [.ref ci, .int 0, .int (n + 1), .int ((m * 8191 + c + 3) % 2147483647)])) p (.lst (xs.set j (.int b2)))) ∧ (upd (upd (upd (upd Hc q (.lst [])) ci (.lst (((c :: cs).map V.int).eraseIdx 0))) st (.lst [.ref ci, .int 0, .int (n + 1), .int ((m * 8191 + c + 3) % 2147483647)])) p (.lst (xs.set j (.int b2)))) st = some (.lst [.ref ci, .int b', .int (n + 1), .int m']) ∧ (upd (upd (upd (upd Hc q (.lst [])) ci (.lst (((c :: cs).map V.int).eraseIdx 0))) st (.lst [.ref ci, .int 0, .int (n + 1), .int ((m * 8191 + c + 3) % 2147483647)])) p (.lst (xs.set j (.int b2)))) ci = some (.lst (cs'.map V.int)) ∧ 0 ≤ b' ∧ 0 ≤ m' ∧ m' < 2147483647 ∧ t = cs'.length) := fun b2 hb2 =>
          ⟨st, _, 1, 1, rfl, rfl, h1r, rfl, cs.length, by simp, cs, b2, _, _, rfl, gr.put (.inr (by simp)) gs, upd_same, by rw [upd_ne (Ne.symm ne)]; exact h2r, hb2, e1, e2, rfl⟩
        by_cases hc : (10 : Int) ^ Int.toNat 18 ≤ c
        · rw [decide_eq_true hc]
          exact iteT ⟨_, rfl, _, rfl, fin c (Int.le_trans (by decide) hc)⟩
        · rw [decide_eq_false hc]
          exact iteF ⟨_, rfl, fin 0 (by decide)⟩
    · have e0 : decide (V.int b = V.int 0) = false := by rw [dec_int]; simpa using hb0
      rw [e0]
      exact iteF (iteF (ht cs b m v Hc g h1 h2 hb hm hm2))
end
end K80
end
section
set_option Elab.async false
set_option linter.all false
set_option maxRecDepth 100000
set_option maxHeartbeats 4000000
namespace K80
open PySem PySem.Spec PyProof.Rows L2
theorem erase_perm {α : Type} : ∀ {l : List α} {d : Nat} {x : α}, l[d]? = some x → (x :: l.eraseIdx d).Perm l
  | [], d, x, h => by simp at h
  | a :: l, 0, x, h => by
    have e : a = x := Option.some.inj h
    rw [e]
    exact List.Perm.refl _
  | a :: l, d + 1, x, h => by
    have := erase_perm (l := l) (d := d) (x := x) h
    show (x :: a :: l.eraseIdx d).Perm (a :: l)
    exact (List.Perm.swap a x _).trans (List.Perm.cons a this)
theorem erase_map {α β : Type} (f : α → β) : ∀ (l : List α) (d : Nat), (l.map f).eraseIdx d = (l.eraseIdx d).map f
  | [], d => by simp
  | a :: l, 0 => rfl
  | a :: l, d + 1 => by
    show f a :: (l.map f).eraseIdx d = f a :: (l.eraseIdx d).map f
    rw [erase_map f l d]
theorem erase_len {α : Type} {l : List α} {d : Nat} {x : α} (h : l[d]? = some x) : (l.eraseIdx d).length + 1 = l.length := by
  have := (erase_perm h).length_eq
  exact this
section
variable {X : Cx} {o e : Expr} {es : List Expr} {to : TE} {t : TA} {name : Str} {apos cpos : Pos} {T id : String} {r : V → List V → Hp → VK → Prop}
theorem bmK (K : PySem.W.Frag) (pa : PlainAttrs T) (slot : Slot T name id) (hty : typeOf (.builtin id) = pure (.type "method_descriptor")) (hm : MtR X id r) (ho : PE X o to) (ha : PA X (e :: es) t)
    (hbase : attributeBase o name X.env (eval o X.env) = eval o X.env := by rfl)
    (hfew : ((backTo cpos (starEach (e :: es) X.env)).all (fun x => !x.1) && (backToKw cpos (keywordEach [] X.env)).all (fun x => x.1.isSome)
      && decide ((e :: es).length + ([] : List Keyword).length + (if ([] : List Keyword).isEmpty then 0 else 1) < 30)) = true := by rfl)
    (hline : (apos.endLine == cpos.line) = true := by rfl) (hs : starEach (e :: es) X.env = (false, eval e X.env) :: starEach es X.env := by rfl) (hplain : (backTo cpos (starEach es X.env)).any (·.1) = false := by rfl) (h : X.K = K := by rfl) :
    PE X (.Call (.Attribute o name apos) (e :: es) [] cpos) (tBM K T r to t) := h ▸ pe_bm pa slot hty hm ho ha hbase hfew hline hs hplain
end
section
variable {P : Program} {w : World} {K : PySem.W.Frag} {mg : Str → Option Value} {base : Heap}
/-! ### pick, mixed -/
def spPick : Sp := fun vs H Q _ => ∃ (G : Hp) (st ci : Addr) (fuel : Nat) (a : Addr) (xs : List V), vs = [.ref st, .ref a] ∧ Same G H ∧ Strm st ci (fuel + 1) G H ∧ G a = some (.lst xs) ∧ xs ≠ [] ∧ xs.length ≤ 1000000 ∧ ∀ (d : Nat) (v : V) (H' : Hp), Gr [st, ci] G H G H' → Strm st ci fuel G H' → xs[d]? = some v → Q v H'
def spMixed : Sp := fun vs H Q _ => ∃ (G : Hp) (st ci : Addr) (fuel : Nat) (a : Addr) (α : Type) (f : α → V) (l : List α), vs = [.ref st, .ref a] ∧ Same G H ∧ Strm st ci (l.length + fuel) G H ∧ G a = some (.lst (l.map f)) ∧ l.length ≤ 1000000 ∧
  ∀ (p : Addr) (m : List α) (H' : Hp), Gr [st, ci] G H (upd G p (.lst (m.map f))) H' → Strm st ci fuel (upd G p (.lst (m.map f))) H' → m.Perm l → H p = none → Q (.ref p) H'
theorem sc_pick : FnScope ["_law_stream", "_law_some"] ["_law_stream", "_law_some"] (defScope s_L_pick) := ⟨rfl, rfl, rfl, by decide +kernel, rfl, by decide +kernel, by decide +kernel⟩
theorem sc_mixed : FnScope ["_law_stream", "_law_some", "_law_left", "_law_k"] ["_law_stream", "_law_some"] (defScope s_L_mixed) := ⟨rfl, rfl, rfl, by decide +kernel, rfl, by decide +kernel, by decide +kernel⟩
theorem ok_pick (D : Df K mg "_law_pick" s_L_pick) (T : Txt K mg) (OD : Ok P w K mg base CX0 1 "_law_draw" ["_law_stream", "_law_many"] spDraw) : Ok P w K mg base CX0 2 "_law_pick" ["_law_stream", "_law_some"] spPick := by
  refine mkOk D sc_pick (fun _ _ _ _ _ _ us hl => match us, hl with | [_, _], _ => rfl) (fun vs H Q E h => ?_) fun cdv A outer s H vs Q E hr h => ?_
  · obtain ⟨_, _, _, _, _, _, rfl, _⟩ := h
    rfl
  · obtain ⟨G, st, ci, fuel, a, xs, rfl, hG, hs, ha, hne, hlen, k⟩ := h
    refine ⟨_, pss_one (ps_ret (pe_ix ix_list (pv 1) (pe_cl OD hr (pa_cons (pv 0) (pa_cons (pe_callB call_len_seq (by rfl) T.len PySem.boot_len (pa_cons (pv 1) pa_nil)) pa_nil))) (fun _ _ => rfl))), ?_⟩
    have hpos : 0 < xs.length := List.length_pos_iff.mpr hne
    refine ⟨_, rfl, _, rfl, _, rfl, a, xs, rfl, .inl (SqL.of (hG _ _ ha)), G, st, ci, fuel, xs.length, rfl, hG, hs, hpos, by omega, fun d H1 g hs1 hd => ?_⟩
    have hx : xs[d]? = some xs[d] := List.getElem?_eq_getElem hd
    exact ⟨a, xs, d, xs[d], rfl, rfl, SqL.of (g.sub _ _ ha), atI_nat hx, k d _ H1 g hs1 hx⟩
theorem ok_mixed (D : Df K mg "_law_mixed" s_L_mixed) (T : Txt K mg) (OD : Ok P w K mg base CX0 1 "_law_draw" ["_law_stream", "_law_many"] spDraw) : Ok P w K mg base CX0 2 "_law_mixed" ["_law_stream", "_law_some"] spMixed := by
  refine mkOk D sc_mixed (fun _ _ _ _ _ _ us hl => match us, hl with | [_, _], _ => rfl) (fun vs H Q E h => ?_) fun cdv A outer s H vs Q E hr h => ?_
  · obtain ⟨_, _, _, _, _, _, _, _, rfl, _⟩ := h
    rfl
  · obtain ⟨G, st, ci, fuel, a, α, f, l, rfl, hG, hs, ha, hlen, k⟩ := h
    refine ⟨_, pss_cons (ps_set (i := 2) sc_mixed.nd rfl (.inr rfl) (pe_callTy call_list_of (by rfl) T.list (by decide +kernel) (pa_cons (pv 1) pa_nil)))
      (pss_one (ps_ret (pe_lc (own := [("_law_k", 3)]) (g := gName 3) (tt := tYes) rfl sc_mixed.nd (pi_range1 rfl T.range (pa_cons (pe_callB call_len_seq (by rfl) T.len PySem.boot_len (pa_cons (pv 2) pa_nil)) pa_nil)) (blkOk_by (own := [("_law_k", 3)]) (N := ["_law_stream", "_law_some", "_law_left", "_law_k"]) (sc := defScope s_L_mixed) (by decide +kernel))
        (fun _ _ _ _ _ => pg_name (i := 3) sc_mixed.nd rfl (Or.inl rfl)) (fun _ _ _ _ _ => pts_nil)
        (fun _ _ _ _ _ => bmK K PySem.F.plainAttrs_list PySem.F.slot_list_pop PySem.F.type_list_pop mt_popAt (pv 2) (pa_cons (pe_cl OD hr (pa_cons (pv 0) (pa_cons (pe_callB (lenK K) (by rfl) T.len PySem.boot_len (pa_cons (pv 2) pa_nil)) pa_nil))) pa_nil))))), ?_⟩
    refine ⟨_, rfl, a, _, rfl, .inl (SqL.of (hG _ _ ha)), fun L hL => ?_⟩
    refine ⟨_, rfl, L, _, rfl, .inl (SqL.of upd_same), (l.map f).length, rfl, ?_⟩
    rw [List.length_map]
    refine ⟨by omega, by omega, fun D hD => ?_⟩
    have DL : D ≠ L := fun z => by rw [z, upd_same] at hD; cases hD
    have hDH : H D = none := by rw [upd_ne DL] at hD; exact hD
    obtain ⟨Lst, Lci⟩ := hs.nes hL
    obtain ⟨Dst, Dci⟩ := hs.nes hDH
    have gL : G L = none := Same.free hG hL
    have gD : G D = none := Same.free hG hDH
    refine hp_range (lo := 0) (n := l.length) (Step := LcStep _ _ _ _ _ D) (fun i Hc => ∃ acc left : List α, (acc ++ left).Perm l ∧ acc.length = i ∧ Gr [st, ci] G H G Hc ∧ Strm st ci (left.length + fuel) G Hc ∧ Hc D = some (.lst (acc.map f)) ∧ Hc L = some (.lst (left.map f)))
      ⟨[], l, List.Perm.refl _, rfl, ((Gr.hid hG hL)).trans (Gr.hid (hG.trans (Same.new hL)) hD), (hs.put Lst Lci).put Dst Dci, upd_same, by rw [upd_ne (Ne.symm DL)]; exact upd_same⟩ (fun i Hc hi h => ?_) (fun Hc h => ?_)
    · obtain ⟨acc, left, hp, ha2, g, hst, hcD, hcL⟩ := h
      have hl := hp.length_eq
      rw [List.length_append] at hl
      have sqL := SqL.of (K := K) hcL
      refine ⟨rfl, _, rfl, .inl ⟨rfl, _, sqL⟩, _, rfl, _, rfl, L, _, rfl, .inl sqL, G, st, ci, left.length - 1 + fuel, (left.map f).length, rfl, g.sub, hst.less (by omega), by rw [List.length_map]; omega, by rw [List.length_map]; omega, fun d H1 g1 hs1 hd => ?_⟩
      rw [List.length_map] at hd
      have hx : left[d]? = some left[d] := List.getElem?_eq_getElem hd
      have hxf : (left.map f)[d]? = some (f left[d]) := by rw [List.getElem?_map, hx]; rfl
      have hL1 := g1.keep L _ (by simp [Lst, Lci]) hcL
      have hD1 := g1.keep D _ (by simp [Dst, Dci]) hcD
      refine ⟨L, _, (d : Int), d, _, rfl, rfl, hL1, by omega, by omega, seqIndex_of (by omega) (by rw [List.length_map]; omega), hxf, _, by rw [upd_ne DL]; exact hD1, szl (by rw [List.length_map]; omega), acc ++ [left[d]], left.eraseIdx d, ?_, by rw [List.length_append, ha2]; rfl, ?_, ?_, ?_, ?_⟩
      · rw [List.append_assoc]
        exact (List.Perm.append_left acc (erase_perm hx)).trans hp
      · exact ((g.trans g1).put (.inl hL) gL).put (.inl hDH) gD
      · have hle := erase_len hx
        exact ((hs1.less (by omega)).put Lst Lci).put Dst Dci
      · rw [upd_same, List.map_append]
        rfl
      · rw [upd_ne (Ne.symm DL), upd_same, erase_map]
    · obtain ⟨acc, left, hp, ha2, g, hst, hcD, hcL⟩ := h
      have hl := hp.length_eq
      rw [List.length_append] at hl
      have hnil : left = [] := List.length_eq_zero_iff.mp (by omega)
      subst hnil
      rw [List.append_nil] at hp
      have gp := g.pub hDH gD gD hcD
      have hst' : Strm st ci fuel (upd G D (.lst (acc.map f))) Hc := (hst.less (by simp)).pub Dst Dci
      exact k D acc Hc gp hst' hp hDH
end
end K80
end
section
set_option Elab.async false
set_option linter.all false
set_option maxRecDepth 100000
set_option maxHeartbeats 4000000
namespace K80
open PySem PySem.Spec PyProof.Rows L2
section
variable {P : Program} {w : World} {K : PySem.W.Frag} {mg : Str → Option Value} {base : Heap}
theorem hu65 {k : Nat} {A : Around} (hr : Room k A) : A.units + 65 < cLine := by
  have := hr.un
  omega
/-! ### each_once -/
def spOnce : Sp := fun vs H Q _ => ∃ (G : Hp) (a : Addr) (ps : List Pair), vs = [.ref a] ∧ Same G H ∧ Prs G a ps ∧ (∀ p ∈ ps, okPair p) ∧ ps.length ≤ 1000 ∧ ∀ (l : Addr) (qs : List Pair) (G' H' : Hp), Gr [] G H G' H' → Prs G' l qs → qs.Nodup → (∀ q ∈ qs, q ∈ ps) → qs.length ≤ ps.length → Q (.ref l) H'
theorem sc_once : FnScope ["_law_things", "_law_found", "_law_thing"] ["_law_things"] (defScope s_L_each_once) := ⟨rfl, rfl, rfl, by decide +kernel, rfl, by decide +kernel, by decide +kernel⟩
theorem ok_once (D : Df K mg "_law_each_once" s_L_each_once) (T : Txt K mg) : Ok P w K mg base CX0 1 "_law_each_once" ["_law_things"] spOnce := by
  refine mkOk D sc_once (fun _ _ _ _ _ _ us hl => match us, hl with | [_], _ => rfl) (fun vs H Q E h => ?_) fun cdv A outer s H vs Q E hr h => ?_
  · obtain ⟨_, _, _, rfl, _⟩ := h
    rfl
  · obtain ⟨G, a, ps, rfl, hG, ha, hok, hlen, k⟩ := h
    have hu := hu65 hr
    refine ⟨_, pss_cons (ps_set (i := 1) sc_once.nd rfl (.inl rfl) (pe_lst pa_nil))
      (pss_cons (ps_for PassesOwn.never rfl (pi_list (pv 0)) (pg_name (i := 2) sc_once.nd rfl (.inl rfl))
        (pss_one (ps_if (pt_cmpR (op_notInD hu) (pv 2) (pv 1) (by rfl)) (pss_one (ps_expr (pe_bm PySem.F.plainAttrs_list PySem.F.slot_list_append PySem.F.type_list_append mt_append (pv 1) (pa_cons (pv 2) pa_nil)))) pss_nil)))
      (pss_one (ps_ret (pv 1)))), ?_⟩
    obtain ⟨l, ⟨p1, p2⟩, rfl⟩ := ha
    rw [List.length_map] at hlen
    refine ⟨by decide, fun F hF => ?_⟩
    have gF : G F = none := Same.free hG hF
    have aF : a ≠ F := ne_of_none (hG _ _ p1) hF
    have sq : ∀ {Hc}, Same G Hc → SqL K Hc a (l.map fun e => V.ref e.1) := fun e => SqL.of (e _ _ p1)
    refine ⟨_, rfl, a, rfl, ⟨_, sq (hG.trans (Same.new hF))⟩, for_list (K := K) (xs := l.map fun e => V.ref e.1) (fun i σ Hc => ∃ (v : Option V) (acc : List (Addr × Pair)), σ = [some (.ref a), some (.ref F), v] ∧ Same H Hc ∧ Hc F = some (.lst (acc.map fun e => V.ref e.1)) ∧ (acc.map (·.2)).Nodup ∧ (∀ e ∈ acc, e ∈ l) ∧ acc.length ≤ i)
      ⟨none, [], rfl, Same.new hF, upd_same, List.nodup_nil, (fun _ h => nomatch h), Nat.le_refl _⟩ (fun i σ Hc _ ⟨_, _, _, s, _⟩ => sq (hG.trans s)) ?_ ?_⟩
    · rintro i x σ Hc hx ⟨v, acc, rfl, sc, hc, hnd, hsub, hle⟩
      obtain ⟨e, he, rfl⟩ := get_map hx
      have hel : e ∈ l := List.mem_of_getElem? he
      have hi := lt_of_get he
      have gc := hG.trans sc
      have okp : okPair e.2 := hok _ (List.mem_map.mpr ⟨e, hel, rfl⟩)
      have dpe : Dp K Hc (.ref e.1) (encP e.2) := .tup (SqT.of (gc _ _ (p2 e hel))) (.cons (.str _) (.cons (.str _) .nil))
      have dpa : Dp K Hc (.ref F) (.list ((acc.map (·.2)).map encP)) := .lst (SqL.of hc) (dpAll_prs fun z hz => gc _ _ (p2 z (hsub z hz)))
      refine ⟨_, rfl, _, rfl, _, _, dpe, dpa, encP_shaped okp, encPs_shaped fun p hp => ?_, _, rfl, ?_⟩
      · obtain ⟨z, hz, rfl⟩ := List.mem_map.mp hp
        exact hok _ (List.mem_map.mpr ⟨z, hsub z hz, rfl⟩)
      rw [any_encP]
      by_cases hm : e.2 ∈ acc.map (·.2)
      · rw [decide_eq_true hm]
        exact iteF ⟨_, acc, rfl, sc, hc, hnd, hsub, by omega⟩
      · rw [decide_eq_false hm]
        refine iteT ⟨_, rfl, .inl ⟨rfl, _, SqL.of hc⟩, _, rfl, F, _, _, rfl, rfl, hc, szl (by rw [List.length_map]; omega), _, acc ++ [e], rfl, same_put sc hF, ?_, ?_, ?_, ?_⟩
        · rw [upd_same, List.map_append]
          rfl
        · rw [List.map_append, List.nodup_append]
          refine ⟨hnd, by simp, fun u hu v hv => ?_⟩
          have : v = e.2 := by simpa using hv
          rw [this]
          exact fun z => hm (z ▸ hu)
        · intro z hz
          rcases List.mem_append.mp hz with hz | hz
          · exact hsub z hz
          · rw [List.mem_singleton.mp hz]
            exact hel
        · rw [List.length_append]
          show acc.length + 1 ≤ i + 1
          omega
    · rintro σ Hc ⟨v, acc, rfl, sc, hc, hnd, hsub, hle⟩
      have g : Gr [] G H (upd G F (.lst (acc.map fun e => V.ref e.1))) Hc := (Gr.same hG sc).pub hF gF gF hc
      refine ⟨_, rfl, k F (acc.map (·.2)) _ Hc g ⟨acc, ⟨upd_same, fun z hz => ?_⟩, rfl⟩ hnd (fun q hq => ?_) ?_⟩
      · rw [upd_ne (ne_of_none (p2 z (hsub z hz)) gF)]
        exact p2 z (hsub z hz)
      · obtain ⟨z, hz, rfl⟩ := List.mem_map.mp hq
        exact List.mem_map.mpr ⟨z, hsub z hz, rfl⟩
      · rw [List.length_map, List.length_map] at *
        exact hle
/-! ### loose -/
def spLoose0 : Sp := fun vs H Q _ => ∃ (x : V) (z : Str), vs = [x, .str z] ∧ ∀ H', Same H H' → Q (.str z) H'
def spLoose1 : Sp := fun vs H Q _ => ∃ (G : Hp) (st ci : Addr) (fuel : Nat) (a : Addr) (ns : List Str), vs = [.ref st, .ref a] ∧ Same G H ∧ Strm st ci (fuel + 1) G H ∧ NmQ G a ns ∧ ns.length ≤ 1000 ∧ ∀ (p : Addr) (G' H' : Hp), Gr [st, ci] G H G' H' → Strm st ci fuel G' H' → NmQ G' p ns → Q (.ref p) H'
def spLoose2 : Sp := fun vs H Q _ => ∃ (G : Hp) (st ci : Addr) (fuel : Nat) (a : Addr) (ps : List Pair), vs = [.ref st, .ref a] ∧ Same G H ∧ Strm st ci (ps.length + 1 + fuel) G H ∧ Prs G a ps ∧ ps.length ≤ 1000 ∧ ∀ (p : Addr) (G' H' : Hp), Gr [st, ci] G H G' H' → Strm st ci fuel G' H' → LoosP G' p ps → Q (.ref p) H'
theorem sc_loose : FnScope ["_law_stream", "_law_thing", "_law_found", "_law_part"] ["_law_stream", "_law_thing"] (defScope s_L_loose) := ⟨rfl, rfl, rfl, by decide +kernel, rfl, by decide +kernel, by decide +kernel⟩
theorem listy_any : ∀ n ∈ kinds, (["list", "tuple"] : List String).any (fun m => isKind n m) = listy n := by decide
theorem ok_loose0 (D : Df K mg "_law_loose" s_L_loose) (T : Txt K mg) : Ok P w K mg base CX0 1 "_law_loose" ["_law_stream", "_law_thing"] spLoose0 := by
  refine mkOk D sc_loose (fun _ _ _ _ _ _ us hl => match us, hl with | [_, _], _ => rfl) (fun vs H Q E h => ?_) fun cdv A outer s H vs Q E hr h => ?_
  · obtain ⟨_, _, rfl, _⟩ := h
    rfl
  · obtain ⟨x, z, rfl, k⟩ := h
    refine ⟨_, pss_cons (ps_if (pt_not (pt_val (pe_callB call_isM (by rfl) T.isi (by decide +kernel) (pa_cons (pv 1) (pa_cons (pe_tup (pa_cons (pe_ty "list" T.list) (pa_cons (pe_ty "tuple" T.tuple) pa_nil))) pa_nil))))) (pss_one (ps_ret (pv 1))) pss_nil) pss_never, ?_⟩
    refine ⟨_, rfl, by show 2 ≤ sizeLine; decide, fun p hp => ⟨.str z, "str", p, ["list", "tuple"], rfl, upd_same, by decide, .str z, _, rfl, ?_⟩⟩
    exact ⟨_, rfl, k _ (Same.new hp)⟩
theorem ok_loose1 (D : Df K mg "_law_loose" s_L_loose) (T : Txt K mg) (OD : Ok P w K mg base CX0 1 "_law_draw" ["_law_stream", "_law_many"] spDraw) (O0 : Ok P w K mg base CX0 1 "_law_loose" ["_law_stream", "_law_thing"] spLoose0) : Ok P w K mg base CX0 2 "_law_loose" ["_law_stream", "_law_thing"] spLoose1 := by
  refine mkOk D sc_loose (fun _ _ _ _ _ _ us hl => match us, hl with | [_, _], _ => rfl) (fun vs H Q E h => ?_) fun cdv A outer s H vs Q E hr h => ?_
  · obtain ⟨_, _, _, _, _, _, rfl, _⟩ := h
    rfl
  · obtain ⟨G, st, ci, fuel, a, ns, rfl, hG, hs, ha, hlen, k⟩ := h
    refine ⟨_, pss_cons (ps_if (pt_not (pt_val (pe_callB call_isM (by rfl) T.isi (by decide +kernel) (pa_cons (pv 1) (pa_cons (pe_tup (pa_cons (pe_ty "list" T.list) (pa_cons (pe_ty "tuple" T.tuple) pa_nil))) pa_nil))))) (pss_one ps_never) pss_nil)
      (pss_cons (ps_setLc (i := 2) (own := [("_law_part", 3)]) (g := gName 3) (tt := tYes) rfl sc_loose.nd rfl rfl (sw_true rfl rfl rfl (by decide +kernel)) (pi_seq (pv 1)) (blkOk_by (own := [("_law_part", 3)]) (N := ["_law_stream", "_law_thing", "_law_found", "_law_part"]) (sc := defScope s_L_loose) (by decide +kernel))
        (fun _ _ _ _ _ => pg_name (i := 3) sc_loose.nd rfl (Or.inl rfl)) (fun _ _ _ _ _ => pts_nil)
        (fun _ _ _ _ _ => pe_cl O0 hr (pa_cons (pv 0) (pa_cons (pv 3) pa_nil))))
      (pss_one (ps_ret (pe_ifExp (pt_cmpR op_eq (pe_cl OD hr (pa_cons (pv 0) (pa_cons pe_int pa_nil))) pe_int (nomark _)) (pv 2) (pe_callTy call_tuple_of (by rfl) T.tuple (by decide +kernel) (pa_cons (pv 2) pa_nil)))))), ?_⟩
    obtain ⟨n, kd, hn⟩ := (ha.up hG).kd (K := K)
    refine ⟨_, rfl, by show 2 ≤ sizeLine; decide, fun p hp => ⟨.ref a, n, p, ["list", "tuple"], rfl, upd_same, by decide, kd.up (Same.new hp), _, rfl, ?_⟩⟩
    rw [listy_any n kd.mem, hn]
    refine iteF ?_
    have s1 : Same H (upd H p (.tup (["list", "tuple"].map V.ty))) := Same.new hp
    refine ⟨_, rfl, lc_fmQ ns V.str (fun _ => true) V.str ((ha.up (hG.trans s1)).q) (by omega) (fun D hD x hx H2 s2 Qn Qy hn hy => ?_) fun D H2 hD s2 e => ?_⟩
    · exact ⟨rfl, _, rfl, _, rfl, _, x, rfl, fun H3 e3 => hy rfl H3 e3⟩
    · rw [filt_all] at e
      have sAll := s1.trans s2
      have hDH : H D = none := Same.free s1 hD
      have gD : G D = none := Same.free hG hDH
      have g1 : Gr [] G H (upd G D (.lst (ns.map V.str))) H2 := (Gr.same hG sAll).pub hDH gD gD e
      refine ⟨_, rfl, upd G D (.lst (ns.map V.str)), st, ci, fuel, 3, rfl, g1.sub, hs.step g1, by decide, by decide, fun d H3 g3 hs3 hd => ?_⟩
      have g4 := (g1.lift hs.ntS).trans g3
      refine ⟨rfl, _, rfl, ?_⟩
      by_cases h0 : (d : Int) = 0
      · rw [show decide (V.int (d : Int) = V.int 0) = true by rw [h0]; decide]
        exact iteT ⟨_, rfl, k D _ H3 g4 hs3 (.inl upd_same)⟩
      · rw [show decide (V.int (d : Int) = V.int 0) = false by rw [dec_int]; simpa using h0]
        refine iteF ⟨_, rfl, D, _, rfl, .inl ⟨SqL.of (g3.sub _ _ upd_same), fun q hq => ?_⟩⟩
        have g5 := g4.trans (Gr.new (o := .tup (ns.map V.str)) g4.sub hq)
        exact k q _ _ g5 (hs3.step (Gr.new g4.sub hq)) (.inr upd_same)
theorem PairIn.nm {G : Hp} {v : V} {p : Pair} (h : PairIn G v p) : ∃ a, v = .ref a ∧ NmQ G a [p.1, p.2] := h
theorem ok_loose2 (D : Df K mg "_law_loose" s_L_loose) (T : Txt K mg) (OD : Ok P w K mg base CX0 1 "_law_draw" ["_law_stream", "_law_many"] spDraw) (O1 : Ok P w K mg base CX0 2 "_law_loose" ["_law_stream", "_law_thing"] spLoose1) : Ok P w K mg base CX0 3 "_law_loose" ["_law_stream", "_law_thing"] spLoose2 := by
  refine mkOk D sc_loose (fun _ _ _ _ _ _ us hl => match us, hl with | [_, _], _ => rfl) (fun vs H Q E h => ?_) fun cdv A outer s H vs Q E hr h => ?_
  · obtain ⟨_, _, _, _, _, _, rfl, _⟩ := h
    rfl
  · obtain ⟨G, st, ci, fuel, a, ps, rfl, hG, hs, ha, hlen, k⟩ := h
    refine ⟨_, pss_cons (ps_if (pt_not (pt_val (pe_callB call_isM (by rfl) T.isi (by decide +kernel) (pa_cons (pv 1) (pa_cons (pe_tup (pa_cons (pe_ty "list" T.list) (pa_cons (pe_ty "tuple" T.tuple) pa_nil))) pa_nil))))) (pss_one ps_never) pss_nil)
      (pss_cons (ps_setLc (i := 2) (own := [("_law_part", 3)]) (g := gName 3) (tt := tYes) rfl sc_loose.nd rfl rfl (sw_true rfl rfl rfl (by decide +kernel)) (pi_list (pv 1)) (blkOk_by (own := [("_law_part", 3)]) (N := ["_law_stream", "_law_thing", "_law_found", "_law_part"]) (sc := defScope s_L_loose) (by decide +kernel))
        (fun _ _ _ _ _ => pg_name (i := 3) sc_loose.nd rfl (Or.inl rfl)) (fun _ _ _ _ _ => pts_nil)
        (fun _ _ _ _ _ => pe_cl O1 hr (pa_cons (pv 0) (pa_cons (pv 3) pa_nil))))
      (pss_one (ps_ret (pe_ifExp (pt_cmpR op_eq (pe_cl OD (hr.mono (by decide)) (pa_cons (pv 0) (pa_cons pe_int pa_nil))) pe_int (nomark _)) (pv 2) (pe_callTy call_tuple_of (by rfl) T.tuple (by decide +kernel) (pa_cons (pv 2) pa_nil)))))), ?_⟩
    obtain ⟨l, ⟨p1, p2⟩, rfl⟩ := ha
    rw [List.length_map] at hlen hs
    refine ⟨_, rfl, by show 2 ≤ sizeLine; decide, fun p hp => ⟨.ref a, "list", p, ["list", "tuple"], rfl, upd_same, by decide, .lst ((Same.new hp) _ _ (hG _ _ p1)), _, rfl, ?_⟩⟩
    refine iteF ?_
    have s1 : Same H (upd H p (.tup [V.ty "list", V.ty "tuple"])) := Same.new hp
    refine ⟨_, rfl, a, rfl, ⟨_, SqL.of (s1 _ _ (hG _ _ p1))⟩, fun D hD => ?_⟩
    have hDH : H D = none := Same.free s1 hD
    have gD : G D = none := Same.free hG hDH
    obtain ⟨Dst, Dci⟩ := hs.nes hDH
    refine hp_list (xs := l.map fun e => V.ref e.1) (Step := LcStep _ _ _ _ _ D) (fun i Hc => ∃ (acc : List (V × Pair)) (Gc : Hp), Gr [st, ci] G H Gc Hc ∧ Strm st ci (l.length - i + 1 + fuel) Gc Hc ∧ Gc D = none ∧ Hc D = some (.lst (acc.map (·.1))) ∧ acc.map (·.2) = (l.map (·.2)).take i ∧ ∀ e ∈ acc, PairIn Gc e.1 e.2)
      ⟨[], G, (Gr.same hG s1).trans (Gr.hid (hG.trans s1) hD), (hs.same s1).put Dst Dci, gD, upd_same, rfl, fun _ h => nomatch h⟩ (fun i Hc _ ⟨_, _, g, _⟩ => SqL.of ((g.gg.trans g.sub) _ _ p1)) (fun i x Hc hx h => ?_) (fun Hc h => ?_)
    · obtain ⟨e, he, rfl⟩ := get_map hx
      obtain ⟨acc, Gc, g, hst, gcD, hcD, hacc, hpi⟩ := h
      have hi := lt_of_get he
      have ha1 : NmQ Gc e.1 [e.2.1, e.2.2] := .inr (g.gg _ _ (p2 e (List.mem_of_getElem? he)))
      have hal : acc.length = i := by
        have := congrArg List.length hacc
        rw [List.length_map, List.length_take, List.length_map] at this
        omega
      refine ⟨rfl, _, rfl, _, rfl, Gc, st, ci, l.length - (i + 1) + 1 + fuel, e.1, [e.2.1, e.2.2], rfl, g.sub, hst.less (by omega), ha1, by simp, fun q G2 H2 g2 hs2 hq => ?_⟩
      have hD2 := g2.keep D _ (by simp [Dst, Dci]) hcD
      have gD2 : G2 D = none := g2.own D gcD (by rw [hcD]; simp) (.inr (by rw [hcD]; intro xs z; cases z))
      refine ⟨_, hD2, szl (by rw [List.length_map]; omega), acc ++ [(V.ref q, e.2)], G2, (g.trans g2).put (.inl hDH) gD2, hs2.put Dst Dci, gD2, ?_, ?_, ?_⟩
      · rw [upd_same, List.map_append]
        rfl
      · rw [List.map_append, hacc, take_succ (by rw [List.getElem?_map, he]; rfl : (l.map (·.2))[i]? = some e.2)]
        rfl
      · intro z hz
        rcases List.mem_append.mp hz with hz | hz
        · exact (hpi z hz).up g2.gg
        · rw [List.mem_singleton.mp hz]
          exact ⟨q, rfl, hq⟩
    · obtain ⟨acc, Gc, g, hst, gcD, hcD, hacc, hpi⟩ := h
      rw [List.length_map, ← List.length_map (f := (·.2)), List.take_length] at hacc
      have g1 := g.pub hDH gD gcD hcD
      have hst1 : Strm st ci (1 + fuel) (upd Gc D (.lst (acc.map (·.1)))) Hc := (hst.less (by omega)).pub Dst Dci
      have hlo : ∀ {G2 : Hp} {q : Addr}, Same (upd Gc D (.lst (acc.map (·.1)))) G2 → (G2 q = some (.lst (acc.map (·.1))) ∨ G2 q = some (.tup (acc.map (·.1)))) → LoosP G2 q (l.map (·.2)) := fun {G2 q} e hq =>
        ⟨acc, hacc, hq, fun z hz => ((hpi z hz).up (Same.new gcD)).up e⟩
      refine ⟨_, rfl, upd Gc D (.lst (acc.map (·.1))), st, ci, fuel, 3, rfl, g1.sub, hst1.less (by omega), by decide, by decide, fun d H3 g3 hs3 hd => ?_⟩
      have g4 := g1.trans g3
      refine ⟨rfl, _, rfl, ?_⟩
      by_cases h0 : (d : Int) = 0
      · rw [show decide (V.int (d : Int) = V.int 0) = true by rw [h0]; decide]
        exact iteT ⟨_, rfl, k D _ H3 g4 hs3 (hlo (Same.refl _) (.inl upd_same))⟩
      · rw [show decide (V.int (d : Int) = V.int 0) = false by rw [dec_int]; simpa using h0]
        refine iteF ⟨_, rfl, D, _, rfl, .inl ⟨SqL.of (g3.sub _ _ upd_same), fun q hq => ?_⟩⟩
        have g5 := g4.trans (Gr.new (o := .tup (acc.map (·.1))) g4.sub hq)
        exact k q _ _ g5 (hs3.step (Gr.new g4.sub hq)) (hlo (Same.new (Same.free g4.sub hq)) (.inr upd_same))
end
end K80
end
section
set_option Elab.async false
set_option linter.all false
set_option maxRecDepth 100000
set_option maxHeartbeats 4000000
namespace K80
open PySem PySem.Spec PyProof.Rows L2
def nm10 : List Str := ["b", "aa", "c1", "docs", "z9", "a", "m3", "abcdefghijk1", "no", "yes"]
def okNameB (z : Str) : Bool := decide (0 < z.length) && (decide (z.length ≤ 12) && ((match z.cps[0]? with | some c => decide (c ∈ small.cps.toList) | none => false) && z.cps.toList.all fun c => decide (c ∈ (small ++ figs).cps.toList)))
theorem okName_of {z : Str} (h : okNameB z = true) : okName z := by
  unfold okNameB at h
  rw [Bool.and_eq_true, Bool.and_eq_true, Bool.and_eq_true, decide_eq_true_iff, decide_eq_true_iff, List.all_eq_true] at h
  obtain ⟨h1, h2, h3, h4⟩ := h
  refine ⟨h1, h2, ?_, fun c hc => of_decide_eq_true (h4 c hc)⟩
  split at h3
  · rename_i c e
    exact ⟨c, e, of_decide_eq_true h3⟩
  · cases h3
theorem nm10_ok : ∀ z ∈ nm10, okName z := by
  have : ∀ z ∈ nm10, okNameB z = true := by decide +kernel
  exact fun z hz => okName_of (this z hz)
theorem nm10_nd : nm10.Nodup := by decide +kernel
section
variable {P : Program} {w : World} {K : PySem.W.Frag} {mg : Str → Option Value} {base : Heap}
/-- names as the law has them -/
structure NsOk (ns : List Str) : Prop where
  nd : ns.Nodup
  ok : ∀ z ∈ ns, okName z
  l1 : 0 < ns.length
  l2 : ns.length ≤ 12
def spNames : Sp := fun vs H Q _ => ∃ (G : Hp) (st ci : Addr) (fuel many : Nat), vs = [.ref st, .int many] ∧ Same G H ∧ Strm st ci (10 + fuel) G H ∧ 0 < many ∧ many ≤ 4 ∧
  ∀ (p : Addr) (ns : List Str) (G' H' : Hp), Gr [st, ci] G H G' H' → Strm st ci fuel G' H' → Nm G' p ns → NsOk ns → (∀ z ∈ ns, z ∈ nm10) → ns.length = many → Q (.ref p) H'
theorem sc_names : FnScope ["_law_stream", "_law_many", "_law_some"] ["_law_stream", "_law_many"] (defScope s_L_d_names) := ⟨rfl, rfl, rfl, by decide +kernel, rfl, by decide +kernel, by decide +kernel⟩
theorem ok_names (D : Df K mg "_law_d_names" s_L_d_names) (T : Txt K mg) (OM : Ok P w K mg base CX0 2 "_law_mixed" ["_law_stream", "_law_some"] spMixed) : Ok P w K mg base CX0 3 "_law_d_names" ["_law_stream", "_law_many"] spNames := by
  refine mkOk D sc_names (fun _ _ _ _ _ _ us hl => match us, hl with | [_, _], _ => rfl) (fun vs H Q E h => ?_) fun cdv A outer s H vs Q E hr h => ?_
  · obtain ⟨_, _, _, _, _, rfl, _⟩ := h
    rfl
  · obtain ⟨G, st, ci, fuel, many, rfl, hG, hs, hm0, hm1, k⟩ := h
    refine ⟨_, pss_cons (ps_set (i := 2) sc_names.nd rfl (.inl rfl) (pe_lst (pa_cons pe_str (pa_cons pe_str (pa_cons pe_str (pa_cons pe_str (pa_cons pe_str (pa_cons pe_str (pa_cons pe_str (pa_cons pe_str (pa_cons pe_str (pa_cons pe_str pa_nil))))))))))))
      (pss_one (ps_ret (pe_slice sl_list (pe_cl OM hr (pa_cons (pv 0) (pa_cons (pv 2) pa_nil))) po_none (po_some (pv 1))))), ?_⟩
    refine ⟨by show 10 ≤ sizeLine; decide, fun a ha => ?_⟩
    have g0 : Gr [st, ci] G H (upd G a (.lst (nm10.map V.str))) (upd H a (.lst (nm10.map V.str))) := Gr.new hG ha
    have hs0 : Strm st ci (10 + fuel) (upd G a (.lst (nm10.map V.str))) (upd H a (.lst (nm10.map V.str))) := hs.step (Gr.new hG ha)
    refine ⟨_, rfl, _, rfl, upd G a (.lst (nm10.map V.str)), st, ci, fuel, a, Str, V.str, nm10, rfl, g0.sub, hs0, upd_same, by decide, fun p m H1 g1 hs1 hp _ => ?_⟩
    have ml := hp.length_eq
    have ml2 : m.length = 10 := ml
    refine ⟨_, rfl, _, rfl, p, m.map V.str, rfl, SqL.of (g1.sub _ _ upd_same), fun q hq => ?_⟩
    rw [cut_take, ← List.map_take]
    have g2 := (g0.trans g1).trans (Gr.new (o := .lst ((m.take many).map V.str)) g1.sub hq)
    refine k q (m.take many) _ _ g2 (hs1.step (Gr.new g1.sub hq)) upd_same ⟨(hp.nodup_iff.mpr nm10_nd).sublist (List.take_sublist _ _), fun z hz => nm10_ok z (hp.mem_iff.mp (List.mem_of_mem_take hz)), by rw [List.length_take]; omega, by rw [List.length_take]; omega⟩ (fun z hz => hp.mem_iff.mp (List.mem_of_mem_take hz)) (by rw [List.length_take]; omega)
end
end K80
end
section
set_option Elab.async false
set_option linter.all false
set_option maxRecDepth 100000
set_option maxHeartbeats 4000000
namespace K80
open PySem PySem.Spec PyProof.Rows L2
section
variable {P : Program} {w : World} {K : PySem.W.Frag} {mg : Str → Option Value} {base : Heap}
/-- pairs of such names -/
structure PsOk (ns : List Str) (ps : List Pair) : Prop where
  nd : ps.Nodup
  pin : ∀ p ∈ ps, p.1 ∈ ns ∧ p.2 ∈ ns
  len : ps.length ≤ 400
theorem Strm.hid {st ci fuel : Nat} {G H : Hp} {q : Addr} {o : HO} (h : Strm st ci fuel G H) (hq : H q = none) : Strm st ci fuel G (upd H q o) := h.same (Same.new hq)
/-- a list of pairs while it is filled -/
structure FI (G H : Hp) (st ci F : Addr) (fl : Nat) (ns : List Str) (Gc Hc : Hp) (acc : List (Addr × Pair)) : Prop where
  n1 : F ≠ st
  n2 : F ≠ ci
  g : Gr [st, ci] G H Gc Hc
  s : Strm st ci fl Gc Hc
  f : Hc F = some (.lst (acc.map fun e => V.ref e.1))
  gf : Gc F = none
  hf : H F = none
  tp : ∀ e ∈ acc, Gc e.1 = some (.tup [.str e.2.1, .str e.2.2])
  pin : ∀ e ∈ acc, e.2.1 ∈ ns ∧ e.2.2 ∈ ns
section
variable {G H Gc Hc G2 H2 : Hp} {st ci F q : Addr} {fl fl2 : Nat} {ns : List Str} {acc acc2 : List (Addr × Pair)} {o : HO}
theorem FI.go (h : FI G H st ci F fl ns Gc Hc acc) (g2 : Gr [st, ci] Gc Hc G2 H2) (s2 : Strm st ci fl2 G2 H2) : FI G H st ci F fl2 ns G2 H2 acc :=
  ⟨h.n1, h.n2, h.g.trans g2, s2, g2.keep F _ (by simp [h.n1, h.n2]) h.f, g2.own F h.gf (by rw [h.f]; simp) (.inr (by rw [h.f]; intro xs z; cases z)), h.hf, fun e he => g2.gg _ _ (h.tp e he), h.pin⟩
theorem FI.less (h : FI G H st ci F fl ns Gc Hc acc) (hl : fl2 ≤ fl) : FI G H st ci F fl2 ns Gc Hc acc := ⟨h.n1, h.n2, h.g, h.s.less hl, h.f, h.gf, h.hf, h.tp, h.pin⟩
theorem FI.new (h : FI G H st ci F fl ns Gc Hc acc) (hq : Hc q = none) : FI G H st ci F fl ns (upd Gc q o) (upd Hc q o) acc := h.go (Gr.new h.g.sub hq) (h.s.step (Gr.new h.g.sub hq))
theorem FI.hid (h : FI G H st ci F fl ns Gc Hc acc) (hq : Hc q = none) : FI G H st ci F fl ns Gc (upd Hc q o) acc := h.go (Gr.hid h.g.sub hq) (h.s.hid hq)
theorem FI.set (h : FI G H st ci F fl ns Gc Hc acc) (h1 : ∀ e ∈ acc2, Gc e.1 = some (.tup [.str e.2.1, .str e.2.2])) (h2 : ∀ e ∈ acc2, e.2.1 ∈ ns ∧ e.2.2 ∈ ns) : FI G H st ci F fl ns Gc (upd Hc F (.lst (acc2.map fun e => V.ref e.1))) acc2 :=
  ⟨h.n1, h.n2, h.g.put (.inl h.hf) h.gf, h.s.put h.n1 h.n2, upd_same, h.gf, h.hf, h1, h2⟩
end
def wl (n : Nat) : List Nat := [2, n * n + 1, n + 2, 2 * n + 1, n + 1]
theorem wl_ok {n way m : Nat} (hn : n ≤ 12) (h : (wl n)[way]? = some m) : 0 < m ∧ m ≤ 145 := by
  have hm : m ∈ wl n := List.mem_of_getElem? h
  have hq : n * n ≤ 12 * 12 := Nat.mul_le_mul hn hn
  unfold wl at hm
  simp only [List.mem_cons, List.not_mem_nil, or_false] at hm
  rcases hm with rfl | rfl | rfl | rfl | rfl <;> omega
def spPairs : Sp := fun vs H Q _ => ∃ (G : Hp) (st ci : Addr) (fuel : Nat) (a : Addr) (ns : List Str), vs = [.ref st, .ref a] ∧ Same G H ∧ Strm st ci (2000 + fuel) G H ∧ Nm G a ns ∧ NsOk ns ∧
  ∀ (p : Addr) (ps : List Pair) (G' H' : Hp), Gr [st, ci] G H G' H' → Strm st ci fuel G' H' → Prs G' p ps → PsOk ns ps → Q (.ref p) H'
theorem sc_pairs : FnScope ["_law_stream", "_law_names", "_law_way", "_law_many", "_law_found", "_law_k", "_law_one", "_law_other"] ["_law_stream", "_law_names"] (defScope s_L_d_pairs) := ⟨rfl, rfl, rfl, by decide +kernel, rfl, by decide +kernel, by decide +kernel⟩
theorem ok_pairs (D : Df K mg "_law_d_pairs" s_L_d_pairs) (T : Txt K mg) (OD : Ok P w K mg base CX0 1 "_law_draw" ["_law_stream", "_law_many"] spDraw) (OP : Ok P w K mg base CX0 2 "_law_pick" ["_law_stream", "_law_some"] spPick) (OM : Ok P w K mg base CX0 2 "_law_mixed" ["_law_stream", "_law_some"] spMixed)
    (OO : Ok P w K mg base CX0 1 "_law_each_once" ["_law_things"] spOnce) : Ok P w K mg base CX0 3 "_law_d_pairs" ["_law_stream", "_law_names"] spPairs := by
  refine mkOk D sc_pairs (fun _ _ _ _ _ _ us hl => match us, hl with | [_, _], _ => rfl) (fun vs H Q E h => ?_) fun cdv A outer s H vs Q E hr h => ?_
  · obtain ⟨_, _, _, _, _, _, rfl, _⟩ := h
    rfl
  · obtain ⟨G, st, ci, fuel, a, ns, rfl, hG, hs, ha, hns, k⟩ := h
    have hr1 : Room 1 _ := hr.mono (by decide)
    have hr2 : Room 2 _ := hr.mono (by decide)
    have hn1 := hns.l1
    have hn2 := hns.l2
    have tail : ∃ tt, PSs (cxOf CX0 P w K mg base ["_law_stream", "_law_names", "_law_way", "_law_many", "_law_found", "_law_k", "_law_one", "_law_other"] "_law_d_pairs" (defScope s_L_d_pairs) (He.ga K "_law_d_pairs") cdv A outer s H E).nox ((defBody s_L_d_pairs).drop 2) tt ∧
        ∀ (F : Addr) (way : Nat) (Gc Hc : Hp) (acc : List (Addr × Pair)), way < 5 → FI G H st ci F (1990 + fuel) ns Gc Hc acc → acc.length ≤ 12 →
          tt { nx := fun _ H' => Q .non H', rt := Q } [some (.ref st), some (.ref a), some (.int way), some (.int ns.length), some (.ref F), none, none, none] Hc := by
      refine ⟨_, (pss_cons (ps_for PassesOwn.never rfl (pi_range1 rfl T.range (pa_cons (pe_ifExp (pt_cmpR op_gt (pv 3) pe_int (nomark _)) (pe_cl OD hr1 (pa_cons (pv 0) (pa_cons (pe_ix ix_list (pe_lst (pa_cons pe_int (pa_cons (pe_op op_add (pe_op op_mul (pv 3) (pv 3)) pe_int) (pa_cons (pe_op op_add (pv 3) pe_int) (pa_cons (pe_op op_add (pe_op op_mul pe_int (pv 3)) pe_int) (pa_cons (pe_op op_add (pv 3) pe_int) pa_nil)))))) (pv 2) (fun _ _ => rfl)) pa_nil))) pe_int) pa_nil)) (pg_name (i := 5) sc_pairs.nd rfl (.inl rfl))
        (pss_cons (ps_par (i := 6) (j := 7) rfl sc_pairs.nd rfl rfl (by decide) rfl rfl (pa_cons (pe_cl OP hr2 (pa_cons (pv 0) (pa_cons (pv 1) pa_nil))) (pa_cons (pe_cl OP hr2 (pa_cons (pv 0) (pa_cons (pv 1) pa_nil))) pa_nil)) rfl)
        (pss_cons (ps_expr (pe_bm PySem.F.plainAttrs_list PySem.F.slot_list_append PySem.F.type_list_append mt_append (pv 4) (pa_cons (pe_tup (pa_cons (pv 6) (pa_cons (pv 7) pa_nil))) pa_nil)))
        (pss_one (ps_expr (pe_bm PySem.F.plainAttrs_list PySem.F.slot_list_extend PySem.F.type_list_extend mt_extend (pv 4) (pa_cons (pe_op op_rep (pe_lst (pa_cons (pe_tup (pa_cons (pv 7) (pa_cons (pv 6) pa_nil))) pa_nil)) (pe_callTy call_int1 (by rfl) T.int (by decide +kernel) (pa_cons (pe_cmpR op_eq (pv 2) pe_int (nomark _)) pa_nil))) pa_nil)))))))
      (pss_one (ps_ret (pe_cl OM hr2 (pa_cons (pv 0) (pa_cons (pe_cl OO hr1 (pa_cons (pv 4) pa_nil)) pa_nil)))))), fun F way Gc Hc acc hw fi hal => ?_⟩
      have hn0 : (0 : Int) < (ns.length : Int) := by omega
      have hnn : (ns.length : Int) < 2 ^ 64 := by omega
      refine ⟨_, rfl, _, _, rfl, rfl, _, rfl, ?_⟩
      rw [decide_eq_true hn0]
      refine iteT ?_
      refine ⟨_, rfl, _, rfl, _, rfl, _, _, rfl, rfl, .inl ⟨by omega, hnn⟩, _, _, rfl, rfl, _, rfl, _, _, rfl, rfl, _, rfl, _, _, rfl, rfl, .inl ⟨by decide, by decide⟩, _, _, rfl, rfl, _, rfl, _, _, rfl, rfl, by show 5 ≤ sizeLine; decide, fun q hq => ?_⟩
      have hwl : ([V.int 2, V.int ((ns.length : Int) * ns.length + 1), V.int ((ns.length : Int) + 2), V.int (2 * (ns.length : Int) + 1), V.int ((ns.length : Int) + 1)] : List V) = (wl ns.length).map (fun m : Nat => V.int (m : Int)) := by
        simp [wl, Int.natCast_add, Int.natCast_mul]
      have fi1 := fi.hid (o := .lst [V.int 2, V.int ((ns.length : Int) * ns.length + 1), V.int ((ns.length : Int) + 2), V.int (2 * (ns.length : Int) + 1), V.int ((ns.length : Int) + 1)]) hq
      have hwz : way < (wl ns.length).length := hw
      have hm2 : (wl ns.length)[way]? = some (wl ns.length)[way] := List.getElem?_eq_getElem hwz
      obtain ⟨m0, m1⟩ := wl_ok hn2 hm2
      generalize (wl ns.length)[way] = m2 at hm2 m0 m1
      have hat : atI ([V.int 2, V.int ((ns.length : Int) * ns.length + 1), V.int ((ns.length : Int) + 2), V.int (2 * (ns.length : Int) + 1), V.int ((ns.length : Int) + 1)] : List V) ((way : Nat) : Int) = some (V.int (m2 : Int)) := by
        rw [hwl]
        refine atI_nat ?_
        rw [List.getElem?_map, hm2]
        rfl
      refine ⟨_, rfl, q, _, _, _, rfl, rfl, SqL.of upd_same, hat, Gc, st, ci, 1989 + fuel, m2, rfl, fi1.g.sub, fi1.s.less (by omega), m0, by omega, fun d H2 g2 hs2 hd => ?_⟩
      have fi2 := fi1.go g2 hs2
      have hd1 : d ≤ 145 := by omega
      refine ⟨_, rfl, by omega, by omega, ?_⟩
      refine for_range (lo := 0) (n := (d : Int).toNat) (fun i σ Hc => ∃ (v5 v6 v7 : Option V) (Gc : Hp) (acc : List (Addr × Pair)), σ = [some (.ref st), some (.ref a), some (.int way), some (.int ns.length), some (.ref F), v5, v6, v7] ∧ FI G H st ci F (2 * (145 - i) + 900 + fuel) ns Gc Hc acc ∧ acc.length ≤ 12 + 2 * i)
        ⟨none, none, none, Gc, acc, rfl, fi2.less (by omega), by omega⟩ ?_ ?_
      · rintro i σ Hc hi ⟨v5, v6, v7, Gc, acc, rfl, fi, hal⟩
        have hid : i < d := hi
        have hane : (ns.map V.str) ≠ [] := fun z => by
          have := congrArg List.length z
          rw [List.length_map] at this
          exact absurd this (by simp; intro z; rw [z] at hn1; simp at hn1)
        have hpk : ∀ {dd : Nat} {v : V}, (ns.map V.str)[dd]? = some v → ∃ z ∈ ns, v = V.str z := fun {dd v} h => by
          obtain ⟨z, hz, e⟩ := get_map h
          exact ⟨z, List.mem_of_getElem? hz, e.symm⟩
        have haG : Gc a = some (.lst (ns.map V.str)) := fi.g.gg _ _ ha
        refine ⟨_, rfl, _, rfl, Gc, st, ci, 2 * (145 - i) + 899 + fuel, a, _, rfl, fi.g.sub, fi.s.less (by omega), haG, hane, by rw [List.length_map]; omega, fun d1 w1 H3 g3 hs3 hx3 => ?_⟩
        obtain ⟨z1, hz1, rfl⟩ := hpk hx3
        have fi3 := fi.go g3 hs3
        refine ⟨_, rfl, _, rfl, Gc, st, ci, 2 * (145 - i) + 898 + fuel, a, _, rfl, fi3.g.sub, fi3.s.less (by omega), haG, hane, by rw [List.length_map]; omega, fun d2 w2 H4 g4 hs4 hx4 => ?_⟩
        obtain ⟨z2, hz2, rfl⟩ := hpk hx4
        have fi4 := fi3.go g4 hs4
        refine ⟨_, _, rfl, ?_⟩
        refine ⟨_, rfl, .inl ⟨rfl, _, SqL.of fi4.f⟩, _, rfl, _, rfl, by show 2 ≤ sizeLine; decide, fun q hq => ?_⟩
        have fi5 := fi4.new (o := .tup [V.str z1, V.str z2]) hq
        have hq5 : upd Gc q (.tup [V.str z1, V.str z2]) q = some (.tup [V.str z1, V.str z2]) := upd_same
        have fi6 := fi5.set (acc2 := acc ++ [(q, (z1, z2))]) (fun e he => by
          rcases List.mem_append.mp he with he | he
          · exact fi5.tp e he
          · rw [List.mem_singleton.mp he]
            exact upd_same) (fun e he => by
          rcases List.mem_append.mp he with he | he
          · exact fi5.pin e he
          · rw [List.mem_singleton.mp he]
            exact ⟨hz1, hz2⟩)
        rw [List.map_append] at fi6
        refine ⟨F, _, _, rfl, rfl, fi5.f, szl (by rw [List.length_map]; omega), ?_⟩
        have f6 := fi6.f
        refine ⟨_, rfl, .inl ⟨rfl, _, SqL.of f6⟩, _, rfl, _, rfl, by show 2 ≤ sizeLine; decide, fun t ht' => ⟨by show 1 ≤ sizeLine; decide, fun l1 hl1 => ?_⟩⟩
        have fi7 := fi6.new (o := .tup [V.str z2, V.str z1]) ht'
        have fi8 := fi7.hid (o := .lst [V.ref t]) hl1
        refine ⟨_, rfl, rfl, .inr ⟨_, rfl, l1, _, [V.ref t], rfl, rfl, upd_same, ?_, ?_, ?_, fun r hr => ?_⟩⟩
        · split <;> decide
        · split <;> decide
        · split
          · show 1 * 1 ≤ sizeLine
            decide
          · show 1 * 0 ≤ sizeLine
            decide
        have hrep : ∃ zs : List (Addr × Pair), (List.replicate (Int.toNat (if decide (V.int (way : Int) = V.int 3) = true then 1 else 0)) [V.ref t]).flatten = zs.map (fun e => V.ref e.1) ∧ (∀ e ∈ zs, e = (t, (z2, z1))) ∧ zs.length ≤ 1 := by
          by_cases c : decide (V.int (way : Int) = V.int 3) = true
          · rw [if_pos c]
            exact ⟨[(t, (z2, z1))], rfl, fun e he => List.mem_singleton.mp he, Nat.le_refl _⟩
          · rw [if_neg c]
            exact ⟨[], rfl, (fun _ h => nomatch h), Nat.zero_le _⟩
        obtain ⟨zs, hzs, hzt, hzl⟩ := hrep
        have fi9 := fi8.hid (o := .lst (List.replicate (Int.toNat (if decide (V.int (way : Int) = V.int 3) = true then 1 else 0)) [V.ref t]).flatten) hr
        refine ⟨F, r, _, zs.map (fun e => V.ref e.1), rfl, rfl, fi9.f, by rw [upd_same, hzs], sz ?_, ?_⟩
        · rw [List.length_map, List.length_map, List.length_append, List.length_singleton]
          omega
        · have fiE := fi9.set (acc2 := (acc ++ [(q, (z1, z2))]) ++ zs) (fun e he => by
            rcases List.mem_append.mp he with he | he
            · exact fi9.tp e he
            · rw [hzt e he]
              exact upd_same) (fun e he => by
            rcases List.mem_append.mp he with he | he
            · exact fi9.pin e he
            · rw [hzt e he]
              exact ⟨hz2, hz1⟩)
          rw [List.map_append] at fiE
          refine ⟨_, _, _, _, _, rfl, fiE.less (by omega), ?_⟩
          rw [List.length_append, List.length_append, List.length_singleton]
          omega
      · rintro σ Hc ⟨v5, v6, v7, Gc, acc, rfl, fi, hal⟩
        have hal2 : acc.length ≤ 12 + 2 * d := hal
        have fi := fi.less (fl2 := 900 + fuel) (by omega)
        have gp := fi.g.pub fi.hf (Same.free hG fi.hf) fi.gf fi.f
        have hpr : Prs (upd Gc F (.lst (acc.map fun e => V.ref e.1))) F (acc.map (·.2)) := ⟨acc, ⟨upd_same, fun e he => by rw [upd_ne (ne_of_none (fi.tp e he) fi.gf)]; exact fi.tp e he⟩, rfl⟩
        have hst := fi.s.pub (o := .lst (acc.map fun e => V.ref e.1)) fi.n1 fi.n2
        refine ⟨_, rfl, _, rfl, upd Gc F (.lst (acc.map fun e => V.ref e.1)), F, acc.map (·.2), rfl, gp.sub, hpr, fun p hp => ?_, by rw [List.length_map]; omega, fun l qs G2 H2 g2 hqs hnd hsub hql => ?_⟩
        · obtain ⟨e, he, rfl⟩ := List.mem_map.mp hp
          exact ⟨hns.ok _ (fi.pin e he).1, hns.ok _ (fi.pin e he).2⟩
        obtain ⟨lq, ⟨lq1, lq2⟩, rfl⟩ := hqs
        rw [List.length_map, List.length_map] at hql
        have hst2 := hst.step g2
        have g3 := gp.trans (g2.lift hst.ntS)
        refine ⟨G2, st, ci, fuel, l, Addr × Pair, fun e => V.ref e.1, lq, rfl, g2.sub, hst2.less (by omega), lq1, by omega, fun p m H3 g4 hs4 hpm _ => ?_⟩
        have g5 := g3.trans g4
        refine k p (m.map (·.2)) _ H3 g5 hs4 ⟨m, ⟨upd_same, fun z hz => g4.gg _ _ (lq2 z (hpm.mem_iff.mp hz))⟩, rfl⟩ ⟨((hpm.map (·.2)).nodup_iff).mpr hnd, fun p hp => ?_, ?_⟩
        · have hp2 : p ∈ lq.map (·.2) := (hpm.map (·.2)).mem_iff.mp hp
          obtain ⟨e, he, rfl⟩ := List.mem_map.mp (hsub p hp2)
          exact fi.pin e he
        · rw [List.length_map, hpm.length_eq]
          omega
    obtain ⟨tt, hp, ht⟩ := tail
    refine ⟨_, pss_cons (ps_asg (pe_tup (pa_cons (pe_cl OD hr1 (pa_cons (pv 0) (pa_cons pe_int pa_nil))) (pa_cons (pe_callB call_len_seq (by rfl) T.len PySem.boot_len (pa_cons (pv 1) pa_nil)) (pa_cons (pe_lst pa_nil) pa_nil)))) (pg_tup rfl (pgs_cons (pg_name (i := 2) sc_pairs.nd rfl (.inl rfl)) (pgs_cons (pg_name (i := 3) sc_pairs.nd rfl (.inr rfl)) (pgs_cons (pg_name (i := 4) sc_pairs.nd rfl (.inl rfl)) pgs_nil)))))
      (pss_cons (ps_if (PW.pt (pw_and (pt_cmpR op_eq (pv 2) pe_int (nomark _)) (pw_and1 (pt_cmpR op_gt (pv 3) pe_int (nomark _)))))
        (pss_one (ps_setLc (i := 4) (own := [("_law_k", 5)]) (g := gName 5) (tt := tYes) rfl sc_pairs.nd rfl rfl (sw_true rfl rfl rfl (by decide +kernel)) (pi_range1 rfl T.range (pa_cons (pe_op op_sub (pv 3) (pe_cl OD hr1 (pa_cons (pv 0) (pa_cons pe_int pa_nil)))) pa_nil)) (blkOk_by (own := [("_law_k", 5)]) (N := ["_law_stream", "_law_names", "_law_way", "_law_many", "_law_found", "_law_k", "_law_one", "_law_other"]) (sc := defScope s_L_d_pairs) (by decide +kernel))
          (fun _ _ _ _ _ => pg_name (i := 5) sc_pairs.nd rfl (Or.inl rfl)) (fun _ _ _ _ _ => pts_nil)
          (fun _ _ _ _ _ => pe_tup (pa_cons (pe_ix (ixLK K) (pv 1) (pv 5) (fun _ _ => rfl)) (pa_cons (pe_ix (ixLK K) (pv 1) (pe_op op_mod (pe_callTy call_int1 (by rfl) T.int (by decide +kernel) (pa_cons (pe_op op_add (pv 5) pe_int) pa_nil)) (pv 3)) (fun _ _ => rfl)) pa_nil)))))
        pss_nil)
      hp), ?_⟩
    refine ⟨_, rfl, G, st, ci, 1999 + fuel, 5, rfl, hG, hs.less (by omega), by decide, by decide, fun way H1 g1 hs1 hway => ?_⟩
    have ha1 : Nm H1 a ns := g1.sub _ _ ha
    refine ⟨_, rfl, a, _, rfl, .inl ha1.l, by decide, fun F hF => ?_⟩
    have hFH : H F = none := g1.off hF
    obtain ⟨F1, F2⟩ := hs.nes hFH
    have gF : G F = none := Same.free hG hFH
    have fi0 : FI G H st ci F (1999 + fuel) ns G (upd H1 F (.lst [])) [] := ⟨F1, F2, g1.trans (Gr.hid g1.sub hF), hs1.hid hF, upd_same, gF, hFH, (fun _ h => nomatch h), (fun _ h => nomatch h)⟩
    refine ⟨by show 3 ≤ sizeLine; decide, fun q hq => ?_⟩
    have fi1 := fi0.hid (o := .tup [V.int way, V.int (ns.map V.str).length, V.ref F]) hq
    refine ⟨q, _, rfl, SqT.of upd_same, rfl, _, _, rfl, _, _, rfl, _, _, rfl, rfl, ?_⟩
    rw [List.length_map]
    rw [List.length_map] at fi1
    refine ⟨_, rfl, rfl, _, rfl, ?_⟩
    by_cases hw0 : (way : Int) = 0
    · rw [show decide (V.int (way : Int) = V.int 0) = true by rw [hw0]; decide]
      have hway0 : way = 0 := by omega
      subst hway0
      refine iteT ⟨_, rfl, _, _, rfl, rfl, _, rfl, ?_⟩
      rw [decide_eq_true (show (0 : Int) < (ns.length : Int) by omega)]
      refine iteT ?_
      refine ⟨_, rfl, _, rfl, G, st, ci, 1998 + fuel, 2, rfl, fi1.g.sub, fi1.s.less (by omega), by decide, by decide, fun d H2 g2 hs2 hd => ?_⟩
      have fi2 := fi1.go g2 hs2
      refine ⟨_, _, rfl, rfl, _, rfl, by omega, by omega, fun D hD => ?_⟩
      have hDH : H D = none := fi2.g.off hD
      obtain ⟨D1, D2⟩ := hs.nes hDH
      have fiD : FI G H st ci D (1998 + fuel) ns G (upd H2 D (.lst [])) [] := ⟨D1, D2, fi2.g.trans (Gr.hid fi2.g.sub hD), fi2.s.hid hD, upd_same, Same.free hG hDH, hDH, (fun _ h => nomatch h), (fun _ h => nomatch h)⟩
      have hj : ((ns.length : Int) - (d : Int)).toNat = ns.length - d := by omega
      refine hp_range (lo := 0) (n := ((ns.length : Int) - (d : Int)).toNat) (Step := LcStep _ _ _ _ _ D) (fun i Hc => ∃ Gc acc, FI G H st ci D (1998 + fuel) ns Gc Hc acc ∧ acc.length ≤ i) ⟨G, [], fiD, Nat.le_refl _⟩ (fun i Hc hi h => ?_) (fun Hc h => ?_)
      · obtain ⟨Gc, acc, fi, hal⟩ := h
        rw [hj] at hi
        have haC : Nm Hc a ns := (fi.g.gg.trans fi.g.sub) _ _ ha
        have hi2 : i < ns.length := by omega
        have hx1 : (ns.map V.str)[i]? = some (V.str ns[i]) := by rw [List.getElem?_map, List.getElem?_eq_getElem hi2]; rfl
        have hn0 : (0 : Int) < (ns.length : Int) := by omega
        have e1 := Int.emod_nonneg (0 + (i : Int) + 1) (Int.ne_of_gt hn0)
        have e2 := Int.emod_lt_of_pos (0 + (i : Int) + 1) hn0
        obtain ⟨j, hjj⟩ := Int.eq_ofNat_of_zero_le e1
        have hj2 : j < ns.length := by omega
        have hx2 : (ns.map V.str)[j]? = some (V.str ns[j]) := by rw [List.getElem?_map, List.getElem?_eq_getElem hj2]; rfl
        refine ⟨rfl, _, rfl, _, rfl, a, _, _, V.str ns[i], rfl, rfl, haC.l, ?_, _, rfl, _, rfl, _, _, rfl, rfl, .inl ⟨_, rfl, _, rfl, _, _, rfl, rfl, hn0, a, _, _, V.str ns[j], rfl, rfl, haC.l, ?_, by show 2 ≤ sizeLine; decide, fun q hq => ?_⟩⟩
        · rw [Int.zero_add]
          exact atI_nat hx1
        · rw [hjj]
          exact atI_nat hx2
        have fq := fi.new (o := .tup [V.str ns[i], V.str ns[j]]) hq
        have fs := fq.set (acc2 := acc ++ [(q, (ns[i], ns[j]))]) (fun e he => by
          rcases List.mem_append.mp he with he | he
          · exact fq.tp e he
          · rw [List.mem_singleton.mp he]
            exact upd_same) (fun e he => by
          rcases List.mem_append.mp he with he | he
          · exact fq.pin e he
          · rw [List.mem_singleton.mp he]
            exact ⟨List.getElem_mem hi2, List.getElem_mem hj2⟩)
        rw [List.map_append] at fs
        refine ⟨_, fq.f, szl (by rw [List.length_map]; omega), _, _, fs, ?_⟩
        rw [List.length_append]
        show acc.length + 1 ≤ i + 1
        omega
      · obtain ⟨Gc, acc, fi, hal⟩ := h
        rw [hj] at hal
        exact ht D 0 Gc Hc acc (by decide) (fi.less (by omega)) (by omega)
    · rw [show decide (V.int (way : Int) = V.int 0) = false by rw [dec_int]; simpa using hw0]
      exact iteF (iteF (ht F way G _ [] hway (fi1.less (by omega)) (by decide)))
end
end K80
end
section
set_option Elab.async false
set_option linter.all false
set_option maxRecDepth 100000
set_option maxHeartbeats 4000000
namespace K80
open PySem PySem.Spec PyProof.Rows L2
theorem gnil {σ : L2.St} {H : Hp} {Q : L2.St → Hp → Prop} (h : Q σ H) : gNil [] σ H Q := ⟨rfl, h⟩
section
variable {P : Program} {w : World} {K : PySem.W.Frag} {mg : Str → Option Value} {base : Heap}
/-! ### the law's own labels -/
def spObjs : Sp := fun vs H Q _ => ∃ (G : Hp) (b : Addr) (ps : List Pair) (z : Str), vs = [.ref b, .str z] ∧ Same G H ∧ Prs G b ps ∧ ps.length ≤ 1000 ∧ ∀ l G' H', Gr [] G H G' H' → Nm G' l (sortS (objrs ps z)) → Q (.ref l) H'
def spHits : Sp := fun vs H Q _ => ∃ (G : Hp) (b c : Addr) (ps : List Pair) (ms : List Str) (z : Str), vs = [.ref b, .ref c, .str z] ∧ Same G H ∧ Prs G b ps ∧ ps.length ≤ 1000 ∧ Nm G c ms ∧ ∀ H', Same H H' → Q (.bl (hit (rel ps) ms z)) H'
def spAns : Sp := fun vs H Q _ => ∃ (G : Hp) (b c : Addr) (ps : List Pair) (ms ns : List Str) (z : Str), vs = [.ref b, .ref c, .str z] ∧ Same G H ∧ Prs G b ps ∧ ps.length ≤ 1000 ∧ Nm G c ms ∧ (∀ p ∈ ps, p.1 ∈ ns) ∧ ∀ H', Same H H' → Q (.bl (ans (rel ps) ns ms z)) H'
def spAnsd : Sp := fun vs H Q _ => ∃ (G : Hp) (a b c : Addr) (ps : List Pair) (ms ns : List Str), vs = [.ref a, .ref b, .ref c] ∧ Same G H ∧ Nm G a ns ∧ ns.length ≤ 1000 ∧ Prs G b ps ∧ ps.length ≤ 1000 ∧ Nm G c ms ∧ (∀ p ∈ ps, p.1 ∈ ns) ∧ ∀ l G' H', Gr [] G H G' H' → Nm G' l (stp (rel ps) (sortS ns) ms) → Q (.ref l) H'
def spLabs : Sp := fun vs H Q _ => ∃ (G : Hp) (a b c : Addr) (ps : List Pair) (ms ns : List Str), vs = [.ref a, .ref b, .ref c] ∧ Same G H ∧ Nm G a ns ∧ ns.length ≤ 1000 ∧ ns.Nodup ∧ Prs G b ps ∧ ps.length ≤ 1000 ∧ Nm G c ms ∧ ∀ l G' H', Gr [] G H G' H' → G' l = some (.dK (dv (lbl ps ms (sortS ns)))) → Q (.ref l) H'
theorem sc_objectors : FnScope ["_law_pairs", "_law_name", "_law_one", "_law_other"] ["_law_pairs", "_law_name"] (defScope s_L_d_objectors) := ⟨rfl, rfl, rfl, by decide +kernel, rfl, by decide +kernel, by decide +kernel⟩
theorem sc_hits : FnScope ["_law_pairs", "_law_lot", "_law_name", "_law_one"] ["_law_pairs", "_law_lot", "_law_name"] (defScope s_L_d_hits) := ⟨rfl, rfl, rfl, by decide +kernel, rfl, by decide +kernel, by decide +kernel⟩
theorem sc_answers : FnScope ["_law_pairs", "_law_lot", "_law_name", "_law_one"] ["_law_pairs", "_law_lot", "_law_name"] (defScope s_L_d_answers) := ⟨rfl, rfl, rfl, by decide +kernel, rfl, by decide +kernel, by decide +kernel⟩
theorem sc_answered : FnScope ["_law_names", "_law_pairs", "_law_lot", "_law_name"] ["_law_names", "_law_pairs", "_law_lot"] (defScope s_L_d_answered) := ⟨rfl, rfl, rfl, by decide +kernel, rfl, by decide +kernel, by decide +kernel⟩
theorem sc_dlabels : FnScope ["_law_names", "_law_pairs", "_law_lot", "_law_found", "_law_name"] ["_law_names", "_law_pairs", "_law_lot"] (defScope s_L_d_labels) := ⟨rfl, rfl, rfl, by decide +kernel, rfl, by decide +kernel, by decide +kernel⟩
theorem ok_objectors (D : Df K mg "_law_d_objectors" s_L_d_objectors) (T : Txt K mg) : Ok P w K mg base CX0 1 "_law_d_objectors" ["_law_pairs", "_law_name"] spObjs := by
  refine mkOk D sc_objectors (fun _ _ _ _ _ _ us hl => match us, hl with | [_, _], _ => rfl) (fun vs H Q E h => ?_) fun cdv A outer s H vs Q E hr h => ?_
  · obtain ⟨_, _, _, _, rfl, _⟩ := h
    rfl
  · obtain ⟨G, b, ps, z, rfl, hG, hb, hlen, k⟩ := h
    have hu := hr.units
    refine ⟨_, pss_one (ps_ret (pe_callB (cr_sortQ hu) (by rfl) T.sorted (by decide +kernel) (pa_cons (pe_lc (own := [("_law_one", 2), ("_law_other", 3)]) rfl sc_objectors.nd (pi_list (pv 0)) (blkOk_by (own := [("_law_one", 2), ("_law_other", 3)]) (N := ["_law_pairs", "_law_name", "_law_one", "_law_other"]) (sc := defScope s_L_d_objectors) (by decide +kernel))
        (fun _ _ _ _ _ => tupK K (n := 2) rfl (pgs_cons (pg_name (i := 2) sc_objectors.nd rfl (.inl rfl)) (pgs_cons (pg_name (i := 3) sc_objectors.nd rfl (.inl rfl)) pgs_nil)))
        (fun _ _ _ _ _ => pts_one (pt_cmpR op_eq (pv 3) (pv 1) (by rfl)))
        (fun _ _ _ _ _ => pv 2)) pa_nil))), ?_⟩
    obtain ⟨l, ⟨p1, p2⟩, rfl⟩ := hb
    rw [List.length_map] at hlen
    refine ⟨_, rfl, b, rfl, ⟨_, SqL.of (hG _ _ p1)⟩, fun R hR => ?_⟩
    refine lc_fm l (fun e => V.ref e.1) (fun e => decide (e.2.2 = z)) (fun e => V.str e.2.1) (SqL.of (hG _ _ p1)) (by omega) hR (fun e he Hc sc Qn Qy hn hy => ?_) fun Hc sc hc => ?_
    · refine ⟨e.1, _, rfl, SqT.of (sc _ _ (hG _ _ (p2 e he))), rfl, _, _, rfl, _, _, rfl, rfl, rfl, _, rfl, _, rfl, rfl, decide (e.2.2 = z), congrArg V.bl (by rw [dec_str]; exact (Bool.beq_eq_decide_eq _ _)), ?_⟩
      by_cases h1 : e.2.2 = z
      · rw [decide_eq_true h1]
        exact ⟨_, rfl, hy (decide_eq_true h1) Hc (Same.refl _)⟩
      · rw [decide_eq_false h1]
        exact iteF (hn (decide_eq_false h1) Hc (Same.refl _))
    · have e0 : (l.filter fun e => decide (e.2.2 = z)).map (fun e => V.str e.2.1) = (objrs (l.map (·.2)) z).map V.str := by
        unfold objrs
        rw [List.filter_map, List.map_map, List.map_map]
        rfl
      rw [e0] at hc
      refine sort_strs (.inl (SqL.of hc)) fun p hp => ?_
      exact k p _ _ ((Gr.same hG sc).trans (Gr.new (hG.trans sc) hp)) upd_same
theorem ok_hits (D : Df K mg "_law_d_hits" s_L_d_hits) (T : Txt K mg) (OB : Ok P w K mg base CX0 1 "_law_d_objectors" ["_law_pairs", "_law_name"] spObjs) : Ok P w K mg base CX0 2 "_law_d_hits" ["_law_pairs", "_law_lot", "_law_name"] spHits := by
  refine mkOk D sc_hits (fun _ _ _ _ _ _ us hl => match us, hl with | [_, _, _], _ => rfl) (fun vs H Q E h => ?_) fun cdv A outer s H vs Q E hr h => ?_
  · obtain ⟨_, _, _, _, _, _, rfl, _⟩ := h
    rfl
  · obtain ⟨G, b, c, ps, ms, z, rfl, hG, hb, hlen, hc, k⟩ := h
    refine ⟨_, pss_one (ps_ret (pe_callB (cr_any rfl) (by rfl) T.any (by decide +kernel) (pa_cons (pe_lc (own := [("_law_one", 3)]) (g := gName 3) (tt := tYes) rfl sc_hits.nd (pi_list (pe_cl OB hr (pa_cons (pv 0) (pa_cons (pv 2) pa_nil)))) (blkOk_by (own := [("_law_one", 3)]) (N := ["_law_pairs", "_law_lot", "_law_name", "_law_one"]) (sc := defScope s_L_d_hits) (by decide +kernel))
        (fun _ _ _ _ _ => pg_name (i := 3) sc_hits.nd rfl (.inl rfl)) (fun _ _ _ _ _ => pts_nil)
        (fun _ _ _ _ _ => pe_cmpR (inK K) (pv 3) (pv 1) (by rfl))) pa_nil))), ?_⟩
    refine ⟨_, rfl, _, rfl, G, b, ps, z, rfl, hG, hb, hlen, fun l G1 H1 g1 hl => ?_⟩
    have hl1 := (hl.up g1.sub).l (K := K)
    refine ⟨l, rfl, ⟨_, hl1⟩, fun R hR => ?_⟩
    refine lc_fm (sortS (objrs ps z)) V.str (fun _ => true) (fun o => V.bl (decide (o ∈ ms))) hl1 (by rw [sortS_len]; have := objrs_len ps z; omega) hR (fun o ho Hc sc Qn Qy hn hy => ?_) fun Hc sc h2 => ?_
    · refine ⟨rfl, _, rfl, _, rfl, c, _, rfl, .inl ((hc.up (hG.trans (g1.all.trans sc))).l), rfl, all_flat ms, ?_⟩
      rw [inV_str]
      exact hy rfl Hc (Same.refl _)
    · rw [filt_all] at h2
      refine ⟨R, (sortS (objrs ps z)).map fun o => decide (o ∈ ms), rfl, SqL.of (by rw [h2, List.map_map]; rfl), ?_⟩
      have e : ((sortS (objrs ps z)).map fun o => decide (o ∈ ms)).any id = hit (rel ps) ms z := by
        refine bool_eq ?_
        rw [hit_iff, List.any_map, List.any_eq_true]
        unfold rel
        constructor
        · rintro ⟨o, ho, h⟩
          exact ⟨o, of_decide_eq_true h, decide_eq_true (mem_objrs.mp (mem_sortS.mp ho))⟩
        · rintro ⟨o, ho, h⟩
          exact ⟨o, mem_sortS.mpr (mem_objrs.mpr (of_decide_eq_true h)), decide_eq_true ho⟩
      rw [e]
      exact k Hc (g1.all.trans sc)
theorem ok_answers (D : Df K mg "_law_d_answers" s_L_d_answers) (T : Txt K mg) (OB : Ok P w K mg base CX0 1 "_law_d_objectors" ["_law_pairs", "_law_name"] spObjs) (OH : Ok P w K mg base CX0 2 "_law_d_hits" ["_law_pairs", "_law_lot", "_law_name"] spHits) : Ok P w K mg base CX0 3 "_law_d_answers" ["_law_pairs", "_law_lot", "_law_name"] spAns := by
  refine mkOk D sc_answers (fun _ _ _ _ _ _ us hl => match us, hl with | [_, _, _], _ => rfl) (fun vs H Q E h => ?_) fun cdv A outer s H vs Q E hr h => ?_
  · obtain ⟨_, _, _, _, _, _, _, rfl, _⟩ := h
    rfl
  · obtain ⟨G, b, c, ps, ms, ns, z, rfl, hG, hb, hlen, hc, hin, k⟩ := h
    have hr1 : Room 1 _ := hr.mono (by decide)
    refine ⟨_, pss_one (ps_ret (pe_callB (cr_all rfl) (by rfl) T.all (by decide +kernel) (pa_cons (pe_lc (own := [("_law_one", 3)]) (g := gName 3) (tt := tYes) rfl sc_answers.nd (pi_list (pe_cl OB hr1 (pa_cons (pv 0) (pa_cons (pv 2) pa_nil)))) (blkOk_by (own := [("_law_one", 3)]) (N := ["_law_pairs", "_law_lot", "_law_name", "_law_one"]) (sc := defScope s_L_d_answers) (by decide +kernel))
        (fun _ _ _ _ _ => pg_name (i := 3) sc_answers.nd rfl (.inl rfl)) (fun _ _ _ _ _ => pts_nil)
        (fun _ _ _ _ _ => pe_cl OH hr (pa_cons (pv 0) (pa_cons (pv 1) (pa_cons (pv 3) pa_nil))))) pa_nil))), ?_⟩
    refine ⟨_, rfl, _, rfl, G, b, ps, z, rfl, hG, hb, hlen, fun l G1 H1 g1 hl => ?_⟩
    have hl1 := (hl.up g1.sub).l (K := K)
    refine ⟨l, rfl, ⟨_, hl1⟩, fun R hR => ?_⟩
    refine lc_fm (sortS (objrs ps z)) V.str (fun _ => true) (fun o => V.bl (hit (rel ps) ms o)) hl1 (by rw [sortS_len]; have := objrs_len ps z; omega) hR (fun o ho Hc sc Qn Qy hn hy => ?_) fun Hc sc h2 => ?_
    · exact ⟨rfl, _, rfl, _, rfl, _, rfl, G, b, c, ps, ms, o, rfl, hG.trans (g1.all.trans sc), hb, hlen, hc, fun H3 e3 => hy rfl H3 e3⟩
    · rw [filt_all] at h2
      refine ⟨R, (sortS (objrs ps z)).map fun o => hit (rel ps) ms o, rfl, SqL.of (by rw [h2, List.map_map]; rfl), ?_⟩
      have e : ((sortS (objrs ps z)).map fun o => hit (rel ps) ms o).all id = ans (rel ps) ns ms z := by
        rw [← ans_objrs ms z hin]
        refine bool_eq ?_
        rw [List.all_map, List.all_eq_true, List.all_eq_true]
        exact ⟨fun h o ho => h o (mem_sortS.mpr ho), fun h o ho => h o (mem_sortS.mp ho)⟩
      rw [e]
      exact k Hc (g1.all.trans sc)
theorem ans_perm {R : Str → Str → Bool} {T T' L : List Str} {x : Str} (h : ∀ z, z ∈ T ↔ z ∈ T') : ans R T L x = ans R T' L x := by
  refine bool_eq ?_
  rw [ans_iff, ans_iff]
  exact ⟨fun q y hy => q y ((h y).mpr hy), fun q y hy => q y ((h y).mp hy)⟩
theorem ok_answered (D : Df K mg "_law_d_answered" s_L_d_answered) (T : Txt K mg) (OA : Ok P w K mg base CX0 3 "_law_d_answers" ["_law_pairs", "_law_lot", "_law_name"] spAns) : Ok P w K mg base CX0 4 "_law_d_answered" ["_law_names", "_law_pairs", "_law_lot"] spAnsd := by
  refine mkOk D sc_answered (fun _ _ _ _ _ _ us hl => match us, hl with | [_, _, _], _ => rfl) (fun vs H Q E h => ?_) fun cdv A outer s H vs Q E hr h => ?_
  · obtain ⟨_, _, _, _, _, _, _, rfl, _⟩ := h
    rfl
  · obtain ⟨G, a, b, c, ps, ms, ns, rfl, hG, ha, hnl, hb, hlen, hc, hin, k⟩ := h
    have hu := hr.units
    refine ⟨_, pss_one (ps_ret (pe_callB (cr_sortQ hu) (by rfl) T.sorted (by decide +kernel) (pa_cons (pe_lc (own := [("_law_name", 3)]) (g := gName 3) rfl sc_answered.nd (pi_list (pv 0)) (blkOk_by (own := [("_law_name", 3)]) (N := ["_law_names", "_law_pairs", "_law_lot", "_law_name"]) (sc := defScope s_L_d_answered) (by decide +kernel))
        (fun _ _ _ _ _ => pg_name (i := 3) sc_answered.nd rfl (.inl rfl))
        (fun _ _ _ _ _ => pts_one (pt_val (pe_cl OA hr (pa_cons (pv 1) (pa_cons (pv 2) (pa_cons (pv 3) pa_nil))))))
        (fun _ _ _ _ _ => pv 3)) pa_nil))), ?_⟩
    have hl1 := (ha.up hG).l (K := K)
    refine ⟨_, rfl, a, rfl, ⟨_, hl1⟩, fun R hR => ?_⟩
    refine lc_fm ns V.str (fun o => ans (rel ps) ns ms o) V.str hl1 (by omega) hR (fun o ho Hc sc Qn Qy hn hy => ?_) fun Hc sc h2 => ?_
    · refine ⟨rfl, _, rfl, _, rfl, _, rfl, G, b, c, ps, ms, ns, o, rfl, hG.trans sc, hb, hlen, hc, hin, fun H3 e3 => ⟨_, rfl, ?_⟩⟩
      cases q : ans (rel ps) ns ms o with
      | false => exact iteF (hn q H3 e3)
      | true => exact ⟨_, rfl, hy q H3 e3⟩
    · refine sort_strs (.inl (SqL.of h2)) fun p hp => ?_
      have e : sortS (ns.filter fun o => ans (rel ps) ns ms o) = stp (rel ps) (sortS ns) ms := by
        rw [sortS_filter]
        unfold stp
        refine List.filter_congr fun x _ => ?_
        exact ans_perm fun z => mem_sortS.symm
      rw [e]
      exact k p _ _ ((Gr.same hG sc).trans (Gr.new (hG.trans sc) hp)) upd_same
theorem ok_dlabels (D : Df K mg "_law_d_labels" s_L_d_labels) (T : Txt K mg) (OH : Ok P w K mg base CX0 2 "_law_d_hits" ["_law_pairs", "_law_lot", "_law_name"] spHits) : Ok P w K mg base CX0 3 "_law_d_labels" ["_law_names", "_law_pairs", "_law_lot"] spLabs := by
  refine mkOk D sc_dlabels (fun _ _ _ _ _ _ us hl => match us, hl with | [_, _, _], _ => rfl) (fun vs H Q E h => ?_) fun cdv A outer s H vs Q E hr h => ?_
  · obtain ⟨_, _, _, _, _, _, _, rfl, _⟩ := h
    rfl
  · obtain ⟨G, a, b, c, ps, ms, ns, rfl, hG, ha, hnl, hnd, hb, hlen, hc, k⟩ := h
    have hu := hr.units
    have hu1 := hu_of hr
    refine ⟨_, pss_cons (ps_set (i := 3) sc_dlabels.nd rfl (.inl rfl) pe_dnewK)
      (pss_cons (ps_for PassesOwn.never rfl (pi_list (pe_callB (cr_sortQ hu) (by rfl) T.sorted (by decide +kernel) (pa_cons (pv 0) pa_nil))) (pg_name (i := 4) sc_dlabels.nd rfl (.inl rfl))
        (pss_one (ps_dput hu1 (pv 3) (pv 4) (pe_ifExp (pt_cmpR op_in_seq (pv 4) (pv 2) (by rfl)) pe_str (pe_ifExp (pt_val (pe_cl OH hr (pa_cons (pv 1) (pa_cons (pv 2) (pa_cons (pv 4) pa_nil))))) pe_str pe_str)) rfl)))
      (pss_one (ps_ret (pv 3)))), ?_⟩
    refine fun f hf => ?_
    have sf : Same H (upd H f (.dK [])) := Same.new hf
    refine ⟨_, rfl, ?_⟩
    unfold tNil
    refine sort_strs (.inl ((ha.up (hG.trans sf)).l)) fun p hp => ?_
    have sp : Same H (upd (upd H f (.dK [])) p (.lst ((sortS ns).map V.str))) := sf.trans (Same.new hp)
    have pf : p ≠ f := fun z => by rw [z, upd_same] at hp; cases hp
    refine ⟨p, rfl, ⟨_, SqL.of upd_same⟩, ?_⟩
    refine for_list (K := K) (xs := (sortS ns).map V.str) (fun i σ Hc => ∃ v4, σ = [some (.ref a), some (.ref b), some (.ref c), some (.ref f), v4] ∧ Same H Hc ∧ Hc p = some (.lst ((sortS ns).map V.str)) ∧ Hc f = some (.dK (dv (lbl ps ms ((sortS ns).take i))))) ⟨none, rfl, sp, upd_same, by rw [upd_ne (Ne.symm pf)]; exact upd_same⟩ (fun i σ Hc _ ⟨_, _, _, h, _⟩ => SqL.of h) ?_ ?_
    · rintro i x σ Hc hx ⟨v4, rfl, sc, hcp, hcf⟩
      obtain ⟨z, hz, rfl⟩ := get_map hx
      have fin : ∀ Hd, Same Hc Hd → ∃ (a' : Addr) (H4 : Hp), V.ref f = .ref a' ∧ DPut Hd a' (.str z) (.str (labS (rel ps) ms z)) H4 ∧ (∃ v4, [some (V.ref a), some (.ref b), some (.ref c), some (.ref f), some (.str z)] = ([some (V.ref a), some (.ref b), some (.ref c), some (.ref f), v4] : L2.St) ∧ Same H H4 ∧ H4 p = some (.lst ((sortS ns).map V.str)) ∧ H4 f = some (.dK (dv (lbl ps ms ((sortS ns).take (i + 1)))))) := by
        intro Hd sd
        refine ⟨f, _, rfl, DPut.k (k := (Sum.inr z : Key)) (sd _ _ hcf) (szl (by unfold dv lbl; rw [List.length_map, List.length_map, List.length_take, sortS_len]; omega)), _, rfl, same_put (sc.trans sd) hf, by rw [upd_ne pf]; exact sd _ _ hcp, ?_⟩
        rw [upd_same, putK_new _ (lbl_none (not_mem_take (nodup_sortS hnd) hz)), take_succ hz]
        unfold lbl dv
        rw [List.map_append, List.map_append]
        rfl
      refine ⟨_, rfl, _, rfl, c, _, rfl, .inl ((hc.up (hG.trans sc)).l), rfl, all_flat ms, _, rfl, ?_⟩
      rw [inV_str]
      by_cases h1 : z ∈ ms
      · have e : labS (rel ps) ms z = "in" := by unfold labS; rw [if_pos (decide_eq_true h1)]
        rw [e] at fin
        rw [decide_eq_true h1]
        exact iteT ⟨_, rfl, _, rfl, fin Hc (Same.refl _)⟩
      · rw [decide_eq_false h1]
        refine iteF ⟨_, rfl, _, rfl, _, rfl, G, b, c, ps, ms, z, rfl, hG.trans sc, hb, hlen, hc, fun Hd sd => ⟨_, rfl, ?_⟩⟩
        have e1 : labS (rel ps) ms z = (if hit (rel ps) ms z = true then ("out" : Str) else ("undecided" : Str)) := by unfold labS; rw [if_neg (by simp [h1])]
        cases q : hit (rel ps) ms z with
        | true =>
          rw [e1, q, if_pos rfl] at fin
          exact iteT ⟨_, rfl, _, rfl, fin Hd sd⟩
        | false =>
          rw [e1, q, if_neg Bool.false_ne_true] at fin
          exact iteF ⟨_, rfl, _, rfl, fin Hd sd⟩
    · rintro σ Hc ⟨v4, rfl, sc, hcp, hcf⟩
      rw [List.length_map, List.take_length] at hcf
      have hfG : G f = none := Same.free hG hf
      exact ⟨_, rfl, k f (upd G f _) Hc ((Gr.same hG sc).pub hf hfG hfG hcf) upd_same⟩
end
end K80
end
section
set_option Elab.async false
set_option linter.all false
set_option maxRecDepth 100000
set_option maxHeartbeats 4000000
namespace K80
open PySem PySem.Spec PyProof.Rows L2
/-- a list of pairs while it is filled; no stream -/
structure LI (G H : Hp) (F : Addr) (Gc Hc : Hp) (acc : List (Addr × Pair)) : Prop where
  g : Gr [] G H Gc Hc
  f : Hc F = some (.lst (acc.map fun e => V.ref e.1))
  gf : Gc F = none
  hf : H F = none
  tp : ∀ e ∈ acc, Gc e.1 = some (.tup [.str e.2.1, .str e.2.2])
section
variable {G H Gc Hc G2 H2 : Hp} {F q : Addr} {acc acc2 : List (Addr × Pair)} {o : HO}
theorem LI.go (h : LI G H F Gc Hc acc) (g2 : Gr [] Gc Hc G2 H2) : LI G H F G2 H2 acc :=
  ⟨h.g.trans g2, g2.all _ _ h.f, g2.own F h.gf (by rw [h.f]; simp) (.inr (by rw [h.f]; intro xs z; cases z)), h.hf, fun e he => g2.gg _ _ (h.tp e he)⟩
theorem LI.new (h : LI G H F Gc Hc acc) (hq : Hc q = none) : LI G H F (upd Gc q o) (upd Hc q o) acc := h.go (Gr.new h.g.sub hq)
theorem LI.hid (h : LI G H F Gc Hc acc) (hq : Hc q = none) : LI G H F Gc (upd Hc q o) acc := h.go (Gr.hid h.g.sub hq)
theorem LI.set (h : LI G H F Gc Hc acc) (h1 : ∀ e ∈ acc2, Gc e.1 = some (.tup [.str e.2.1, .str e.2.2])) : LI G H F Gc (upd Hc F (.lst (acc2.map fun e => V.ref e.1))) acc2 :=
  ⟨h.g.put (.inl h.hf) h.gf, upd_same, h.gf, h.hf, h1⟩
/-- one more, just made -/
theorem LI.push {a b : Str} (h : LI G H F Gc Hc acc) (hq : Hc q = none) : LI G H F (upd Gc q (.tup [.str a, .str b])) (upd (upd Hc q (.tup [.str a, .str b])) F (.lst ((acc ++ [(q, (a, b))]).map fun e => V.ref e.1))) (acc ++ [(q, (a, b))]) :=
  (h.new hq).set fun e he => by
    rcases List.mem_append.mp he with he | he
    · exact (h.new hq).tp e he
    · rw [List.mem_singleton.mp he]
      exact upd_same
/-- the list becomes known -/
theorem LI.pub (h : LI G H F Gc Hc acc) (hG : Same G H) : Gr [] G H (upd Gc F (.lst (acc.map fun e => V.ref e.1))) Hc ∧ Prs (upd Gc F (.lst (acc.map fun e => V.ref e.1))) F (acc.map (·.2)) :=
  ⟨h.g.pub h.hf (Same.free hG h.hf) h.gf h.f, acc, ⟨upd_same, fun e he => by rw [upd_ne (ne_of_none (h.tp e he) h.gf)]; exact h.tp e he⟩, rfl⟩
end
section
variable {P : Program} {w : World} {K : PySem.W.Frag} {mg : Str → Option Value} {base : Heap}
def spZV : Sp := fun vs H Q _ => ∃ (G : Hp) (b t : Addr) (ps : List Pair) (T : List Str), vs = [.ref b, .ref t] ∧ Same G H ∧ Prs G b ps ∧ ps.length ≤ 1000 ∧ Nm G t T ∧ T.Nodup ∧ (∀ z ∈ T, okName z) ∧ T.length ≤ 100 ∧ ∀ l G' H', Gr [] G H G' H' → G' l = some (.dK (dv (vdS ps (sortS T)))) → Q (.ref l) H'
theorem sc_zv : FnScope ["_law_pairs", "_law_table", "_law_cut", "_law_lot", "_law_one", "_law_other"] ["_law_pairs", "_law_table"] (defScope s_L_z_verdict) := ⟨rfl, rfl, rfl, by decide +kernel, rfl, by decide +kernel, by decide +kernel⟩
theorem ok_zv (D : Df K mg "_law_z_verdict" s_L_z_verdict) (T : Txt K mg) (OA : Ok P w K mg base CX0 4 "_law_d_answered" ["_law_names", "_law_pairs", "_law_lot"] spAnsd) (OL : Ok P w K mg base CX0 3 "_law_d_labels" ["_law_names", "_law_pairs", "_law_lot"] spLabs) : Ok P w K mg base CX0 5 "_law_z_verdict" ["_law_pairs", "_law_table"] spZV := by
  refine mkOk D sc_zv (fun _ _ _ _ _ _ us hl => match us, hl with | [_, _], _ => rfl) (fun vs H Q E h => ?_) fun cdv A outer s H vs Q E hr h => ?_
  · obtain ⟨_, _, _, _, _, rfl, _⟩ := h
    rfl
  · obtain ⟨G, b, t, ps, T0, rfl, hG, hb, hlen, ht, hnd, hok, htl, k⟩ := h
    have hu := hr.units
    refine ⟨_, pss_cons (ps_setLc (i := 2) (own := [("_law_one", 4), ("_law_other", 5)]) rfl sc_zv.nd rfl rfl (sw_true rfl rfl rfl (by decide +kernel)) (pi_list (pv 0)) (blkOk_by (own := [("_law_one", 4), ("_law_other", 5)]) (N := ["_law_pairs", "_law_table", "_law_cut", "_law_lot", "_law_one", "_law_other"]) (sc := defScope s_L_z_verdict) (by decide +kernel))
        (fun _ _ _ _ _ => tupK K (n := 2) rfl (pgs_cons (pg_name (i := 4) sc_zv.nd rfl (.inl rfl)) (pgs_cons (pg_name (i := 5) sc_zv.nd rfl (.inl rfl)) pgs_nil)))
        (fun _ _ _ _ _ => pts_one (PW.pt (pw_and (pt_cmpR (inK K) (pv 4) (pv 1) (by rfl)) (pw_and1 (pt_cmpR (inK K) (pv 5) (pv 1) (by rfl))))))
        (fun _ _ _ _ _ => pe_tup (pa_cons (pv 4) (pa_cons (pv 5) pa_nil))))
      (pss_cons (ps_set (i := 3) sc_zv.nd rfl (.inl rfl) (pe_lst pa_nil))
      (pss_cons (ps_while PassesOwn.never (pt_cmpR (op_neD hu) (pe_cl OA hr (pa_cons (pv 1) (pa_cons (pv 2) (pa_cons (pv 3) pa_nil)))) (pv 3) (by rfl))
        (pss_one (ps_set (i := 3) sc_zv.nd rfl (.inl rfl) (pe_cl OA hr (pa_cons (pv 1) (pa_cons (pv 2) (pa_cons (pv 3) pa_nil)))))))
      (pss_one (ps_ret (pe_cl OL (hr.mono (by decide)) (pa_cons (pv 1) (pa_cons (pv 2) (pa_cons (pv 3) pa_nil)))))))), ?_⟩
    obtain ⟨l, ⟨p1, p2⟩, hl⟩ := hb
    have hll : l.length = ps.length := by rw [← hl, List.length_map]
    refine ⟨_, rfl, b, rfl, ⟨_, SqL.of (hG _ _ p1)⟩, fun R hR => ?_⟩
    have gR : G R = none := Same.free hG hR
    refine hp_list (xs := l.map fun e => V.ref e.1) (Step := LcStep _ _ _ _ _ R) (fun i Hc => ∃ Gc acc, LI G H R Gc Hc acc ∧ acc.map (·.2) = (ps.take i).filter (pIn T0)) ⟨G, [], ⟨Gr.hid hG hR, upd_same, gR, hR, (fun _ h => nomatch h)⟩, rfl⟩ (fun i Hc _ ⟨_, _, h, _⟩ => SqL.of ((h.g.gg.trans h.g.sub) _ _ p1)) (fun i x Hc hx h => ?_) (fun Hc h => ?_)
    · obtain ⟨e, he, rfl⟩ := get_map hx
      obtain ⟨Gc, acc, li, hacc⟩ := h
      have hpe : ps[i]? = some e.2 := by rw [← hl, List.getElem?_map, he]; rfl
      have sg := li.g.gg.trans li.g.sub
      have hm := ((ht.up sg).l (K := K))
      have al : acc.length ≤ i := by
        have e1 : acc.length = ((ps.take i).filter (pIn T0)).length := by rw [← hacc, List.length_map]
        have e2 : ((ps.take i).filter (pIn T0)).length ≤ (ps.take i).length := List.length_filter_le _ _
        rw [List.length_take] at e2
        omega
      have hil := lt_of_get hpe
      rw [take_succ hpe, List.filter_append, List.filter_cons, List.filter_nil]
      refine ⟨e.1, _, rfl, SqT.of (sg _ _ (p2 e (List.mem_of_getElem? he))), rfl, _, _, rfl, _, _, rfl, rfl, rfl, _, rfl, _, rfl, t, _, rfl, .inl hm, rfl, all_flat T0, _, rfl, ?_⟩
      rw [inV_str]
      by_cases h1 : e.2.1 ∈ T0
      · rw [decide_eq_true h1]
        refine iteT ⟨_, rfl, _, rfl, t, _, rfl, .inl hm, rfl, all_flat T0, _, rfl, ?_⟩
        rw [inV_str]
        by_cases h2 : e.2.2 ∈ T0
        · rw [decide_eq_true h2, if_pos (show pIn T0 e.2 = true by simp [pIn, h1, h2])]
          refine ⟨_, rfl, _, rfl, by show 2 ≤ sizeLine; decide, fun q hq => ?_⟩
          have lp := li.push (a := e.2.1) (b := e.2.2) hq
          rw [List.map_append] at lp
          exact ⟨_, (li.new hq).f, szl (by rw [List.length_map]; omega), _, _, lp, by rw [List.map_append, hacc]; rfl⟩
        · rw [decide_eq_false h2, if_neg (show ¬ pIn T0 e.2 = true by simp [pIn, h2]), List.append_nil]
          exact iteF ⟨Gc, acc, li, hacc⟩
      · rw [decide_eq_false h1, if_neg (show ¬ pIn T0 e.2 = true by simp [pIn, h1]), List.append_nil]
        exact iteF (iteF ⟨Gc, acc, li, hacc⟩)
    · obtain ⟨Gc, acc, li, hacc⟩ := h
      rw [List.length_map, hll, List.take_length] at hacc
      obtain ⟨gp, hpr⟩ := li.pub hG
      rw [hacc] at hpr
      generalize upd Gc R (.lst (acc.map fun e => V.ref e.1)) = Gp at gp hpr
      have hcl : (ps.filter (pIn T0)).length ≤ 1000 := Nat.le_trans (List.length_filter_le _ _) hlen
      have hcin : ∀ p ∈ ps.filter (pIn T0), p.1 ∈ T0 := fun p hp => by
        have := (List.mem_filter.mp hp).2
        simp [pIn] at this
        exact this.1
      refine ⟨by decide, fun a0 ha0 => ?_⟩
      have g0 := gp.trans (Gr.new (o := .lst []) gp.sub ha0)
      have sl : (sortS T0).length = T0.length := sortS_len T0
      have hokI : ∀ {i z}, z ∈ itr (rel (ps.filter (pIn T0))) (sortS T0) i → okName z := fun hz => hok _ (mem_sortS.mp (itr_sub hz))
      refine ⟨fun m σ Hd => ∃ i Gd a, σ = [some (.ref b), some (.ref t), some (.ref R), some (.ref a), none, none] ∧ Gr [] G H Gd Hd ∧ Prs Gd R (ps.filter (pIn T0)) ∧ Nm Gd a (itr (rel (ps.filter (pIn T0))) (sortS T0) i) ∧ m = T0.length - (itr (rel (ps.filter (pIn T0))) (sortS T0) i).length, ⟨_, 0, _, a0, rfl, g0, hpr.up (Same.new (Same.free gp.sub ha0)), upd_same, rfl⟩, ?_⟩
      rintro m σ Hd ⟨i, Gd, a, rfl, g, hpr2, ha, rfl⟩
      have ht2 := ht.up g.gg
      refine ⟨_, rfl, _, rfl, _, rfl, Gd, t, R, a, ps.filter (pIn T0), _, T0, rfl, g.sub, ht2, by omega, hpr2, hcl, ha, hcin, fun l1 G1 H1 g1 hl1 => ?_⟩
      have ha1 := ha.up g1.gg
      refine ⟨_, rfl, _, _, (hl1.up g1.sub).dp, (ha1.up g1.sub).dp, encS_shaped fun z hz => hokI (i := i + 1) hz, encS_shaped fun z hz => hokI hz, _, rfl, ?_⟩
      rw [eqv_encS]
      have gg := g.trans g1
      by_cases e : stp (rel (ps.filter (pIn T0))) (sortS T0) (itr (rel (ps.filter (pIn T0))) (sortS T0) i) = itr (rel (ps.filter (pIn T0))) (sortS T0) i
      · rw [decide_eq_true e]
        have el : lst (rel (ps.filter (pIn T0))) (sortS T0) = itr (rel (ps.filter (pIn T0))) (sortS T0) i := (lst_is _ _).unique ⟨e, i, rfl⟩
        refine ⟨_, rfl, _, rfl, _, rfl, G1, t, R, a, ps.filter (pIn T0), _, T0, rfl, g1.sub, ht2.up g1.gg, by omega, hnd, hpr2.up g1.gg, hcl, ha1, fun l2 G2 H2 g2 hl2 => ?_⟩
        refine k l2 G2 H2 (gg.trans g2) ?_
        rw [hl2, ← el]
        have e2 : ps.filter (pIn T0) = ps.filter (pIn (sortS T0)) := List.filter_congr fun p _ => by simp only [pIn, mem_sortS]
        rw [e2]
        exact congrArg (fun z => some (HO.dK (dv z))) (vdS_cut ps (sortS T0))
      · rw [decide_eq_false e]
        refine iteT ⟨fun σ' H' => ∃ m', m' < T0.length - (itr (rel (ps.filter (pIn T0))) (sortS T0) i).length ∧ ∃ i Gd a, σ' = [some (.ref b), some (.ref t), some (.ref R), some (.ref a), none, none] ∧ Gr [] G H Gd H' ∧ Prs Gd R (ps.filter (pIn T0)) ∧ Nm Gd a (itr (rel (ps.filter (pIn T0))) (sortS T0) i) ∧ m' = T0.length - (itr (rel (ps.filter (pIn T0))) (sortS T0) i).length, fun σ' H' h => h, ?_⟩
        refine ⟨_, rfl, _, rfl, _, rfl, G1, t, R, a, ps.filter (pIn T0), _, T0, rfl, g1.sub, ht2.up g1.gg, by omega, hpr2.up g1.gg, hcl, ha1, hcin, fun l2 G2 H2 g2 hl2 => ?_⟩
        have h1 := itr_grow (R := rel (ps.filter (pIn T0))) (T := sortS T0) (k := i) e
        have h2 := itr_len (rel (ps.filter (pIn T0))) (sortS T0) (i + 1)
        exact ⟨_, by omega, i + 1, G2, l2, rfl, gg.trans g2, (hpr2.up g1.gg).up g2.gg, hl2, rfl⟩
end
end K80
end
section
set_option Elab.async false
set_option linter.all false
set_option maxRecDepth 100000
set_option maxHeartbeats 4000000
namespace K80
open PySem PySem.Spec PyProof.Rows L2
/-! ### a list of things each of which stands somewhere, while it is filled -/
structure LG {α : Type} (C : α → HO) (G H : Hp) (F : Addr) (Gc Hc : Hp) (acc : List (Addr × α)) : Prop where
  g : Gr [] G H Gc Hc
  f : Hc F = some (.lst (acc.map fun e => V.ref e.1))
  gf : Gc F = none
  hf : H F = none
  tp : ∀ e ∈ acc, Gc e.1 = some (C e.2)
section
variable {α : Type} {C : α → HO} {G H Gc Hc G2 H2 : Hp} {F q : Addr} {acc acc2 : List (Addr × α)} {o : HO}
theorem LG.start (hG : Same G H) (hF : H F = none) : LG C G H F G (upd H F (.lst [])) [] := ⟨Gr.hid hG hF, upd_same, Same.free hG hF, hF, (fun _ h => nomatch h)⟩
theorem LG.startAt (g : Gr [] G H Gc Hc) (hG : Same G H) (hF : Hc F = none) : LG C G H F Gc (upd Hc F (.lst [])) [] := ⟨g.trans (Gr.hid g.sub hF), upd_same, Same.free g.sub hF, g.off hF, (fun _ h => nomatch h)⟩
theorem LG.go (h : LG C G H F Gc Hc acc) (g2 : Gr [] Gc Hc G2 H2) : LG C G H F G2 H2 acc :=
  ⟨h.g.trans g2, g2.all _ _ h.f, g2.own F h.gf (by rw [h.f]; simp) (.inr (by rw [h.f]; intro xs z; cases z)), h.hf, fun e he => g2.gg _ _ (h.tp e he)⟩
theorem LG.new (h : LG C G H F Gc Hc acc) (hq : Hc q = none) : LG C G H F (upd Gc q o) (upd Hc q o) acc := h.go (Gr.new h.g.sub hq)
theorem LG.hid (h : LG C G H F Gc Hc acc) (hq : Hc q = none) : LG C G H F Gc (upd Hc q o) acc := h.go (Gr.hid h.g.sub hq)
theorem LG.set (h : LG C G H F Gc Hc acc) (h1 : ∀ e ∈ acc2, Gc e.1 = some (C e.2)) : LG C G H F Gc (upd Hc F (.lst (acc2.map fun e => V.ref e.1))) acc2 :=
  ⟨h.g.put (.inl h.hf) h.gf, upd_same, h.gf, h.hf, h1⟩
/-- one more, known -/
theorem LG.add {x : α} (h : LG C G H F Gc Hc acc) (hq : Gc q = some (C x)) : LG C G H F Gc (upd Hc F (.lst (acc.map (fun e => V.ref e.1) ++ [V.ref q]))) (acc ++ [(q, x)]) := by
  have := h.set (acc2 := acc ++ [(q, x)]) fun e he => by
    rcases List.mem_append.mp he with he | he
    · exact h.tp e he
    · rw [List.mem_singleton.mp he]
      exact hq
  rw [List.map_append] at this
  exact this
/-- one more, just made -/
theorem LG.push {x : α} (h : LG C G H F Gc Hc acc) (hq : Hc q = none) : LG C G H F (upd Gc q (C x)) (upd (upd Hc q (C x)) F (.lst (acc.map (fun e => V.ref e.1) ++ [V.ref q]))) (acc ++ [(q, x)]) := (h.new hq).add upd_same
theorem LG.pub (h : LG C G H F Gc Hc acc) (hG : Same G H) : Gr [] G H (upd Gc F (.lst (acc.map fun e => V.ref e.1))) Hc ∧ ∀ e ∈ acc, (upd Gc F (.lst (acc.map fun e => V.ref e.1))) e.1 = some (C e.2) :=
  ⟨h.g.pub h.hf (Same.free hG h.hf) h.gf h.f, fun e he => by rw [upd_ne (ne_of_none (h.tp e he) h.gf)]; exact h.tp e he⟩
end
abbrev CL (L : List Str) : HO := .lst (L.map V.str)
/-! ### subsets, tables -/
def subF (l : List Str) : List (List Str) := l.foldl (fun s x => s ++ s.map (· ++ [x])) [[]]
theorem subF_snoc (l : List Str) (x : Str) : subF (l ++ [x]) = subF l ++ (subF l).map (· ++ [x]) := by
  unfold subF
  rw [List.foldl_append]
  rfl
theorem subF_sub : ∀ (n : Nat) (l : List Str), l.length = n → ∀ L ∈ subF l, L.Sublist l
  | 0, l, h, L, hL => by
    rw [List.length_eq_zero_iff.mp h] at hL ⊢
    have : L = [] := by simpa [subF] using hL
    rw [this]
    exact List.Sublist.refl _
  | n + 1, l, h, L, hL => by
    have hne : l ≠ [] := fun z => by rw [z] at h; cases h
    have hd : l.dropLast.length = n := by rw [List.length_dropLast, h]; rfl
    have e := List.dropLast_concat_getLast hne
    rw [← e, subF_snoc] at hL
    rw [← e]
    rcases List.mem_append.mp hL with hL | hL
    · exact (subF_sub n _ hd L hL).trans (List.sublist_append_left _ _)
    · obtain ⟨M, hM, rfl⟩ := List.mem_map.mp hL
      exact (subF_sub n _ hd M hM).append (List.Sublist.refl _)
def subs (ns : List Str) : List (List Str) := sortL (subF (sortS ns))
def tabs (ns : List Str) : List (List Str) := (List.range ns.length).flatMap fun k => (subs ns).filter fun L => decide (L.length = k + 1)
theorem subF_len : ∀ (n : Nat) (l : List Str), l.length = n → (subF l).length = 2 ^ n
  | 0, l, h => by
    rw [List.length_eq_zero_iff.mp h]
    rfl
  | n + 1, l, h => by
    have hne : l ≠ [] := fun z => by rw [z] at h; cases h
    rw [← List.dropLast_concat_getLast hne, subF_snoc, List.length_append, List.length_map, subF_len n l.dropLast (by rw [List.length_dropLast, h]; rfl), Nat.pow_succ]
    omega
theorem alike_strs : ∀ xs ys : List Str, PySem.W.alikeAll (xs.map PyData.str) (ys.map PyData.str) = true
  | [], _ => by simp [PySem.W.alikeAll]
  | _ :: _, [] => by simp [PySem.W.alikeAll]
  | x :: xs, y :: ys => by
    have := alike_strs xs ys
    simp [PySem.W.alikeAll, PySem.W.alike, this]
theorem sort_lols {K : PySem.W.Frag} {H : Hp} {a : Addr} {l : List (Addr × List Str)} {Q : VK} (h : SqQ K H a (l.map fun e => V.ref e.1)) (hl : ∀ e ∈ l, Nm H e.1 e.2) (k : ∀ p, H p = none → ∀ l' : List (Addr × List Str), l'.Perm l → l'.map (·.2) = sortL (l.map (·.2)) → Q (.ref p) (upd H p (.lst (l'.map fun e => V.ref e.1)))) : rSortQ K [.ref a] H Q := by
  refine ⟨a, l.map (fun e => (V.ref e.1, encL e.2)), rfl, ?_, ⟨fun b hb => ?_, fun d hd d' hd' => ?_, .inr fun d hd => ?_, fun b hb => ?_⟩, fun p hp => ?_⟩
  · rw [List.map_map]
    exact h
  · obtain ⟨e, he, rfl⟩ := List.mem_map.mp hb
    exact (hl e he).dp
  · rw [List.map_map] at hd hd'
    obtain ⟨e, _, rfl⟩ := List.mem_map.mp hd
    obtain ⟨e', _, rfl⟩ := List.mem_map.mp hd'
    have := alike_strs e.2 e'.2
    simp [encL, PySem.W.alike, this]
  · rw [List.map_map] at hd
    obtain ⟨e, _, rfl⟩ := List.mem_map.mp hd
    exact ⟨by simp [encL], by simp [encL]⟩
  · obtain ⟨e, he, rfl⟩ := List.mem_map.mp hb
    show (encL e.2).depth ≤ 50
    have := depAll e.2
    simp [encL, PyData.depth, this]
  · have e := srt_map (fun e : Addr × List Str => V.ref e.1) (fun e => encL e.2) l
    rw [e]
    refine k p hp _ (List.mergeSort_perm l _) ?_
    exact mergeSort_map (fun e : Addr × List Str => e.2) leL l
section
variable {P : Program} {w : World} {K : PySem.W.Frag} {mg : Str → Option Value} {base : Heap}
def spSubs : Sp := fun vs H Q _ => ∃ (G : Hp) (a : Addr) (ns : List Str), vs = [.ref a] ∧ Same G H ∧ Nm G a ns ∧ ns.length ≤ 4 ∧ ∀ l G' H', Gr [] G H G' H' → Lol G' l (subs ns) → Q (.ref l) H'
theorem sc_subs : FnScope ["_law_names", "_law_found", "_law_name", "_law_lot"] ["_law_names"] (defScope s_L_d_subsets) := ⟨rfl, rfl, rfl, by decide +kernel, rfl, by decide +kernel, by decide +kernel⟩
theorem ok_subs (D : Df K mg "_law_d_subsets" s_L_d_subsets) (T : Txt K mg) : Ok P w K mg base CX0 1 "_law_d_subsets" ["_law_names"] spSubs := by
  refine mkOk D sc_subs (fun _ _ _ _ _ _ us hl => match us, hl with | [_], _ => rfl) (fun vs H Q E h => ?_) fun cdv A outer s H vs Q E hr h => ?_
  · obtain ⟨_, _, _, rfl, _⟩ := h
    rfl
  · obtain ⟨G, a, ns, rfl, hG, ha, hlen, k⟩ := h
    have hu := hr.units
    refine ⟨_, pss_cons (ps_set (i := 1) sc_subs.nd rfl (.inl rfl) (pe_lst (pa_cons (pe_lst pa_nil) pa_nil)))
      (pss_cons (ps_for PassesOwn.never rfl (pi_list (pe_callB (cr_sortQ hu) (by rfl) T.sorted (by decide +kernel) (pa_cons (pv 0) pa_nil))) (pg_name (i := 2) sc_subs.nd rfl (.inr rfl))
        (pss_one (ps_expr (pe_bm PySem.F.plainAttrs_list PySem.F.slot_list_extend PySem.F.type_list_extend mt_extend (pv 1) (pa_cons (pe_lc (own := [("_law_lot", 3)]) (g := gName 3) (tt := tYes) rfl sc_subs.nd (pi_list (pv 1)) (blkOk_by (own := [("_law_lot", 3)]) (N := ["_law_names", "_law_found", "_law_name", "_law_lot"]) (sc := defScope s_L_d_subsets) (by decide +kernel))
          (fun _ _ _ _ _ => pg_name (i := 3) sc_subs.nd rfl (.inl rfl)) (fun _ _ _ _ _ => pts_nil)
          (fun _ _ _ _ _ => pe_op op_cat (pv 3) (pe_lst (pa_cons (pv 2) pa_nil)))) pa_nil)))))
      (pss_one (ps_ret (pe_callB (cr_sortQ hu) (by rfl) T.sorted (by decide +kernel) (pa_cons (pv 1) pa_nil))))), ?_⟩
    refine ⟨by decide, fun q0 hq0 => ⟨by show 1 ≤ sizeLine; decide, fun F hF => ?_⟩⟩
    have g0 : Gr [] G H (upd G q0 (.lst [])) (upd H q0 (.lst [])) := Gr.new hG hq0
    have l0 : LG CL G H F (upd G q0 (.lst [])) (upd (upd H q0 (.lst [])) F (.lst [V.ref q0])) [(q0, [])] :=
      ⟨g0.trans (Gr.hid g0.sub hF), upd_same, Same.free g0.sub hF, g0.off hF, fun e he => by rw [List.mem_singleton.mp he]; exact upd_same⟩
    refine ⟨_, rfl, ?_⟩
    unfold tNil
    refine sort_strs (.inl ((ha.up (l0.g.gg.trans l0.g.sub)).l)) fun S hS => ?_
    have l1 := l0.new (o := .lst ((sortS ns).map V.str)) hS
    refine ⟨S, rfl, ⟨_, SqL.of upd_same⟩, for_list (K := K) (xs := (sortS ns).map V.str) (fun i σ Hc => ∃ v Gc acc, σ = [some (.ref a), some (.ref F), v, none] ∧ LG CL G H F Gc Hc acc ∧ acc.map (·.2) = subF ((sortS ns).take i) ∧ Nm Gc S (sortS ns)) ⟨none, _, _, rfl, l1, rfl, upd_same⟩ (fun i σ Hc _ ⟨_, _, _, _, h, _, hs⟩ => SqL.of (h.g.sub _ _ hs)) ?_ ?_⟩
    · rintro i x σ Hc hx ⟨v, Gc, acc, rfl, li, hacc, hS1⟩
      obtain ⟨z, hz, rfl⟩ := get_map hx
      have hzi := lt_of_get hz
      rw [sortS_len] at hzi
      have hal : acc.length ≤ 16 := by
        have e1 : acc.length = (subF ((sortS ns).take i)).length := by rw [← hacc, List.length_map]
        rw [subF_len i _ (by rw [List.length_take, sortS_len]; omega)] at e1
        have : 2 ^ i ≤ 2 ^ 4 := Nat.pow_le_pow_right (by decide) (by omega)
        omega
      refine ⟨_, rfl, .inl ⟨rfl, _, SqL.of li.f⟩, _, rfl, F, rfl, ⟨_, SqL.of li.f⟩, fun D hD => ?_⟩
      refine hp_list (xs := acc.map fun e => V.ref e.1) (Step := LcStep _ _ _ _ _ D) (fun j Hd => ∃ Gd acc2, LG CL Gc Hc D Gd Hd acc2 ∧ acc2.map (·.2) = ((acc.map (·.2)).take j).map (· ++ [z]) ∧ Hd F = some (.lst (acc.map fun e => V.ref e.1)) ∧ acc2.length ≤ j) ⟨Gc, [], LG.start li.g.sub hD, rfl, by rw [upd_ne (ne_of_none li.f hD)]; exact li.f, Nat.le_refl _⟩ (fun j Hd _ ⟨_, _, _, _, h, _⟩ => SqL.of h) (fun j y Hd hy h => ?_) (fun Hd h => ?_)
      · obtain ⟨e, he, rfl⟩ := get_map hy
        obtain ⟨Gd, acc2, ld, hacc2, hFd, hal2⟩ := h
        have hej := lt_of_get he
        have hel : Nm Hd e.1 e.2 := ld.g.sub _ _ (ld.g.gg _ _ (li.tp e (List.mem_of_getElem? he)))
        refine ⟨rfl, _, rfl, _, rfl, by show 1 ≤ sizeLine; decide, fun t ht => ?_⟩
        have hel2 : Nm (upd Hd t (.lst [V.str z])) e.1 e.2 := (Same.new ht) _ _ hel
        have hL : e.2 ∈ subF ((sortS ns).take i) := by rw [← hacc]; exact List.mem_map.mpr ⟨e, List.mem_of_getElem? he, rfl⟩
        have le : e.2.length ≤ 1000 := by
          have := (subF_sub _ _ rfl _ hL).length_le
          rw [List.length_take, sortS_len] at this
          omega
        refine ⟨e.1, t, _, _, rfl, rfl, hel2, upd_same, sz (by rw [List.length_map, List.length_singleton]; omega), fun u hu => ?_⟩
        have l2 := ld.hid (o := .lst [V.str z]) ht
        have hux : (e.2.map V.str ++ [V.str z]) = (e.2 ++ [z]).map V.str := by rw [List.map_append]; rfl
        have l3 := l2.push (x := e.2 ++ [z]) hu
        rw [hux]
        refine ⟨_, (l2.new hu).f, szl (by rw [List.length_map]; omega), _, _, l3, ?_, ?_, ?_⟩
        · rw [List.map_append, hacc2, take_succ (by rw [List.getElem?_map, he]; rfl : (acc.map (·.2))[j]? = some e.2), List.map_append]
          rfl
        · have f1 : F ≠ D := ne_of_none li.f hD
          have f2 : F ≠ t := ne_of_none hFd ht
          have f3 : F ≠ u := ne_of_none (by rw [upd_ne f2]; exact hFd) hu
          rw [upd_ne f1, upd_ne f3, upd_ne f2]
          exact hFd
        · rw [List.length_append]
          show acc2.length + 1 ≤ j + 1
          omega
      · obtain ⟨Gd, acc2, ld, hacc2, hFd, hal2⟩ := h
        rw [List.length_map] at hal2
        rw [List.length_map, ← List.length_map (f := (·.2)), List.take_length, hacc] at hacc2
        have l2 := li.go ld.g
        have l3 := l2.set (acc2 := acc ++ acc2) fun e he => by
          rcases List.mem_append.mp he with he | he
          · exact l2.tp e he
          · exact ld.tp e he
        rw [List.map_append] at l3
        refine ⟨F, D, _, _, rfl, rfl, l2.f, ld.f, sz (by rw [List.length_map, List.length_map]; omega), _, Gd, _, rfl, l3, ?_, ld.g.gg _ _ hS1⟩
        rw [List.map_append, hacc2, hacc, take_succ hz, subF_snoc]
    · rintro σ Hc ⟨v, Gc, acc, rfl, li, hacc, hS1⟩
      rw [List.length_map, List.take_length] at hacc
      refine ⟨_, rfl, ?_⟩
      refine sort_lols (.inl (SqL.of li.f)) (fun e he => li.g.sub _ _ (li.tp e he)) fun p hp l' h1 h2 => ?_
      have g2 := li.g.trans (Gr.new (o := .lst (l'.map fun e => V.ref e.1)) li.g.sub hp)
      refine k p _ _ g2 ⟨l', upd_same, fun e he => (Same.new (Same.free li.g.sub hp)) _ _ (li.tp e (h1.mem_iff.mp he)), ?_⟩
      rw [h2, hacc]
      rfl
end
end K80
end
section
set_option Elab.async false
set_option linter.all false
set_option maxRecDepth 100000
set_option maxHeartbeats 4000000
namespace K80
open PySem PySem.Spec PyProof.Rows L2
theorem mem_subs {ns L : List Str} (h : L ∈ subs ns) : L.Sublist (sortS ns) := subF_sub _ _ rfl _ ((List.mergeSort_perm _ _).mem_iff.mp h)
theorem mem_tabs {ns L : List Str} (h : L ∈ tabs ns) : L.Sublist (sortS ns) ∧ 0 < L.length := by
  obtain ⟨k, _, hk⟩ := List.mem_flatMap.mp h
  obtain ⟨h1, h2⟩ := List.mem_filter.mp hk
  have : L.length = k + 1 := of_decide_eq_true h2
  exact ⟨mem_subs h1, by omega⟩
theorem subs_len {ns : List Str} (h : ns.length ≤ 4) : (subs ns).length ≤ 16 := by
  have e : (subs ns).length = (subF (sortS ns)).length := (List.mergeSort_perm _ _).length_eq
  rw [e, subF_len ns.length _ (sortS_len ns)]
  have : 2 ^ ns.length ≤ 2 ^ 4 := Nat.pow_le_pow_right (by decide) h
  omega
def tabsTo (ns : List Str) (n : Nat) : List (List Str) := (List.range n).flatMap fun k => (subs ns).filter fun L => decide (L.length = k + 1)
theorem tabsTo_succ (ns : List Str) (n : Nat) : tabsTo ns (n + 1) = tabsTo ns n ++ (subs ns).filter fun L => decide (L.length = n + 1) := by
  unfold tabsTo
  rw [List.range_succ, List.flatMap_append]
  simp
theorem tabsTo_len {ns : List Str} (h : ns.length ≤ 4) : ∀ n, (tabsTo ns n).length ≤ 16 * n
  | 0 => by simp [tabsTo]
  | n + 1 => by
    have h1 := tabsTo_len h n
    have h2 := subs_len h
    have h3 := List.length_filter_le (fun L : List Str => decide (L.length = n + 1)) (subs ns)
    rw [tabsTo_succ, List.length_append]
    omega
section
variable {P : Program} {w : World} {K : PySem.W.Frag} {mg : Str → Option Value} {base : Heap}
def spTabs : Sp := fun vs H Q _ => ∃ (G : Hp) (a : Addr) (ns : List Str), vs = [.ref a] ∧ Same G H ∧ Nm G a ns ∧ ns.length ≤ 4 ∧ ∀ l G' H', Gr [] G H G' H' → Lol G' l (tabs ns) → Q (.ref l) H'
theorem sc_tabs : FnScope ["_law_names", "_law_found", "_law_size", "_law_lot"] ["_law_names"] (defScope s_L_z_tables) := ⟨rfl, rfl, rfl, by decide +kernel, rfl, by decide +kernel, by decide +kernel⟩
theorem ok_tabs (D : Df K mg "_law_z_tables" s_L_z_tables) (T : Txt K mg) (OS : Ok P w K mg base CX0 1 "_law_d_subsets" ["_law_names"] spSubs) : Ok P w K mg base CX0 2 "_law_z_tables" ["_law_names"] spTabs := by
  refine mkOk D sc_tabs (fun _ _ _ _ _ _ us hl => match us, hl with | [_], _ => rfl) (fun vs H Q E h => ?_) fun cdv A outer s H vs Q E hr h => ?_
  · obtain ⟨_, _, _, rfl, _⟩ := h
    rfl
  · obtain ⟨G, a, ns, rfl, hG, ha, hlen, k⟩ := h
    refine ⟨_, pss_cons (ps_set (i := 1) sc_tabs.nd rfl (.inl rfl) (pe_lst pa_nil))
      (pss_cons (ps_for PassesOwn.never rfl (pi_range2 rfl T.range (pa_cons pe_int (pa_cons (pe_op op_add (pe_callB call_len_seq (by rfl) T.len PySem.boot_len (pa_cons (pv 0) pa_nil)) pe_int) pa_nil))) (pg_name (i := 2) sc_tabs.nd rfl (.inr rfl))
        (pss_one (ps_expr (pe_bm PySem.F.plainAttrs_list PySem.F.slot_list_extend PySem.F.type_list_extend mt_extend (pv 1) (pa_cons (pe_lc (own := [("_law_lot", 3)]) (g := gName 3) rfl sc_tabs.nd (pi_list (pe_cl OS hr (pa_cons (pv 0) pa_nil))) (blkOk_by (own := [("_law_lot", 3)]) (N := ["_law_names", "_law_found", "_law_size", "_law_lot"]) (sc := defScope s_L_z_tables) (by decide +kernel))
          (fun _ _ _ _ _ => pg_name (i := 3) sc_tabs.nd rfl (.inl rfl))
          (fun _ _ _ _ _ => pts_one (pt_cmpR op_eq (pe_callB (lenK K) (by rfl) T.len PySem.boot_len (pa_cons (pv 3) pa_nil)) (pv 2) (by rfl)))
          (fun _ _ _ _ _ => pv 3)) pa_nil)))))
      (pss_one (ps_ret (pv 1)))), ?_⟩
    refine ⟨by decide, fun F hF => ?_⟩
    have l0 := LG.start (C := CL) hG hF
    refine ⟨_, rfl, a, _, rfl, .inl ((ha.up (hG.trans (Same.new hF))).l), _, _, rfl, rfl, _, _, rfl, ⟨by decide, by decide, by omega, ?_⟩, ?_⟩
    · rw [List.length_map]
      omega
    have en : ((((ns.map V.str).length : Int) + 1) - 1).toNat = ns.length := by rw [List.length_map]; omega
    refine for_range (lo := 1) (n := ((((ns.map V.str).length : Int) + 1) - 1).toNat) (fun i σ Hc => ∃ v Gc acc, σ = [some (.ref a), some (.ref F), v, none] ∧ LG CL G H F Gc Hc acc ∧ acc.map (·.2) = tabsTo ns i) ⟨none, G, [], rfl, l0, rfl⟩ ?_ ?_
    · rintro i σ Hc hi ⟨v, Gc, acc, rfl, li, hacc⟩
      rw [en] at hi
      have hal : acc.length ≤ 16 * i := by
        have e1 : acc.length = (tabsTo ns i).length := by rw [← hacc, List.length_map]
        have := tabsTo_len hlen i
        omega
      refine ⟨_, rfl, .inl ⟨rfl, _, SqL.of li.f⟩, _, rfl, Gc, a, ns, rfl, li.g.sub, ha.up li.g.gg, hlen, fun S G1 H1 g1 hS => ?_⟩
      obtain ⟨l, hl1, hl2, hl3⟩ := hS
      have l1 := li.go g1
      have hll : l.length ≤ 16 := by
        have := subs_len hlen
        rw [← hl3, List.length_map] at this
        exact this
      have sqS : SqL K H1 S (l.map fun e => V.ref e.1) := SqL.of (g1.sub _ _ hl1)
      refine ⟨S, rfl, ⟨_, sqS⟩, fun R hR => ?_⟩
      refine lc_fm l (fun e => V.ref e.1) (fun e => decide (e.2.length = i + 1)) (fun e => V.ref e.1) sqS (by omega) hR (fun e he Hd sd Qn Qy hn hy => ?_) fun Hd sd hd => ?_
      · have hel : Nm Hd e.1 e.2 := sd _ _ (g1.sub _ _ (hl2 e he))
        refine ⟨rfl, _, rfl, e.1, _, rfl, .inl hel.l, _, rfl, rfl, decide (e.2.length = i + 1), congrArg V.bl ?_, ?_⟩
        · rw [List.length_map, dec_int]
          by_cases h : e.2.length = i + 1
          · rw [decide_eq_true h, h]
            simp
            omega
          · rw [decide_eq_false h]
            simp
            omega
        · by_cases h : e.2.length = i + 1
          · rw [decide_eq_true h]
            exact ⟨_, rfl, hy (decide_eq_true h) Hd (Same.refl _)⟩
          · rw [decide_eq_false h]
            exact iteF (hn (decide_eq_false h) Hd (Same.refl _))
      · have l2 := l1.go (Gr.same l1.g.sub sd)
        have hfl : (l.filter fun e => decide (e.2.length = i + 1)).length ≤ l.length := List.length_filter_le _ _
        have l3 := l2.set (acc2 := acc ++ l.filter fun e => decide (e.2.length = i + 1)) fun e he => by
          rcases List.mem_append.mp he with he | he
          · exact l2.tp e he
          · exact hl2 e (List.mem_filter.mp he).1
        rw [List.map_append] at l3
        refine ⟨F, R, _, _, rfl, rfl, l2.f, hd, sz (by rw [List.length_map, List.length_map]; omega), _, G1, _, rfl, l3, ?_⟩
        rw [List.map_append, hacc, tabsTo_succ, ← hl3, List.filter_map]
        rfl
    · rintro σ Hc ⟨v, Gc, acc, rfl, li, hacc⟩
      rw [en] at hacc
      obtain ⟨gp, hp⟩ := li.pub hG
      exact ⟨_, rfl, k F _ Hc gp ⟨acc, upd_same, hp, hacc⟩⟩
/-! ### all_verdicts -/
noncomputable def avs (ns : List Str) (ps : List Pair) (most : Nat) : List (List (Str × Str)) := ((tabs ns).filter fun T => decide (T.length ≤ most)).map fun T => vdS ps (sortS T)
abbrev CD (d : List (Str × Str)) : HO := .dK (dv d)
def spAV : Sp := fun vs H Q _ => ∃ (G : Hp) (a b : Addr) (ns : List Str) (ps : List Pair) (most : Nat), vs = [.ref a, .ref b, .int most] ∧ Same G H ∧ Nm G a ns ∧ NsOk ns ∧ ns.length ≤ 4 ∧ Prs G b ps ∧ ps.length ≤ 1000 ∧
  ∀ l G' H' (acc : List (Addr × List (Str × Str))), Gr [] G H G' H' → G' l = some (.lst (acc.map fun e => V.ref e.1)) → (∀ e ∈ acc, G' e.1 = some (CD e.2)) → acc.map (·.2) = avs ns ps most → Q (.ref l) H'
theorem sc_av : FnScope ["_law_names", "_law_pairs", "_law_most", "_law_table"] ["_law_names", "_law_pairs", "_law_most"] (defScope s_L_all_verdicts) := ⟨rfl, rfl, rfl, by decide +kernel, rfl, by decide +kernel, by decide +kernel⟩
theorem tabs_len {ns : List Str} (h : ns.length ≤ 4) : (tabs ns).length ≤ 64 := by
  have := tabsTo_len h ns.length
  show (tabsTo ns ns.length).length ≤ 64
  omega
theorem ok_av (D : Df K mg "_law_all_verdicts" s_L_all_verdicts) (T : Txt K mg) (OT : Ok P w K mg base CX0 2 "_law_z_tables" ["_law_names"] spTabs) (OV : Ok P w K mg base CX0 5 "_law_z_verdict" ["_law_pairs", "_law_table"] spZV) : Ok P w K mg base CX0 6 "_law_all_verdicts" ["_law_names", "_law_pairs", "_law_most"] spAV := by
  refine mkOk D sc_av (fun _ _ _ _ _ _ us hl => match us, hl with | [_, _, _], _ => rfl) (fun vs H Q E h => ?_) fun cdv A outer s H vs Q E hr h => ?_
  · obtain ⟨_, _, _, _, _, _, rfl, _⟩ := h
    rfl
  · obtain ⟨G, a, b, ns, ps, most, rfl, hG, ha, hns, hlen, hb, hpl, k⟩ := h
    refine ⟨_, pss_one (ps_ret (pe_lc (own := [("_law_table", 3)]) (g := gName 3) rfl sc_av.nd (pi_list (pe_cl OT (hr.mono (by decide)) (pa_cons (pv 0) pa_nil))) (blkOk_by (own := [("_law_table", 3)]) (N := ["_law_names", "_law_pairs", "_law_most", "_law_table"]) (sc := defScope s_L_all_verdicts) (by decide +kernel))
          (fun _ _ _ _ _ => pg_name (i := 3) sc_av.nd rfl (.inl rfl))
          (fun _ _ _ _ _ => pts_one (pt_cmpR op_le (pe_callB (lenK K) (by rfl) T.len PySem.boot_len (pa_cons (pv 3) pa_nil)) (pv 2) (nomark _)))
          (fun _ _ _ _ _ => pe_cl OV hr (pa_cons (pv 1) (pa_cons (pv 3) pa_nil))))), ?_⟩
    refine ⟨_, rfl, G, a, ns, rfl, hG, ha, hlen, fun S G1 H1 g1 hS => ?_⟩
    obtain ⟨l, hl1, hl2, hl3⟩ := hS
    have hll : l.length ≤ 64 := by
      have := tabs_len hlen
      rw [← hl3, List.length_map] at this
      exact this
    have hb1 := hb.up g1.gg
    refine ⟨S, rfl, ⟨_, SqL.of (g1.sub _ _ hl1)⟩, fun R hR => ?_⟩
    refine hp_list (xs := l.map fun e => V.ref e.1) (Step := LcStep _ _ _ _ _ R) (fun i Hc => ∃ Gc acc, LG CD G1 H1 R Gc Hc acc ∧ acc.map (·.2) = (((l.map (·.2)).take i).filter fun T => decide (T.length ≤ most)).map (fun T => vdS ps (sortS T)) ∧ acc.length ≤ i) ⟨G1, [], LG.start g1.sub hR, rfl, Nat.le_refl _⟩ (fun i Hc _ ⟨_, _, h, _⟩ => SqL.of ((h.g.gg.trans h.g.sub) _ _ hl1)) (fun i x Hc hx h => ?_) (fun Hc h => ?_)
    · obtain ⟨e, he, rfl⟩ := get_map hx
      obtain ⟨Gc, acc, li, hacc, hal⟩ := h
      have hi := lt_of_get he
      have hel : Nm Gc e.1 e.2 := (hl2 e (List.mem_of_getElem? he)).up li.g.gg
      have hmt : e.2 ∈ tabs ns := by rw [← hl3]; exact List.mem_map.mpr ⟨e, List.mem_of_getElem? he, rfl⟩
      obtain ⟨hsub, hpos⟩ := mem_tabs hmt
      rw [take_succ (by rw [List.getElem?_map, he]; rfl : (l.map (·.2))[i]? = some e.2), List.filter_append, List.filter_cons, List.filter_nil]
      refine ⟨rfl, _, rfl, e.1, _, rfl, .inl ((hel.up li.g.sub).l), _, rfl, _, _, rfl, rfl, decide (e.2.length ≤ most), congrArg V.bl ?_, ?_⟩
      · rw [List.length_map]
        refine decide_eq_decide.mpr ?_
        omega
      · by_cases h : e.2.length ≤ most
        · rw [decide_eq_true h, if_pos rfl]
          have hok : ∀ z ∈ e.2, okName z := fun z hz => hns.ok z (mem_sortS.mp (hsub.subset hz))
          have hle : e.2.length ≤ 100 := by have := hsub.length_le; rw [sortS_len] at this; omega
          refine ⟨_, rfl, _, rfl, Gc, b, e.1, ps, e.2, rfl, li.g.sub, hb1.up li.g.gg, hpl, hel, (nodup_sortS hns.nd).sublist hsub, hok, hle, fun d G2 H2 g2 hd => ?_⟩
          have l2 := li.go g2
          refine ⟨_, l2.f, szl (by rw [List.length_map]; omega), G2, _, l2.add (x := vdS ps (sortS e.2)) hd, ?_, ?_⟩
          · rw [List.map_append, List.map_append, hacc]
            rfl
          · rw [List.length_append]
            show acc.length + 1 ≤ i + 1
            omega
        · rw [decide_eq_false h, if_neg Bool.false_ne_true, List.append_nil]
          exact iteF ⟨Gc, acc, li, hacc, by omega⟩
    · obtain ⟨Gc, acc, li, hacc, hal⟩ := h
      rw [List.length_map, ← List.length_map (f := (·.2)), List.take_length, hl3] at hacc
      obtain ⟨gp, hp⟩ := li.pub g1.sub
      exact k R _ Hc acc (g1.trans gp) upd_same hp hacc
end
end K80
end
section
set_option Elab.async false
set_option linter.all false
set_option maxRecDepth 100000
set_option maxHeartbeats 4000000
namespace K80
open PySem PySem.Spec PyProof.Rows L2
abbrev CP (p : Pair) : HO := .tup [.str p.1, .str p.2]
def slf (ps : List Pair) : List Str := (ps.filter fun p => decide (p.1 = p.2)).map (·.1)
theorem mem_slf {ps : List Pair} {z : Str} : z ∈ slf ps ↔ (z, z) ∈ ps := by
  unfold slf
  rw [List.mem_map]
  constructor
  · rintro ⟨p, hp, rfl⟩
    obtain ⟨h1, h2⟩ := List.mem_filter.mp hp
    have e : p.1 = p.2 := of_decide_eq_true h2
    have : p = (p.1, p.1) := Prod.ext rfl e.symm
    rw [this] at h1
    exact h1
  · intro h
    exact ⟨(z, z), List.mem_filter.mpr ⟨h, by simp⟩, rfl⟩
section
variable {P : Program} {w : World} {K : PySem.W.Frag} {mg : Str → Option Value} {base : Heap}
def spZT : Sp := fun vs H Q _ => ∃ (G : Hp) (b : Addr) (ps : List Pair), vs = [.ref b] ∧ Same G H ∧ Prs G b ps ∧ (∀ p ∈ ps, okPair p) ∧ ps.length ≤ 1000 ∧ ∀ l G' H', Gr [] G H G' H' → Prs G' l (sortP (tw ps)) → Q (.ref l) H'
theorem sc_zt : FnScope ["_law_pairs", "_law_one", "_law_other", "_law_selves", "_law_kept"] ["_law_pairs"] (defScope s_L_z_twin) := ⟨rfl, rfl, rfl, by decide +kernel, rfl, by decide +kernel, by decide +kernel⟩
theorem ok_zt (D : Df K mg "_law_z_twin" s_L_z_twin) (T : Txt K mg) : Ok P w K mg base CX0 1 "_law_z_twin" ["_law_pairs"] spZT := by
  refine mkOk D sc_zt (fun _ _ _ _ _ _ us hl => match us, hl with | [_], _ => rfl) (fun vs H Q E h => ?_) fun cdv A outer s H vs Q E hr h => ?_
  · obtain ⟨_, _, _, rfl, _⟩ := h
    rfl
  · obtain ⟨G, b, ps, rfl, hG, hb, hok, hlen, k⟩ := h
    have hu := hr.units
    have hu5 := hu65 hr
    refine ⟨_, pss_cons (ps_setLc (i := 3) (own := [("_law_one", 1), ("_law_other", 2)]) rfl sc_zt.nd rfl rfl (sw_true rfl rfl rfl (by decide +kernel)) (pi_list (pv 0)) (blkOk_by (own := [("_law_one", 1), ("_law_other", 2)]) (N := ["_law_pairs", "_law_one", "_law_other", "_law_selves", "_law_kept"]) (sc := defScope s_L_z_twin) (by decide +kernel))
        (fun _ _ _ _ _ => tupK K (n := 2) rfl (pgs_cons (pg_name (i := 1) sc_zt.nd rfl (.inl rfl)) (pgs_cons (pg_name (i := 2) sc_zt.nd rfl (.inl rfl)) pgs_nil)))
        (fun _ _ _ _ _ => pts_one (pt_cmpR op_eq (pv 1) (pv 2) (by rfl)))
        (fun _ _ _ _ _ => pv 1))
      (pss_cons (ps_set (i := 4) sc_zt.nd rfl (.inl rfl) (pe_lst pa_nil))
      (pss_cons (ps_for PassesOwn.never rfl (pi_list (pv 0)) (pg_tup rfl (pgs_cons (pg_name (i := 1) sc_zt.nd rfl (.inl rfl)) (pgs_cons (pg_name (i := 2) sc_zt.nd rfl (.inl rfl)) pgs_nil)))
        (pss_one (ps_if (PW.pt (pw_or (pt_cmpR op_eq (pv 1) (pv 2) (by rfl)) (pw_or (pt_cmpR op_notIn_seq (pv 2) (pv 3) (by rfl)) (pw_or1 (PW.pt (pw_and (pt_cmpR op_notIn_seq (pv 1) (pv 3) (by rfl)) (pw_and1 (pt_cmpR (op_notInD hu5) (pe_tup (pa_cons (pv 2) (pa_cons (pv 1) pa_nil))) (pv 0) (by rfl)))))))))
          (pss_one (ps_expr (pe_bm PySem.F.plainAttrs_list PySem.F.slot_list_append PySem.F.type_list_append mt_append (pv 4) (pa_cons (pe_tup (pa_cons (pv 1) (pa_cons (pv 2) pa_nil))) pa_nil)))) pss_nil)))
      (pss_one (ps_ret (pe_callB (cr_sortQ hu) (by rfl) T.sorted (by decide +kernel) (pa_cons (pv 4) pa_nil)))))), ?_⟩
    have hb0 := hb
    obtain ⟨l, ⟨p1, p2⟩, hl⟩ := hb
    have hll : l.length = ps.length := by rw [← hl, List.length_map]
    refine ⟨_, rfl, b, rfl, ⟨_, SqL.of (hG _ _ p1)⟩, fun R hR => ?_⟩
    refine lc_fm l (fun e => V.ref e.1) (fun e => decide (e.2.1 = e.2.2)) (fun e => V.str e.2.1) (SqL.of (hG _ _ p1)) (by omega) hR (fun e he Hc sc Qn Qy hn hy => ?_) fun Hc sc hc => ?_
    · refine ⟨e.1, _, rfl, SqT.of (sc _ _ (hG _ _ (p2 e he))), rfl, _, _, rfl, _, _, rfl, rfl, rfl, _, rfl, _, rfl, rfl, decide (e.2.1 = e.2.2), congrArg V.bl (by rw [dec_str]; exact (Bool.beq_eq_decide_eq _ _)), ?_⟩
      by_cases h1 : e.2.1 = e.2.2
      · rw [decide_eq_true h1]
        exact ⟨_, rfl, hy (decide_eq_true h1) Hc (Same.refl _)⟩
      · rw [decide_eq_false h1]
        exact iteF (hn (decide_eq_false h1) Hc (Same.refl _))
    have e0 : (l.filter fun e => decide (e.2.1 = e.2.2)).map (fun e => V.str e.2.1) = (slf ps).map V.str := by
      unfold slf
      rw [← hl, List.filter_map, List.map_map, List.map_map]
      rfl
    rw [e0] at hc
    have gR : G R = none := Same.free hG hR
    have gp : Gr [] G H (upd G R (.lst ((slf ps).map V.str))) Hc := (Gr.same hG sc).pub hR gR gR hc
    have hR2 : Nm (upd G R (.lst ((slf ps).map V.str))) R (slf ps) := upd_same
    generalize upd G R (.lst ((slf ps).map V.str)) = Gp at gp hR2
    refine ⟨by decide, fun F hF => ?_⟩
    have l0 := LG.startAt (C := CP) gp hG hF
    refine ⟨_, rfl, b, rfl, ⟨_, SqL.of ((l0.g.gg.trans l0.g.sub) _ _ p1)⟩, for_list (K := K) (xs := l.map fun e => V.ref e.1) (fun i σ Hd => ∃ v1 v2 Gd acc, σ = [some (.ref b), v1, v2, some (.ref R), some (.ref F)] ∧ LG CP G H F Gd Hd acc ∧ Nm Gd R (slf ps) ∧ acc.map (·.2) = (ps.take i).filter (seen ps)) ⟨none, none, _, _, rfl, l0, hR2, rfl⟩ (fun i σ Hd _ ⟨_, _, _, _, _, h, _⟩ => SqL.of ((h.g.gg.trans h.g.sub) _ _ p1)) ?_ ?_⟩
    · rintro i x σ Hd hx ⟨v1, v2, Gd, acc, rfl, li, hS, hacc⟩
      obtain ⟨e, he, rfl⟩ := get_map hx
      have hpe : ps[i]? = some e.2 := by rw [← hl, List.getElem?_map, he]; rfl
      have hel := List.mem_of_getElem? he
      have hem : e.2 ∈ ps := List.mem_of_getElem? hpe
      have sg := li.g.gg.trans li.g.sub
      have hil := lt_of_get hpe
      have al : acc.length ≤ i := by
        have e1 : acc.length = ((ps.take i).filter (seen ps)).length := by rw [← hacc, List.length_map]
        have e2 : ((ps.take i).filter (seen ps)).length ≤ (ps.take i).length := List.length_filter_le _ _
        rw [List.length_take] at e2
        omega
      refine ⟨e.1, _, rfl, SqT.of (sg _ _ (p2 e hel)), rfl, _, _, rfl, _, _, rfl, rfl, ?_⟩
      -- the two ends
      have no : ∀ Hx, Same Hd Hx → seen ps e.2 = false → ∃ v1 v2 Gd acc, [some (V.ref b), some (.str e.2.1), some (.str e.2.2), some (.ref R), some (.ref F)] = ([some (V.ref b), v1, v2, some (.ref R), some (.ref F)] : L2.St) ∧ LG CP G H F Gd Hx acc ∧ Nm Gd R (slf ps) ∧ acc.map (·.2) = (ps.take (i + 1)).filter (seen ps) := fun Hx sx hs =>
        ⟨_, _, Gd, acc, rfl, li.go (Gr.same li.g.sub sx), hS, by rw [take_succ hpe, List.filter_append, List.filter_cons, hs, hacc]; simp⟩
      have yes : ∀ Hx q, Same Hd Hx → Hx q = none → seen ps e.2 = true → LG CP G H F (upd Gd q (CP e.2)) (upd (upd Hx q (CP e.2)) F (.lst (acc.map (fun e => V.ref e.1) ++ [V.ref q]))) (acc ++ [(q, e.2)]) ∧ Nm (upd Gd q (CP e.2)) R (slf ps) ∧ (acc ++ [(q, e.2)]).map (·.2) = (ps.take (i + 1)).filter (seen ps) := fun Hx q sx hq hs => by
        have lx := li.go (Gr.same li.g.sub sx)
        refine ⟨lx.push (x := e.2) hq, hS.up (Same.new (Same.free lx.g.sub hq)), ?_⟩
        rw [take_succ hpe, List.filter_append, List.filter_cons, hs, List.map_append, hacc]
        rfl
      have sqS : SqL K Hd R ((slf ps).map V.str) := ((hS.up li.g.sub).l)
      refine ⟨_, rfl, _, rfl, rfl, decide (e.2.1 = e.2.2), congrArg V.bl (by rw [dec_str]; exact (Bool.beq_eq_decide_eq _ _)), ?_⟩
      by_cases h1 : e.2.1 = e.2.2
      · rw [decide_eq_true h1]
        have hs : seen ps e.2 = true := by simp [seen, h1]
        refine ⟨_, rfl, .inl ⟨rfl, _, SqL.of li.f⟩, _, rfl, _, rfl, by show 2 ≤ sizeLine; decide, fun q hq => ?_⟩
        obtain ⟨y1, y2, y3⟩ := yes Hd q (Same.refl _) hq hs
        exact ⟨F, _, _, rfl, rfl, (li.new hq).f, szl (by rw [List.length_map]; omega), _, _, _, _, rfl, y1, y2, y3⟩
      · rw [decide_eq_false h1]
        refine iteF ⟨_, rfl, _, rfl, R, _, rfl, .inl sqS, rfl, all_flat _, !decide ((e.2.2, e.2.2) ∈ ps), ?_, ?_⟩
        · rw [inV_str]
          refine congrArg V.bl ?_
          show (!decide (e.2.2 ∈ slf ps)) = _
          rw [decide_eq_decide.mpr mem_slf]
        by_cases h2 : (e.2.2, e.2.2) ∈ ps
        · rw [decide_eq_true h2]
          refine iteF ⟨_, rfl, _, rfl, R, _, rfl, .inl sqS, rfl, all_flat _, !decide ((e.2.1, e.2.1) ∈ ps), ?_, ?_⟩
          · rw [inV_str]
            refine congrArg V.bl ?_
            show (!decide (e.2.1 ∈ slf ps)) = _
            rw [decide_eq_decide.mpr mem_slf]
          by_cases h3 : (e.2.1, e.2.1) ∈ ps
          · rw [decide_eq_true h3]
            exact iteF (iteF (no Hd (Same.refl _) (by simp [seen, h1, h2, h3])))
          · rw [decide_eq_false h3]
            refine iteT ⟨_, rfl, _, rfl, by show 2 ≤ sizeLine; decide, fun q hq => ⟨_, rfl, _, _, .tup (SqT.of upd_same) (.cons (.str _) (.cons (.str _) .nil)), (hb0.up (sg.trans (Same.new hq))).dp, encP_shaped (p := (e.2.2, e.2.1)) ⟨(hok _ hem).2, (hok _ hem).1⟩, encPs_shaped hok, !decide ((e.2.2, e.2.1) ∈ ps), ?_, ?_⟩⟩
            · exact congrArg V.bl (congrArg not (any_encP (e.2.2, e.2.1) ps))
            by_cases h4 : (e.2.2, e.2.1) ∈ ps
            · rw [decide_eq_true h4]
              exact iteF (no _ (Same.new hq) (by simp [seen, h1, h2, h3, h4]))
            · rw [decide_eq_false h4]
              have hs : seen ps e.2 = true := by simp [seen, h1, h2, h3, h4]
              refine iteT ⟨_, rfl, .inl ⟨rfl, _, SqL.of (li.hid hq).f⟩, _, rfl, _, rfl, by show 2 ≤ sizeLine; decide, fun q2 hq2 => ?_⟩
              obtain ⟨y1, y2, y3⟩ := yes _ q2 (Same.new hq) hq2 hs
              exact ⟨F, _, _, rfl, rfl, ((li.hid hq).new hq2).f, szl (by rw [List.length_map]; omega), _, _, _, _, rfl, y1, y2, y3⟩
        · rw [decide_eq_false h2]
          have hs : seen ps e.2 = true := by simp [seen, h1, h2]
          refine ⟨_, rfl, .inl ⟨rfl, _, SqL.of li.f⟩, _, rfl, _, rfl, by show 2 ≤ sizeLine; decide, fun q hq => ?_⟩
          obtain ⟨y1, y2, y3⟩ := yes Hd q (Same.refl _) hq hs
          exact ⟨F, _, _, rfl, rfl, (li.new hq).f, szl (by rw [List.length_map]; omega), _, _, _, _, rfl, y1, y2, y3⟩
    · rintro σ Hd ⟨v1, v2, Gd, acc, rfl, li, hS, hacc⟩
      rw [List.length_map, hll, List.take_length] at hacc
      refine ⟨_, rfl, ?_⟩
      refine sort_prs (l := acc) ⟨li.f, fun e he => li.g.sub _ _ (li.tp e he)⟩ fun p hp l' h1 h2 => ?_
      refine k p _ _ (li.g.trans (Gr.new (o := .lst (l'.map fun e => V.ref e.1)) li.g.sub hp)) ⟨l', ⟨upd_same, fun e he => (Same.new (Same.free li.g.sub hp)) _ _ (li.tp e (h1.mem_iff.mp he))⟩, ?_⟩
      rw [h2, hacc]
      rfl
end
end K80
end
section
set_option Elab.async false
set_option linter.all false
set_option maxRecDepth 100000
set_option maxHeartbeats 4000000
namespace K80
open PySem PySem.Spec PyProof.Rows L2
section
variable {P : Program} {w : World} {K : PySem.W.Frag} {mg : Str → Option Value} {base : Heap}
/-! ### z_either, start -/
def spEither : Sp := fun vs H Q _ => ∃ (G : Hp) (st ci : Addr) (fuel : Nat) (a : Addr) (ns : List Str), vs = [.ref st, .ref a] ∧ Same G H ∧ Strm st ci (fuel + 1) G H ∧ Nm G a ns ∧ ∀ (p : Addr) (G' H' : Hp), Gr [st, ci] G H G' H' → Strm st ci fuel G' H' → NmQ G' p ns → Q (.ref p) H'
def spStart : Sp := fun vs H Q _ => ∃ (G : Hp) (a : Addr) (cs : List Int), vs = [.ref a] ∧ Same G H ∧ H a = some (.lst (cs.map V.int)) ∧ ∀ (st ci : Addr) (H' : Hp), Gr [] G H G H' → Strm st ci 1000000000000 G H' → Q (.ref st) H'
theorem sc_either : FnScope ["_law_stream", "_law_things"] ["_law_stream", "_law_things"] (defScope s_L_z_either) := ⟨rfl, rfl, rfl, by decide +kernel, rfl, by decide +kernel, by decide +kernel⟩
theorem sc_start : FnScope ["_law_script"] ["_law_script"] (defScope s_L_start) := ⟨rfl, rfl, rfl, by decide +kernel, rfl, by decide +kernel, by decide +kernel⟩
theorem ok_either (D : Df K mg "_law_z_either" s_L_z_either) (T : Txt K mg) (OD : Ok P w K mg base CX0 1 "_law_draw" ["_law_stream", "_law_many"] spDraw) : Ok P w K mg base CX0 2 "_law_z_either" ["_law_stream", "_law_things"] spEither := by
  refine mkOk D sc_either (fun _ _ _ _ _ _ us hl => match us, hl with | [_, _], _ => rfl) (fun vs H Q E h => ?_) fun cdv A outer s H vs Q E hr h => ?_
  · obtain ⟨_, _, _, _, _, _, rfl, _⟩ := h
    rfl
  · obtain ⟨G, st, ci, fuel, a, ns, rfl, hG, hs, ha, k⟩ := h
    refine ⟨_, pss_one (ps_ret (pe_ifExp (pt_cmpR op_eq (pe_cl OD hr (pa_cons (pv 0) (pa_cons pe_int pa_nil))) pe_int (nomark _)) (pe_callTy call_list_of (by rfl) T.list (by decide +kernel) (pa_cons (pv 1) pa_nil)) (pe_callTy call_tuple_of (by rfl) T.tuple (by decide +kernel) (pa_cons (pv 1) pa_nil)))), ?_⟩
    refine ⟨_, rfl, G, st, ci, fuel, 2, rfl, hG, hs, by decide, by decide, fun d H1 g1 hs1 hd => ?_⟩
    have ha1 := ha.up g1.sub
    refine ⟨rfl, _, rfl, ?_⟩
    by_cases h0 : (d : Int) = 0
    · rw [show decide (V.int (d : Int) = V.int 0) = true by rw [h0]; decide]
      refine iteT ⟨_, rfl, a, _, rfl, .inl ha1.l, fun q hq => ?_⟩
      exact k q _ _ (g1.trans (Gr.new g1.sub hq)) (hs1.step (Gr.new g1.sub hq)) (.inl upd_same)
    · rw [show decide (V.int (d : Int) = V.int 0) = false by rw [dec_int]; simpa using h0]
      refine iteF ⟨_, rfl, a, _, rfl, .inl ⟨ha1.l, fun q hq => ?_⟩⟩
      exact k q _ _ (g1.trans (Gr.new g1.sub hq)) (hs1.step (Gr.new g1.sub hq)) (.inr upd_same)
theorem ok_start (D : Df K mg "_law_start" s_L_start) (T : Txt K mg) : Ok P w K mg base CX0 1 "_law_start" ["_law_script"] spStart := by
  refine mkOk D sc_start (fun _ _ _ _ _ _ us hl => match us, hl with | [_], _ => rfl) (fun vs H Q E h => ?_) fun cdv A outer s H vs Q E hr h => ?_
  · obtain ⟨_, _, _, rfl, _⟩ := h
    rfl
  · obtain ⟨G, a, cs, rfl, hG, ha, k⟩ := h
    refine ⟨_, pss_one (ps_ret (pe_lst (pa_cons (pe_callTy call_list_of (by rfl) T.list (by decide +kernel) (pa_cons (pv 0) pa_nil)) (pa_cons pe_int (pa_cons pe_int (pa_cons pe_int pa_nil)))))), ?_⟩
    refine ⟨_, rfl, a, _, rfl, .inl (SqL.of ha), fun ci hci => ⟨by show 4 ≤ sizeLine; decide, fun st hst => ?_⟩⟩
    have g0 : Gr [] G H G (upd H ci (.lst (cs.map V.int))) := Gr.hid hG hci
    have g1 := g0.trans (Gr.hid (o := .lst [.ref ci, .int 0, .int 0, .int 11]) g0.sub hst)
    have ne : st ≠ ci := fun z => by rw [z, upd_same] at hst; cases hst
    refine k st ci _ g1 ⟨Same.free g0.sub hst, Same.free hG hci, ne, cs, 0, 0, 11, upd_same, by rw [upd_ne (Ne.symm ne)]; exact upd_same, by decide, by decide, by decide, by decide, by decide⟩
/-! ### z_debate, z_made -/
/-- names and pairs, drawn -/
structure Some2 (G : Hp) (t : Addr) (ns : List Str) (ps : List Pair) : Prop where
  ex : ∃ a b, G t = some (.tup [.ref a, .ref b]) ∧ Nm G a ns ∧ Prs G b ps
theorem Some2.up {G G' : Hp} {t : Addr} {ns : List Str} {ps : List Pair} (h : Some2 G t ns ps) (e : Same G G') : Some2 G' t ns ps := let ⟨a, b, h1, h2, h3⟩ := h.ex; ⟨a, b, e _ _ h1, h2.up e, h3.up e⟩
def spZD : Sp := fun vs H Q _ => ∃ (G : Hp) (st ci : Addr) (fuel : Nat), vs = [.ref st, .int 4] ∧ Same G H ∧ Strm st ci (2100 + fuel) G H ∧ ∀ (t : Addr) (ns : List Str) (ps : List Pair) (G' H' : Hp), Gr [st, ci] G H G' H' → Strm st ci fuel G' H' → Some2 G' t ns ps → NsOk ns → (∀ z ∈ ns, z ∈ nm10) → ns.length ≤ 4 → PsOk ns ps → Q (.ref t) H'
def spZM (C : Addr) : Sp := fun vs H Q _ => ∃ (G : Hp) (st ci : Addr) (fuel : Nat) (t : Addr) (ns : List Str) (ps : List Pair), vs = [.ref st, .ref t] ∧ Same G H ∧ Strm st ci (1000 + fuel) G H ∧ Some2 G t ns ps ∧ NsOk ns ∧ PsOk ns ps ∧ ∀ (x : Addr) (G' H' : Hp), Gr [st, ci] G H G' H' → Strm st ci fuel G' H' → DebAt C G' x (sortS ns) (sortP ps) → Q (.ref x) H'
theorem sc_zd : FnScope ["_law_stream", "_law_most", "_law_names"] ["_law_stream", "_law_most"] (defScope s_L_z_debate) := ⟨rfl, rfl, rfl, by decide +kernel, rfl, by decide +kernel, by decide +kernel⟩
theorem sc_zm : FnScope ["_law_stream", "_law_some"] ["_law_stream", "_law_some"] (defScope s_L_z_made) := ⟨rfl, rfl, rfl, by decide +kernel, rfl, by decide +kernel, by decide +kernel⟩
theorem ok_zd (D : Df K mg "_law_z_debate" s_L_z_debate) (T : Txt K mg) (OD : Ok P w K mg base CX0 1 "_law_draw" ["_law_stream", "_law_many"] spDraw) (ON : Ok P w K mg base CX0 3 "_law_d_names" ["_law_stream", "_law_many"] spNames) (OP : Ok P w K mg base CX0 3 "_law_d_pairs" ["_law_stream", "_law_names"] spPairs) : Ok P w K mg base CX0 4 "_law_z_debate" ["_law_stream", "_law_most"] spZD := by
  refine mkOk D sc_zd (fun _ _ _ _ _ _ us hl => match us, hl with | [_, _], _ => rfl) (fun vs H Q E h => ?_) fun cdv A outer s H vs Q E hr h => ?_
  · obtain ⟨_, _, _, _, rfl, _⟩ := h
    rfl
  · obtain ⟨G, st, ci, fuel, rfl, hG, hs, k⟩ := h
    refine ⟨_, pss_cons (ps_set (i := 2) sc_zd.nd rfl (.inl rfl) (pe_cl ON hr (pa_cons (pv 0) (pa_cons (pe_op op_add pe_int (pe_cl OD (hr.mono (by decide)) (pa_cons (pv 0) (pa_cons (pv 1) pa_nil)))) pa_nil))))
      (pss_one (ps_ret (pe_tup (pa_cons (pv 2) (pa_cons (pe_cl OP hr (pa_cons (pv 0) (pa_cons (pv 2) pa_nil))) pa_nil))))), ?_⟩
    refine ⟨_, rfl, _, rfl, _, rfl, G, st, ci, 2090 + fuel, 4, rfl, hG, hs.less (by omega), by decide, by decide, fun d H1 g1 hs1 hd => ?_⟩
    refine ⟨_, _, rfl, rfl, G, st, ci, 2080 + fuel, 1 + d, by simp, g1.sub, hs1.less (by omega), by omega, by omega, fun a ns G2 H2 g2 hs2 ha hns hsub hl => ?_⟩
    refine ⟨_, rfl, _, rfl, _, rfl, G2, st, ci, 80 + fuel, a, ns, rfl, g2.sub, hs2.less (by omega), ha, hns, fun b ps G3 H3 g3 hs3 hb hps => ⟨by show 2 ≤ sizeLine; decide, fun t ht => ?_⟩⟩
    have g4 := ((g1.trans g2).trans g3).trans (Gr.new (o := .tup [.ref a, .ref b]) g3.sub ht)
    have sn := Same.new (o := .tup [.ref a, .ref b]) (Same.free g3.sub ht)
    exact k t ns ps _ _ g4 ((hs3.less (by omega)).step (Gr.new g3.sub ht)) ⟨a, b, upd_same, (ha.up g3.gg).up sn, hb.up sn⟩ hns hsub (by omega) hps
theorem sortS_perm' {l m : List Str} (h : l.Perm m) : sortS l = sortS m := linS.perm h
theorem sortP_perm' {l m : List Pair} (h : l.Perm m) : sortP l = sortP m := linP.perm h
theorem ok_zm {C fI : Addr} (D : Df K mg "_law_z_made" s_L_z_made) (T : Txt K mg) (DT : DTxt K mg C fI) (OI : OkM P w K mg base CX0 5 fI ["self", "statements", "objections"] (spInit C)) (OM : Ok P w K mg base CX0 2 "_law_mixed" ["_law_stream", "_law_some"] spMixed) (O1 : Ok P w K mg base CX0 2 "_law_loose" ["_law_stream", "_law_thing"] spLoose1)
    (O2 : Ok P w K mg base CX0 3 "_law_loose" ["_law_stream", "_law_thing"] spLoose2) : Ok P w K mg base CX0 7 "_law_z_made" ["_law_stream", "_law_some"] (spZM C) := by
  refine mkOk D sc_zm (fun _ _ _ _ _ _ us hl => match us, hl with | [_, _], _ => rfl) (fun vs H Q E h => ?_) fun cdv A outer s H vs Q E hr h => ?_
  · obtain ⟨_, _, _, _, _, _, _, rfl, _⟩ := h
    rfl
  · obtain ⟨G, st, ci, fuel, t, ns, ps, rfl, hG, hs, hsm, hns, hps, k⟩ := h
    have hr2 : Room 2 _ := hr.mono (by decide)
    have hr3 : Room 3 _ := hr.mono (by decide)
    refine ⟨_, pss_one (ps_ret (pe_mk DT OI hr (pa_cons (pe_cl O1 hr2 (pa_cons (pv 0) (pa_cons (pe_cl OM hr2 (pa_cons (pv 0) (pa_cons (pe_ix ix_tup (pv 1) pe_int (fun _ _ => rfl)) pa_nil))) pa_nil))) (pa_cons (pe_cl O2 hr3 (pa_cons (pv 0) (pa_cons (pe_cl OM hr2 (pa_cons (pv 0) (pa_cons (pe_ix ix_tup (pv 1) pe_int (fun _ _ => rfl)) pa_nil))) pa_nil))) pa_nil)))), ?_⟩
    obtain ⟨a, b, ht, ha, hb⟩ := hsm.ex
    have nl := hns.l2
    have pl := hps.len
    refine ⟨_, rfl, _, rfl, _, rfl, t, _, _, _, rfl, rfl, SqT.of (hG _ _ ht), at0, G, st, ci, 950 + fuel, a, Str, V.str, ns, rfl, hG, hs.less (by omega), ha, by omega, fun q m H1 g1 hs1 hp1 _ => ?_⟩
    have ml := hp1.length_eq
    refine ⟨upd G q (.lst (m.map V.str)), st, ci, 940 + fuel, q, m, rfl, g1.sub, hs1.less (by omega), .inl upd_same, by omega, fun q2 G2 H2 g2 hs2 hq2 => ?_⟩
    have gA := g1.trans g2
    have hb2 := hb.up gA.gg
    obtain ⟨l, ⟨b1, b2⟩, hl⟩ := hb2
    have ll : l.length = ps.length := by rw [← hl, List.length_map]
    refine ⟨_, rfl, _, rfl, _, rfl, t, _, _, _, rfl, rfl, SqT.of (g2.sub _ _ (gA.gg _ _ ht)), at1, G2, st, ci, 500 + fuel, b, Addr × Pair, fun e => V.ref e.1, l, rfl, g2.sub, hs2.less (by omega), b1, by omega, fun r n H3 g3 hs3 hp3 _ => ?_⟩
    have nl3 := hp3.length_eq
    have hperm : (n.map (·.2)).Perm ps := by rw [← hl]; exact hp3.map _
    have hpr : Prs (upd G2 r (.lst (n.map fun e => V.ref e.1))) r (n.map (·.2)) := ⟨n, ⟨upd_same, fun e he => g3.gg _ _ (b2 e (hp3.mem_iff.mp he))⟩, rfl⟩
    refine ⟨upd G2 r (.lst (n.map fun e => V.ref e.1)), st, ci, 50 + fuel, r, n.map (·.2), rfl, g3.sub, hs3.less (by rw [List.length_map]; omega), hpr, by rw [List.length_map]; omega, fun u G4 H4 g4 hs4 hu => ?_⟩
    have gB := (gA.trans g3).trans g4
    have hq4 : NmQ G4 q2 m := hq2.up (g3.gg.trans g4.gg)
    refine rd_mk g4.sub hq4 hu (hp1.nodup_iff.mpr hns.nd) (fun z hz => hns.ok z (hp1.mem_iff.mp hz)) (by omega) (hperm.nodup_iff.mpr hps.nd) (fun p hp => ?_) (by rw [List.length_map]; omega) fun x G5 H5 g5 hx _ => ?_
    · have := hps.pin p (hperm.mem_iff.mp hp)
      exact ⟨hp1.mem_iff.mpr this.1, hp1.mem_iff.mpr this.2⟩
    · rw [sortS_perm' hp1, sortP_perm' hperm] at hx
      have hs5 := (hs4.less (f' := fuel) (by omega)).step g5
      exact k x G5 H5 (gB.trans (g5.lift hs4.ntS)) hs5 hx
/-! ### z_odd_name, great -/
/-- no statement, whatever the debate -/
inductive OddV (K : PySem.W.Frag) (G : Hp) : V → Prop
  | odd {v : V} {n : String} : Kd K G v n → n ≠ "str" → OddV K G v
  | str {z : Str} : z ∈ (["nobody", "", "Aa"] : List Str) → OddV K G (.str z)
theorem OddV.up {G G' : Hp} {v : V} (h : OddV K G v) (e : Same G G') : OddV K G' v := by
  cases h with
  | odd h n => exact .odd (h.up e) n
  | str h => exact .str h
def spOdd (K : PySem.W.Frag) : Sp := fun vs H Q _ => ∃ (G : Hp) (st ci : Addr) (fuel : Nat), vs = [.ref st] ∧ Same G H ∧ Strm st ci (fuel + 1) G H ∧ ∀ (v : V) (G' H' : Hp), Gr [st, ci] G H G' H' → Strm st ci fuel G' H' → OddV K G' v → Q v H'
theorem sc_odd : FnScope ["_law_stream"] ["_law_stream"] (defScope s_L_z_odd_name) := ⟨rfl, rfl, rfl, by decide +kernel, rfl, by decide +kernel, by decide +kernel⟩
theorem ok_odd (D : Df K mg "_law_z_odd_name" s_L_z_odd_name) (T : Txt K mg) (OP : Ok P w K mg base CX0 2 "_law_pick" ["_law_stream", "_law_some"] spPick) : Ok P w K mg base CX0 3 "_law_z_odd_name" ["_law_stream"] (spOdd K) := by
  refine mkOk D sc_odd (fun _ _ _ _ _ _ us hl => match us, hl with | [_], _ => rfl) (fun vs H Q E h => ?_) fun cdv A outer s H vs Q E hr h => ?_
  · obtain ⟨_, _, _, _, rfl, _⟩ := h
    rfl
  · obtain ⟨G, st, ci, fuel, rfl, hG, hs, k⟩ := h
    refine ⟨_, pss_one (ps_ret (pe_cl OP hr (pa_cons (pv 0) (pa_cons (pe_lst (pa_cons pe_non (pa_cons pe_int (pa_cons pe_str (pa_cons pe_str (pa_cons pe_bl (pa_cons (pe_lst (pa_cons pe_str pa_nil)) (pa_cons (pe_tup (pa_cons pe_str pa_nil)) (pa_cons pe_dnewK (pa_cons pe_str (pa_cons pe_int pa_nil))))))))))) pa_nil)))), ?_⟩
    refine ⟨_, rfl, by show 1 ≤ sizeLine; decide, fun a1 h1 => ⟨by show 1 ≤ sizeLine; decide, fun a2 h2 a3 h3 => ⟨by show 10 ≤ sizeLine; decide, fun a4 h4 => ?_⟩⟩⟩
    have g1 : Gr [] G H _ _ := Gr.new (o := .lst [.str "b"]) hG h1
    have g2 := g1.trans (Gr.new (o := .tup [.str "a"]) g1.sub h2)
    have g3 := g2.trans (Gr.new (o := .dK []) g2.sub h3)
    have g4 := g3.trans (Gr.new (o := .lst [.non, .int 5, .str "nobody", .str "", .bl true, .ref a1, .ref a2, .ref a3, .str "Aa", .int 0]) g3.sub h4)
    have hs4 := hs.step g4
    refine ⟨_, st, ci, fuel, a4, _, rfl, g4.sub, hs4, upd_same, by simp, by simp, fun d v H5 g5 hs5 hv => ?_⟩
    refine k v _ H5 ((g4.lift hs.ntS).trans g5) hs5 ?_
    have n1 := Same.free g3.sub h4
    have n2 := Same.free g2.sub h3
    have n3 := Same.free g1.sub h2
    have k1 := (Same.new (o := .lst [.non, .int 5, .str "nobody", .str "", .bl true, .ref a1, .ref a2, .ref a3, .str "Aa", .int 0]) n1) _ _ ((Same.new (o := .dK []) n2) _ _ ((Same.new (o := .tup [.str "a"]) n3) _ _ (upd_same (H := G) (a := a1) (o := .lst [.str "b"]))))
    have k2 := (Same.new (o := .lst [.non, .int 5, .str "nobody", .str "", .bl true, .ref a1, .ref a2, .ref a3, .str "Aa", .int 0]) n1) _ _ ((Same.new (o := .dK []) n2) _ _ (upd_same (H := upd G a1 (.lst [.str "b"])) (a := a2) (o := .tup [.str "a"])))
    have k3 := (Same.new (o := .lst [.non, .int 5, .str "nobody", .str "", .bl true, .ref a1, .ref a2, .ref a3, .str "Aa", .int 0]) n1) _ _ (upd_same (H := upd (upd G a1 (.lst [.str "b"])) a2 (.tup [.str "a"])) (a := a3) (o := .dK []))
    have hm := List.mem_of_getElem? hv
    simp only [List.mem_cons, List.not_mem_nil, or_false] at hm
    rcases hm with rfl | rfl | rfl | rfl | rfl | rfl | rfl | rfl | rfl | rfl
    · exact .odd .non (by decide)
    · exact .odd (.int 5) (by decide)
    · exact .str (by decide +kernel)
    · exact .str (by decide +kernel)
    · exact .odd (.bl true) (by decide)
    · exact .odd (.lst k1) (by decide)
    · exact .odd (.tup k2) (by decide)
    · exact .odd (.dK k3) (by decide)
    · exact .str (by decide +kernel)
    · exact .odd (.int 0) (by decide)
end
end K80
end
section
set_option Elab.async false
set_option linter.all false
set_option maxRecDepth 100000
set_option maxHeartbeats 4000000
namespace K80
open PySem PySem.Spec PyProof.Rows L2
def gnm (k : Nat) : Str := ("n" : Str) ++ Str.ofString (toString (k : Int))
def gns (n : Nat) : List Str := (List.range n).map gnm
theorem gns_ok : ∀ n < 13, 0 < n → (gns n).Nodup ∧ (gns n).all okNameB = true ∧ (gns n).all (fun z => decide (z ∉ (["nobody", "", "Aa"] : List Str))) = true := by decide +kernel
theorem nm10_no : ∀ z ∈ nm10, z ∉ (["nobody", "", "Aa"] : List Str) := by decide +kernel
section
variable {P : Program} {w : World} {K : PySem.W.Frag} {mg : Str → Option Value} {base : Heap}
def spGreat : Sp := fun vs H Q _ => ∃ (G : Hp) (st ci : Addr) (fuel : Nat), vs = [.ref st] ∧ Same G H ∧ Strm st ci (2100 + fuel) G H ∧ ∀ (t : Addr) (ns : List Str) (ps : List Pair) (G' H' : Hp), Gr [st, ci] G H G' H' → Strm st ci fuel G' H' → Some2 G' t ns ps → NsOk ns → (∀ z ∈ ns, z ∉ (["nobody", "", "Aa"] : List Str)) → 6 ≤ ns.length → PsOk ns ps → Q (.ref t) H'
theorem sc_great : FnScope ["_law_stream", "_law_names", "_law_k"] ["_law_stream"] (defScope s_L_great) := ⟨rfl, rfl, rfl, by decide +kernel, rfl, by decide +kernel, by decide +kernel⟩
theorem ok_great (D : Df K mg "_law_great" s_L_great) (T : Txt K mg) (OD : Ok P w K mg base CX0 1 "_law_draw" ["_law_stream", "_law_many"] spDraw) (OP : Ok P w K mg base CX0 3 "_law_d_pairs" ["_law_stream", "_law_names"] spPairs) : Ok P w K mg base CX0 4 "_law_great" ["_law_stream"] spGreat := by
  refine mkOk D sc_great (fun _ _ _ _ _ _ us hl => match us, hl with | [_], _ => rfl) (fun vs H Q E h => ?_) fun cdv A outer s H vs Q E hr h => ?_
  · obtain ⟨_, _, _, _, rfl, _⟩ := h
    rfl
  · obtain ⟨G, st, ci, fuel, rfl, hG, hs, k⟩ := h
    refine ⟨_, pss_cons (ps_setLc (i := 1) (own := [("_law_k", 2)]) (g := gName 2) (tt := tYes) rfl sc_great.nd rfl rfl (sw_true rfl rfl rfl (by decide +kernel)) (pi_range1 rfl T.range (pa_cons (pe_op op_add pe_int (pe_cl OD (hr.mono (by decide)) (pa_cons (pv 0) (pa_cons pe_int pa_nil)))) pa_nil)) (blkOk_by (own := [("_law_k", 2)]) (N := ["_law_stream", "_law_names", "_law_k"]) (sc := defScope s_L_great) (by decide +kernel))
        (fun _ _ _ _ _ => pg_name (i := 2) sc_great.nd rfl (.inl rfl)) (fun _ _ _ _ _ => pts_nil)
        (fun _ _ _ _ _ => pe_op op_add_str pe_str (pe_callTy call_str_int (by rfl) T.str (by decide +kernel) (pa_cons (pv 2) pa_nil))))
      (pss_one (ps_ret (pe_tup (pa_cons (pv 1) (pa_cons (pe_cl OP hr (pa_cons (pv 0) (pa_cons (pv 1) pa_nil))) pa_nil))))), ?_⟩
    refine ⟨_, rfl, G, st, ci, 2099 + fuel, 7, rfl, hG, hs.less (by omega), by decide, by decide, fun d H1 g1 hs1 hd => ?_⟩
    refine ⟨_, _, rfl, rfl, _, rfl, by omega, by omega, fun R hR => ?_⟩
    have en : ((6 : Int) + (d : Int)).toNat = 6 + d := by omega
    have hRH := g1.off hR
    obtain ⟨R1, R2⟩ := hs.nes hRH
    have gR : G R = none := Same.free hG hRH
    refine hp_range (lo := 0) (n := ((6 : Int) + (d : Int)).toNat) (Step := LcStep _ _ _ _ _ R) (fun i Hc => Same H1 Hc ∧ Hc R = some (.lst ((gns i).map V.str))) ⟨Same.new hR, upd_same⟩ (fun i Hc hi h => ?_) (fun Hc h => ?_)
    · obtain ⟨sc, hc⟩ := h
      rw [en] at hi
      have hlog : (0 + (i : Int)).natAbs.log2 < 1920 := by
        have e : (0 + (i : Int)).natAbs = i := by omega
        rw [e]
        have : i.log2 ≤ i := Nat.log2_le_self i
        omega
      refine ⟨rfl, _, rfl, _, rfl, hlog, _, _, rfl, rfl, ?_, _, hc, szl (by unfold gns; rw [List.length_map, List.length_map, List.length_range]; omega), same_put sc hR, ?_⟩
      · rw [Int.zero_add]
        have : ∀ i : Nat, i < 13 → (("n" : Str).length + (Str.ofString (toString (i : Int))).length ≤ 100) := by decide +kernel
        have h1 := this i (by omega)
        exact Nat.le_trans h1 (sz (by decide))
      · rw [upd_same, Int.zero_add]
        unfold gns
        rw [List.range_succ, List.map_append, List.map_append]
        rfl
    · obtain ⟨sc, hc⟩ := h
      rw [en] at hc
      have hn : 6 + d < 13 := by omega
      obtain ⟨o1, o2, o3⟩ := gns_ok (6 + d) hn (by omega)
      have gl : (gns (6 + d)).length = 6 + d := by unfold gns; rw [List.length_map, List.length_range]
      have hns : NsOk (gns (6 + d)) := ⟨o1, fun z hz => okName_of (List.all_eq_true.mp o2 z hz), by omega, by omega⟩
      have gp := (g1.trans (Gr.same g1.sub sc)).pub hRH gR gR hc
      have hsp := (hs1.same sc).pub (o := .lst ((gns (6 + d)).map V.str)) R1 R2
      refine ⟨_, rfl, _, rfl, _, rfl, upd G R (.lst ((gns (6 + d)).map V.str)), st, ci, 90 + fuel, R, gns (6 + d), rfl, gp.sub, hsp.less (by omega), upd_same, hns, fun b ps G3 H3 g3 hs3 hb hps => ⟨by show 2 ≤ sizeLine; decide, fun t ht => ?_⟩⟩
      have g4 := (gp.trans g3).trans (Gr.new (o := .tup [.ref R, .ref b]) g3.sub ht)
      have sn := Same.new (o := .tup [.ref R, .ref b]) (Same.free g3.sub ht)
      have hRn : Nm (upd G R (.lst ((gns (6 + d)).map V.str))) R (gns (6 + d)) := upd_same
      exact k t (gns (6 + d)) ps _ _ g4 ((hs3.less (by omega)).step (Gr.new g3.sub ht)) ⟨R, b, upd_same, (hRn.up g3.gg).up sn, hb.up sn⟩ hns (fun z hz => of_decide_eq_true (List.all_eq_true.mp o3 z hz)) (by omega) hps
end
end K80
end
section
set_option Elab.async false
set_option linter.all false
set_option maxRecDepth 100000
set_option maxHeartbeats 4000000
namespace K80
open PySem PySem.Spec PyProof.Rows L2
section
variable {P : Program} {w : World} {K : PySem.W.Frag} {mg : Str → Option Value} {base : Heap}
def spNear : Sp := fun vs H Q _ => ∃ (G : Hp) (st ci : Addr) (fuel : Nat) (a b : Addr) (ns : List Str) (ps : List Pair), vs = [.ref st, .ref a, .ref b] ∧ Same G H ∧ Strm st ci (40 + fuel) G H ∧ Nm G a ns ∧ Prs G b ps ∧ NsOk ns ∧ PsOk ns ps ∧
  ∀ (l : Addr) (qs : List Pair) (G' H' : Hp), Gr [st, ci] G H G' H' → Strm st ci fuel G' H' → Prs G' l qs → qs.Nodup → (∀ p ∈ qs, p.1 ∈ ns ∧ p.2 ∈ ns) → qs.length ≤ 403 → Q (.ref l) H'
theorem sc_near : FnScope ["_law_stream", "_law_names", "_law_pairs", "_law_one", "_law_other", "_law_found", "_law_selves", "_law_k", "_law_name", "_law_pair"] ["_law_stream", "_law_names", "_law_pairs"] (defScope s_L_near) := ⟨rfl, rfl, rfl, by decide +kernel, rfl, by decide +kernel, by decide +kernel⟩
/-- a pair put or taken -/
def flip (qs : List Pair) (p : Pair) : List Pair := (qs.filter fun q => !decide (q = p)) ++ (if p ∈ qs then [] else [p])
theorem flip_nd {qs : List Pair} {p : Pair} (h : qs.Nodup) : (flip qs p).Nodup := by
  unfold flip
  rw [List.nodup_append]
  refine ⟨h.sublist List.filter_sublist, by split <;> simp, fun u hu v hv => ?_⟩
  split at hv
  · cases hv
  · rw [List.mem_singleton.mp hv]
    have := (List.mem_filter.mp hu).2
    simpa using this
theorem mem_flip {qs : List Pair} {p q : Pair} (h : q ∈ flip qs p) : q ∈ qs ∨ q = p := by
  unfold flip at h
  rcases List.mem_append.mp h with h | h
  · exact .inl (List.mem_filter.mp h).1
  · split at h
    · cases h
    · exact .inr (List.mem_singleton.mp h)
theorem flip_len (qs : List Pair) (p : Pair) : (flip qs p).length ≤ qs.length + 1 := by
  unfold flip
  rw [List.length_append]
  have := List.length_filter_le (fun q => !decide (q = p)) qs
  split
  · simp; omega
  · simp; omega
def forBody : Stmt → List Stmt
  | .For (body := b) .. => b
  | _ => []
abbrev nearBody : List Stmt := forBody ((defBody s_L_near).getD 1 (.Pass ⟨0, 0, 0, 0⟩))
theorem ok_near (D : Df K mg "_law_near" s_L_near) (T : Txt K mg) (OD : Ok P w K mg base CX0 1 "_law_draw" ["_law_stream", "_law_many"] spDraw) (OP : Ok P w K mg base CX0 2 "_law_pick" ["_law_stream", "_law_some"] spPick) : Ok P w K mg base CX0 3 "_law_near" ["_law_stream", "_law_names", "_law_pairs"] spNear := by
  refine mkOk D sc_near (fun _ _ _ _ _ _ us hl => match us, hl with | [_, _, _], _ => rfl) (fun vs H Q E h => ?_) fun cdv A outer s H vs Q E hr h => ?_
  · obtain ⟨_, _, _, _, _, _, _, _, rfl, _⟩ := h
    rfl
  · obtain ⟨G, st, ci, fuel, a, b, ns, ps, rfl, hG, hs, ha, hb, hns, hps, k⟩ := h
    have hu := hr.units
    have hu5 := hu65 hr
    have hr1 : Room 1 _ := hr.mono (by decide)
    have tailC : ∃ tt, PSs (cxOf CX0 P w K mg base ["_law_stream", "_law_names", "_law_pairs", "_law_one", "_law_other", "_law_found", "_law_selves", "_law_k", "_law_name", "_law_pair"] "_law_near" (defScope s_L_near) (He.ga K "_law_near") cdv A outer s H E).nox (nearBody.drop 2) tt ∧
        ∀ (D : Ends) (z1 z2 : Str) (v1 v2 v6 v7 : Option V) (v0 : Option V) (Gc Hc : Hp) (F : Addr) (qs : List Pair), Same Gc Hc → Prs Gc F qs → (∀ q ∈ qs, okPair q) → qs.length ≤ 1000 → okPair (z1, z2) →
          (∀ (p : Addr) (G2 H2 : Hp), Gr [] Gc Hc G2 H2 → Prs G2 p (flip qs (z1, z2)) → D.nx [v0, v1, v2, some (.str z1), some (.str z2), some (.ref p), v6, v7, none, none] H2) →
          tt D [v0, v1, v2, some (.str z1), some (.str z2), some (.ref F), v6, v7, none, none] Hc := by
      refine ⟨_, (pss_one (ps_set (i := 5) sc_near.nd rfl (.inl rfl) (pe_op op_cat (pe_lc (own := [("_law_pair", 9)]) (g := gName 9) rfl sc_near.nd (pi_list (pv 5)) (blkOk_by (own := [("_law_pair", 9)]) (N := ["_law_stream", "_law_names", "_law_pairs", "_law_one", "_law_other", "_law_found", "_law_selves", "_law_k", "_law_name", "_law_pair"]) (sc := defScope s_L_near) (by decide +kernel))
              (fun _ _ _ _ _ => pg_name (i := 9) sc_near.nd rfl (.inl rfl))
              (fun _ _ _ _ _ => pts_one (pt_cmpR (neDK K hu) (pv 9) (pe_tup (pa_cons (pv 3) (pa_cons (pv 4) pa_nil))) (by rfl)))
              (fun _ _ _ _ _ => pv 9))
            (pe_op op_rep (pe_lst (pa_cons (pe_tup (pa_cons (pv 3) (pa_cons (pv 4) pa_nil))) pa_nil)) (pe_callTy call_int1 (by rfl) T.int (by decide +kernel) (pa_cons (pe_cmpR (op_notInD hu5) (pe_tup (pa_cons (pv 3) (pa_cons (pv 4) pa_nil))) (pv 5) (by rfl)) pa_nil)))))), fun D z1 z2 v1 v2 v6 v7 v0 Gc Hc F qs hG hF hok hlen okz kk => ?_⟩
      have hF0 := hF
      obtain ⟨l, ⟨p1, p2⟩, hl⟩ := hF
      have hll : l.length = qs.length := by rw [← hl, List.length_map]
      refine ⟨_, rfl, F, rfl, ⟨_, SqL.of (hG _ _ p1)⟩, fun R hR => ?_⟩
      refine lc_fm l (fun e => V.ref e.1) (fun e => !decide (e.2 = (z1, z2))) (fun e => V.ref e.1) (SqL.of (hG _ _ p1)) (by omega) hR (fun e he Hd sd Qn Qy hn hy => ?_) fun Hd sd hd => ?_
      · have okp : okPair e.2 := hok _ (by rw [← hl]; exact List.mem_map.mpr ⟨e, he, rfl⟩)
        refine ⟨rfl, _, rfl, _, rfl, _, rfl, by show 2 ≤ sizeLine; decide, fun q hq => ⟨_, _, .tup (SqT.of ((Same.new hq) _ _ (sd _ _ (hG _ _ (p2 e he))))) (.cons (.str _) (.cons (.str _) .nil)), .tup (SqT.of upd_same) (.cons (.str _) (.cons (.str _) .nil)), encP_shaped okp, encP_shaped okz, !decide (e.2 = (z1, z2)), congrArg V.bl (congrArg not (eqv_encP e.2 (z1, z2))), ?_⟩⟩
        by_cases h : e.2 = (z1, z2)
        · rw [decide_eq_true h]
          exact iteF (hn (by rw [decide_eq_true h]; rfl) _ (Same.new hq))
        · rw [decide_eq_false h]
          exact iteT ⟨_, rfl, hy (by rw [decide_eq_false h]; rfl) _ (Same.new hq)⟩
      have g0 : Gr [] Gc Hc Gc Hd := Gr.same hG sd
      refine ⟨_, rfl, _, rfl, by show 2 ≤ sizeLine; decide, fun t ht => ⟨by show 1 ≤ sizeLine; decide, fun l1 hl1 => ?_⟩⟩
      have g1 := g0.trans (Gr.new (o := .tup [.str z1, .str z2]) g0.sub ht)
      have g2 := g1.trans (Gr.hid (o := .lst [.ref t]) g1.sub hl1)
      refine ⟨_, rfl, _, rfl, by show 2 ≤ sizeLine; decide, fun t2 ht2 => ?_⟩
      have g3 := g2.trans (Gr.hid (o := .tup [.str z1, .str z2]) g2.sub ht2)
      refine ⟨_, rfl, _, _, .tup (SqT.of upd_same) (.cons (.str _) (.cons (.str _) .nil)), ((hF0.up g3.gg).up g3.sub).dp, encP_shaped okz, encPs_shaped hok, .inr ⟨_, rfl, ?_⟩⟩
      have hb : (!((qs.map encP).any fun z => PyData.eqv z (PyData.tuple [PyData.str z1, PyData.str z2]))) = !decide ((z1, z2) ∈ qs) := congrArg not (any_encP (z1, z2) qs)
      have hl3 : (upd (upd (upd Hd t (.tup [.str z1, .str z2])) l1 (.lst [.ref t])) t2 (.tup [.str z1, .str z2])) l1 = some (.lst [.ref t]) := (Same.new ht2) _ _ upd_same
      refine ⟨l1, _, [.ref t], rfl, rfl, hl3, ?_, ?_, ?_, fun r hr => ?_⟩
      · split <;> decide
      · split <;> decide
      · split
        · show 1 * 1 ≤ sizeLine
          decide
        · show 1 * 0 ≤ sizeLine
          decide
      rw [hb]
      have hz : ∃ zs : List (Addr × Pair), (List.replicate (Int.toNat (if (!decide ((z1, z2) ∈ qs)) = true then 1 else 0)) [V.ref t]).flatten = zs.map (fun e => V.ref e.1) ∧ zs.map (·.2) = (if (z1, z2) ∈ qs then [] else [(z1, z2)]) ∧ ∀ e ∈ zs, e = (t, (z1, z2)) := by
        by_cases c : (z1, z2) ∈ qs
        · rw [if_pos c, decide_eq_true c]
          exact ⟨[], rfl, rfl, (fun _ h => nomatch h)⟩
        · rw [if_neg c, decide_eq_false c]
          exact ⟨[(t, (z1, z2))], rfl, rfl, fun e he => List.mem_singleton.mp he⟩
      obtain ⟨zs, hz1, hz2, hz3⟩ := hz
      rw [hz1]
      have g4 := g3.trans (Gr.hid (o := .lst (zs.map fun e => V.ref e.1)) g3.sub hr)
      have hzl : zs.length ≤ 1 := by
        have := congrArg List.length hz2
        rw [List.length_map] at this
        rw [this]
        split <;> simp
      have hR4 := (Same.new (o := .lst (zs.map fun e => V.ref e.1)) hr) _ _ ((Same.new (o := .tup [V.str z1, V.str z2]) ht2) _ _ ((Same.new (o := .lst [V.ref t]) hl1) _ _ ((Same.new (o := .tup [V.str z1, V.str z2]) ht) _ _ hd)))
      have hfl : (l.filter fun e => !decide (e.2 = (z1, z2))).length ≤ l.length := List.length_filter_le _ _
      refine ⟨R, r, _, _, rfl, rfl, hR4, upd_same, sz (by rw [List.length_map, List.length_map]; omega), fun p hp => ?_⟩
      rw [← List.map_append]
      have g5 := g4.trans (Gr.new (o := .lst (((l.filter fun e => !decide (e.2 = (z1, z2))) ++ zs).map fun e => V.ref e.1)) g4.sub hp)
      have hpG : (upd Gc t (.tup [V.str z1, V.str z2])) p = none := Same.free g4.sub hp
      refine kk p _ _ g5 ⟨_, ⟨upd_same, fun e he => ?_⟩, ?_⟩
      · refine (Same.new hpG) _ _ ?_
        rcases List.mem_append.mp he with he | he
        · exact g1.gg _ _ (p2 e (List.mem_filter.mp he).1)
        · rw [hz3 e he]
          exact upd_same
      · rw [List.map_append, hz2]
        unfold flip
        rw [← hl, List.filter_map]
        rfl
    obtain ⟨tC, hpC, htC⟩ := tailC
    refine ⟨_, pss_cons (ps_par (i := 5) (j := 6) rfl sc_near.nd rfl rfl (by decide) rfl rfl (pa_cons (pe_callTy call_list_of (by rfl) T.list (by decide +kernel) (pa_cons (pv 2) pa_nil)) (pa_cons (pe_lc (own := [("_law_one", 3), ("_law_other", 4)]) rfl sc_near.nd (pi_list (pv 2)) (blkOk_by (own := [("_law_one", 3), ("_law_other", 4)]) (N := ["_law_stream", "_law_names", "_law_pairs", "_law_one", "_law_other", "_law_found", "_law_selves", "_law_k", "_law_name", "_law_pair"]) (sc := defScope s_L_near) (by decide +kernel))
          (fun _ _ _ _ _ => tupK K (n := 2) rfl (pgs_cons (pg_name (i := 3) sc_near.nd rfl (.inl rfl)) (pgs_cons (pg_name (i := 4) sc_near.nd rfl (.inl rfl)) pgs_nil)))
          (fun _ _ _ _ _ => pts_one (pt_cmpR op_eq (pv 3) (pv 4) (by rfl)))
          (fun _ _ _ _ _ => pv 3)) pa_nil)) rfl)
      (pss_cons (ps_for PassesOwn.never rfl (pi_range1 rfl T.range (pa_cons (pe_op op_add pe_int (pe_cl OD hr1 (pa_cons (pv 0) (pa_cons pe_int pa_nil)))) pa_nil)) (pg_name (i := 7) sc_near.nd rfl (.inl rfl))
        (pss_cons (ps_asg (pe_tup (pa_cons (pe_cl OP hr (pa_cons (pv 0) (pa_cons (pv 1) pa_nil))) (pa_cons (pe_cl OP hr (pa_cons (pv 0) (pa_cons (pv 1) pa_nil))) pa_nil))) (pg_tup rfl (pgs_cons (pg_name (i := 3) sc_near.nd rfl (.inr rfl)) (pgs_cons (pg_name (i := 4) sc_near.nd rfl (.inr rfl)) pgs_nil))))
        (pss_cons (ps_if (PW.pt (pw_and (pt_cmpR (op_neD hu) (pv 6) (pe_lst pa_nil) (by rfl)) (pw_and1 (pt_cmpR op_gt (pe_cl OD hr1 (pa_cons (pv 0) (pa_cons pe_int pa_nil))) pe_int (nomark _)))))
          (pss_cons (ps_set (i := 4) sc_near.nd rfl (.inr rfl) (pe_cl OP hr (pa_cons (pv 0) (pa_cons (pv 6) pa_nil))))
          (pss_one (ps_set (i := 3) sc_near.nd rfl (.inr rfl) (pe_cl OP hr (pa_cons (pv 0) (pa_cons (pe_op op_cat (pv 6) (pe_lc (own := [("_law_name", 8)]) (g := gName 8) rfl sc_near.nd (pi_list (pv 1)) (blkOk_by (own := [("_law_name", 8)]) (N := ["_law_stream", "_law_names", "_law_pairs", "_law_one", "_law_other", "_law_found", "_law_selves", "_law_k", "_law_name", "_law_pair"]) (sc := defScope s_L_near) (by decide +kernel))
              (fun _ _ _ _ _ => pg_name (i := 8) sc_near.nd rfl (.inl rfl))
              (fun _ _ _ _ _ => pts_one (pt_cmpR (inDK K hu5) (pe_tup (pa_cons (pv 4) (pa_cons (pv 8) pa_nil))) (pv 2) (by rfl)))
              (fun _ _ _ _ _ => pv 8))) pa_nil)))))) pss_nil)
        hpC)))
      (pss_one (ps_ret (pv 5)))), ?_⟩
    have hb0 := hb
    obtain ⟨l, ⟨p1, p2⟩, hl⟩ := hb
    have hpl := hps.len
    have hll : l.length = ps.length := by rw [← hl, List.length_map]
    refine ⟨_, rfl, b, _, rfl, .inl (SqL.of (hG _ _ p1)), fun F hF => ?_⟩
    have g0 : Gr [] G H _ _ := Gr.new (o := .lst (l.map fun e => V.ref e.1)) hG hF
    have hF1 : Prs (upd G F (.lst (l.map fun e => V.ref e.1))) F ps := ⟨l, ⟨upd_same, fun e he => (Same.new (Same.free hG hF)) _ _ (p2 e he)⟩, hl⟩
    generalize upd G F (.lst (l.map fun e => V.ref e.1)) = G0 at g0 hF1
    refine ⟨_, rfl, b, rfl, ⟨_, SqL.of (g0.all _ _ (hG _ _ p1))⟩, fun R hR => ?_⟩
    refine lc_fm l (fun e => V.ref e.1) (fun e => decide (e.2.1 = e.2.2)) (fun e => V.str e.2.1) (SqL.of (g0.all _ _ (hG _ _ p1))) (by omega) hR (fun e he Hc sc Qn Qy hn hy => ?_) fun Hc sc hc => ?_
    · refine ⟨e.1, _, rfl, SqT.of (sc _ _ (g0.all _ _ (hG _ _ (p2 e he)))), rfl, _, _, rfl, _, _, rfl, rfl, rfl, _, rfl, _, rfl, rfl, decide (e.2.1 = e.2.2), congrArg V.bl (by rw [dec_str]; exact (Bool.beq_eq_decide_eq _ _)), ?_⟩
      by_cases h1 : e.2.1 = e.2.2
      · rw [decide_eq_true h1]
        exact ⟨_, rfl, hy (decide_eq_true h1) Hc (Same.refl _)⟩
      · rw [decide_eq_false h1]
        exact iteF (hn (decide_eq_false h1) Hc (Same.refl _))
    have e0 : (l.filter fun e => decide (e.2.1 = e.2.2)).map (fun e => V.str e.2.1) = (slf ps).map V.str := by
      unfold slf
      rw [← hl, List.filter_map, List.map_map, List.map_map]
      rfl
    rw [e0] at hc
    have hRH := g0.off hR
    have gR : G R = none := Same.free hG hRH
    have gR0 : G0 R = none := Same.free g0.sub hR
    have gp : Gr [] G H (upd G0 R (.lst ((slf ps).map V.str))) Hc := (g0.trans (Gr.same g0.sub sc)).pub hRH gR gR0 hc
    have hR2 : Nm (upd G0 R (.lst ((slf ps).map V.str))) R (slf ps) := upd_same
    have hF2 := hF1.up (Same.new (o := .lst ((slf ps).map V.str)) gR0)
    generalize upd G0 R (.lst ((slf ps).map V.str)) = G1 at gp hR2 hF2
    have hs1 := hs.step gp
    have gs := gp.lift hs.ntS
    have hsl : (slf ps).length ≤ 400 := by
      unfold slf
      rw [List.length_map]
      exact Nat.le_trans (List.length_filter_le _ _) hpl
    have hsin : ∀ z ∈ slf ps, z ∈ ns := fun z hz => (hps.pin _ (mem_slf.mp hz)).1
    refine ⟨_, _, rfl, ?_⟩
    refine ⟨_, rfl, G1, st, ci, 39 + fuel, 3, rfl, gp.sub, hs1.less (by omega), by decide, by decide, fun d H2 g2 hs2 hd => ?_⟩
    refine ⟨_, _, rfl, rfl, _, rfl, by omega, by omega, ?_⟩
    have en : ((1 : Int) + (d : Int)).toNat = 1 + d := by omega
    refine for_range (lo := 0) (n := ((1 : Int) + (d : Int)).toNat) (fun i σ Hc => ∃ (v3 v4 v7 : Option V) (Gc : Hp) (F : Addr) (qs : List Pair), σ = [some (.ref st), some (.ref a), some (.ref b), v3, v4, some (.ref F), some (.ref R), v7, none, none] ∧ Gr [st, ci] G H Gc Hc ∧ Strm st ci (5 * (3 - i) + fuel) Gc Hc ∧ Nm Gc R (slf ps) ∧ Prs Gc F qs ∧ qs.Nodup ∧ (∀ p ∈ qs, p.1 ∈ ns ∧ p.2 ∈ ns) ∧ qs.length ≤ 400 + i)
      ⟨none, none, none, G1, F, ps, rfl, gs.trans g2, hs2.less (by omega), hR2, hF2, hps.nd, hps.pin, by omega⟩ ?_ ?_
    · rintro i σ Hc hi ⟨v3, v4, v7, Gc, F, qs, rfl, g, hst, hS, hFq, hnd, hpin, hql⟩
      rw [en] at hi
      have hane : (ns.map V.str) ≠ [] := fun z => by
        have := congrArg List.length z
        rw [List.length_map] at this
        have h1 := hns.l1
        simp at this
        rw [this] at h1
        simp at h1
      have hpk : ∀ {ms : List Str} {dd : Nat} {v : V}, (ms.map V.str)[dd]? = some v → ∃ z ∈ ms, v = V.str z := fun {ms dd v} h => by
        obtain ⟨z, hz, e⟩ := get_map h
        exact ⟨z, List.mem_of_getElem? hz, e.symm⟩
      have hn2 := hns.l2
      have haG : Gc a = some (.lst (ns.map V.str)) := g.gg _ _ ha
      have okq : ∀ q ∈ qs, okPair q := fun q hq => ⟨hns.ok _ (hpin q hq).1, hns.ok _ (hpin q hq).2⟩
      refine ⟨_, rfl, _, rfl, Gc, st, ci, 5 * (2 - i) + 4 + fuel, a, _, rfl, g.sub, hst.less (by omega), haG, hane, by rw [List.length_map]; omega, fun d1 w1 H3 g3 hs3 hx3 => ?_⟩
      obtain ⟨z1, hz1, rfl⟩ := hpk hx3
      refine ⟨_, rfl, _, rfl, Gc, st, ci, 5 * (2 - i) + 3 + fuel, a, _, rfl, g3.sub, hs3.less (by omega), haG, hane, by rw [List.length_map]; omega, fun d2 w2 H4 g4 hs4 hx4 => ?_⟩
      obtain ⟨z2, hz2, rfl⟩ := hpk hx4
      have g34 := g3.trans g4
      refine ⟨by show 2 ≤ sizeLine; decide, fun q hq => ?_⟩
      have g5 := g34.trans (Gr.hid (o := .tup [V.str z1, V.str z2]) g34.sub hq)
      have hs5 := hs4.hid (o := .tup [V.str z1, V.str z2]) hq
      refine ⟨q, _, rfl, SqT.of upd_same, rfl, _, _, rfl, _, _, rfl, rfl, ?_⟩
      -- what follows, whatever was chosen
      have fin : ∀ {y1 y2 : Str} {G5 H5 : Hp}, y1 ∈ ns → y2 ∈ ns → Gr [st, ci] Gc Hc G5 H5 → Strm st ci (5 * (2 - i) + fuel) G5 H5 → ∀ {D : Ends}, (∀ {v3 v4 v7 : Option V} {Gc : Hp} {F : Addr} {qs : List Pair} {Hx : Hp}, Gr [st, ci] G H Gc Hx → Strm st ci (5 * (3 - (i + 1)) + fuel) Gc Hx → Nm Gc R (slf ps) → Prs Gc F qs → qs.Nodup → (∀ p ∈ qs, p.1 ∈ ns ∧ p.2 ∈ ns) → qs.length ≤ 400 + (i + 1) → D.nx [some (.ref st), some (.ref a), some (.ref b), v3, v4, some (.ref F), some (.ref R), v7, none, none] Hx) →
          tC D [some (.ref st), some (.ref a), some (.ref b), some (.str y1), some (.str y2), some (.ref F), some (.ref R), some (.int (0 + (i : Int))), none, none] H5 := fun {y1 y2 G5 H5} h1 h2 gg hh {D} kk => by
        refine htC D y1 y2 _ _ _ _ _ G5 H5 F qs gg.sub (hFq.up gg.gg) okq (by omega) ⟨hns.ok _ h1, hns.ok _ h2⟩ fun p G6 H6 g6 hp6 => ?_
        refine kk ((g.trans gg).trans (g6.lift hh.ntS)) ((hh.step g6).less (by omega)) ((hS.up gg.gg).up g6.gg) hp6 (flip_nd hnd) (fun p hp => ?_) (Nat.le_trans (flip_len _ _) (by omega))
        rcases mem_flip hp with hp | hp
        · exact hpin p hp
        · rw [hp]
          exact ⟨h1, h2⟩
      refine ⟨_, rfl, by decide, fun q2 hq2 => ?_⟩
      have g6 := g5.trans (Gr.hid (o := .lst []) g5.sub hq2)
      have hs6 := hs5.hid (o := .lst []) hq2
      refine ⟨_, _, (hS.up g6.sub).dp, .lst (SqL.of upd_same) .nil, encS_shaped fun z hz => hns.ok z (hsin z hz), by decide, !decide (slf ps = []), congrArg V.bl (congrArg not (eqv_encS (slf ps) [])), ?_⟩
      by_cases hse : slf ps = []
      · rw [decide_eq_true hse]
        refine iteF (iteF ?_)
        exact fin hz1 hz2 g6 (hs6.less (by omega)) fun {v3 v4 v7 Gc F qs Hx} a1 a2 a3 a4 a5 a6 a7 => ⟨v3, v4, v7, Gc, F, qs, rfl, a1, a2, a3, a4, a5, a6, a7⟩
      · rw [decide_eq_false hse]
        refine iteT ⟨_, rfl, Gc, st, ci, 5 * (2 - i) + 2 + fuel, 3, rfl, g6.sub, hs6.less (by omega), by decide, by decide, fun d3 H7 g7 hs7 hd3 => ?_⟩
        have g8 := g6.trans g7
        refine ⟨_, _, rfl, rfl, _, rfl, ?_⟩
        by_cases h3 : (0 : Int) < (d3 : Int)
        · rw [decide_eq_true h3]
          have hsne : (slf ps).map V.str ≠ [] := fun z => hse (List.map_eq_nil_iff.mp z)
          refine iteT ⟨_, rfl, _, rfl, Gc, st, ci, 5 * (2 - i) + 1 + fuel, R, _, rfl, g8.sub, hs7.less (by omega), hS, hsne, by rw [List.length_map]; omega, fun d4 w4 H8 g9 hs8 hx8 => ?_⟩
          obtain ⟨y2, hy2, rfl⟩ := hpk hx8
          have g10 := g8.trans g9
          refine ⟨_, rfl, _, rfl, ?_⟩
          have haC := ha.up (g.gg.trans g10.sub)
          refine ⟨_, rfl, a, rfl, ⟨_, haC.l⟩, fun R2 hR2' => ?_⟩
          refine lc_fm ns V.str (fun z => decide ((y2, z) ∈ ps)) V.str haC.l (by omega) hR2' (fun z hz Hd sd Qn Qy hn hy => ?_) fun Hd sd hd' => ?_
          · have hbp := hb0.up (g.gg.trans (g10.sub.trans sd))
            refine ⟨rfl, _, rfl, _, rfl, by show 2 ≤ sizeLine; decide, fun q3 hq3 => ⟨_, rfl, _, _, .tup (SqT.of upd_same) (.cons (.str _) (.cons (.str _) .nil)), (hbp.up (Same.new hq3)).dp, encP_shaped (p := (y2, z)) ⟨hns.ok _ (hsin _ hy2), hns.ok _ hz⟩, encPs_shaped fun p hp => ⟨hns.ok _ (hps.pin p hp).1, hns.ok _ (hps.pin p hp).2⟩, decide ((y2, z) ∈ ps), congrArg V.bl (any_encP (y2, z) ps), ?_⟩⟩
            by_cases h : (y2, z) ∈ ps
            · rw [decide_eq_true h]
              exact iteT ⟨_, rfl, hy (decide_eq_true h) _ (Same.new hq3)⟩
            · rw [decide_eq_false h]
              exact iteF (hn (decide_eq_false h) _ (Same.new hq3))
          · have g11 : Gr [st, ci] Gc Hc Gc Hd := g10.trans (Gr.same g10.sub sd)
            have hs11 := hs8.same sd
            have hfl : (ns.filter fun z => decide ((y2, z) ∈ ps)).length ≤ ns.length := List.length_filter_le _ _
            refine ⟨R, R2, _, _, rfl, rfl, g11.sub _ _ hS, hd', sz (by rw [List.length_map, List.length_map]; omega), fun W hW => ?_⟩
            rw [← List.map_append]
            have g12 := g11.trans (Gr.new (o := .lst ((slf ps ++ ns.filter fun z => decide ((y2, z) ∈ ps)).map V.str)) g11.sub hW)
            have hs12 := hs11.step (Gr.new (o := .lst ((slf ps ++ ns.filter fun z => decide ((y2, z) ∈ ps)).map V.str)) g11.sub hW)
            refine ⟨_, st, ci, 5 * (2 - i) + fuel, W, _, rfl, g12.sub, hs12.less (by omega), upd_same, fun z => hse (List.append_eq_nil_iff.mp (List.map_eq_nil_iff.mp z)).1, by rw [List.length_map, List.length_append]; omega, fun d5 w5 H13 g13 hs13 hx13 => ?_⟩
            obtain ⟨y1, hy1, rfl⟩ := hpk hx13
            have hy1n : y1 ∈ ns := by
              rcases List.mem_append.mp hy1 with h | h
              · exact hsin _ h
              · exact (List.mem_filter.mp h).1
            exact fin hy1n (hsin _ hy2) (g12.trans g13) (hs13.less (by omega)) fun {v3 v4 v7 Gc F qs Hx} a1 a2 a3 a4 a5 a6 a7 => ⟨v3, v4, v7, Gc, F, qs, rfl, a1, a2, a3, a4, a5, a6, a7⟩
        · rw [decide_eq_false h3]
          exact iteF (fin hz1 hz2 g8 (hs7.less (by omega)) fun {v3 v4 v7 Gc F qs Hx} a1 a2 a3 a4 a5 a6 a7 => ⟨v3, v4, v7, Gc, F, qs, rfl, a1, a2, a3, a4, a5, a6, a7⟩)
    · rintro σ Hc ⟨v3, v4, v7, Gc, F, qs, rfl, g, hst, hS, hFq, hnd, hpin, hql⟩
      rw [en] at hql
      exact ⟨_, rfl, k F qs Gc Hc g (hst.less (by omega)) hFq hnd hpin (by omega)⟩
end
end K80
end
section
set_option Elab.async false
set_option linter.all false
set_option maxRecDepth 100000
set_option maxHeartbeats 4000000
namespace K80
open PySem PySem.Spec PyProof.Rows L2
/-! ### twins: the plain law -/
def labStr : Lab → Str
  | .yes => "in"
  | .no => "out"
  | .und => "undecided"
theorem labStr_inj : ∀ {a b : Lab}, labStr a = labStr b → a = b
  | .yes, .yes, _ => rfl
  | .no, .no, _ => rfl
  | .und, .und, _ => rfl
  | .yes, .no, h => absurd h (by decide +kernel)
  | .yes, .und, h => absurd h (by decide +kernel)
  | .no, .yes, h => absurd h (by decide +kernel)
  | .no, .und, h => absurd h (by decide +kernel)
  | .und, .yes, h => absurd h (by decide +kernel)
  | .und, .no, h => absurd h (by decide +kernel)
theorem labS_lab (R : Str → Str → Bool) (L : List Str) (x : Str) : labS R L x = labStr (lab R L x) := by
  unfold labS lab
  by_cases h : x ∈ L
  · have c : L.contains x = true := by simpa using h
    rw [if_pos (decide_eq_true h), if_pos c]
    rfl
  · have c : L.contains x = false := by simpa using h
    rw [if_neg (by simp [h] : ¬ decide (x ∈ L) = true), c]
    cases hit R L x <;> rfl
theorem map_inj' {α β : Type} {f : α → β} (hf : ∀ a b, f a = f b → a = b) : ∀ {l m : List α}, l.map f = m.map f → l = m
  | [], [], _ => rfl
  | [], _ :: _, h => by cases h
  | _ :: _, [], h => by cases h
  | a :: l, b :: m, h => by
    rw [List.map_cons, List.map_cons] at h
    injection h with h1 h2
    rw [hf a b h1, map_inj' hf h2]
theorem map_eq_left {α β : Type} {f g : α → β} : ∀ {l : List α}, l.map f = l.map g → ∀ a ∈ l, f a = g a
  | [], _, _, h => nomatch h
  | b :: l, h, a, ha => by
    rw [List.map_cons, List.map_cons] at h
    injection h with h1 h2
    rcases List.mem_cons.mp ha with rfl | ha
    · exact h1
    · exact map_eq_left h2 a ha
theorem vdS_vd (ps : List Pair) (T : List Str) : vdS ps T = (vd (rel ps) T).map fun p => (p.1, labStr p.2) := by
  unfold vdS vd
  rw [List.map_map]
  refine List.map_congr_left fun x _ => ?_
  show (x, _) = (x, _)
  rw [labS_lab]
theorem vdS_eq {ps qs : List Pair} {T : List Str} : vdS ps T = vdS qs T ↔ vd (rel ps) T = vd (rel qs) T := by
  rw [vdS_vd, vdS_vd]
  refine ⟨fun h => map_inj' (fun a b e => ?_) h, fun h => by rw [h]⟩
  have e1 := congrArg Prod.fst e
  have e2 := congrArg Prod.snd e
  exact Prod.ext e1 (labStr_inj e2)
theorem rel_tw (ps : List Pair) (a b : Str) : rel (tw ps) a b = twR (rel ps) a b := by
  have e : decide ((a, b) ∈ ps.filter (seen ps)) = (decide ((a, b) ∈ ps) && seen ps (a, b)) := by
    refine bool_eq ?_
    rw [decide_eq_true_iff, List.mem_filter, Bool.and_eq_true, decide_eq_true_iff]
  show decide ((a, b) ∈ ps.filter (seen ps)) = _
  rw [e]
  unfold seen twR rel
  simp only [Bool.or_assoc]
theorem rel_twf (ps : List Pair) : rel (tw ps) = twR (rel ps) := funext fun a => funext fun b => rel_tw ps a b
theorem vdS_tw (ps : List Pair) (T : List Str) : vdS (tw ps) T = vdS ps T := by
  rw [vdS_eq, rel_twf]
  exact vd_twin (rel ps) T
theorem vdS_mem {ps qs : List Pair} (h : ∀ p, p ∈ ps ↔ p ∈ qs) (T : List Str) : vdS ps T = vdS qs T :=
  vdS_rel fun a b _ _ => decide_eq_decide.mpr (h (a, b))
theorem perm_of_mem {α : Type} : ∀ {l m : List α}, l.Nodup → m.Nodup → (∀ a, a ∈ l ↔ a ∈ m) → l.Perm m
  | [], m, _, _, h => by
    cases m with
    | nil => exact .refl _
    | cons b m => exact absurd ((h b).mpr (by simp)) (by simp)
  | a :: l, m, h1, h2, h => by
    obtain ⟨n1, n2⟩ := List.nodup_cons.mp h1
    obtain ⟨s, t, rfl⟩ := List.append_of_mem ((h a).mp (by simp))
    have p : (s ++ a :: t).Perm (a :: (s ++ t)) := List.perm_middle
    have h2' := p.nodup_iff.mp h2
    obtain ⟨m1, m2⟩ := List.nodup_cons.mp h2'
    refine (List.Perm.cons a (perm_of_mem n2 m2 fun b => ?_)).trans p.symm
    have hb := (h b).trans p.mem_iff
    rw [List.mem_cons, List.mem_cons] at hb
    constructor
    · intro hl
      rcases hb.mp (.inr hl) with e | e
      · exact absurd (e ▸ hl) n1
      · exact e
    · intro hl
      rcases hb.mpr (.inr hl) with e | e
      · exact absurd (e ▸ hl) m1
      · exact e
theorem sortP_eq {ps qs : List Pair} (h1 : ps.Nodup) (h2 : qs.Nodup) : sortP ps = sortP qs ↔ ∀ p, p ∈ ps ↔ p ∈ qs := by
  constructor
  · intro h p
    rw [← mem_sortP, h, mem_sortP]
  · intro h
    exact sortP_perm' (perm_of_mem h1 h2 h)
theorem seen_sort (ps : List Pair) (p : Pair) : seen (sortP ps) p = seen ps p := by
  unfold seen
  simp only [mem_sortP]
theorem tw_sort (ps : List Pair) : tw (sortP ps) = sortP (tw ps) := by
  unfold tw
  rw [sortP_filter]
  exact List.filter_congr fun p _ => seen_sort ps p
theorem tw_sub {ps : List Pair} {p : Pair} (h : p ∈ tw ps) : p ∈ ps := (List.mem_filter.mp h).1
theorem tw_nd {ps : List Pair} (h : ps.Nodup) : (tw ps).Nodup := h.sublist List.filter_sublist
theorem tw_tw (ps : List Pair) : tw (tw ps) = tw ps := by
  refine List.filter_eq_self.mpr fun p hp => ?_
  have e : rel (tw (tw ps)) p.1 p.2 = rel (tw ps) p.1 p.2 := by
    rw [rel_tw, rel_twf, twR_twR]
  have h1 : rel (tw ps) p.1 p.2 = true := decide_eq_true hp
  rw [h1] at e
  exact (List.mem_filter.mp (of_decide_eq_true e : (p.1, p.2) ∈ tw (tw ps))).2
theorem subF_all : ∀ (n : Nat) (l : List Str), l.length = n → ∀ L : List Str, L.Sublist l → L ∈ subF l
  | 0, l, h, L, hL => by
    rw [List.length_eq_zero_iff.mp h] at hL ⊢
    rw [List.sublist_nil.mp hL]
    simp [subF]
  | n + 1, l, h, L, hL => by
    have hne : l ≠ [] := fun z => by rw [z] at h; cases h
    have hd : l.dropLast.length = n := by rw [List.length_dropLast, h]; rfl
    have e := List.dropLast_concat_getLast hne
    rw [← e] at hL
    rw [← e, subF_snoc]
    obtain ⟨L1, L2, rfl, h1, h2⟩ := List.sublist_append_iff.mp hL
    have m1 := subF_all n _ hd L1 h1
    cases h2 with
    | cons _ h2 =>
      rw [List.sublist_nil.mp h2, List.append_nil]
      exact List.mem_append_left _ m1
    | cons_cons _ h2 =>
      rw [List.sublist_nil.mp h2]
      exact List.mem_append_right _ (List.mem_map.mpr ⟨L1, m1, rfl⟩)
theorem tabs_all {ns L : List Str} (h : L.Sublist (sortS ns)) (h0 : 0 < L.length) : L ∈ tabs ns := by
  have hl := h.length_le
  rw [sortS_len] at hl
  refine List.mem_flatMap.mpr ⟨L.length - 1, List.mem_range.mpr (by omega), List.mem_filter.mpr ⟨?_, decide_eq_true (by omega)⟩⟩
  exact (List.mergeSort_perm _ _).mem_iff.mpr (subF_all _ _ rfl _ h)
theorem sort_subl {ns L : List Str} (h : L.Sublist (sortS ns)) : sortS L = L := linS.self ((linS.sorted ns).sublist h)
theorem pair_sub {α : Type} {a b : α} (ne : a ≠ b) : ∀ {l : List α}, a ∈ l → b ∈ l → [a, b].Sublist l ∨ [b, a].Sublist l
  | [], h, _ => nomatch h
  | c :: l, ha, hb => by
    rcases List.mem_cons.mp ha with e1 | ha'
    · subst e1
      rcases List.mem_cons.mp hb with e2 | hb'
      · exact absurd e2.symm ne
      · exact .inl ((List.singleton_sublist.mpr hb').cons_cons _)
    · rcases List.mem_cons.mp hb with e2 | hb'
      · subst e2
        exact .inr ((List.singleton_sublist.mpr ha').cons_cons _)
      · rcases pair_sub ne ha' hb' with h | h
        · exact .inl (h.cons _)
        · exact .inr (h.cons _)
theorem tw_of_avs {ns : List Str} {ps qs : List Pair} {m : Nat} (hm : 2 ≤ m) (h : avs ns ps m = avs ns qs m) {a b : Str} (ha : a ∈ ns) (hb : b ∈ ns) : twR (rel ps) a b = twR (rel qs) a b := by
  have key : ∀ T : List Str, T.Sublist (sortS ns) → 0 < T.length → T.length ≤ 2 → vd (rel ps) T = vd (rel qs) T := fun T h1 h2 h3 => by
    have := map_eq_left h T (List.mem_filter.mpr ⟨tabs_all h1 h2, decide_eq_true (by omega)⟩)
    have this : vdS ps (sortS T) = vdS qs (sortS T) := this
    rw [sort_subl h1] at this
    exact vdS_eq.mp this
  have one : ∀ c ∈ ns, vd (rel ps) [c] = vd (rel qs) [c] := fun c hc => key [c] (List.singleton_sublist.mpr (mem_sortS.mpr hc)) (by simp) (by simp)
  by_cases e : a = b
  · subst e
    exact twR_self_of_one (one a ha)
  · rcases pair_sub e (mem_sortS.mpr ha) (mem_sortS.mpr hb) with s | s
    · exact (twR_of_two e (one a ha) (one b hb) (key _ s (by simp) (by simp))).1
    · exact (twR_of_two (Ne.symm e) (one b hb) (one a ha) (key _ s (by simp) (by simp))).2
theorem avs_iff {ns : List Str} {ps qs : List Pair} {m : Nat} (hm : 2 ≤ m) (n1 : ps.Nodup) (n2 : qs.Nodup) (p1 : ∀ p ∈ ps, p.1 ∈ ns ∧ p.2 ∈ ns) (p2 : ∀ p ∈ qs, p.1 ∈ ns ∧ p.2 ∈ ns) : avs ns ps m = avs ns qs m ↔ sortP (tw ps) = sortP (tw qs) := by
  rw [sortP_eq (tw_nd n1) (tw_nd n2)]
  constructor
  · intro h p
    have key : p.1 ∈ ns → p.2 ∈ ns → (p ∈ tw ps ↔ p ∈ tw qs) := fun ha hb => by
      have e := tw_of_avs hm h ha hb
      rw [← rel_tw, ← rel_tw] at e
      exact decide_eq_decide.mp e
    exact ⟨fun hp => (key (p1 p (tw_sub hp)).1 (p1 p (tw_sub hp)).2).mp hp, fun hp => (key (p2 p (tw_sub hp)).1 (p2 p (tw_sub hp)).2).mpr hp⟩
  · intro h
    unfold avs
    refine List.map_congr_left fun T _ => ?_
    rw [← vdS_tw ps, ← vdS_tw qs]
    exact vdS_mem h _
end K80
end
section
set_option Elab.async false
set_option linter.all false
set_option maxRecDepth 100000
set_option maxHeartbeats 4000000
namespace K80
open PySem PySem.Spec PyProof.Rows L2
/-! ### zip of two lists, two tuples, in a comprehension -/
section
variable {K : PySem.W.Frag} {a b : Addr} {xs ys : List V} {Step : (Hp → Prop) → V → Hp → Prop} {Fin : Hp → Prop} {H0 : Hp}
theorem hp_zipL (hl : xs.length = ys.length) (Pv : Nat → Hp → Prop) (h0 : Pv 0 H0) (hq : ∀ i H, Pv i H → SqL K H a xs ∧ SqL K H b ys)
    (hs : ∀ (i : Nat) (x y : V) (T : Addr) (H : Hp), xs[i]? = some x → ys[i]? = some y → Pv i H → H T = none → Step (Pv (i + 1)) (.ref T) (upd H T (.tup [x, y]))) (hd : ∀ H, Pv xs.length H → Fin H) :
    ∃ W : Nat → Nat → Hp → Prop, (∃ m, W 0 m H0) ∧ ∀ i m H, W i m H → ((Itz K a b).stop i H ∧ Fin H) ∨ ((Itz K a b).go i H ∧ ∃ Nx : Hp → Prop, (∀ H', Nx H' → ∃ m', m' < m ∧ W (i + 1) m' H') ∧ ∀ v H', (Itz K a b).yld i H v H' → Step Nx v H') := by
  refine ⟨fun i m H => m = xs.length - i ∧ i ≤ xs.length ∧ Pv i H, ⟨xs.length, rfl, Nat.zero_le _, h0⟩, ?_⟩
  rintro i m H ⟨rfl, hi, p⟩
  obtain ⟨qx, qy⟩ := hq i H p
  by_cases hlt : i < xs.length
  · have hx : xs[i]? = some xs[i] := List.getElem?_eq_getElem hlt
    have hlt2 : i < ys.length := by omega
    have hy : ys[i]? = some ys[i] := List.getElem?_eq_getElem hlt2
    refine .inr ⟨⟨xs, ys, _, _, qx, qy, hx, hy⟩, Pv (i + 1), fun H' p' => ⟨xs.length - (i + 1), by omega, rfl, hlt, p'⟩, fun v H' y => ?_⟩
    obtain ⟨T, x', y', rfl, hT, rfl, f1, f2⟩ := y
    exact hs i x' y' T H (f1 xs qx) (f2 ys qy) p hT
  · have e : i = xs.length := by omega
    subst e
    exact .inl ⟨⟨xs, ys, qx, qy, Or.inl (Nat.le_refl _)⟩, hd H p⟩
theorem hp_zipT (hl : xs.length = ys.length) (Pv : Nat → Hp → Prop) (h0 : Pv 0 H0) (hq : ∀ i H, Pv i H → SqT K H a xs ∧ SqT K H b ys)
    (hs : ∀ (i : Nat) (x y : V) (T : Addr) (H : Hp), xs[i]? = some x → ys[i]? = some y → Pv i H → H T = none → Step (Pv (i + 1)) (.ref T) (upd H T (.tup [x, y]))) (hd : ∀ H, Pv xs.length H → Fin H) :
    ∃ W : Nat → Nat → Hp → Prop, (∃ m, W 0 m H0) ∧ ∀ i m H, W i m H → ((RZ.ItzT K a b).stop i H ∧ Fin H) ∨ ((RZ.ItzT K a b).go i H ∧ ∃ Nx : Hp → Prop, (∀ H', Nx H' → ∃ m', m' < m ∧ W (i + 1) m' H') ∧ ∀ v H', (RZ.ItzT K a b).yld i H v H' → Step Nx v H') := by
  refine ⟨fun i m H => m = xs.length - i ∧ i ≤ xs.length ∧ Pv i H, ⟨xs.length, rfl, Nat.zero_le _, h0⟩, ?_⟩
  rintro i m H ⟨rfl, hi, p⟩
  obtain ⟨qx, qy⟩ := hq i H p
  by_cases hlt : i < xs.length
  · have hx : xs[i]? = some xs[i] := List.getElem?_eq_getElem hlt
    have hlt2 : i < ys.length := by omega
    have hy : ys[i]? = some ys[i] := List.getElem?_eq_getElem hlt2
    refine .inr ⟨⟨xs, ys, _, _, qx, qy, hx, hy⟩, Pv (i + 1), fun H' p' => ⟨xs.length - (i + 1), by omega, rfl, hlt, p'⟩, fun v H' y => ?_⟩
    obtain ⟨T, x', y', rfl, hT, rfl, f1, f2⟩ := y
    exact hs i x' y' T H (f1 xs qx) (f2 ys qy) p hT
  · have e : i = xs.length := by omega
    subst e
    exact .inl ⟨⟨xs, ys, qx, qy, Or.inl (Nat.le_refl _)⟩, hd H p⟩
end
/-! ### same -/
def Atm (x y : V) : Prop := (∃ z, x = .str z ∧ y = .str z) ∨ ∃ b, x = .bl b ∧ y = .bl b
/-- equal things, lists and tuples at most n deep -/
def Eqd (G : Hp) : Nat → V → V → Prop
  | 0, _, _ => False
  | n + 1, x, y => Atm x y ∨ ∃ a b xs ys, x = .ref a ∧ y = .ref b ∧ ((G a = some (.lst xs) ∧ G b = some (.lst ys)) ∨ (G a = some (.tup xs) ∧ G b = some (.tup ys))) ∧ xs.length = ys.length ∧ xs.length ≤ 1000000 ∧ ∀ (i : Nat) x y, xs[i]? = some x → ys[i]? = some y → Eqd G n x y
section
variable {P : Program} {w : World} {K : PySem.W.Frag} {mg : Str → Option Value} {base : Heap}
def spSame (n : Nat) : Sp := fun vs H Q _ => ∃ (G : Hp) (x y : V), vs = [x, y] ∧ Same G H ∧ Eqd G n x y ∧ ∀ H', Same H H' → Q (.bl true) H'
def spSameD : Sp := fun vs H Q _ => ∃ (G : Hp) (a b : Addr) (l : List (Str × Str)), vs = [.ref a, .ref b] ∧ Same G H ∧ G a = some (.dK (dv l)) ∧ G b = some (.dK (dv l)) ∧ l.length ≤ 1000 ∧ ∀ H', Same H H' → Q (.bl true) H'
theorem sc_same : FnScope ["_law_found", "_law_due", "_law_x", "_law_y"] ["_law_found", "_law_due"] (defScope s_L_same) := ⟨rfl, rfl, rfl, by decide +kernel, rfl, by decide +kernel, by decide +kernel⟩
theorem ok_same0 (D : Df K mg "_law_same" s_L_same) : Ok P w K mg base CX0 1 "_law_same" ["_law_found", "_law_due"] (spSame 0) := by
  refine mkOk D sc_same (fun _ _ _ _ _ _ us hl => match us, hl with | [_, _], _ => rfl) (fun vs H Q E h => ?_) fun cdv A outer s H vs Q E hr h => ?_
  · obtain ⟨_, _, _, rfl, _⟩ := h
    rfl
  · obtain ⟨_, _, _, _, _, h, _⟩ := h
    exact h.elim
theorem ok_same {n k : Nat} (D : Df K mg "_law_same" s_L_same) (T : Txt K mg) (O : Ok P w K mg base CX0 k "_law_same" ["_law_found", "_law_due"] (spSame n)) : Ok P w K mg base CX0 (k + 1) "_law_same" ["_law_found", "_law_due"] (spSame (n + 1)) := by
  refine mkOk D sc_same (fun _ _ _ _ _ _ us hl => match us, hl with | [_, _], _ => rfl) (fun vs H Q E h => ?_) fun cdv A outer s H vs Q E hr h => ?_
  · obtain ⟨_, _, _, rfl, _⟩ := h
    rfl
  · obtain ⟨G, x, y, rfl, hG, he, kk⟩ := h
    refine ⟨_, pss_cons (ps_if (pt_val (pe_callB call_isM (by rfl) T.isi (by decide +kernel) (pa_cons (pv 1) (pa_cons (pe_tup (pa_cons (pe_ty "list" T.list) (pa_cons (pe_ty "tuple" T.tuple) pa_nil))) pa_nil))))
        (pss_cons (ps_if (PW.pt (pw_or (pt_cmpR op_ne (pe_callB call_is1 (by rfl) T.isi (by decide +kernel) (pa_cons (pv 0) (pa_cons (pe_ty "list" T.list) pa_nil))) (pe_callB call_is1 (by rfl) T.isi (by decide +kernel) (pa_cons (pv 1) (pa_cons (pe_ty "list" T.list) pa_nil))) (nomark _))
            (pw_or1 (pt_cmpR op_ne (pe_callB call_is1 (by rfl) T.isi (by decide +kernel) (pa_cons (pv 0) (pa_cons (pe_ty "tuple" T.tuple) pa_nil))) (pe_callB call_is1 (by rfl) T.isi (by decide +kernel) (pa_cons (pv 1) (pa_cons (pe_ty "tuple" T.tuple) pa_nil))) (nomark _))))) (pss_one ps_never) pss_nil)
        (pss_one (ps_ret (pe_and (pe_cmpR op_eq (pe_callB call_len_seq (by rfl) T.len PySem.boot_len (pa_cons (pv 0) pa_nil)) (pe_callB call_len_seq (by rfl) T.len PySem.boot_len (pa_cons (pv 1) pa_nil)) (nomark _))
          (pe_one (pe_callB (cr_all rfl) (by rfl) T.all (by decide +kernel) (pa_cons (pe_lc (own := [("_law_x", 2), ("_law_y", 3)]) (tt := tYes) rfl sc_same.nd (RZ.pi_zipA (by rfl) T.zip (pa_cons (pv 0) (pa_cons (pv 1) pa_nil))) (blkOk_by (own := [("_law_x", 2), ("_law_y", 3)]) (N := ["_law_found", "_law_due", "_law_x", "_law_y"]) (sc := defScope s_L_same) (by decide +kernel))
            (fun _ _ _ _ _ => tupK K (n := 2) rfl (pgs_cons (pg_name (i := 2) sc_same.nd rfl (.inl rfl)) (pgs_cons (pg_name (i := 3) sc_same.nd rfl (.inl rfl)) pgs_nil))) (fun _ _ _ _ _ => pts_nil)
            (fun _ _ _ _ _ => pe_cl O hr (pa_cons (pv 2) (pa_cons (pv 3) pa_nil)))) pa_nil))))))) pss_nil)
      (pss_cons (ps_if (pt_val (pe_callB call_is1 (by rfl) T.isi (by decide +kernel) (pa_cons (pv 1) (pa_cons (pe_ty "dict" T.dict) pa_nil)))) (pss_one ps_never) pss_nil)
      (pss_cons (ps_if (pt_val (pe_callB call_is1 (by rfl) T.isi (by decide +kernel) (pa_cons (pv 1) (pa_cons (pe_ty "int" T.int) pa_nil))))
        (pss_one (ps_ret (pe_and (pe_callB call_is1 (by rfl) T.isi (by decide +kernel) (pa_cons (pv 0) (pa_cons (pe_ty "int" T.int) pa_nil)))
          (pe_and (pe_cmpR op_eq (pe_callB call_is1 (by rfl) T.isi (by decide +kernel) (pa_cons (pv 0) (pa_cons (pe_ty "bool" T.bool) pa_nil))) (pe_callB call_is1 (by rfl) T.isi (by decide +kernel) (pa_cons (pv 1) (pa_cons (pe_ty "bool" T.bool) pa_nil))) (nomark _))
          (pe_one (pe_cmpR op_eq (pv 0) (pv 1) (by rfl))))))) pss_nil)
      (pss_one (ps_ret (pe_and (pe_not (pe_callB call_isM (by rfl) T.isi (by decide +kernel) (pa_cons (pv 0) (pa_cons (pe_tup (pa_cons (pe_ty "int" T.int) (pa_cons (pe_ty "list" T.list) (pa_cons (pe_ty "tuple" T.tuple) (pa_cons (pe_ty "dict" T.dict) pa_nil))))) pa_nil)))) (pe_one (pe_cmpR op_eq (pv 0) (pv 1) (by rfl)))))))), ?_⟩
    rcases he with (⟨z, rfl, rfl⟩ | ⟨c, rfl, rfl⟩) | ⟨a, b, xs, ys, rfl, rfl, hab, hl, hz, hx⟩
    · refine ⟨_, rfl, by show 2 ≤ sizeLine; decide, fun p hp => ⟨.str z, "str", p, ["list", "tuple"], rfl, upd_same, by decide, .str z, _, rfl, iteF ?_⟩⟩
      refine ⟨_, rfl, .str z, "str", "dict", rfl, .str z, by decide, _, rfl, iteF ?_⟩
      refine ⟨_, rfl, .str z, "str", "int", rfl, .str z, by decide, _, rfl, iteF ?_⟩
      refine ⟨_, rfl, by show 4 ≤ sizeLine; decide, fun q hq => ⟨.str z, "str", q, ["int", "list", "tuple", "dict"], rfl, upd_same, by decide, .str z, _, rfl, _, rfl, iteT ?_⟩⟩
      refine ⟨_, rfl, _, rfl, rfl, ?_⟩
      rw [decide_eq_true rfl]
      exact kk _ ((Same.new hp).trans (Same.new hq))
    · refine ⟨_, rfl, by show 2 ≤ sizeLine; decide, fun p hp => ⟨.bl c, "bool", p, ["list", "tuple"], rfl, upd_same, by decide, .bl c, _, rfl, iteF ?_⟩⟩
      refine ⟨_, rfl, .bl c, "bool", "dict", rfl, .bl c, by decide, _, rfl, iteF ?_⟩
      refine ⟨_, rfl, .bl c, "bool", "int", rfl, .bl c, by decide, _, rfl, iteT ?_⟩
      refine ⟨_, rfl, .bl c, "bool", "int", rfl, .bl c, by decide, _, rfl, iteT ?_⟩
      refine ⟨_, rfl, .bl c, "bool", "bool", rfl, .bl c, by decide, _, rfl, .bl c, "bool", "bool", rfl, .bl c, by decide, rfl, _, rfl, iteT ?_⟩
      refine ⟨_, rfl, _, rfl, rfl, ?_⟩
      rw [decide_eq_true rfl]
      exact kk _ (Same.new hp)
    · have kd : ∃ m, (∀ H', Same G H' → Kd K H' (.ref a) m ∧ Kd K H' (.ref b) m) ∧ listy m = true ∧ (["list", "tuple"] : List String).any (fun q => isKind m q) = true := by
        rcases hab with ⟨ha, hb⟩ | ⟨ha, hb⟩
        · exact ⟨"list", fun H' e => ⟨.lst (e _ _ ha), .lst (e _ _ hb)⟩, by decide, by decide⟩
        · exact ⟨"tuple", fun H' e => ⟨.tup (e _ _ ha), .tup (e _ _ hb)⟩, by decide, by decide⟩
      obtain ⟨m, kd, hm, hm2⟩ := kd
      refine ⟨_, rfl, by show 2 ≤ sizeLine; decide, fun p hp => ⟨.ref b, m, p, ["list", "tuple"], rfl, upd_same, by decide, (kd _ (hG.trans (Same.new hp))).2, _, rfl, ?_⟩⟩
      rw [hm2]
      have s1 : Same H (upd H p (.tup (["list", "tuple"].map V.ty))) := Same.new hp
      have g1 := hG.trans s1
      obtain ⟨k1, k2⟩ := kd _ g1
      refine iteT ⟨_, rfl, .ref a, m, "list", rfl, k1, by decide, _, rfl, .ref b, m, "list", rfl, k2, by decide, rfl, _, rfl, ?_⟩
      rw [decide_eq_true rfl]
      refine iteF ⟨_, rfl, .ref a, m, "tuple", rfl, k1, by decide, _, rfl, .ref b, m, "tuple", rfl, k2, by decide, rfl, _, rfl, ?_⟩
      rw [decide_eq_true rfl]
      refine iteF ?_
      have sq : ∀ {H'}, Same G H' → (SqL K H' a xs ∧ SqL K H' b ys) ∨ (SqT K H' a xs ∧ SqT K H' b ys) := fun e => hab.elim (fun h => .inl ⟨SqL.of (e _ _ h.1), SqL.of (e _ _ h.2)⟩) fun h => .inr ⟨SqT.of (e _ _ h.1), SqT.of (e _ _ h.2)⟩
      refine ⟨_, rfl, a, xs, rfl, (sq g1).elim (fun h => .inl h.1) (fun h => .inr h.1), _, rfl, b, ys, rfl, (sq g1).elim (fun h => .inl h.2) (fun h => .inr h.2), rfl, true, ?_, iteT ?_⟩
      · rw [hl, decide_eq_true rfl]
      have step : ∀ {D : Addr} (i : Nat) (x y : V) (T' : Addr) (Hc : Hp), (upd H p (.tup (["list", "tuple"].map V.ty))) D = none → xs[i]? = some x → ys[i]? = some y → (Same (upd H p (.tup (["list", "tuple"].map V.ty))) Hc ∧ Hc D = some (.lst ((List.replicate i true).map V.bl))) → Hc T' = none →
          ∀ Hd, Same (upd Hc T' (.tup [x, y])) Hd → ∃ acc, Hd D = some (.lst acc) ∧ acc.length < sizeLine ∧ (Same (upd H p (.tup (["list", "tuple"].map V.ty))) (upd Hd D (.lst (acc ++ [V.bl true]))) ∧ (upd Hd D (.lst (acc ++ [V.bl true]))) D = some (.lst ((List.replicate (i + 1) true).map V.bl))) := by
        intro D i x y T' Hc hD hx _ ⟨sc, hc⟩ hT Hd sd
        have sT := (Same.new (o := .tup [x, y]) hT).trans sd
        have hi := lt_of_get hx
        refine ⟨_, sT _ _ hc, szl (by rw [List.length_map, List.length_replicate]; omega), same_put (sc.trans sT) hD, ?_⟩
        rw [upd_same, List.replicate_succ', List.map_append]
        rfl
      have fin : ∀ {D : Addr} (Hc : Hp), (Same (upd H p (.tup (["list", "tuple"].map V.ty))) Hc ∧ Hc D = some (.lst ((List.replicate xs.length true).map V.bl))) → ∃ (a : Addr) (bs : List Bool), [V.ref D] = [V.ref a] ∧ SqL K Hc a (bs.map V.bl) ∧ Q (.bl (bs.all id)) Hc := by
        intro D Hc ⟨sc, hc⟩
        refine ⟨D, _, rfl, SqL.of hc, ?_⟩
        have e : (List.replicate xs.length true).all id = true := by
          rw [List.all_eq_true]
          intro b hb
          rw [(List.mem_replicate.mp hb).2]
          rfl
        rw [e]
        exact kk _ (s1.trans sc)
      refine ⟨_, rfl, _, rfl, a, b, xs, ys, rfl, ?_⟩
      rcases sq g1 with ⟨q1, q2⟩ | ⟨q1, q2⟩
      · refine .inl ⟨q1, q2, fun D hD => ?_⟩
        refine hp_zipL (Step := LcStep _ _ _ _ _ D) hl (fun i Hc => Same (upd H p (.tup (["list", "tuple"].map V.ty))) Hc ∧ Hc D = some (.lst ((List.replicate i true).map V.bl))) ⟨Same.new hD, upd_same⟩ (fun i Hc h => ⟨h.1.seq q1, h.1.seq q2⟩) (fun i x y T' Hc h1 h2 h hT => ?_) (fun Hc h => fin Hc h)
        refine ⟨T', _, rfl, SqT.of upd_same, rfl, _, _, rfl, _, _, rfl, rfl, rfl, _, rfl, _, rfl, G, x, y, rfl, (g1.trans h.1).trans (Same.new hT), hx i x y h1 h2, fun Hd sd => ?_⟩
        exact step i x y T' Hc hD h1 h2 h hT Hd sd
      · refine .inr ⟨q1, q2, fun D hD => ?_⟩
        refine hp_zipT (Step := LcStep _ _ _ _ _ D) hl (fun i Hc => Same (upd H p (.tup (["list", "tuple"].map V.ty))) Hc ∧ Hc D = some (.lst ((List.replicate i true).map V.bl))) ⟨Same.new hD, upd_same⟩ (fun i Hc h => ⟨Same.seqT h.1 q1, Same.seqT h.1 q2⟩) (fun i x y T' Hc h1 h2 h hT => ?_) (fun Hc h => fin Hc h)
        refine ⟨T', _, rfl, SqT.of upd_same, rfl, _, _, rfl, _, _, rfl, rfl, rfl, _, rfl, _, rfl, G, x, y, rfl, (g1.trans h.1).trans (Same.new hT), hx i x y h1 h2, fun Hd sd => ?_⟩
        exact step i x y T' Hc hD h1 h2 h hT Hd sd
theorem paired_at {α β : Type} {F : α → β → Prop} : ∀ {l : List α} {m : List β}, Paired F l m → ∀ {i : Nat} {x : α}, l[i]? = some x → ∃ y, m[i]? = some y ∧ F x y
  | _, _, .nil, _, _, h => by simp at h
  | _, _, .cons h t, 0, x, e => by
    have e : _ = x := Option.some.inj e
    subst e
    exact ⟨_, rfl, h⟩
  | _, _, .cons h t, i + 1, x, e => paired_at t (i := i) e
theorem ok_sameD {k : Nat} (D : Df K mg "_law_same" s_L_same) (T : Txt K mg) (O : Ok P w K mg base CX0 k "_law_same" ["_law_found", "_law_due"] (spSame 3)) : Ok P w K mg base CX0 (k + 1) "_law_same" ["_law_found", "_law_due"] spSameD := by
  refine mkOk D sc_same (fun _ _ _ _ _ _ us hl => match us, hl with | [_, _], _ => rfl) (fun vs H Q E h => ?_) fun cdv A outer s H vs Q E hr h => ?_
  · obtain ⟨_, _, _, _, rfl, _⟩ := h
    rfl
  · obtain ⟨G, a, b, l, rfl, hG, ha, hb, hl, kk⟩ := h
    refine ⟨_, pss_cons (ps_if (pt_val (pe_callB call_isM (by rfl) T.isi (by decide +kernel) (pa_cons (pv 1) (pa_cons (pe_tup (pa_cons (pe_ty "list" T.list) (pa_cons (pe_ty "tuple" T.tuple) pa_nil))) pa_nil)))) (pss_cons ps_never (pss_one ps_never)) pss_nil)
      (pss_cons (ps_if (pt_val (pe_callB call_is1 (by rfl) T.isi (by decide +kernel) (pa_cons (pv 1) (pa_cons (pe_ty "dict" T.dict) pa_nil))))
        (pss_one (ps_ret (pe_and (pe_callB call_is1 (by rfl) T.isi (by decide +kernel) (pa_cons (pv 0) (pa_cons (pe_ty "dict" T.dict) pa_nil)))
          (pe_one (pe_cl O hr (pa_cons (LiI.pe_listItems rfl (pv 0) (by rfl) T.list (by decide +kernel)) (pa_cons (LiI.pe_listItems rfl (pv 1) (by rfl) T.list (by decide +kernel)) pa_nil)))))))
        pss_nil)
      (pss_cons ps_never (pss_one ps_never))), ?_⟩
    refine ⟨_, rfl, by show 2 ≤ sizeLine; decide, fun p hp => ⟨.ref b, "dict", p, ["list", "tuple"], rfl, upd_same, by decide, .dK ((Same.new hp) _ _ (hG _ _ hb)), _, rfl, iteF ?_⟩⟩
    have s1 : Same H (upd H p (.tup (["list", "tuple"].map V.ty))) := Same.new hp
    have a1 := s1 _ _ (hG _ _ ha)
    have b1 := s1 _ _ (hG _ _ hb)
    refine ⟨_, rfl, .ref b, "dict", "dict", rfl, .dK b1, by decide, _, rfl, iteT ?_⟩
    refine ⟨_, rfl, .ref a, "dict", "dict", rfl, .dK a1, by decide, _, rfl, iteT ?_⟩
    refine ⟨_, rfl, a, dv l, rfl, a1, fun H2 q ts e2 hq hts hqt h2 p2 => ?_⟩
    have s2 : Same (upd H p (.tup (["list", "tuple"].map V.ty))) H2 := fun b o e => e2 b o e
    refine ⟨_, rfl, b, dv l, rfl, s2 _ _ b1, fun H3 q' ts' e3 hq' hts' hqt' h3 p3 => ?_⟩
    have s3 : Same H2 H3 := fun b o e => e3 b o e
    have l1 : ts.length = l.length := by
      have := Paired.length p2
      unfold dv at this
      rw [List.length_map] at this
      exact this
    have l2 : ts'.length = l.length := by
      have := Paired.length p3
      unfold dv at this
      rw [List.length_map] at this
      exact this
    refine ⟨H3, .ref q, .ref q', rfl, Same.refl _, .inr ⟨q, q', _, _, rfl, rfl, .inl ⟨s3 _ _ h2, h3⟩, by rw [List.length_map, List.length_map]; omega, by rw [List.length_map]; omega, fun i x y hx hy => ?_⟩, fun H4 e4 => kk _ (s1.trans (s2.trans (s3.trans e4)))⟩
    obtain ⟨t, ht, rfl⟩ := get_map hx
    obtain ⟨t', ht', rfl⟩ := get_map hy
    obtain ⟨y1, g1, f1⟩ := paired_at p2 ht
    obtain ⟨y2, g2, f2⟩ := paired_at p3 ht'
    rw [g1] at g2
    have e12 : y1 = y2 := Option.some.inj g2
    subst e12
    obtain ⟨e, _, rfl⟩ := get_map (f := fun p : Str × Str => ((Sum.inr p.1 : Key), V.str p.2)) g1
    refine .inr ⟨t, t', _, _, rfl, rfl, .inr ⟨s3 _ _ f1, f2⟩, rfl, by simp, fun j u v hu hv => ?_⟩
    rw [hu] at hv
    have e2 : u = v := Option.some.inj hv
    subst e2
    have hm := List.mem_of_getElem? hu
    refine .inl (.inl ?_)
    rcases List.mem_cons.mp hm with rfl | hm
    · exact ⟨e.1, rfl, rfl⟩
    · rw [List.mem_singleton.mp hm]
      exact ⟨e.2, rfl, rfl⟩
end
end K80
end
section
set_option Elab.async false
set_option linter.all false
set_option maxRecDepth 100000
set_option maxHeartbeats 4000000
namespace K80
open PySem PySem.Spec PyProof.Rows L2
/-! ### met: what it makes of what it is handed -/
section
variable {P : Program} {w : World} {K : PySem.W.Frag} {mg : Str → Option Value} {base : Heap}
/-- what is told besides of the class -/
structure BMore (K : PySem.W.Frag) (B : Addr) : Prop where
  xf : XfC K B
  em : PySem.W.exmOne K (.ref B) (.ref B) = some true
def TMet (B : Addr) : (XK → Hp → VK → Prop) → Hp → VK → Prop := fun tl H Q =>
  tl (fun cls d H' => cls = .ref B ∧ ∃ (dd : Addr) (i : Int), d = some dd ∧ H' dd = some (.xd (ixF i)) ∧ ∀ t, H' t = none → Q (.ref t) (upd H' t (.tup [.str "lot", .int i]))) H (fun v H' => ([V.str "told", v] : List V).length ≤ sizeLine ∧ ∀ t, H' t = none → Q (.ref t) (upd H' t (.tup [.str "told", v])))
theorem sc_met : FnScope ["_law_ask", "e"] ["_law_ask"] (defScope s_L_met) := ⟨rfl, rfl, rfl, by decide +kernel, rfl, by decide +kernel, by decide +kernel⟩
theorem takes_len {X : Cx} {W : WX} {E : XK} (tk : Takes X W) (h : ∀ cls d σ H, σ.length = X.N.length → E cls d H → W cls d σ H) : Takes X (fun cls d _ H => E cls d H) :=
  fun u s' ⟨a, B, sI, pins, σ, H, cls, d, e, I, nb, up, sky, na, os, ag, w⟩ => tk u s' ⟨a, B, sI, pins, σ, H, cls, d, e, I, nb, up, sky, na, os, ag, h _ _ _ _ I.len w⟩
theorem met_gives0 {X : Cx} {B fB g : Addr} {cdg : Value} {q : Str} {j1 j2 k1 k2} {p1 p2 p3 p4 p6 p7 p8 q1 q2 q3 q4 q5 q6 : Pos} (BT : BTxt X.K X.mg B fB) (BM : BMore X.K B) : LamX.GivesTo X ["_law_ask", "e"] "_law_met" (defScope s_L_met) g cdg
    [.Try [.Return (some (.Tuple [.Constant (.str "told") j1 q1, .Call (.Name "_law_ask" p1) [] [] p2] k1 q2)) p3] [.ExceptHandler (some (.Name "BadLot" p4)) (some "e") [.Return (some (.Tuple [.Constant (.str "lot") j2 q3, .Attribute (.Name "e" q4) "index" q5] k2 q6)) p6] p7] [] [] p8] "_law_ask" q (TMet B) := by
  intro f c' s H Q tl act hc h
  refine ⟨_, pss_one (ps_try_as (X := (cxOf C8.CX0 X.prog X.w X.K X.mg X.base ["_law_ask", "e"] "_law_met" (defScope s_L_met) g cdg X.A X.stack s H C8.E0).nox) (c := .ref B) (i := 1)
      (tb := fun W D σ H => ∃ Ech : XK, (∀ cls d σ' H', σ'.length = 2 → Ech cls d H' → W cls d σ' H') ∧ σ[0]? = some (some (.ref f)) ∧ H c' = some (LamX.CodeO c' q) ∧ tl Ech H (fun v H' => ([V.str "told", v] : List V).length ≤ sizeLine ∧ ∀ t, H' t = none → D.rt (.ref t) (upd H' t (.tup [.str "told", v]))))
      rfl rfl sc_met.nd rfl rfl ⟨rfl, by decide, .inl BT.mg⟩ LamX.takes0 (fun W pn xe tk _ => ?_) (fun a oe cls d pn hz hf => pss_one (ps_ret (pe_tup (pa_cons pe_str (pa_cons (pe_xf BM.xf BT.no hz hf (pv 1)) pa_nil)))))), ?_⟩
  · refine ⟨fun pins s' σ H' D I h' => ?_⟩
    obtain ⟨Ech, hW, h1, h2, h3⟩ := h'
    have hp := act (fun cls d _ H => Ech cls d H) pn xe Ech p1 p2 (takes_len tk hW) (fun _ _ _ _ h => h)
    have hq := pss_one (ps_ret (pos := p3) (pe_tup (x1 := k1) (pos := q2) (pa_cons (pe_str (x := "told") (j := j1) (pos := q1)) (pa_cons hp pa_nil))))
    exact hq.run pins s' σ H' D I ⟨h1, h2, h3⟩
  · refine ⟨_, fun cls d σ' H' hl he => ?_, rfl, hc, h⟩
    obtain ⟨rfl, dd, i, rfl, hdd, k⟩ := he
    refine ⟨true, BM.em, fun _ a ha => ?_, fun z => by cases z⟩
    match σ', hl with
    | [u, v], _ =>
      exact ⟨_, rfl, rfl, rfl, dd, ixF i, .int i, rfl, hdd, by simp [ixF, List.lookup], by show 2 ≤ sizeLine; decide, fun t ht => k t ht⟩
theorem met_gives {X : Cx} {B fB g : Addr} {cdg : Value} {q : Str} (BT : BTxt X.K X.mg B fB) (BM : BMore X.K B) : LamX.GivesTo X ["_law_ask", "e"] "_law_met" (defScope s_L_met) g cdg (defBody s_L_met) "_law_ask" q (TMet B) := met_gives0 BT BM
end
end K80
end
section
set_option Elab.async false
set_option linter.all false
set_option maxRecDepth 100000
set_option maxHeartbeats 4000000
namespace K80
open PySem PySem.Spec PyProof.Rows L2
/-! ### twins_right -/
theorem nodup_le {α : Type} : ∀ {l m : List α}, l.Nodup → (∀ x ∈ l, x ∈ m) → l.length ≤ m.length
  | [], _, _, _ => Nat.zero_le _
  | a :: l, m, h, hs => by
    obtain ⟨n1, n2⟩ := List.nodup_cons.mp h
    obtain ⟨s, t, rfl⟩ := List.append_of_mem (hs a (by simp))
    have := nodup_le (l := l) (m := s ++ t) n2 fun x hx => by
      have hm := hs x (by simp [hx])
      rcases List.mem_append.mp hm with q | q
      · exact List.mem_append_left _ q
      · rcases List.mem_cons.mp q with e | q
        · exact absurd (e ▸ hx) n1
        · exact List.mem_append_right _ q
    rw [List.length_append] at this
    rw [List.length_append, List.length_cons, List.length_cons]
    omega
theorem prod_len {α : Type} (m : List α) : ∀ l : List α, (l.flatMap fun a => m.map fun b => (a, b)).length = l.length * m.length
  | [] => by simp
  | a :: l => by
    rw [List.flatMap_cons, List.length_append, List.length_map, prod_len m l, List.length_cons, Nat.succ_mul]
    omega
theorem few_pairs {ns : List Str} {ps : List Pair} (hn : ns.length ≤ 4) (h1 : ps.Nodup) (h2 : ∀ p ∈ ps, p.1 ∈ ns ∧ p.2 ∈ ns) : ps.length ≤ 16 := by
  have h := nodup_le (m := ns.flatMap fun a => ns.map fun b => (a, b)) h1 fun p hp => by
    obtain ⟨a, b⟩ := h2 p hp
    exact List.mem_flatMap.mpr ⟨p.1, a, List.mem_map.mpr ⟨p.2, b, rfl⟩⟩
  rw [prod_len] at h
  have : ns.length * ns.length ≤ 4 * 4 := Nat.mul_le_mul hn hn
  omega
theorem cut_drop {xs : List V} (i : Nat) : cutV xs (some (i : Int)) none = xs.drop i := by
  unfold cutV
  rw [show HT.sIx xs.length xs.length none = xs.length from rfl, HT.sIx_nat]
  rcases Nat.le_total i xs.length with h | h
  · rw [Nat.min_eq_left h, List.take_of_length_le (by rw [List.length_drop]; omega)]
  · rw [Nat.min_eq_right h, List.drop_of_length_le (Nat.le_refl _), List.drop_of_length_le h]
    simp
theorem vdS_keys (ps : List Pair) (T : List Str) : (vdS ps T).map (·.1) = T := by
  unfold vdS
  rw [List.map_map]
  exact List.map_id' T
theorem avs_keys (ns : List Str) (ps qs : List Pair) (m : Nat) : (avs ns ps m).map (fun d => d.map (·.1)) = (avs ns qs m).map (fun d => d.map (·.1)) := by
  unfold avs
  rw [List.map_map, List.map_map]
  refine List.map_congr_left fun T _ => ?_
  show (vdS ps _).map (·.1) = (vdS qs _).map (·.1)
  rw [vdS_keys, vdS_keys]
theorem avs_nd {ns : List Str} {ps : List Pair} {m : Nat} (hn : ns.Nodup) {d : List (Str × Str)} (h : d ∈ avs ns ps m) : (d.map (·.1)).Nodup := by
  unfold avs at h
  obtain ⟨T, hT, rfl⟩ := List.mem_map.mp h
  rw [vdS_keys]
  exact nodup_sortS ((nodup_sortS hn).sublist (mem_tabs (List.mem_filter.mp hT).1).1)
theorem look_st (so oo d1 d2 : Addr) : (dfs so oo d1 d2).lookup ("statements" : Str) = none := by
  have h1 : (("statements" : Str) == ("own_statements" : Str)) = false := by decide +kernel
  have h2 : (("statements" : Str) == ("own_objections" : Str)) = false := by decide +kernel
  have h3 : (("statements" : Str) == ("own_objectors" : Str)) = false := by decide +kernel
  have h4 : (("statements" : Str) == ("own_objected" : Str)) = false := by decide +kernel
  simp [dfs, List.lookup, h1, h2, h3, h4]
theorem look_ob (so oo d1 d2 : Addr) : (dfs so oo d1 d2).lookup ("objections" : Str) = none := by
  have h1 : (("objections" : Str) == ("own_statements" : Str)) = false := by decide +kernel
  have h2 : (("objections" : Str) == ("own_objections" : Str)) = false := by decide +kernel
  have h3 : (("objections" : Str) == ("own_objectors" : Str)) = false := by decide +kernel
  have h4 : (("objections" : Str) == ("own_objected" : Str)) = false := by decide +kernel
  simp [dfs, List.lookup, h1, h2, h3, h4]
theorem eqd_nm {G : Hp} {n : Nat} {a b : Addr} {ns : List Str} (ha : Nm G a ns) (hb : Nm G b ns) (hl : ns.length ≤ 1000000) : Eqd G (n + 2) (.ref a) (.ref b) := by
  refine .inr ⟨a, b, _, _, rfl, rfl, .inl ⟨ha, hb⟩, rfl, by rw [List.length_map]; exact hl, fun i x y hx hy => ?_⟩
  rw [hx] at hy
  have e : x = y := Option.some.inj hy
  subst e
  obtain ⟨z, _, rfl⟩ := get_map hx
  exact .inl (.inl ⟨z, rfl, rfl⟩)
theorem eqd_prs {G : Hp} {n : Nat} {a b : Addr} {ps : List Pair} (ha : Prs G a ps) (hb : Prs G b ps) (hl : ps.length ≤ 1000000) : Eqd G (n + 3) (.ref a) (.ref b) := by
  obtain ⟨l, ⟨h1, h2⟩, e1⟩ := ha
  obtain ⟨l', ⟨h1', h2'⟩, e2⟩ := hb
  have ll : l.length = ps.length := by rw [← e1, List.length_map]
  have ll' : l'.length = ps.length := by rw [← e2, List.length_map]
  refine .inr ⟨a, b, _, _, rfl, rfl, .inl ⟨h1, h1'⟩, by rw [List.length_map, List.length_map]; omega, by rw [List.length_map]; omega, fun i x y hx hy => ?_⟩
  obtain ⟨e, he, rfl⟩ := get_map hx
  obtain ⟨e', he', rfl⟩ := get_map hy
  have q1 : ps[i]? = some e.2 := by rw [← e1, List.getElem?_map, he]; rfl
  have q2 : ps[i]? = some e'.2 := by rw [← e2, List.getElem?_map, he']; rfl
  have q : e.2 = e'.2 := Option.some.inj (q1.symm.trans q2)
  have t1 := h2 e (List.mem_of_getElem? he)
  have t2 := h2' e' (List.mem_of_getElem? he')
  rw [← q] at t2
  refine .inr ⟨e.1, e'.1, _, _, rfl, rfl, .inr ⟨t1, t2⟩, rfl, by simp, fun j u v hu hv => ?_⟩
  rw [hu] at hv
  have e3 : u = v := Option.some.inj hv
  subst e3
  refine .inl (.inl ?_)
  rcases List.mem_cons.mp (List.mem_of_getElem? hu) with rfl | hm
  · exact ⟨_, rfl, rfl⟩
  · rw [List.mem_singleton.mp hm]
    exact ⟨_, rfl, rfl⟩
theorem spInit_mono {C : Addr} {vs : List V} {H : Hp} {Q Q' : VK} {E : XK} (h : ∀ v H, Q v H → Q' v H) (q : spInit C vs H Q E) : spInit C vs H Q' E := by
  obtain ⟨G, x, a, b, ns, ps, dx, e1, e2, e3, e4, e5, e6, e7, e8, e9, e10, e11, e12, k⟩ := q
  exact ⟨G, x, a, b, ns, ps, dx, e1, e2, e3, e4, e5, e6, e7, e8, e9, e10, e11, e12, fun G' H' so oo d1 d2 dx' g1 g2 g3 g4 => h _ _ (k G' H' so oo d1 d2 dx' g1 g2 g3 g4)⟩
section
variable {P : Program} {w : World} {K : PySem.W.Frag} {mg : Str → Option Value} {base : Heap}
def spTR (C : Addr) : Sp := fun vs H Q _ => ∃ (G : Hp) (st ci : Addr) (fuel : Nat) (t x : Addr) (ns : List Str) (ps : List Pair), vs = [.ref st, .ref t, .ref x] ∧ Same G H ∧ Strm st ci (1100 + fuel) G H ∧ Some2 G t ns ps ∧ NsOk ns ∧ ns.length ≤ 4 ∧ PsOk ns ps ∧ DebAt C G x (sortS ns) (sortP ps) ∧
  ∀ G' H', Gr [st, ci] G H G' H' → Strm st ci fuel G' H' → Q (.bl true) H'
theorem sc_tr : FnScope ["_law_stream", "_law_some", "_law_made", "_law_names", "_law_pairs", "_law_more", "_law_other", "_law_least", "_law_due"] ["_law_stream", "_law_some", "_law_made"] (defScope s_L_twins_right) := ⟨rfl, rfl, rfl, by decide +kernel, rfl, by decide +kernel, by decide +kernel⟩
theorem ok_tr {C fI fS fO fE : Addr} (D : Df K mg "_law_twins_right" s_L_twins_right) (T : Txt K mg) (DT : DTxt K mg C fI) (DM : DMore K C fS fO fE) (OI : OkM P w K mg base CX0 5 fI ["self", "statements", "objections"] (spInit C)) (OE : OkM P w K mg base CX0 1 fE ["self", "other"] (spDEq C))
    (OGS : OkM P w K mg base CX0 1 fS ["self"] (spGetS C)) (OGO : OkM P w K mg base CX0 1 fO ["self"] (spGetO C)) (ON : Ok P w K mg base CX0 3 "_law_near" ["_law_stream", "_law_names", "_law_pairs"] spNear)
    (OZ : Ok P w K mg base CX0 7 "_law_z_made" ["_law_stream", "_law_some"] (spZM C)) (OL : Ok P w K mg base CX0 7 "least_twin" ["debate"] (spTwin C)) (OV : Ok P w K mg base CX0 6 "_law_all_verdicts" ["_law_names", "_law_pairs", "_law_most"] spAV)
    (OT : Ok P w K mg base CX0 8 "are_twins" ["one", "other"] (spTwins C)) (O2 : Ok P w K mg base CX0 3 "_law_same" ["_law_found", "_law_due"] (spSame 2)) (O4 : Ok P w K mg base CX0 5 "_law_same" ["_law_found", "_law_due"] (spSame 4)) (OZT : Ok P w K mg base CX0 1 "_law_z_twin" ["_law_pairs"] spZT) :
    Ok P w K mg base CX0 9 "_law_twins_right" ["_law_stream", "_law_some", "_law_made"] (spTR C) := by
  refine mkOk D sc_tr (fun _ _ _ _ _ _ us hl => match us, hl with | [_, _, _], _ => rfl) (fun vs H Q E h => ?_) fun cdv A outer s H vs Q E hr h => ?_
  · obtain ⟨_, _, _, _, _, _, _, _, rfl, _⟩ := h
    rfl
  · obtain ⟨G, st, ci, fuel, t, x, ns, ps, rfl, hG, hs, hsm, hns, hlen, hps, hx, k⟩ := h
    have hu := hr.units
    have two : 2 ≤ sizeLine := by decide
    obtain ⟨fdE, FE, hbE⟩ := OE
    obtain ⟨fdS, FS, hbS⟩ := OGS
    obtain ⟨fdO, FO, hbO⟩ := OGO
    have hr1 : Room 1 _ := hr.mono (by decide)
    have hr6 : Room 6 _ := hr.mono (by decide)
    have hr7 : Room 7 _ := hr.mono (by decide)
    refine ⟨_, pss_cons (ps_asg (pv 1) (pg_tup rfl (pgs_cons (pg_name (i := 3) sc_tr.nd rfl (.inl rfl)) (pgs_cons (pg_name (i := 4) sc_tr.nd rfl (.inl rfl)) pgs_nil))))
      (pss_cons (ps_set (i := 5) sc_tr.nd rfl (.inl rfl) (pe_cl ON (hr.mono (by decide)) (pa_cons (pv 0) (pa_cons (pv 3) (pa_cons (pv 4) pa_nil)))))
      (pss_cons (ps_par (i := 6) (j := 7) rfl sc_tr.nd rfl rfl (by decide) rfl rfl (pa_cons (pe_cl OZ hr7 (pa_cons (pv 0) (pa_cons (pe_tup (pa_cons (pv 3) (pa_cons (pv 5) pa_nil))) pa_nil))) (pa_cons (pe_cl OL hr7 (pa_cons (pv 2) pa_nil)) pa_nil)) rfl)
      (pss_cons (ps_set (i := 8) sc_tr.nd rfl (.inl rfl) (pe_cmpR (op_eqLD hu) (pe_cl OV hr6 (pa_cons (pv 3) (pa_cons (pv 4) (pa_cons pe_int pa_nil)))) (pe_cl OV hr6 (pa_cons (pv 3) (pa_cons (pv 5) (pa_cons pe_int pa_nil)))) (by rfl)))
      (pss_cons (ps_if (pt_not (pt_val (pe_cl O2 (hr.mono (by decide)) (pa_cons (pe_lst (pa_cons (pe_cl OT hr (pa_cons (pv 2) (pa_cons (pv 6) pa_nil))) (pa_cons (pe_cl OT hr (pa_cons (pv 6) (pa_cons (pv 2) pa_nil))) pa_nil))) (pa_cons (pe_lst (pa_cons (pv 8) (pa_cons (pv 8) pa_nil))) pa_nil))))) (pss_one ps_never) pss_nil)
      (pss_cons (ps_if (pt_cmpR op_ne (pv 8) (pe_cmpR (op_eqLD hu) (pe_cl OV hr6 (pa_cons (pv 3) (pa_cons (pv 4) (pa_cons pe_int pa_nil)))) (pe_cl OV hr6 (pa_cons (pv 3) (pa_cons (pv 5) (pa_cons pe_int pa_nil)))) (by rfl)) (nomark _)) (pss_one ps_never) pss_nil)
      (pss_cons (ps_if (PW.pt (pw_or (pt_cmpR op_ne (pv 8) (pe_cmpR (op_eqOwn FE DM.me.at_ DM.me.fn hbE (E := E0) pass0 hr1) (pv 7) (pe_cl OL hr7 (pa_cons (pv 6) pa_nil)) (by rfl)) (nomark _))
          (pw_or1 (pt_cmpR op_ne (pv 8) (pe_cmpR (op_eqD hu) (pe_cl OZT hr1 (pa_cons (pv 4) pa_nil)) (pe_cl OZT hr1 (pa_cons (pv 5) pa_nil)) (by rfl)) (nomark _))))) (pss_one ps_never) pss_nil)
      (pss_cons (ps_if (pt_not (pt_val (pe_cl O4 (hr.mono (by decide)) (pa_cons (pe_lst (pa_cons (pe_meth0 (pv 7) DT.cl DM.ms FS hr1 hbS .nil pass0) (pa_cons (pe_meth0 (pv 7) DT.cl DM.mo FO hr1 hbO .nil pass0) pa_nil)))
          (pa_cons (pe_lst (pa_cons (pe_callB (cr_sortQ hu) (by rfl) T.sorted (by decide +kernel) (pa_cons (pv 3) pa_nil)) (pa_cons (pe_cl OZT hr1 (pa_cons (pv 4) pa_nil)) pa_nil))) pa_nil))))) (pss_one ps_never) pss_nil)
      (pss_cons (ps_if (PW.pt (pw_or (pt_cmpR op_notBl (pe_cl OT hr (pa_cons (pv 2) (pa_cons (pe_mk DT OI hr6 (pa_cons (pe_slice sl_list (pv 3) (po_some pe_int) po_none) (pa_cons (pe_lst pa_nil) pa_nil))) pa_nil))) pe_bl (nomark _))
          (pw_or1 (pt_cmpR op_notBl (pe_cl OT hr (pa_cons (pv 2) (pa_cons (pv 7) pa_nil))) pe_bl (nomark _))))) (pss_one ps_never) pss_nil)
      (pss_one (ps_ret (pe_cmpR (op_eqOwn FE DM.me.at_ DM.me.fn hbE (E := E0) pass0 hr1) (pe_cl OL hr7 (pa_cons (pv 7) pa_nil)) (pv 7) (by rfl)))))))))))), ?_⟩
    obtain ⟨a, b, ht, ha, hb⟩ := hsm.ex
    have okp : ∀ p ∈ ps, okPair p := fun p hp => ⟨hns.ok _ (hps.pin p hp).1, hns.ok _ (hps.pin p hp).2⟩
    have pl := hps.len
    have nl1 := hns.l1
    refine ⟨_, rfl, t, _, rfl, SqT.of (hG _ _ ht), rfl, _, _, rfl, _, _, rfl, rfl, ?_⟩
    refine ⟨_, rfl, _, rfl, _, rfl, G, st, ci, 1060 + fuel, a, b, ns, ps, rfl, hG, hs.less (by omega), ha, hb, hns, hps, fun m qs G1 H1 g1 hs1 hm hqn hqin hql => ?_⟩
    have hqs : PsOk ns qs := ⟨hqn, hqin, by have := few_pairs hlen hqn hqin; omega⟩
    have okq : ∀ p ∈ qs, okPair p := fun p hp => ⟨hns.ok _ (hqin p hp).1, hns.ok _ (hqin p hp).2⟩
    refine ⟨_, rfl, _, rfl, _, rfl, two, fun tp htp => ?_⟩
    have g2n : Gr [] G1 H1 _ _ := Gr.new (o := .tup [.ref a, .ref m]) g1.sub htp
    have g2 := g1.trans (Gr.new (o := .tup [.ref a, .ref m]) g1.sub htp)
    have hs2 := hs1.step g2n
    have sm2 : Some2 (upd G1 tp (.tup [.ref a, .ref m])) tp ns qs := ⟨a, m, upd_same, (ha.up g1.gg).up g2n.gg, hm.up g2n.gg⟩
    refine ⟨_, st, ci, fuel, tp, ns, qs, rfl, g2.sub, hs2.less (by omega), sm2, hns, hqs, fun x2 G3 H3 g3 hs3 hx2 => ?_⟩
    have g3a := g2.trans g3
    refine ⟨_, rfl, G3, x, sortS ns, sortP ps, rfl, g3.sub, hx.up g3a.gg, fun y G4 H4 g4 hy => ?_⟩
    have g4a := g3a.trans (g4.lift hs3.ntS)
    have hs4 := hs3.step g4
    have hx4 := hx.up g4a.gg
    have hx24 := hx2.up g4.gg
    have ha4 := ha.up g4a.gg
    have hb4 := hb.up g4a.gg
    have hm4 := hm.up ((g2n.gg.trans g3.gg).trans g4.gg)
    refine ⟨_, _, rfl, ?_⟩
    -- what all the comparisons come to
    obtain ⟨c, hc⟩ : ∃ c, c = decide (sortP (tw ps) = sortP (tw qs)) := ⟨_, rfl⟩
    have c9 : decide (avs ns ps 9 = avs ns qs 9) = c := by rw [hc]; exact decide_eq_decide.mpr (avs_iff (by decide) hps.nd hqn hps.pin hqin)
    have c2 : decide (avs ns ps 2 = avs ns qs 2) = c := by rw [hc]; exact decide_eq_decide.mpr (avs_iff (by decide) hps.nd hqn hps.pin hqin)
    have cT : decide (sortS ns = sortS ns ∧ tw (sortP ps) = tw (sortP qs)) = c := by
      rw [hc, tw_sort, tw_sort]
      exact decide_eq_decide.mpr ⟨fun h => h.2, fun h => ⟨rfl, h⟩⟩
    have cT' : decide (sortS ns = sortS ns ∧ tw (sortP qs) = tw (sortP ps)) = c := by
      rw [hc, tw_sort, tw_sort]
      exact decide_eq_decide.mpr ⟨fun h => h.2.symm, fun h => ⟨rfl, h.symm⟩⟩
    have avl : ∀ {G5 H5 : Hp} {r : Nat} {ks : List Pair} {l1 : Addr} {acc1 : List (Addr × List (Str × Str))}, acc1.map (·.2) = avs ns ks r → ∀ e ∈ acc1, (e.2.map (·.1)).Nodup := fun {G5 H5 r ks l1 acc1} hv e he => avs_nd hns.nd (by rw [← hv]; exact List.mem_map.mpr ⟨e, he, rfl⟩)
    have avk : ∀ {r : Nat} {acc1 acc2 : List (Addr × List (Str × Str))}, acc1.map (·.2) = avs ns ps r → acc2.map (·.2) = avs ns qs r → acc1.map (fun e => e.2.map (·.1)) = acc2.map (fun e => e.2.map (·.1)) := fun {r acc1 acc2} h1 h2 => by
      have := avs_keys ns ps qs r
      rw [← h1, ← h2, List.map_map, List.map_map] at this
      exact this
    refine ⟨_, rfl, _, rfl, G4, a, b, ns, ps, 9, rfl, g4.sub, ha4, hns, hlen, hb4, by omega, fun l1 G5 H5 acc1 g5 hl1 hc1 hv1 => ?_⟩
    refine ⟨_, rfl, _, rfl, G5, a, m, ns, qs, 9, rfl, g5.sub, ha4.up g5.gg, hns, hlen, hm4.up g5.gg, by omega, fun l2 G6 H6 acc2 g6 hl2 hc2 hv2 => ?_⟩
    refine ⟨l1, l2, acc1, acc2, rfl, rfl, SqL.of (g6.sub _ _ (g6.gg _ _ hl1)), SqL.of (g6.sub _ _ hl2), fun e he => g6.sub _ _ (g6.gg _ _ (hc1 e he)), fun e he => g6.sub _ _ (hc2 e he), avk hv1 hv2, avl (G5 := G5) (H5 := H5) (l1 := l1) hv1, ?_⟩
    rw [hv1, hv2, c9]
    have g6a := g4a.trans ((g5.trans g6).lift hs4.ntS)
    have hs6 := hs4.step (g5.trans g6)
    have u6 := (g5.trans g6).gg
    have hx6 := hx4.up u6
    have hx26 := hx24.up u6
    have hy6 := hy.up u6
    have ha6 := ha4.up u6
    have hb6 := hb4.up u6
    have hm6 := hm4.up u6
    clear hl1 hl2 hc1 hc2 hv1 hv2 acc1 acc2 l1 l2
    -- are_twins, both ways
    refine ⟨_, rfl, _, rfl, G6, x, sortS ns, sortP ps, x2, sortS ns, sortP qs, rfl, g6.sub, hx6, hx26, fun H7 e7 => ?_⟩
    rw [cT]
    refine ⟨_, rfl, _, rfl, G6, x2, sortS ns, sortP qs, x, sortS ns, sortP ps, rfl, g6.sub.trans e7, hx26, hx6, fun H8 e8 => ?_⟩
    rw [cT']
    refine ⟨two, fun q1 hq1 => ⟨_, rfl, _, rfl, two, fun q2 hq2 => ?_⟩⟩
    refine ⟨_, .ref q1, .ref q2, rfl, Same.refl _, .inr ⟨q1, q2, _, _, rfl, rfl, .inl ⟨(Same.new hq2) _ _ upd_same, upd_same⟩, rfl, by simp, fun i u v hu hv => ?_⟩, fun H9 e9 => ⟨_, rfl, ?_⟩⟩
    · rw [hu] at hv
      have e3 : u = v := Option.some.inj hv
      subst e3
      refine .inl (.inr ⟨c, ?_⟩)
      rcases List.mem_cons.mp (List.mem_of_getElem? hu) with rfl | hmm
      · exact ⟨rfl, rfl⟩
      · rw [List.mem_singleton.mp hmm]
        exact ⟨rfl, rfl⟩
    have s69 : Same H6 H9 := e7.trans (e8.trans ((Same.new hq1).trans ((Same.new hq2).trans e9)))
    clear e7 e8 e9 hq1 hq2
    have g9 : Gr [] G6 H6 G6 H9 := Gr.same g6.sub s69
    have g9a := g6a.trans (g9.lift hs6.ntS)
    have hs9 := hs6.step g9
    -- tables of one and two
    refine ⟨_, rfl, _, rfl, _, rfl, G6, a, b, ns, ps, 2, rfl, g9.sub, ha6, hns, hlen, hb6, by omega, fun l1 G5' H5' acc1 g5' hl1 hc1 hv1 => ?_⟩
    refine ⟨_, rfl, _, rfl, G5', a, m, ns, qs, 2, rfl, g5'.sub, ha6.up g5'.gg, hns, hlen, hm6.up g5'.gg, by omega, fun l2 G10 H10 acc2 g10 hl2 hc2 hv2 => ?_⟩
    refine ⟨l1, l2, acc1, acc2, rfl, rfl, SqL.of (g10.sub _ _ (g10.gg _ _ hl1)), SqL.of (g10.sub _ _ hl2), fun e he => g10.sub _ _ (g10.gg _ _ (hc1 e he)), fun e he => g10.sub _ _ (hc2 e he), avk hv1 hv2, avl (G5 := G5) (H5 := H5) (l1 := l1) hv1, ?_⟩
    rw [hv1, hv2, c2]
    have g10a := g9a.trans ((g5'.trans g10).lift hs9.ntS)
    have hs10 := hs9.step (g5'.trans g10)
    have u10 := (g5'.trans g10).gg
    have hx10 := hx6.up u10
    have hx210 := hx26.up u10
    have hy10 := hy6.up u10
    have ha10 := ha6.up u10
    have hb10 := hb6.up u10
    have hm10 := hm6.up u10
    clear hl1 hl2 hc1 hc2 hv1 hv2 acc1 acc2 l1 l2
    refine ⟨rfl, _, rfl, ?_⟩
    rw [decide_eq_true rfl]
    refine iteF ?_
    -- least twins
    refine ⟨_, rfl, _, rfl, _, rfl, G10, x2, sortS ns, sortP qs, rfl, g10.sub, hx210, fun y2 G11 H11 g11 hy2 => ?_⟩
    have hy11 := hy10.up g11.gg
    obtain ⟨dy, so, oo, d1, d2, hya, hyi⟩ := hy11.ex
    obtain ⟨dy2, so2, oo2, e1, e2, hy2a, hy2i⟩ := hy2.ex
    refine ⟨y, y2, dy, dy2, _, _, rfl, rfl, g11.sub _ _ hya, g11.sub _ _ hy2a, G11, y, y2, sortS ns, tw (sortP ps), sortS ns, tw (sortP qs), rfl, g11.sub, hy11, hy2, fun H12 e12 => ⟨_, rfl, ?_⟩⟩
    rw [cT]
    refine ⟨rfl, _, rfl, ?_⟩
    rw [decide_eq_true rfl]
    refine iteF ?_
    have g12 : Gr [] G10 H10 G11 H12 := g11.trans (Gr.same g11.sub e12)
    refine ⟨_, rfl, _, rfl, G11, b, ps, rfl, g12.sub, hb10.up g11.gg, okp, by omega, fun l1 G13 H13 g13 hl1 => ?_⟩
    refine ⟨_, rfl, G13, m, qs, rfl, g13.sub, (hm10.up g11.gg).up g13.gg, okq, by omega, fun l2 G14 H14 g14 hl2 => ?_⟩
    have okt : ∀ {ks : List Pair}, (∀ p ∈ ks, okPair p) → ∀ p ∈ sortP (tw ks), okPair p := fun h p hp => h p (tw_sub (mem_sortP.mp hp))
    refine ⟨_, _, ((hl1.up g14.gg).up g14.sub).dp, (hl2.up g14.sub).dp, encPs_shaped (okt okp), encPs_shaped (okt okq), ?_⟩
    rw [eqv_encPs, ← hc]
    refine ⟨rfl, _, rfl, ?_⟩
    rw [decide_eq_true rfl]
    refine iteF ?_
    have g14b := (g12.trans g13).trans g14
    have g14a := g10a.trans (g14b.lift hs10.ntS)
    have hs14 := hs10.step g14b
    have u14 := g14b.gg
    have hx14 := hx10.up u14
    have hy14 := hy10.up u14
    have ha14 := ha10.up u14
    have hb14 := hb10.up u14
    clear hl1 hl2 l1 l2 hya hy2a
    -- statements, objections
    obtain ⟨dy, so, oo, d1, d2, hya, hyi⟩ := hy14.ex
    refine ⟨_, rfl, y, dy, _, rfl, g14.sub _ _ hya, look_st _ _ _ _, G14, y, sortS ns, tw (sortP ps), rfl, g14.sub, hy14, fun l1 G15 H15 g15 hl1 => ?_⟩
    refine ⟨_, rfl, y, dy, _, rfl, g15.sub _ _ (g15.gg _ _ hya), look_ob _ _ _ _, G15, y, sortS ns, tw (sortP ps), rfl, g15.sub, hy14.up g15.gg, fun l2 G16 H16 g16 hl2 => ?_⟩
    have g16b := g15.trans g16
    refine ⟨two, fun q1 hq1 => ⟨_, rfl, ?_⟩⟩
    unfold tNil
    refine sort_strs (.inl (((ha14.up g16b.gg).up (g16.sub.trans (Same.new hq1))).l)) fun q2 hq2 => ?_
    have ga : Gr [] G16 H16 _ _ := Gr.new (o := .lst [.ref l1, .ref l2]) g16.sub hq1
    have gb := ga.trans (Gr.new (o := .lst ((sortS ns).map V.str)) ga.sub hq2)
    have hb17 := ((hb14.up g15.gg).up g16.gg).up gb.gg
    refine ⟨_, rfl, _, b, ps, rfl, gb.sub, hb17, okp, by omega, fun l3 G18 H18 g18 hl3 => ⟨two, fun q3 hq3 => ?_⟩⟩
    have gc := gb.trans (g18.trans (Gr.new (o := .lst [.ref q2, .ref l3]) g18.sub hq3))
    have g19 := g18.trans (Gr.new (o := .lst [.ref q2, .ref l3]) g18.sub hq3)
    have z1 : (upd H18 q3 (.lst [.ref q2, .ref l3])) q1 = some (.lst [.ref l1, .ref l2]) := g19.all _ _ ((Same.new hq2) _ _ upd_same)
    have z2 : Nm (upd H18 q3 (.lst [.ref q2, .ref l3])) q2 (sortS ns) := g19.all _ _ upd_same
    have z3 : Nm (upd H18 q3 (.lst [.ref q2, .ref l3])) l1 (sortS ns) := ((hl1.up g16.gg).up gc.gg).up gc.sub
    have z4 : Prs (upd H18 q3 (.lst [.ref q2, .ref l3])) l2 (tw (sortP ps)) := (hl2.up gc.gg).up gc.sub
    have z5 : Prs (upd H18 q3 (.lst [.ref q2, .ref l3])) l3 (sortP (tw ps)) := hl3.up (g18.sub.trans (Same.new hq3))
    rw [tw_sort] at z4
    have lz : (sortP (tw ps)).length ≤ 1000000 := by
      rw [sortP_len]
      have : (tw ps).length ≤ ps.length := List.length_filter_le _ _
      omega
    refine ⟨_, .ref q1, .ref q3, rfl, Same.refl _, .inr ⟨q1, q3, _, _, rfl, rfl, .inl ⟨z1, upd_same⟩, rfl, by simp, fun i u v hu hv => ?_⟩, fun H20 e20 => ⟨_, rfl, ?_⟩⟩
    · match i, hu, hv with
      | 0, hu, hv =>
        have e1 : V.ref l1 = u := Option.some.inj hu
        have e2 : V.ref q2 = v := Option.some.inj hv
        rw [← e1, ← e2]
        exact eqd_nm (n := 1) z3 z2 (by rw [sortS_len]; omega)
      | 1, hu, hv =>
        have e1 : V.ref l2 = u := Option.some.inj hu
        have e2 : V.ref l3 = v := Option.some.inj hv
        rw [← e1, ← e2]
        exact eqd_prs (n := 0) z4 z5 lz
      | i + 2, hu, hv => simp at hu
    have gd := (g15.trans g16).trans (gc.trans (Gr.same gc.sub e20))
    have ge := g14a.trans (gd.lift hs14.ntS)
    have hs20 := hs14.step gd
    have hx20 := hx14.up gd.gg
    have hy20 := hy14.up gd.gg
    have ha20 := ha14.up gd.gg
    clear z1 z2 z3 z4 z5 hl1 hl2 hl3 hq1 hq2 hq3
    -- no twin, a twin
    refine ⟨_, rfl, _, rfl, _, rfl, a, _, rfl, (ha20.up gd.sub).l, fun q1 hq1 => ?_⟩
    rw [show cutV (ns.map V.str) (some 1) none = (ns.drop 1).map V.str from by rw [List.map_drop]; exact cut_drop 1]
    have gn1 : Gr [] _ H20 _ _ := Gr.new (o := .lst ((ns.drop 1).map V.str)) gd.sub hq1
    refine ⟨by decide, fun q2 hq2 => ?_⟩
    have gn2 := gn1.trans (Gr.new (o := .lst []) gn1.sub hq2)
    have sub1 := List.drop_sublist 1 ns
    have hn1 : NmQ (upd (upd _ q1 (.lst ((ns.drop 1).map V.str))) q2 (.lst [])) q1 (ns.drop 1) := .inl ((Same.new (Same.free gn1.sub hq2)) _ _ upd_same)
    intro z0 dz0 f1 f2 f3
    refine spInit_mono ?_ (rd_mk (C := C) (Q := fun v H2 => ∃ z G2, v = .ref z ∧ Gr [] _ _ G2 H2 ∧ DebAt C G2 z (sortS (ns.drop 1)) (sortP [])) gn2.sub hn1 (ps := []) ⟨[], rfl, .inl upd_same, fun _ h => nomatch h⟩ (hns.nd.sublist sub1) (fun z hz => hns.ok z (sub1.subset hz)) (by have := sub1.length_le; omega) List.nodup_nil (fun _ h => nomatch h) (by simp) (fun z G21 H21 g21 hz _ => ⟨z, G21, rfl, g21, hz⟩) z0 dz0 f1 f2 f3)
    rintro v H21 ⟨rfl, z, G21, ez, g21, hz⟩
    cases ez
    refine ⟨rfl, ?_⟩
    have gf := gn2.trans g21
    have hx21 := hx20.up gf.gg
    refine ⟨_, x, sortS ns, sortP ps, z0, _, _, rfl, gf.sub, hx21, hz, fun H22 e22 => ?_⟩
    rw [show decide (sortS ns = sortS (ns.drop 1) ∧ tw (sortP ps) = tw (sortP [])) = false from decide_eq_false fun h => by
      have := congrArg List.length h.1
      rw [sortS_len, sortS_len, List.length_drop] at this
      omega]
    refine ⟨_, _, rfl, rfl, _, rfl, iteF ?_⟩
    refine ⟨_, rfl, _, rfl, G21, x, sortS ns, sortP ps, y, sortS ns, tw (sortP ps), rfl, gf.sub.trans e22, hx21, hy20.up gf.gg, fun H23 e23 => ?_⟩
    rw [show decide (sortS ns = sortS ns ∧ tw (sortP ps) = tw (tw (sortP ps))) = true from decide_eq_true ⟨rfl, (tw_tw _).symm⟩]
    refine ⟨_, _, rfl, rfl, _, rfl, iteF ?_⟩
    have gg := gf.trans (Gr.same gf.sub (e22.trans e23))
    refine ⟨_, rfl, G21, y, sortS ns, tw (sortP ps), rfl, gg.sub, hy20.up gf.gg, fun y3 G24 H24 g24 hy3 => ?_⟩
    rw [tw_tw] at hy3
    have hy24 := (hy20.up gf.gg).up g24.gg
    obtain ⟨dy, so, oo, d1, d2, hya, hyi⟩ := hy24.ex
    obtain ⟨dy3, so3, oo3, e1, e2, hy3a, hy3i⟩ := hy3.ex
    refine ⟨_, rfl, y3, y, dy3, dy, _, _, rfl, rfl, g24.sub _ _ hy3a, g24.sub _ _ hya, G24, y3, y, sortS ns, tw (sortP ps), sortS ns, tw (sortP ps), rfl, g24.sub, hy3, hy24, fun H25 e25 => ⟨_, rfl, ?_⟩⟩
    rw [decide_eq_true ⟨rfl, rfl⟩]
    have gl := gg.trans (g24.trans (Gr.same g24.sub e25))
    exact k G24 H25 (ge.trans (gl.lift hs20.ntS)) ((hs20.step gl).less (by omega))
end
end K80
end
section
set_option Elab.async false
set_option linter.all false
set_option maxRecDepth 100000
set_option maxHeartbeats 4000000
namespace K80
open PySem PySem.Spec PyProof.Rows L2
/-! ### the law: one table -/
abbrev NL : List Str := ["_law_script", "_law_stream", "_law_turn", "_law_some", "_law_names", "_law_pairs", "_law_made", "_law_table", "_law_due", "_law_handed", "_law_cut", "_law_at", "_law_odd", "_law_found", "_law_none"]
theorem sc_law : FnScope NL ["_law_script"] (defScope s_law) := ⟨rfl, rfl, rfl, by decide +kernel, rfl, by decide +kernel, by decide +kernel⟩
abbrev P0 : Stmt := .Pass ⟨0, 0, 0, 0⟩
abbrev lawFor : List Stmt := forBody ((defBody s_law).getD 1 P0)
theorem dv_self : ∀ {l : List (Str × Str)}, (l.map (·.1)).Nodup → ∀ p ∈ dv l, valV (dv l) p.1 = some p.2 ∧ flatB p.2 = true
  | [], _, _, h => nomatch h
  | e :: l, hn, p, h => by
    have hn' : (e.1 :: l.map (·.1)).Nodup := hn
    obtain ⟨n1, n2⟩ := List.nodup_cons.mp hn'
    rcases List.mem_cons.mp (show p ∈ ((Sum.inr e.1 : Key), V.str e.2) :: dv l from h) with rfl | h
    · exact ⟨valV_pos (p := ((Sum.inr e.1 : Key), V.str e.2)) rfl, rfl⟩
    · have ih := dv_self n2 p h
      refine ⟨?_, ih.2⟩
      have ne : ¬ (Sum.inr e.1 : Key) = p.1 := fun z => by
        unfold dv at h
        obtain ⟨q, hq, rfl⟩ := List.mem_map.mp h
        exact n1 (Sum.inr.inj z ▸ List.mem_map.mpr ⟨q, hq, rfl⟩)
      exact (valV_neg (p := ((Sum.inr e.1 : Key), V.str e.2)) (r := dv l) ne).trans ih.1
theorem vdS_cutP (ps : List Pair) (T : List Str) : vdS ((sortP ps).filter (pIn T)) (sortS T) = vdS ps (sortS T) := vdS_rel fun a b ha hb => by
  unfold rel
  refine decide_eq_decide.mpr ?_
  rw [List.mem_filter, mem_sortP]
  simp [pIn, mem_sortS.mp ha, mem_sortS.mp hb]
theorem vdS_sp (ps : List Pair) (T : List Str) : vdS (sortP ps) T = vdS ps T := vdS_mem (fun _ => mem_sortP) T
section
variable {P : Program} {w : World} {K : PySem.W.Frag} {mg : Str → Option Value} {base : Heap} {f c : Addr} {A : Around} {outer : List Env} {s : Shared} {H0 : Hp} {E : XK}
abbrev LX (P : Program) (w : World) (K : PySem.W.Frag) (mg : Str → Option Value) (base : Heap) (f c : Addr) (A : Around) (outer : List Env) (s : Shared) (H0 : Hp) (E : XK) : Cx := (cxOf CX0 P w K mg base NL "law" (defScope s_law) f (.ref c) A outer s H0 E).nox
theorem law_iter {C : Addr} (T : Txt K mg) (hr : Room 12 (LX P w K mg base f c A outer s H0 E).A) (OZV : Ok P w K mg base CX0 5 "_law_z_verdict" ["_law_pairs", "_law_table"] spZV) (OE : Ok P w K mg base CX0 2 "_law_z_either" ["_law_stream", "_law_things"] spEither)
    (OM : Ok P w K mg base CX0 2 "_law_mixed" ["_law_stream", "_law_some"] spMixed) (OVd : Ok P w K mg base CX0 9 "verdict" ["debate", "table"] (spVerdict C)) (OC : Ok P w K mg base CX0 8 "cut_to" ["debate", "lot"] (spCutTo C)) (OS : Ok P w K mg base CX0 5 "_law_same" ["_law_found", "_law_due"] spSameD)
    (OLo : Ok P w K mg base CX0 5 "labels_of" ["debate", "lot"] (spLabelsOf C)) (OLe : Ok P w K mg base CX0 3 "least_lot" ["debate"] (spLeast C)) :
    ∃ tb, PSs (LX P w K mg base f c A outer s H0 E) (forBody (lawFor.getD 3 P0)) tb ∧
      ∀ (D : Ends) (v0 tv v3 v8 v9 v10 v11 v12 v13 v14 : Option V) (st ci a b x q fuel : Nat) (ns T : List Str) (ps : List Pair) (Gc Hc : Hp), Same Gc Hc → Strm st ci (13 + fuel) Gc Hc → Nm Gc q T → T.Nodup → (∀ z ∈ T, z ∈ ns) → T ≠ [] → T.length ≤ 12 → Prs Gc b ps → NsOk ns → PsOk ns ps → DebAt C Gc x (sortS ns) (sortP ps) →
        (∀ v8 v9 v10 G' H', Gr [st, ci] Gc Hc G' H' → Strm st ci fuel G' H' → D.nx [v0, some (.ref st), tv, v3, some (.ref a), some (.ref b), some (.ref x), some (.ref q), v8, v9, v10, v11, v12, v13, v14] H') →
        tb D [v0, some (.ref st), tv, v3, some (.ref a), some (.ref b), some (.ref x), some (.ref q), v8, v9, v10, v11, v12, v13, v14] Hc := by
  have hu := hr.units
  have hu0 : (LX P w K mg base f c A outer s H0 E).A.units < cLine := by have := hr.un; omega
  have hr2 : Room 2 (LX P w K mg base f c A outer s H0 E).A := hr.mono (by decide)
  have hr5 : Room 5 (LX P w K mg base f c A outer s H0 E).A := hr.mono (by decide)
  have hr9 : Room 9 (LX P w K mg base f c A outer s H0 E).A := hr.mono (by decide)
  refine ⟨_, pss_cons (ps_par (i := 8) (j := 9) rfl sc_law.nd rfl rfl (by decide) rfl rfl (pa_cons (pe_cl OZV hr5 (pa_cons (pv 5) (pa_cons (pv 7) pa_nil))) (pa_cons (pe_cl OE hr2 (pa_cons (pv 1) (pa_cons (pe_cl OM hr2 (pa_cons (pv 1) (pa_cons (pv 7) pa_nil))) pa_nil))) pa_nil)) rfl)
    (pss_cons (ps_expr (pe_dclear (pe_cl OVd hr9 (pa_cons (pv 6) (pa_cons (pv 9) pa_nil)))))
    (pss_cons (ps_set (i := 10) sc_law.nd rfl (.inl rfl) (pe_cl OC (hr.mono (by decide)) (pa_cons (pv 6) (pa_cons (pv 7) pa_nil))))
    (pss_cons (ps_if (PW.pt (pw_or (pt_not (pt_val (pe_cl OS hr5 (pa_cons (pe_cl OVd hr9 (pa_cons (pv 6) (pa_cons (pv 9) pa_nil))) (pa_cons (pv 8) pa_nil)))))
        (pw_or1 (pt_cmpR (op_ne_dictA hu0) (pe_cl OLo hr5 (pa_cons (pv 10) (pa_cons (pe_cl OLe (hr.mono (by decide)) (pa_cons (pv 10) pa_nil)) pa_nil))) (pv 8) (by rfl))))) (pss_one ps_never) pss_nil)
    (pss_one (ps_if (pt_cmpR (op_ne_dictA hu0) (pe_cl OVd hr9 (pa_cons (pv 6) (pa_cons (pv 9) pa_nil))) (pv 8) (by rfl)) (pss_one ps_never) pss_nil))))), ?_⟩
  intro D v0 tv v3 v8 v9 v10 v11 v12 v13 v14 st ci a b x q fuel ns T ps Gc Hc hG hs hq hnd hin hne hlen hb hns hps hx k
  have pl := hps.len
  have nl := hns.l2
  refine ⟨_, rfl, _, rfl, Gc, b, q, ps, T, rfl, hG, hb, by omega, hq, hnd, fun z hz => hns.ok z (hin z hz), by omega, fun l G1 H1 g1 hl => ?_⟩
  have hs1 := hs.step g1
  refine ⟨_, rfl, _, rfl, _, rfl, G1, st, ci, 1 + fuel, q, Str, V.str, T, rfl, g1.sub, hs1.less (by omega), hq.up g1.gg, by omega, fun p m H2 g2 hs2 hp _ => ?_⟩
  refine ⟨_, st, ci, fuel, p, m, rfl, g2.sub, hs2.less (by omega), upd_same, fun h G3 H3 g3 hs3 hh => ?_⟩
  refine ⟨_, _, rfl, ?_⟩
  have gA := (g1.lift hs.ntS).trans (g2.trans g3)
  have hx3 := hx.up gA.gg
  have hl3 := (g2.gg.trans g3.gg) _ _ hl
  have hb3 := hb.up gA.gg
  have hq3 := hq.up gA.gg
  have hmn : m.Nodup := hp.nodup_iff.mpr hnd
  have hmi : ∀ z ∈ m, z ∈ sortS ns := fun z hz => mem_sortS.mpr (hin z (hp.mem_iff.mp hz))
  have hme : m ≠ [] := fun z => hne (by rw [z] at hp; exact hp.nil_eq.symm)
  have hsm : sortS m = sortS T := sortS_perm' hp
  have hti : ∀ z ∈ T, z ∈ sortS ns := fun z hz => mem_sortS.mpr (hin z hz)
  clear hl hq hb hx
  refine ⟨_, rfl, _, rfl, G3, x, h, sortS ns, sortP ps, m, rfl, g3.sub, hx3, hh, hmn, hmi, hme, fun l2 G4 H4 g4 hl2n hl2 => ?_⟩
  refine ⟨.inr (.inr (.inl ⟨rfl, .inl ⟨_, g4.sub _ _ hl2⟩⟩)), l2, _, rfl, rfl, g4.sub _ _ hl2, ?_⟩
  have g5 : Gr [] G3 H3 G3 (upd H4 l2 (.dK [])) := (g4.drop g3.sub).put (.inl hl2n) (Same.free g3.sub hl2n)
  have hs5 := hs3.step g5
  refine ⟨_, rfl, _, rfl, G3, x, q, sortS ns, sortP ps, T, rfl, g5.sub, hx3, .inl hq3, hnd, hti, fun z G6 H6 g6 hz => ?_⟩
  have hx6 := hx3.up g6.gg
  have hh6 := hh.up g6.gg
  have hl6 := g6.gg _ _ hl3
  refine ⟨_, rfl, _, rfl, G6, x, h, sortS ns, sortP ps, m, rfl, g6.sub, hx6, hh6, hmn, hmi, hme, fun l3 G7 H7 g7 _ hl3' => ?_⟩
  rw [hsm, vdS_sp] at hl3'
  refine ⟨_, rfl, G7, l3, l, vdS ps (sortS T), rfl, g7.sub, hl3', g7.gg _ _ hl6, by unfold vdS; rw [List.length_map, sortS_len]; omega, fun H8 e8 => ⟨_, rfl, iteF ?_⟩⟩
  have g8 : Gr [] G6 H6 G7 H8 := g7.trans (Gr.same g7.sub e8)
  have hz7 := hz.up g7.gg
  have nodk : ((vdS ps (sortS T)).map (·.1)).Nodup := by rw [vdS_keys]; exact nodup_sortS hnd
  refine ⟨_, rfl, _, rfl, G7, z, sortS T, _, rfl, g8.sub, hz7, fun l4 G9 H9 g9 hl4 => ?_⟩
  refine ⟨G9, z, l4, sortS T, _, rfl, g9.sub, hz7.up g9.gg, hl4, fun l5 G10 H10 g10 hl5 => ?_⟩
  rw [vdS_cutP] at hl5
  have g10b := (g8.trans g9).trans g10
  refine ⟨_, rfl, l5, l, _, _, rfl, rfl, g10.sub _ _ hl5, g10.sub _ _ (g10.gg _ _ (g9.gg _ _ (g7.gg _ _ hl6))), rfl, dv_self nodk, false, rfl, iteF ?_⟩
  refine ⟨_, rfl, _, rfl, G10, x, h, sortS ns, sortP ps, m, rfl, g10.sub, hx6.up g10b.gg, hh6.up g10b.gg, hmn, hmi, hme, fun l6 G11 H11 g11 _ hl6' => ?_⟩
  rw [hsm, vdS_sp] at hl6'
  refine ⟨_, rfl, l6, l, _, _, rfl, rfl, g11.sub _ _ hl6', g11.sub _ _ (g11.gg _ _ (g10.gg _ _ (g9.gg _ _ (g7.gg _ _ hl6)))), rfl, dv_self nodk, false, rfl, iteF ?_⟩
  have gE := (g5.trans g6).trans (g10b.trans g11)
  exact k _ _ _ G11 H11 (gA.trans (gE.lift hs3.ntS)) ((hs3.step gE).less (by omega))
end
end K80
end
section
set_option Elab.async false
set_option linter.all false
set_option maxRecDepth 100000
set_option maxHeartbeats 4000000
namespace K80
open PySem PySem.Spec PyProof.Rows L2
open LamX (ExtN Tabs TabS CodeO TabB)
/-! ### what stays while lambdas are made -/
def nt {xs : List V} (ps : Array Value) : HO.lst xs ≠ .tbl ps := fun z => by cases z
section
variable {G H H' : Hp} {a : Addr} {K : PySem.W.Frag}
theorem Nm.ext {ns : List Str} (h : Nm H a ns) (e : ExtN H H') : Nm H' a ns := e _ _ h fun _ z => by cases z
theorem Prs.ext {ps : List Pair} (h : Prs H a ps) (e : ExtN H H') : Prs H' a ps := let ⟨l, h1, h2⟩ := h; ⟨l, ⟨e _ _ h1.1 fun _ z => by (cases z), fun z hz => e _ _ (h1.2 z hz) fun _ z => by (cases z)⟩, h2⟩
theorem Rows.ext {d : Addr} {ns : List Str} {f : Str → List Str} (h : Rows H d ns f) (e : ExtN H H') : Rows H' d ns f := let ⟨L, h1, h2, h3⟩ := h; ⟨L, h1, e _ _ h2 fun _ z => by (cases z), fun z hz => (h3 z hz).ext e⟩
theorem DebAt.ext {C : Addr} {p : Addr} {ns : List Str} {ps : List Pair} (h : DebAt C H p ns ps) (e : ExtN H H') : DebAt C H' p ns ps :=
  let ⟨dx, so, oo, d1, d2, h1, h2⟩ := h.ex; ⟨⟨dx, so, oo, d1, d2, e _ _ h1 fun _ z => by (cases z), h2.st.ext e, h2.ob.ext e, h2.r1.ext e, h2.r2.ext e⟩, h.ok⟩
theorem Kd.ext {x : V} {n : String} (h : Kd K H x n) (e : ExtN H H') : Kd K H' x n := by
  cases h with
  | non => exact .non
  | bl b => exact .bl b
  | int i => exact .int i
  | str z => exact .str z
  | lst q => exact .lst (e _ _ q fun _ z => by cases z)
  | tup q => exact .tup (e _ _ q fun _ z => by cases z)
  | dK q => exact .dK (e _ _ q fun _ z => by cases z)
theorem OddV.ext {v : V} (h : OddV K H v) (e : ExtN H H') : OddV K H' v := by
  cases h with
  | odd h n => exact .odd (h.ext e) n
  | str h => exact .str h
theorem strm_ext {st ci fuel : Nat} (h : Strm st ci fuel G H) (e : ExtN H H') : Strm st ci fuel G H' := by
  obtain ⟨g1, g2, g3, cs, b, n, m, h1, h2, h3⟩ := h
  exact ⟨g1, g2, g3, cs, b, n, m, e _ _ h1 (fun _ z => by cases z), e _ _ h2 (fun _ z => by cases z), h3⟩
theorem strm_off {st ci fuel : Nat} (h : Strm st ci fuel G H) : Strm st ci fuel (fun _ => none) H := by
  exact ⟨rfl, rfl, h.ne, h.ex⟩
/-- a list of H is written -/
theorem tabs_put {T : List (Addr × Str)} {p : Addr} {o : HO} {xs : List V} (h : Tabs T H) (hp : H p = some (.lst xs)) : Tabs T (upd H p o) := fun q hq => by
  obtain ⟨ps, h1, h2, h3⟩ := h q hq
  have n1 : q.1 ≠ p := fun z => by rw [z, hp] at h1; cases h1
  refine ⟨ps, by rw [upd_ne n1]; exact h1, h2, fun pos cv hc => ?_⟩
  obtain ⟨c, e1, e2⟩ := h3 pos cv hc
  have n2 : c ≠ p := fun z => by
    rw [z, hp] at e2
    have e2 := Option.some.inj e2
    unfold CodeO at e2
    cases e2
  exact ⟨c, e1, by rw [upd_ne n2]; exact e2⟩
theorem tabs_gr {T : List (Addr × Str)} {st ci fuel : Nat} {G' : Hp} (h : Tabs T H) (s : Strm st ci fuel G H) (g : Gr [st, ci] G H G' H') : Tabs T H' := fun q hq => by
  obtain ⟨ps, h1, h2, h3⟩ := h q hq
  obtain ⟨_, _, _, cs, b, n, m, s1, s2, _⟩ := s
  have off : ∀ {b : Addr} {o : HO}, H b = some o → (∀ xs, o ≠ .lst xs) → b ∉ [st, ci] := fun {b o} e ne hm => by
    rcases List.mem_cons.mp hm with rfl | hm
    · rw [s1] at e
      exact ne _ (Option.some.inj e).symm
    · rw [List.mem_singleton.mp hm, s2] at e
      exact ne _ (Option.some.inj e).symm
  refine ⟨ps, g.keep _ _ (off h1 fun xs z => by cases z) h1, h2, fun pos cv hc => ?_⟩
  obtain ⟨c, e1, e2⟩ := h3 pos cv hc
  refine ⟨c, e1, g.keep _ _ (off e2 fun xs z => ?_) e2⟩
  unfold CodeO at z
  cases z
end
/-- what was told so far stands at F -/
structure PH (T : List (Addr × Str)) (Hs Hc : Hp) (F : Addr) (l : List (Addr × Int)) : Prop where
  e : ExtN Hs Hc
  t : Tabs T Hc
  f : Hc F = some (.lst (l.map fun e => V.ref e.1))
  hf : ∀ o, Hs F = some o → (∀ ps, o ≠ .tbl ps) → False
  tp : ∀ e ∈ l, Hc e.1 = some (.tup [.str "lot", .int e.2])
section
variable {T : List (Addr × Str)} {Hs Hc Hd : Hp} {F t : Addr} {l : List (Addr × Int)} {i : Int}
theorem PH.step (h : PH T Hs Hc F l) (e : ExtN Hc Hd) (t : Tabs T Hd) : PH T Hs Hd F l := ⟨h.e.trans e, t, e _ _ h.f (fun _ z => by cases z), h.hf, fun z hz => e _ _ (h.tp z hz) fun _ z => by cases z⟩
theorem PH.same (h : PH T Hs Hc F l) (e : Same Hc Hd) : PH T Hs Hd F l := h.step (ExtN.of e) (h.t.ext e)
theorem PH.add (h : PH T Hs Hc F l) (ht : Hc t = some (.tup [.str "lot", .int i])) : PH T Hs (upd Hc F (.lst (l.map (fun e => V.ref e.1) ++ [V.ref t]))) F (l ++ [(t, i)]) := by
  have off : ∀ {b : Addr} {o : HO}, Hc b = some o → (∀ xs, o ≠ .lst xs) → b ≠ F := fun {b o} e ne z => by
    rw [z, h.f] at e
    exact ne _ (Option.some.inj e).symm
  refine ⟨fun b o e n => ?_, tabs_put h.t h.f, by rw [upd_same, List.map_append]; rfl, h.hf, fun z hz => ?_⟩
  · have nb : b ≠ F := fun z => by
      rw [z] at e
      exact h.hf o e n
    rw [upd_ne nb]
    exact h.e b o e n
  · have hz2 : Hc z.1 = some (.tup [.str "lot", .int z.2]) := by
      rcases List.mem_append.mp hz with hz | hz
      · exact h.tp z hz
      · rw [List.mem_singleton.mp hz]
        exact ht
    rw [upd_ne (off hz2 fun xs q => by cases q)]
    exact hz2
end
def encF (l : List Int) : PyData := .list (l.map fun i => .tuple [.str "lot", .int i])
theorem dpAll_lots {K : PySem.W.Frag} {H : Hp} : ∀ {l : List (Addr × Int)}, (∀ e ∈ l, H e.1 = some (.tup [.str "lot", .int e.2])) → DpAll K H (l.map fun e => V.ref e.1) ((l.map (·.2)).map fun i => PyData.tuple [.str "lot", .int i])
  | [], _ => .nil
  | e :: l, h => .cons (.tup (SqT.of (h e (by simp))) (.cons (.str _) (.cons (.int _) .nil))) (dpAll_lots fun z hz => h z (by simp [hz]))
theorem layF : ∀ l : List Int, PyData.canLayAll0 (l.map fun i => PyData.tuple [.str "lot", .int i]) = true
  | [] => by simp [PyData.canLayAll0]
  | i :: l => by
    have h1 : PyData.strOk ("lot" : Str) = true := by decide +kernel
    have h2 := layF l
    simp [PyData.canLayAll0, PyData.canLay0, h1, h2]
theorem depF : ∀ l : List Int, PyData.depthAll (l.map fun i => PyData.tuple [.str "lot", .int i]) ≤ 1
  | [] => by simp [PyData.depthAll]
  | i :: l => by
    have := depF l
    simp [PyData.depthAll, PyData.depth]
    omega
theorem encF_lay (l : List Int) : (encF l).canLay0 = true := by simp [encF, PyData.canLay0, layF l]
theorem encF_shaped (l : List Int) : SeqAt.shaped (encF l) = true := by
  have h1 := layF l
  have h2 := depF l
  simp [SeqAt.shaped, encF, PyData.canLay0, PyData.depth, h1]
  omega
def qLam : Str := ("law" : Str) ++ ".<locals>." ++ "<lambda>"
end K80
end
section
set_option Elab.async false
set_option linter.all false
set_option maxRecDepth 100000
set_option maxHeartbeats 4000000
namespace K80
open PySem PySem.Spec PyProof.Rows L2
open LamX (ExtN Tabs TabS CodeO TabB)
/-! ### the law: what is refused -/
theorem slLK {X : Cx} (K : PySem.W.Frag) (h : X.K = K := by rfl) : SlR X (rSlL K) := h ▸ sl_list
def nones (dd ll tt : Addr) : List V := [.non, .int 5, .str "b", .ref dd, .bl true, .ref ll, .ref tt]
section
variable {P : Program} {w : World} {K : PySem.W.Frag} {mg : Str → Option Value} {base : Heap} {f c Pt : Addr} {A : Around} {outer : List Env} {s : Shared} {H0 : Hp} {E : XK}
theorem nones_no {H : Hp} {ns : List Str} {dd ll tt : Addr} (h1 : H dd = some (.dK [])) (h2 : H ll = some (.lst [])) (h3 : H tt = some (.tup [])) {v : V} (h : v ∈ nones dd ll tt) : NoTab K H ns v 0 := by
  unfold nones at h
  simp only [List.mem_cons, List.not_mem_nil, or_false] at h
  rcases h with rfl | rfl | rfl | rfl | rfl | rfl | rfl
  · exact .inl (.kind .non (by decide))
  · exact .inl (.kind (.int 5) (by decide))
  · exact .inl (.kind (.str _) (by decide))
  · exact .inl (.kind (.dK h1) (by decide))
  · exact .inl (.kind (.bl true) (by decide))
  · exact .inr ⟨rfl, ll, rfl, .inl h2⟩
  · exact .inr ⟨rfl, tt, rfl, .inr h3⟩
structure NN (Hc : Hp) (dd ll t0 tp : Addr) : Prop where
  d : Hc dd = some (.dK [])
  l : Hc ll = some (.lst [])
  t : Hc t0 = some (.tup [])
  p : Hc tp = some (.tup (nones dd ll t0))
theorem NN.step {Hc Hd : Hp} {dd ll t0 tp : Addr} (h : NN Hc dd ll t0 tp) (e : ExtN Hc Hd) : NN Hd dd ll t0 tp :=
  ⟨e _ _ h.d fun _ z => by (cases z), e _ _ h.l fun _ z => by (cases z), e _ _ h.t fun _ z => by (cases z), e _ _ h.p fun _ z => by (cases z)⟩
theorem NN.put {Hc : Hp} {dd ll t0 tp F : Addr} {xs : List V} {o : HO} (h : NN Hc dd ll t0 tp) (hF : Hc F = some (.lst xs)) (hl : ll ≠ F) : NN (upd Hc F o) dd ll t0 tp := by
  have n1 : dd ≠ F := fun z => by have := h.d; rw [z, hF] at this; cases this
  have n3 : t0 ≠ F := fun z => by have := h.t; rw [z, hF] at this; cases this
  have n4 : tp ≠ F := fun z => by have := h.p; rw [z, hF] at this; cases this
  exact ⟨by rw [upd_ne n1]; exact h.d, by rw [upd_ne hl]; exact h.l, by rw [upd_ne n3]; exact h.t, by rw [upd_ne n4]; exact h.p⟩
theorem law_none {C B fB : Addr} (DMet : Df K mg "_law_met" s_L_met) (BT : BTxt K mg B fB) (BM : BMore K B) (T : Txt K mg) (TB : TabB base mg c Pt) (hr : Room 12 (LX P w K mg base f c A outer s H0 E).A)
    (OVX : Ok P w K mg base (L2.CX P w) 4 "verdict" ["debate", "table"] (spVerdictX K C B)) :
    ∃ tt, PSs (LX P w K mg base f c A outer s H0 E) (lawFor.drop 7) tt ∧
      ∀ (D : Ends) (v0 tv v3 v5 v7 v8 v9 v10 v13 v14 : Option V) (v : V) (st ci a x fuel d : Nat) (ns : List Str) (ps : List Pair) (Hs : Hp), Tabs [(Pt, qLam)] Hs → Strm st ci fuel (fun _ => none) Hs → Nm Hs a ns → NsOk ns → (∀ z ∈ ns, z ∉ (["nobody", "", "Aa"] : List Str)) → DebAt C Hs x (sortS ns) (sortP ps) → OddV K Hs v → d ≤ ns.length →
        (∀ v13 v14 H', Strm st ci fuel (fun _ => none) H' → Tabs [(Pt, qLam)] H' → D.nx [v0, some (.ref st), tv, v3, some (.ref a), v5, some (.ref x), v7, v8, v9, v10, some (.int d), some v, v13, v14] H') →
        tt D [v0, some (.ref st), tv, v3, some (.ref a), v5, some (.ref x), v7, v8, v9, v10, some (.int d), some v, v13, v14] Hs := by
  have hu := hr.units
  obtain ⟨fdM, FM⟩ := DMet.fn
  have bM := FM.bindsN (ps := ["_law_ask"]) fun _ _ _ _ _ _ us hl => match us, hl with | [_], _ => rfl
  obtain ⟨oc, od, dV, kV, doc, pm, an, cdv, ct, osl, rfl, lk, hcd, _, _⟩ := FM.ex
  have hr6 : Room 6 (LX P w K mg base f c A outer s H0 E).A := hr.mono (by decide)
  refine ⟨_, pss_cons (ps_set (i := 13) sc_law.nd rfl (.inl rfl) (pe_lst (pa_cons (LamX.pe_lamcall (T := [(Pt, qLam)]) (TT := TMet B) (k := 4) rfl DMet.mg FM.kp lk hcd bM sc_met rfl (.inl rfl) (met_gives BT BM) TB rfl (List.mem_singleton.mpr rfl) (fun p hp _ => by rw [List.mem_singleton.mp hp]; rfl) hr6 (LamX.lamS_by (sc := defScope s_law) (by decide +kernel)) rfl (fun _ _ _ _ _ => rfl)
        (fun A outer s H E f c' hr2 => pe_clX OVX (passes_call (takes_of rfl rfl rfl rfl) (fun _ _ _ _ h => h)) hr2 (pa_cons (pv 6) (pa_cons (pe_op op_cat (pe_op op_cat (pe_slice (slLK K) (pv 4) po_none (po_some (pv 11))) (pe_lst (pa_cons (pv 12) (pa_cons pe_non pa_nil)))) (pe_slice (slLK K) (pv 4) (po_some (pv 11)) po_none)) pa_nil)))) pa_nil)))
    (pss_cons (ps_expr (pe_bm PySem.F.plainAttrs_list PySem.F.slot_list_append PySem.F.type_list_append mt_append (pv 13) (pa_cons (LamX.pe_lamcall (T := [(Pt, qLam)]) (TT := TMet B) (k := 4) rfl DMet.mg FM.kp lk hcd bM sc_met rfl (.inl rfl) (met_gives BT BM) TB rfl (List.mem_singleton.mpr rfl) (fun p hp _ => by rw [List.mem_singleton.mp hp]; rfl) hr6 (LamX.lamS_by (sc := defScope s_law) (by decide +kernel)) rfl (fun _ _ _ _ _ => rfl)
        (fun A outer s H E f c' hr2 => pe_clX OVX (passes_call (takes_of rfl rfl rfl rfl) (fun _ _ _ _ h => h)) hr2 (pa_cons (pv 6) (pa_cons (pe_op op_cat (pv 4) (pe_slice (slLK K) (pv 4) po_none (po_some pe_int))) pa_nil)))) pa_nil)))
    (pss_cons (ps_for PassesOwn.never rfl (pi_tup (pe_tup (pa_cons pe_non (pa_cons pe_int (pa_cons pe_str (pa_cons pe_dnewK (pa_cons pe_bl (pa_cons (pe_lst pa_nil) (pa_cons (pe_tup pa_nil) pa_nil))))))))) (pg_name (i := 14) sc_law.nd rfl (.inr rfl))
      (pss_one (ps_expr (pe_bm PySem.F.plainAttrs_list PySem.F.slot_list_append PySem.F.type_list_append mt_append (pv 13) (pa_cons (LamX.pe_lamcall (T := [(Pt, qLam)]) (TT := TMet B) (k := 4) rfl DMet.mg FM.kp lk hcd bM sc_met rfl (.inl rfl) (met_gives BT BM) TB rfl (List.mem_singleton.mpr rfl) (fun p hp _ => by rw [List.mem_singleton.mp hp]; rfl) hr6 (LamX.lamS_by (sc := defScope s_law) (by decide +kernel)) rfl (fun _ _ _ _ _ => rfl)
        (fun A outer s H E f c' hr2 => pe_clX OVX (passes_call (takes_of rfl rfl rfl rfl) (fun _ _ _ _ h => h)) hr2 (pa_cons (pv 6) (pa_cons (pv 14) pa_nil)))) pa_nil)))))
    (pss_one (ps_if (pt_cmpR (op_neD hu) (pv 13) (pe_op op_cat (pe_lst (pa_cons (pe_tup (pa_cons pe_str (pa_cons (pv 11) pa_nil))) (pa_cons (pe_tup (pa_cons pe_str (pa_cons (pe_callB call_len_seq (by rfl) T.len PySem.boot_len (pa_cons (pv 4) pa_nil)) pa_nil))) pa_nil)))
        (pe_op op_rep (pe_lst (pa_cons (pe_tup (pa_cons pe_str (pa_cons pe_int pa_nil))) pa_nil)) pe_int)) (by rfl)) (pss_one ps_never) pss_nil)))), ?_⟩
  intro D v0 tv v3 v5 v7 v8 v9 v10 v13 v14 v st ci a x fuel d ns ps Hs hT hs ha hns hbad hx hv hd k
  have nl := hns.l2
  have nl1 := hns.l1
  have hlt : (ns.take d).length = d := by rw [List.length_take]; omega
  have hodd : ∀ {Hc : Hp} {gs : List Str}, OddV K Hc v → Odd K Hc (sortS ns) gs v := fun {Hc gs} h => by
    cases h with
    | odd h n => exact .odd h n
    | str h => exact .far (.inl fun z => hbad _ (mem_sortS.mp z) h)
  -- among the names
  refine ⟨hT, fun H1 e1 T1 => ?_⟩
  have ha1 := ha.ext e1
  have hx1 := hx.ext e1
  have hv1 := hv.ext e1
  refine ⟨_, rfl, _, rfl, _, rfl, _, rfl, a, _, rfl, ha1.l, fun p1 hp1 => ?_⟩
  rw [cut_take, ← List.map_take]
  refine ⟨_, rfl, by show 2 ≤ sizeLine; decide, fun p2 hp2 => ?_⟩
  refine ⟨p1, p2, _, _, rfl, rfl, (Same.new hp2) _ _ upd_same, upd_same, sz (by rw [List.length_map, hlt]; show d + 2 ≤ _; omega), fun p3 hp3 => ?_⟩
  have s3 := (Same.new (o := .lst ((ns.take d).map V.str)) hp1).trans ((Same.new (o := .lst [v, .non]) hp2).trans (Same.new (o := .lst ((ns.take d).map V.str ++ [v, .non])) hp3))
  refine ⟨_, rfl, _, rfl, _, rfl, a, _, rfl, (ha1.up s3).l, fun p4 hp4 => ?_⟩
  rw [cut_drop, ← List.map_drop]
  refine ⟨p3, p4, _, _, rfl, rfl, (Same.new hp4) _ _ upd_same, upd_same, sz (by rw [List.length_append, List.length_map, List.length_map, hlt, List.length_drop]; show d + 2 + _ ≤ _; omega), fun p5 hp5 => ?_⟩
  have s5 := s3.trans ((Same.new (o := .lst ((ns.drop d).map V.str)) hp4).trans (Same.new (o := .lst (((ns.take d).map V.str ++ [v, .non]) ++ (ns.drop d).map V.str)) hp5))
  have no1 : ∀ Hx : Hp, Hx p5 = some (.lst (((ns.take d).map V.str ++ [v, .non]) ++ (ns.drop d).map V.str)) → OddV K Hx v → NoTab K Hx (sortS ns) (.ref p5) (d : Int) := fun Hx hp hvx => by
    have := NoLot.item (K := K) (ns := sortS ns) (a := p5) (gs := ns.take d) (v := v) (r := .non :: (ns.drop d).map V.str) (G := Hx) (by rw [hp, List.append_assoc]; rfl) (hns.nd.sublist (List.take_sublist _ _)) (fun z hz => mem_sortS.mpr (List.mem_of_mem_take hz)) (hodd hvx)
    rw [hlt] at this
    exact .inl this
  refine ⟨_, x, .ref p5, sortS ns, sortP ps, (d : Int), rfl, Same.refl _, hx1.up s5, no1 _ upd_same (hv1.up s5), fun ex H2 s2 he => ⟨rfl, ex, (d : Int), rfl, he, fun t ht => ⟨by show 1 ≤ sizeLine; decide, fun F hF => ?_⟩⟩⟩
  have sA := s5.trans (s2.trans ((Same.new (o := .tup [.str "lot", .int d]) ht).trans (Same.new (o := .lst [.ref t]) hF)))
  have ph : PH [(Pt, qLam)] Hs (upd (upd H2 t (.tup [.str "lot", .int (d : Int)])) F (.lst [.ref t])) F [(t, (d : Int))] := by
    refine ⟨e1.trans (ExtN.of sA), T1.ext sA, upd_same, fun o ho hn => ?_, fun z hz => ?_⟩
    · have := (s5.trans (s2.trans (Same.new (o := .tup [.str "lot", .int d]) ht))) _ _ (e1 _ _ ho hn)
      rw [hF] at this
      cases this
    · rw [List.mem_singleton.mp hz]
      exact (Same.new hF) _ _ upd_same
  clear no1 s3 s5 sA hp1 hp2 hp3 hp4 hp5 ha1 hx1 hv1 he s2
  -- one name twice
  refine ⟨_, rfl, .inl ⟨rfl, _, SqL.of ph.f⟩, ?_⟩
  refine ⟨ph.t, fun H3 e3 T3 => ?_⟩
  have ph3 := ph.step e3 T3
  have ha3 := ha.ext ph3.e
  have hx3 := hx.ext ph3.e
  refine ⟨_, rfl, _, rfl, _, rfl, _, rfl, a, _, rfl, ha3.l, fun p6 hp6 => ?_⟩
  rw [show cutV (ns.map V.str) none (some 1) = (ns.take 1).map V.str from by rw [List.map_take]; exact cut_take 1]
  refine ⟨a, p6, _, _, rfl, rfl, ha3.up (Same.new hp6), upd_same, sz (by rw [List.length_map, List.length_map, List.length_take]; omega), fun p7 hp7 => ?_⟩
  have s7 := (Same.new (o := .lst ((ns.take 1).map V.str)) hp6).trans (Same.new (o := .lst (ns.map V.str ++ (ns.take 1).map V.str)) hp7)
  have no2 : ∀ Hx : Hp, Hx p7 = some (.lst (ns.map V.str ++ (ns.take 1).map V.str)) → NoTab K Hx (sortS ns) (.ref p7) (ns.length : Int) := fun Hx hp => by
    obtain ⟨z, r, rfl⟩ : ∃ z r, ns = z :: r := by
      cases ns with
      | nil => exact absurd nl1 (by simp)
      | cons z r => exact ⟨z, r, rfl⟩
    exact .inl (NoLot.item (K := K) (ns := sortS (z :: r)) (a := p7) (gs := z :: r) (v := .str z) (r := []) (G := Hx) (by rw [hp]; rfl) hns.nd (fun y hy => mem_sortS.mpr hy) (.far (.inr (by simp))))
  refine ⟨_, x, .ref p7, sortS ns, sortP ps, (ns.length : Int), rfl, Same.refl _, hx3.up s7, no2 _ upd_same, fun ex H4 s4 he => ⟨rfl, ex, (ns.length : Int), rfl, he, fun t2 ht2 => ?_⟩⟩
  have ph4 := ph3.same (s7.trans (s4.trans (Same.new (o := .tup [.str "lot", .int ns.length]) ht2)))
  refine ⟨F, _, _, rfl, rfl, ph4.f, by show 1 < sizeLine; decide, ?_⟩
  have ph5 := ph4.add (t := t2) (i := (ns.length : Int)) upd_same
  clear no2 s7 hp6 hp7 ha3 hx3 he s4
  -- no list at all, or an empty one
  refine fun dd hdd => ⟨by decide, fun ll hll => ⟨by decide, fun t0 ht0 => ⟨by show 7 ≤ sizeLine; decide, fun tp htp => ?_⟩⟩⟩
  have ph6 := ph5.same ((Same.new (o := .dK []) hdd).trans ((Same.new (o := .lst []) hll).trans ((Same.new (o := .tup []) ht0).trans (Same.new (o := .tup (nones dd ll t0)) htp))))
  have hlF : ll ≠ F := Ne.symm (ne_of_none ((Same.new (o := .dK []) hdd) _ _ ph5.f) hll)
  have nn6 : NN (upd (upd (upd (upd _ dd (.dK [])) ll (.lst [])) t0 (.tup [])) tp (.tup (nones dd ll t0))) dd ll t0 tp :=
    ⟨((Same.new (o := .lst []) hll).trans ((Same.new (o := .tup []) ht0).trans (Same.new (o := .tup (nones dd ll t0)) htp))) _ _ upd_same, ((Same.new (o := .tup []) ht0).trans (Same.new (o := .tup (nones dd ll t0)) htp)) _ _ upd_same, (Same.new (o := .tup (nones dd ll t0)) htp) _ _ upd_same, upd_same⟩
  clear hdd hll ht0 htp
  refine ⟨tp, rfl, ⟨_, SqT.of upd_same⟩, for_tup (K := K) (xs := nones dd ll t0) (fun i σ Hc => ∃ (v14 : Option V) (l : List (Addr × Int)), σ = [v0, some (.ref st), tv, v3, some (.ref a), v5, some (.ref x), v7, v8, v9, v10, some (.int d), some v, some (.ref F), v14] ∧ PH [(Pt, qLam)] Hs Hc F l ∧ l.map (·.2) = [(d : Int), (ns.length : Int)] ++ List.replicate i 0 ∧ NN Hc dd ll t0 tp)
    ⟨v14, _, rfl, ph6, rfl, nn6⟩ (fun i σ Hc _ ⟨_, _, _, _, _, h⟩ => SqT.of h.p) ?_ ?_⟩
  · rintro i y σ Hc hy ⟨w14, l, rfl, pc, hl, nc⟩
    have hi : i < 7 := lt_of_get hy
    have hll : l.length ≤ 20 := by
      have := congrArg List.length hl
      rw [List.length_map, List.length_append, List.length_replicate] at this
      show l.length ≤ 20
      have h2 : ([(d : Int), (ns.length : Int)] : List Int).length = 2 := rfl
      omega
    refine ⟨_, rfl, .inl ⟨rfl, _, SqL.of pc.f⟩, ?_⟩
    refine ⟨pc.t, fun H7 e7 T7 => ?_⟩
    have p7 := pc.step e7 T7
    have n7 := nc.step e7
    refine ⟨_, rfl, _, rfl, H7, x, y, sortS ns, sortP ps, 0, rfl, Same.refl _, hx.ext p7.e, nones_no n7.d n7.l n7.t (List.mem_of_getElem? hy), fun ex H8 s8 he => ⟨rfl, ex, 0, rfl, he, fun t3 ht3 => ?_⟩⟩
    have s9 := s8.trans (Same.new (o := .tup [.str "lot", .int 0]) ht3)
    have p9 := p7.same s9
    refine ⟨F, _, _, rfl, rfl, p9.f, szl (by rw [List.length_map]; omega), ?_⟩
    refine ⟨_, _, rfl, p9.add (t := t3) (i := 0) upd_same, ?_, (n7.step (ExtN.of s9)).put p9.f hlF⟩
    rw [List.map_append, hl, List.replicate_succ', List.append_assoc]
    rfl
  · rintro σ Hc ⟨w14, l, rfl, pc, hl, nc⟩
    have ea : ExtN Hs Hc := pc.e
    have two : 2 ≤ sizeLine := by decide
    refine ⟨_, rfl, _, rfl, two, fun t1 h1 => ⟨_, rfl, a, _, rfl, .inl (((ha.ext ea).up (Same.new h1)).l), two, fun t2 h2 => ⟨two, fun L1 h3 => ⟨two, fun t3 h4 => ⟨by show 1 ≤ sizeLine; decide, fun L2 h5 => ?_⟩⟩⟩⟩⟩
    refine ⟨L2, _, [.ref t3], rfl, rfl, upd_same, by decide, by decide, by show 1 * 7 ≤ sizeLine; decide, fun L3 h6 => ?_⟩
    refine ⟨L1, L3, _, _, rfl, rfl, ((Same.new h4).trans ((Same.new h5).trans (Same.new h6))) _ _ upd_same, upd_same, by show 2 + 7 ≤ sizeLine; decide, fun L4 h7 => ?_⟩
    have en : ((ns.map V.str).length : Int) = (ns.length : Int) := by rw [List.length_map]
    have sT3 := (Same.new (o := .lst [.ref t3]) h5).trans ((Same.new (o := .lst (List.replicate (Int.toNat 7) [V.ref t3]).flatten) h6).trans (Same.new (o := .lst ([.ref t1, .ref t2] ++ (List.replicate (Int.toNat 7) [V.ref t3]).flatten)) h7))
    have sT2 := (Same.new (o := .lst [.ref t1, .ref t2]) h3).trans ((Same.new (o := .tup [.str "lot", .int 0]) h4).trans sT3)
    have sT1 := (Same.new (o := .tup [.str "lot", .int (ns.map V.str).length]) h2).trans sT2
    have sC := (Same.new (o := .tup [.str "lot", .int d]) h1).trans sT1
    have pz := pc.same sC
    have tt : ∀ e ∈ [(t1, (d : Int)), (t2, (ns.length : Int)), (t3, 0), (t3, 0), (t3, 0), (t3, 0), (t3, 0), (t3, 0), (t3, 0)], (upd _ L4 (.lst ([.ref t1, .ref t2] ++ (List.replicate (Int.toNat 7) [V.ref t3]).flatten))) e.1 = some (.tup [.str "lot", .int e.2]) := fun e he => by
      have a1 := sT1 _ _ (upd_same (H := Hc) (a := t1) (o := .tup [V.str "lot", .int d]))
      have a2 := sT2 _ _ (upd_same (H := upd Hc t1 (.tup [V.str "lot", .int d])) (a := t2) (o := .tup [V.str "lot", .int (ns.map V.str).length]))
      have a2 := a2.trans (congrArg (fun z : Int => some (HO.tup [V.str "lot", V.int z])) en)
      have a3 := sT3 _ _ (upd_same (o := .tup [V.str "lot", .int 0]) (a := t3) (H := upd (upd (upd Hc t1 (.tup [V.str "lot", .int d])) t2 (.tup [V.str "lot", .int (ns.map V.str).length])) L1 (.lst [.ref t1, .ref t2])))
      simp only [List.mem_cons, List.not_mem_nil, or_false] at he
      rcases he with rfl | rfl | rfl | rfl | rfl | rfl | rfl | rfl | rfl
      · exact a1
      · exact a2
      · exact a3
      · exact a3
      · exact a3
      · exact a3
      · exact a3
      · exact a3
      · exact a3
    have dpR : DpAll K _ ([V.ref t1, V.ref t2] ++ (List.replicate (Int.toNat 7) [V.ref t3]).flatten) (([(d : Int), (ns.length : Int)] ++ List.replicate 7 0).map fun i => PyData.tuple [.str "lot", .int i]) := dpAll_lots (K := K) tt
    have dpL := dpAll_lots (K := K) pz.tp
    rw [hl] at dpL
    refine ⟨encF ([(d : Int), (ns.length : Int)] ++ List.replicate 7 0), encF ([(d : Int), (ns.length : Int)] ++ List.replicate 7 0), .lst (SqL.of pz.f) dpL, .lst (SqL.of upd_same) dpR, encF_shaped _, encF_shaped _, false, ?_, iteF ?_⟩
    · rw [SeqAt.eqv_refl _ (encF_lay _)]
      rfl
    · exact k _ _ _ ((strm_ext hs pz.e)) pz.t
end
end K80
end
section
set_option Elab.async false
set_option linter.all false
set_option maxRecDepth 100000
set_option maxHeartbeats 4000000
namespace K80
open PySem PySem.Spec PyProof.Rows L2
open LamX (ExtN Tabs TabS CodeO TabB)
/-! ### the law: all tables of a turn -/
theorem cut_mid {ns : List Str} (h : 6 ≤ ns.length) : cutV (ns.map V.str) (some 2) (some 7) = ((ns.drop 2).take (min 7 ns.length - 2)).map V.str := by
  unfold cutV
  have e1 : HT.sIx (ns.map V.str).length 0 (some 2) = 2 := by
    have := HT.sIx_nat (ns.map V.str).length 0 2
    rw [List.length_map] at this ⊢
    exact this.trans (Nat.min_eq_left (by omega))
  have e2 : HT.sIx (ns.map V.str).length (ns.map V.str).length (some 7) = min 7 ns.length := by
    have := HT.sIx_nat (ns.map V.str).length (ns.map V.str).length 7
    rw [List.length_map] at this ⊢
    exact this
  rw [e1, e2, List.map_take, List.map_drop]
section
variable {P : Program} {w : World} {K : PySem.W.Frag} {mg : Str → Option Value} {base : Heap} {f c Pt : Addr} {A : Around} {outer : List Env} {s : Shared} {H0 : Hp} {E : XK}
theorem law_tabs {C : Addr} (T : Txt K mg) (hr : Room 12 (LX P w K mg base f c A outer s H0 E).A) (OZV : Ok P w K mg base CX0 5 "_law_z_verdict" ["_law_pairs", "_law_table"] spZV) (OE : Ok P w K mg base CX0 2 "_law_z_either" ["_law_stream", "_law_things"] spEither)
    (OM : Ok P w K mg base CX0 2 "_law_mixed" ["_law_stream", "_law_some"] spMixed) (OVd : Ok P w K mg base CX0 9 "verdict" ["debate", "table"] (spVerdict C)) (OC : Ok P w K mg base CX0 8 "cut_to" ["debate", "lot"] (spCutTo C)) (OS : Ok P w K mg base CX0 5 "_law_same" ["_law_found", "_law_due"] spSameD)
    (OLo : Ok P w K mg base CX0 5 "labels_of" ["debate", "lot"] (spLabelsOf C)) (OLe : Ok P w K mg base CX0 3 "least_lot" ["debate"] (spLeast C)) (OTb : Ok P w K mg base CX0 2 "_law_z_tables" ["_law_names"] spTabs) :
    ∃ ts, PS (LX P w K mg base f c A outer s H0 E) (lawFor.getD 3 P0) ts ∧
      ∀ (D : Ends) (v0 v3 v7 v8 v9 v10 v11 v12 v13 v14 : Option V) (tv : Int) (st ci a b x fuel : Nat) (ns : List Str) (ps : List Pair) (G H : Hp), Same G H → Strm st ci (1000 + fuel) G H → Nm G a ns → Prs G b ps → NsOk ns → PsOk ns ps → DebAt C G x (sortS ns) (sortP ps) → (tv < 4 → ns.length ≤ 4) → (¬ tv < 4 → 6 ≤ ns.length) →
        (∀ v7 v8 v9 v10 G' H', Gr [st, ci] G H G' H' → Strm st ci fuel G' H' → D.nx [v0, some (.ref st), some (.int tv), v3, some (.ref a), some (.ref b), some (.ref x), v7, v8, v9, v10, v11, v12, v13, v14] H') →
        ts D [v0, some (.ref st), some (.int tv), v3, some (.ref a), some (.ref b), some (.ref x), v7, v8, v9, v10, v11, v12, v13, v14] H := by
  obtain ⟨tb, hpb, htb⟩ := law_iter (P := P) (w := w) (K := K) (mg := mg) (base := base) (f := f) (c := c) (A := A) (outer := outer) (s := s) (H0 := H0) (E := E) (C := C) T hr OZV OE OM OVd OC OS OLo OLe
  refine ⟨_, ps_for PassesOwn.never rfl (pi_list (pe_ifExp (pt_cmpR op_lt (pv 2) pe_int (nomark _)) (pe_cl OTb (hr.mono (by decide)) (pa_cons (pv 4) pa_nil))
      (pe_lst (pa_cons (pv 4) (pa_cons (pe_slice sl_list (pv 4) (po_some pe_int) (po_some pe_int)) (pa_cons (pe_slice sl_list (pv 4) po_none (po_some pe_int)) pa_nil)))))) (pg_name (i := 7) sc_law.nd rfl (.inl rfl)) hpb, ?_⟩
  intro D v0 v3 v7 v8 v9 v10 v11 v12 v13 v14 tv st ci a b x fuel ns ps G H hG hs ha hb hns hps hx h4 h6 k
  have nl := hns.l2
  have loop : ∀ (S : Addr) (l : List (Addr × List Str)) (G1 H1 : Hp), Gr [] G H G1 H1 → G1 S = some (.lst (l.map fun e => V.ref e.1)) → (∀ e ∈ l, Nm G1 e.1 e.2 ∧ e.2.Nodup ∧ (∀ z ∈ e.2, z ∈ ns) ∧ e.2 ≠ [] ∧ e.2.length ≤ 12) → l.length ≤ 64 →
      ∃ W : Nat → Nat → L2.St → Hp → Prop, (∃ m, W 0 m [v0, some (.ref st), some (.int tv), v3, some (.ref a), some (.ref b), some (.ref x), v7, v8, v9, v10, v11, v12, v13, v14] H1) ∧ ∀ i m σ H, W i m σ H →
        ((Itl K S).stop i H ∧ D.nx σ H) ∨ ((Itl K S).go i H ∧ ∃ N : L2.St → Hp → Prop, (∀ σ' H', N σ' H' → ∃ m', m' < m ∧ W (i + 1) m' σ' H') ∧ ∀ x H', (Itl K S).yld i H x H' → gName 7 x σ H' fun σ2 H2 => tb { D with nx := N, ct := N, bk := D.nx } σ2 H2) := by
    intro S l G1 H1 g1 hS hl hlen
    have hs1 := hs.step g1
    refine for_list (K := K) (xs := l.map fun e => V.ref e.1) (fun i σ Hc => ∃ (w7 w8 w9 w10 : Option V) (Gc : Hp), σ = [v0, some (.ref st), some (.int tv), v3, some (.ref a), some (.ref b), some (.ref x), w7, w8, w9, w10, v11, v12, v13, v14] ∧ Gr [st, ci] G1 H1 Gc Hc ∧ Strm st ci (13 * (64 - i) + fuel) Gc Hc)
      ⟨v7, v8, v9, v10, G1, rfl, Gr.refl g1.sub, hs1.less (by omega)⟩ (fun i σ Hc _ ⟨_, _, _, _, _, _, g, _⟩ => SqL.of ((g.gg.trans g.sub) _ _ hS)) ?_ ?_
    · rintro i y σ Hc hy ⟨w7, w8, w9, w10, Gc, rfl, g, hsc⟩
      obtain ⟨e, he, rfl⟩ := get_map hy
      obtain ⟨q1, q2, q3, q4, q5⟩ := hl e (List.mem_of_getElem? he)
      have hi := lt_of_get he
      have gg := g1.gg.trans g.gg
      refine htb _ v0 (some (.int tv)) v3 w8 w9 w10 v11 v12 v13 v14 st ci a b x e.1 (13 * (64 - (i + 1)) + fuel) ns e.2 ps Gc Hc g.sub (hsc.less (by omega)) (q1.up g.gg) q2 q3 q4 q5 (hb.up gg) hns hps (hx.up gg) fun u7 u8 u9 G' H' g' hs' => ?_
      exact ⟨_, _, _, _, G', rfl, g.trans g', hs'⟩
    · rintro σ Hc ⟨w7, w8, w9, w10, Gc, rfl, g, hsc⟩
      exact k _ _ _ _ Gc Hc ((g1.lift hs.ntS).trans g) (hsc.less (by omega))
  refine ⟨_, rfl, _, _, rfl, rfl, _, rfl, ?_⟩
  by_cases ht : tv < 4
  · rw [decide_eq_true ht]
    refine iteT ⟨_, rfl, G, a, ns, rfl, hG, ha, h4 ht, fun S G1 H1 g1 hS => ?_⟩
    obtain ⟨l, hl1, hl2, hl3⟩ := hS
    refine ⟨S, rfl, ⟨_, SqL.of (g1.sub _ _ hl1)⟩, loop S l G1 H1 g1 hl1 (fun e he => ?_) ?_⟩
    · have hm : e.2 ∈ tabs ns := by rw [← hl3]; exact List.mem_map.mpr ⟨e, he, rfl⟩
      obtain ⟨m1, m2⟩ := mem_tabs hm
      have ml := m1.length_le
      rw [sortS_len] at ml
      exact ⟨hl2 e he, (nodup_sortS hns.nd).sublist m1, fun z hz => mem_sortS.mp (m1.subset hz), fun z => by rw [z] at m2; simp at m2, by omega⟩
    · have := tabs_len (h4 ht)
      rw [← hl3, List.length_map] at this
      exact this
  · rw [decide_eq_false ht]
    have l6 := h6 ht
    refine iteF ⟨_, rfl, _, rfl, _, rfl, _, rfl, a, _, rfl, (ha.up hG).l, fun p1 hp1 => ?_⟩
    rw [cut_mid l6]
    have ga : Gr [] G H _ _ := Gr.new (o := .lst (((ns.drop 2).take (min 7 ns.length - 2)).map V.str)) hG hp1
    refine ⟨_, rfl, _, rfl, a, _, rfl, ((ha.up ga.gg).up ga.sub).l, fun p2 hp2 => ?_⟩
    rw [show cutV (ns.map V.str) none (some 1) = (ns.take 1).map V.str from by rw [List.map_take]; exact cut_take 1]
    have gb := ga.trans (Gr.new (o := .lst ((ns.take 1).map V.str)) ga.sub hp2)
    refine ⟨by show 3 ≤ sizeLine; decide, fun S hS => ?_⟩
    have gc := gb.trans (Gr.new (o := .lst [.ref a, .ref p1, .ref p2]) gb.sub hS)
    have n2 := (Gr.new (S := []) (o := .lst ((ns.take 1).map V.str)) ga.sub hp2).gg
    have n3 := (Gr.new (S := []) (o := .lst [.ref a, .ref p1, .ref p2]) gb.sub hS).gg
    refine ⟨S, rfl, ⟨_, SqL.of upd_same⟩, loop S [(a, ns), (p1, (ns.drop 2).take (min 7 ns.length - 2)), (p2, ns.take 1)] _ _ gc upd_same (fun e he => ?_) (by show 3 ≤ 64; decide)⟩
    simp only [List.mem_cons, List.not_mem_nil, or_false] at he
    rcases he with rfl | rfl | rfl
    · exact ⟨ha.up gc.gg, hns.nd, fun z hz => hz, fun z => by
        have z : ns = [] := z
        rw [z] at l6
        simp at l6, nl⟩
    · have sl : ((ns.drop 2).take (min 7 ns.length - 2)).Sublist ns := (List.take_sublist _ _).trans (List.drop_sublist _ _)
      have sl2 := sl.length_le
      refine ⟨n3 _ _ (n2 _ _ upd_same), hns.nd.sublist sl, fun z hz => sl.subset hz, fun z => ?_, Nat.le_trans sl2 nl⟩
      have := congrArg List.length z
      rw [List.length_take, List.length_drop] at this
      simp at this
      omega
    · have sl : (ns.take 1).Sublist ns := List.take_sublist _ _
      have sl2 := sl.length_le
      refine ⟨n3 _ _ upd_same, hns.nd.sublist sl, fun z hz => sl.subset hz, fun z => ?_, Nat.le_trans sl2 nl⟩
      have := congrArg List.length z
      rw [List.length_take] at this
      simp at this
      rw [this] at l6
      simp at l6
end
end K80
end
section
set_option Elab.async false
set_option linter.all false
set_option maxRecDepth 100000
set_option maxHeartbeats 4000000
namespace K80
open PySem PySem.Spec PyProof.Rows L2
open LamX (ExtN Tabs TabS CodeO TabB)
/-! ### the law: one turn -/
section
variable {P : Program} {w : World} {K : PySem.W.Frag} {mg : Str → Option Value} {base : Heap} {f c Pt : Addr} {A : Around} {outer : List Env} {s : Shared} {H0 : Hp} {E : XK}
theorem law_end {C B fB : Addr} (DMet : Df K mg "_law_met" s_L_met) (BT : BTxt K mg B fB) (BM : BMore K B) (T : Txt K mg) (TB : TabB base mg c Pt) (hr : Room 12 (LX P w K mg base f c A outer s H0 E).A)
    (OVX : Ok P w K mg base (L2.CX P w) 4 "verdict" ["debate", "table"] (spVerdictX K C B)) (OD : Ok P w K mg base CX0 1 "_law_draw" ["_law_stream", "_law_many"] spDraw) (OO : Ok P w K mg base CX0 3 "_law_z_odd_name" ["_law_stream"] (spOdd K)) :
    ∃ tt, PSs (LX P w K mg base f c A outer s H0 E) (lawFor.drop 6) tt ∧
      ∀ (D : Ends) (v0 tv v3 v5 v7 v8 v9 v10 v11 v12 v13 v14 : Option V) (st ci a x fuel : Nat) (ns : List Str) (ps : List Pair) (G H : Hp), Same G H → Tabs [(Pt, qLam)] H → Strm st ci (2 + fuel) G H → Nm G a ns → NsOk ns → (∀ z ∈ ns, z ∉ (["nobody", "", "Aa"] : List Str)) → DebAt C G x (sortS ns) (sortP ps) →
        (∀ v11 v12 v13 v14 H', Strm st ci fuel (fun _ => none) H' → Tabs [(Pt, qLam)] H' → D.nx [v0, some (.ref st), tv, v3, some (.ref a), v5, some (.ref x), v7, v8, v9, v10, v11, v12, v13, v14] H') →
        tt D [v0, some (.ref st), tv, v3, some (.ref a), v5, some (.ref x), v7, v8, v9, v10, v11, v12, v13, v14] H := by
  obtain ⟨tn, hpn, htn⟩ := law_none (P := P) (w := w) (K := K) (mg := mg) (base := base) (f := f) (c := c) (Pt := Pt) (A := A) (outer := outer) (s := s) (H0 := H0) (E := E) (C := C) DMet BT BM T TB hr OVX
  refine ⟨_, pss_cons (ps_asg (pe_tup (pa_cons (pe_cl OD (hr.mono (by decide)) (pa_cons (pv 1) (pa_cons (pe_op op_add (pe_callB call_len_seq (by rfl) T.len PySem.boot_len (pa_cons (pv 4) pa_nil)) pe_int) pa_nil))) (pa_cons (pe_cl OO (hr.mono (by decide)) (pa_cons (pv 1) pa_nil)) pa_nil)))
      (pg_tup rfl (pgs_cons (pg_name (i := 11) sc_law.nd rfl (.inr rfl)) (pgs_cons (pg_name (i := 12) sc_law.nd rfl (.inr rfl)) pgs_nil)))) hpn, ?_⟩
  intro D v0 tv v3 v5 v7 v8 v9 v10 v11 v12 v13 v14 st ci a x fuel ns ps G H hG hT hs ha hns hbad hx k
  have nl := hns.l2
  refine ⟨_, rfl, _, rfl, a, _, rfl, .inl ((ha.up hG).l), _, _, rfl, rfl, G, st, ci, 1 + fuel, (ns.map V.str).length + 1, rfl, hG, hs.less (by omega), by omega, by rw [List.length_map]; omega, fun d H1 g1 hs1 hd => ?_⟩
  rw [List.length_map] at hd
  refine ⟨_, rfl, G, st, ci, fuel, rfl, g1.sub, hs1.less (by omega), fun v G2 H2 g2 hs2 hv => ⟨by show 2 ≤ sizeLine; decide, fun tp htp => ?_⟩⟩
  refine ⟨tp, _, rfl, SqT.of upd_same, rfl, _, _, rfl, _, _, rfl, rfl, ?_⟩
  have g12 := g1.trans g2
  have sn : Same H2 (upd H2 tp (.tup [.int (d : Int), v])) := Same.new htp
  have gs := g12.gg.trans (g12.sub.trans sn)
  exact htn D v0 tv v3 v5 v7 v8 v9 v10 v13 v14 v st ci a x fuel d ns ps _ ((tabs_gr hT hs g12).ext sn) (strm_off (hs2.same sn)) (ha.up gs) hns hbad (hx.up gs) (hv.up (g2.sub.trans sn)) (by omega) fun w13 w14 H' h1 h2 => k _ _ _ _ H' h1 h2
theorem law_mid {C B fB fI fS fO fE : Addr} (DMet : Df K mg "_law_met" s_L_met) (BT : BTxt K mg B fB) (BM : BMore K B) (T : Txt K mg) (DT : DTxt K mg C fI) (DM : DMore K C fS fO fE) (TB : TabB base mg c Pt) (hr : Room 12 (LX P w K mg base f c A outer s H0 E).A)
    (OVX : Ok P w K mg base (L2.CX P w) 4 "verdict" ["debate", "table"] (spVerdictX K C B)) (OD : Ok P w K mg base CX0 1 "_law_draw" ["_law_stream", "_law_many"] spDraw) (OO : Ok P w K mg base CX0 3 "_law_z_odd_name" ["_law_stream"] (spOdd K))
    (OTR : Ok P w K mg base CX0 9 "_law_twins_right" ["_law_stream", "_law_some", "_law_made"] (spTR C)) (OL : Ok P w K mg base CX0 7 "least_twin" ["debate"] (spTwin C)) (OGO : OkM P w K mg base CX0 1 fO ["self"] (spGetO C)) (OZT : Ok P w K mg base CX0 1 "_law_z_twin" ["_law_pairs"] spZT) :
    ∃ tt, PSs (LX P w K mg base f c A outer s H0 E) (lawFor.drop 4) tt ∧
      ∀ (D : Ends) (v0 v7 v8 v9 v10 v11 v12 v13 v14 : Option V) (tv : Int) (st ci t a b x fuel : Nat) (ns : List Str) (ps : List Pair) (G H : Hp), Same G H → Tabs [(Pt, qLam)] H → Strm st ci (1200 + fuel) G H → Some2 G t ns ps → Nm G a ns → Prs G b ps → NsOk ns → PsOk ns ps → (∀ z ∈ ns, z ∉ (["nobody", "", "Aa"] : List Str)) → DebAt C G x (sortS ns) (sortP ps) → (tv < 4 → ns.length ≤ 4) → (¬ tv < 4 → tv = 4) →
        (∀ v11 v12 v13 v14 H', Strm st ci fuel (fun _ => none) H' → Tabs [(Pt, qLam)] H' → D.nx [v0, some (.ref st), some (.int tv), some (.ref t), some (.ref a), some (.ref b), some (.ref x), v7, v8, v9, v10, v11, v12, v13, v14] H') →
        tt D [v0, some (.ref st), some (.int tv), some (.ref t), some (.ref a), some (.ref b), some (.ref x), v7, v8, v9, v10, v11, v12, v13, v14] H := by
  obtain ⟨tn, hpn, htn⟩ := law_end (P := P) (w := w) (K := K) (mg := mg) (base := base) (f := f) (c := c) (Pt := Pt) (A := A) (outer := outer) (s := s) (H0 := H0) (E := E) (C := C) DMet BT BM T TB hr OVX OD OO
  have hu := hr.units
  obtain ⟨fdO, FO, hbO⟩ := OGO
  have hr1 : Room 1 (LX P w K mg base f c A outer s H0 E).A := hr.mono (by decide)
  refine ⟨_, pss_cons (ps_if (PW.pt (pw_and (pt_cmpR op_lt (pv 2) pe_int (nomark _)) (pw_and1 (pt_not (pt_val (pe_cl OTR (hr.mono (by decide)) (pa_cons (pv 1) (pa_cons (pv 3) (pa_cons (pv 6) pa_nil))))))))) (pss_one ps_never) pss_nil)
    (pss_cons (ps_if (PW.pt (pw_and (pt_cmpR op_eq (pv 2) pe_int (nomark _)) (pw_and1 (pt_cmpR (op_neD hu) (pe_meth0 (pe_cl OL (hr.mono (by decide)) (pa_cons (pv 6) pa_nil)) DT.cl DM.mo FO hr1 hbO .nil pass0) (pe_cl OZT hr1 (pa_cons (pv 5) pa_nil)) (by rfl))))) (pss_one ps_never) pss_nil) hpn), ?_⟩
  intro D v0 v7 v8 v9 v10 v11 v12 v13 v14 tv st ci t a b x fuel ns ps G H hG hT hs hsm ha hb hns hps hbad hx h4 h5 k
  have pl := hps.len
  have okp : ∀ p ∈ ps, okPair p := fun p hp => ⟨hns.ok _ (hps.pin p hp).1, hns.ok _ (hps.pin p hp).2⟩
  refine ⟨_, rfl, _, _, rfl, rfl, _, rfl, ?_⟩
  by_cases ht : tv < 4
  · rw [decide_eq_true ht]
    refine iteT ⟨_, rfl, _, rfl, _, rfl, G, st, ci, 100 + fuel, t, x, ns, ps, rfl, hG, hs.less (by omega), hsm, hns, h4 ht, hps, hx, fun G1 H1 g1 hs1 => ⟨_, rfl, iteF ?_⟩⟩
    refine ⟨_, rfl, rfl, _, rfl, ?_⟩
    rw [show decide (V.int tv = V.int 4) = false by rw [dec_int]; simp; omega]
    refine iteF (iteF ?_)
    exact htn D v0 _ _ _ v7 v8 v9 v10 v11 v12 v13 v14 st ci a x fuel ns ps G1 H1 g1.sub (tabs_gr hT hs g1) (hs1.less (by omega)) (ha.up g1.gg) hns hbad (hx.up g1.gg) k
  · rw [decide_eq_false ht]
    have e4 := h5 ht
    subst e4
    refine iteF (iteF ?_)
    refine ⟨_, rfl, rfl, _, rfl, ?_⟩
    rw [decide_eq_true rfl]
    refine iteT ⟨_, rfl, G, x, sortS ns, sortP ps, rfl, hG, hx, fun y G1 H1 g1 hy => ?_⟩
    obtain ⟨dy, so, oo, d1, d2, hya, hyi⟩ := hy.ex
    refine ⟨y, dy, _, rfl, g1.sub _ _ hya, look_ob _ _ _ _, G1, y, sortS ns, tw (sortP ps), rfl, g1.sub, hy, fun l1 G2 H2 g2 hl1 => ?_⟩
    have g12 := g1.trans g2
    refine ⟨_, rfl, G2, b, ps, rfl, g2.sub, hb.up g12.gg, okp, by omega, fun l2 G3 H3 g3 hl2 => ?_⟩
    have okt : ∀ p ∈ sortP (tw ps), okPair p := fun p hp => okp p (tw_sub (mem_sortP.mp hp))
    rw [tw_sort] at hl1
    refine ⟨_, _, ((hl1.up g3.gg).up g3.sub).dp, (hl2.up g3.sub).dp, encPs_shaped okt, encPs_shaped okt, false, ?_, iteF ?_⟩
    · rw [eqv_encPs, decide_eq_true rfl]
      rfl
    have g13 := g12.trans g3
    exact htn D v0 _ _ _ v7 v8 v9 v10 v11 v12 v13 v14 st ci a x fuel ns ps G3 H3 g13.sub (hT.ext g13.all) ((hs.step g13).less (by omega)) (ha.up g13.gg) hns hbad (hx.up g13.gg) k
end
end K80
end
section
set_option Elab.async false
set_option linter.all false
set_option maxRecDepth 100000
set_option maxHeartbeats 4000000
namespace K80
open PySem PySem.Spec PyProof.Rows L2
open LamX (ExtN Tabs TabS CodeO TabB)
/-! ### the law -/
/-- the defs that the law calls, as they are promised -/
structure Defs (P : Program) (w : World) (K : PySem.W.Frag) (mg : Str → Option Value) (base : Heap) (C B fO : Addr) : Prop where
  zv : Ok P w K mg base CX0 5 "_law_z_verdict" ["_law_pairs", "_law_table"] spZV
  ei : Ok P w K mg base CX0 2 "_law_z_either" ["_law_stream", "_law_things"] spEither
  mi : Ok P w K mg base CX0 2 "_law_mixed" ["_law_stream", "_law_some"] spMixed
  vd : Ok P w K mg base CX0 9 "verdict" ["debate", "table"] (spVerdict C)
  ct : Ok P w K mg base CX0 8 "cut_to" ["debate", "lot"] (spCutTo C)
  sd : Ok P w K mg base CX0 5 "_law_same" ["_law_found", "_law_due"] spSameD
  lo : Ok P w K mg base CX0 5 "labels_of" ["debate", "lot"] (spLabelsOf C)
  ll : Ok P w K mg base CX0 3 "least_lot" ["debate"] (spLeast C)
  tb : Ok P w K mg base CX0 2 "_law_z_tables" ["_law_names"] spTabs
  vx : Ok P w K mg base (L2.CX P w) 4 "verdict" ["debate", "table"] (spVerdictX K C B)
  dr : Ok P w K mg base CX0 1 "_law_draw" ["_law_stream", "_law_many"] spDraw
  od : Ok P w K mg base CX0 3 "_law_z_odd_name" ["_law_stream"] (spOdd K)
  tr : Ok P w K mg base CX0 9 "_law_twins_right" ["_law_stream", "_law_some", "_law_made"] (spTR C)
  lt : Ok P w K mg base CX0 7 "least_twin" ["debate"] (spTwin C)
  go : OkM P w K mg base CX0 1 fO ["self"] (spGetO C)
  zt : Ok P w K mg base CX0 1 "_law_z_twin" ["_law_pairs"] spZT
  zm : Ok P w K mg base CX0 7 "_law_z_made" ["_law_stream", "_law_some"] (spZM C)
  zd : Ok P w K mg base CX0 4 "_law_z_debate" ["_law_stream", "_law_most"] spZD
  gr : Ok P w K mg base CX0 4 "_law_great" ["_law_stream"] spGreat
section
variable {P : Program} {w : World} {K : PySem.W.Frag} {mg : Str → Option Value} {base : Heap} {f c Pt : Addr} {A : Around} {outer : List Env} {s : Shared} {H0 : Hp} {E : XK}
theorem law_rest {C B fB fI fS fO fE : Addr} (DMet : Df K mg "_law_met" s_L_met) (BT : BTxt K mg B fB) (BM : BMore K B) (T : Txt K mg) (DT : DTxt K mg C fI) (DM : DMore K C fS fO fE) (TB : TabB base mg c Pt) (hr : Room 12 (LX P w K mg base f c A outer s H0 E).A) (O : Defs P w K mg base C B fO) :
    ∃ tt, PSs (LX P w K mg base f c A outer s H0 E) (lawFor.drop 1) tt ∧
      ∀ (D : Ends) (v0 v4 v5 v6 v7 v8 v9 v10 v11 v12 v13 v14 : Option V) (tv : Int) (st ci t fuel : Nat) (ns : List Str) (ps : List Pair) (G H : Hp), Same G H → Tabs [(Pt, qLam)] H → Strm st ci (4000 + fuel) G H → Some2 G t ns ps → NsOk ns → PsOk ns ps → (∀ z ∈ ns, z ∉ (["nobody", "", "Aa"] : List Str)) → (tv < 4 → ns.length ≤ 4) → (¬ tv < 4 → 6 ≤ ns.length) → (¬ tv < 4 → tv = 4) →
        (∀ v4 v5 v6 v7 v8 v9 v10 v11 v12 v13 v14 H', Strm st ci fuel (fun _ => none) H' → Tabs [(Pt, qLam)] H' → D.nx [v0, some (.ref st), some (.int tv), some (.ref t), v4, v5, v6, v7, v8, v9, v10, v11, v12, v13, v14] H') →
        tt D [v0, some (.ref st), some (.int tv), some (.ref t), v4, v5, v6, v7, v8, v9, v10, v11, v12, v13, v14] H := by
  obtain ⟨tn, hpn, htn⟩ := law_mid (P := P) (w := w) (K := K) (mg := mg) (base := base) (f := f) (c := c) (Pt := Pt) (A := A) (outer := outer) (s := s) (H0 := H0) (E := E) (C := C) DMet BT BM T DT DM TB hr O.vx O.dr O.od O.tr O.lt O.go O.zt
  obtain ⟨ts, hps', hts⟩ := law_tabs (P := P) (w := w) (K := K) (mg := mg) (base := base) (f := f) (c := c) (A := A) (outer := outer) (s := s) (H0 := H0) (E := E) (C := C) T hr O.zv O.ei O.mi O.vd O.ct O.sd O.lo O.ll O.tb
  refine ⟨_, pss_cons (ps_asg (pv 3) (pg_tup rfl (pgs_cons (pg_name (i := 4) sc_law.nd rfl (.inr rfl)) (pgs_cons (pg_name (i := 5) sc_law.nd rfl (.inl rfl)) pgs_nil))))
    (pss_cons (ps_set (i := 6) sc_law.nd rfl (.inr rfl) (pe_cl O.zm (hr.mono (by decide)) (pa_cons (pv 1) (pa_cons (pv 3) pa_nil))))
    (pss_cons hps' hpn)), ?_⟩
  intro D v0 v4 v5 v6 v7 v8 v9 v10 v11 v12 v13 v14 tv st ci t fuel ns ps G H hG hT hs hsm hns hps hbad h4 h6 h5 k
  obtain ⟨a, b, ht, ha, hb⟩ := hsm.ex
  refine ⟨_, rfl, t, _, rfl, SqT.of (hG _ _ ht), rfl, _, _, rfl, _, _, rfl, rfl, ?_⟩
  refine ⟨_, rfl, _, rfl, G, st, ci, 2500 + fuel, t, ns, ps, rfl, hG, hs.less (by omega), hsm, hns, hps, fun x G1 H1 g1 hs1 hx => ?_⟩
  have hT1 := tabs_gr hT hs g1
  refine hts _ v0 (some (.ref t)) v7 v8 v9 v10 v11 v12 v13 v14 tv st ci a b x (1200 + fuel) ns ps G1 H1 g1.sub (hs1.less (by omega)) (ha.up g1.gg) (hb.up g1.gg) hns hps hx h4 h6 fun w7 w8 w9 w10 G2 H2 g2 hs2 => ?_
  have gg := g1.gg.trans g2.gg
  exact htn D v0 w7 w8 w9 w10 v11 v12 v13 v14 tv st ci t a b x fuel ns ps G2 H2 g2.sub (tabs_gr hT1 hs1 g2) hs2 (hsm.up gg) (ha.up gg) (hb.up gg) hns hps hbad (hx.up g2.gg) h4 h5 fun u1 u2 u3 u4 H' q1 q2 => k _ _ _ _ _ _ _ _ _ _ _ H' q1 q2
theorem law_turn {C B fB fI fS fO fE : Addr} (DMet : Df K mg "_law_met" s_L_met) (BT : BTxt K mg B fB) (BM : BMore K B) (T : Txt K mg) (DT : DTxt K mg C fI) (DM : DMore K C fS fO fE) (TB : TabB base mg c Pt) (hr : Room 12 (LX P w K mg base f c A outer s H0 E).A) (O : Defs P w K mg base C B fO) :
    ∃ tt, PSs (LX P w K mg base f c A outer s H0 E) lawFor tt ∧
      ∀ (D : Ends) (v0 v3 v4 v5 v6 v7 v8 v9 v10 v11 v12 v13 v14 : Option V) (tv : Int) (st ci fuel : Nat) (H : Hp), Tabs [(Pt, qLam)] H → Strm st ci (8000 + fuel) (fun _ => none) H → (¬ tv < 4 → tv = 4) →
        (∀ v3 v4 v5 v6 v7 v8 v9 v10 v11 v12 v13 v14 H', Strm st ci fuel (fun _ => none) H' → Tabs [(Pt, qLam)] H' → D.nx [v0, some (.ref st), some (.int tv), v3, v4, v5, v6, v7, v8, v9, v10, v11, v12, v13, v14] H') →
        tt D [v0, some (.ref st), some (.int tv), v3, v4, v5, v6, v7, v8, v9, v10, v11, v12, v13, v14] H := by
  obtain ⟨tn, hpn, htn⟩ := law_rest (P := P) (w := w) (K := K) (mg := mg) (base := base) (f := f) (c := c) (Pt := Pt) (A := A) (outer := outer) (s := s) (H0 := H0) (E := E) (C := C) DMet BT BM T DT DM TB hr O
  have hr4 : Room 4 (LX P w K mg base f c A outer s H0 E).A := hr.mono (by decide)
  refine ⟨_, pss_cons (ps_set (i := 3) sc_law.nd rfl (.inl rfl) (pe_ifExp (pt_cmpR op_lt (pv 2) pe_int (nomark _)) (pe_cl O.zd hr4 (pa_cons (pv 1) (pa_cons pe_int pa_nil))) (pe_cl O.gr hr4 (pa_cons (pv 1) pa_nil)))) hpn, ?_⟩
  intro D v0 v3 v4 v5 v6 v7 v8 v9 v10 v11 v12 v13 v14 tv st ci fuel H hT hs h5 k
  have hG : Same (fun _ => none) H := fun _ _ h => by cases h
  refine ⟨_, rfl, _, _, rfl, rfl, _, rfl, ?_⟩
  by_cases ht : tv < 4
  · rw [decide_eq_true ht]
    refine iteT ⟨_, rfl, _, st, ci, 4000 + fuel, rfl, hG, hs.less (by omega), fun t ns ps G1 H1 g1 hs1 hsm hns hsub hl hps => ?_⟩
    exact htn D v0 v4 v5 v6 v7 v8 v9 v10 v11 v12 v13 v14 tv st ci t fuel ns ps G1 H1 g1.sub (tabs_gr hT hs g1) hs1 hsm hns hps (fun z hz => nm10_no z (hsub z hz)) (fun _ => hl) (fun h => absurd ht h) h5 fun u4 u5 u6 u7 u8 u9 u10 u11 u12 u13 u14 H' q1 q2 => k _ _ _ _ _ _ _ _ _ _ _ _ H' q1 q2
  · rw [decide_eq_false ht]
    refine iteF ⟨_, rfl, _, st, ci, 4000 + fuel, rfl, hG, hs.less (by omega), fun t ns ps G1 H1 g1 hs1 hsm hns hbad hl hps => ?_⟩
    exact htn D v0 v4 v5 v6 v7 v8 v9 v10 v11 v12 v13 v14 tv st ci t fuel ns ps G1 H1 g1.sub (tabs_gr hT hs g1) hs1 hsm hns hps hbad (fun h => absurd h ht) (fun _ => hl) h5 fun u4 u5 u6 u7 u8 u9 u10 u11 u12 u13 u14 H' q1 q2 => k _ _ _ _ _ _ _ _ _ _ _ _ H' q1 q2
/-! start, of a list as it is handed in -/
def spStart2 (K : PySem.W.Frag) : Sp := fun vs H Q _ => ∃ (G : Hp) (a : Addr) (cs : List Int), vs = [.ref a] ∧ Same G H ∧ SqL K H a (cs.map V.int) ∧ ∀ (st ci : Addr) (H' : Hp), Gr [] G H G H' → Strm st ci 1000000000000 G H' → Q (.ref st) H'
theorem ok_start2 (D : Df K mg "_law_start" s_L_start) (T : Txt K mg) : Ok P w K mg base CX0 1 "_law_start" ["_law_script"] (spStart2 K) := by
  refine mkOk D sc_start (fun _ _ _ _ _ _ us hl => match us, hl with | [_], _ => rfl) (fun vs H Q E h => ?_) fun cdv A outer s H vs Q E hr h => ?_
  · obtain ⟨_, _, _, rfl, _⟩ := h
    rfl
  · obtain ⟨G, a, cs, rfl, hG, ha, k⟩ := h
    refine ⟨_, pss_one (ps_ret (pe_lst (pa_cons (pe_callTy call_list_of (by rfl) T.list (by decide +kernel) (pa_cons (pv 0) pa_nil)) (pa_cons pe_int (pa_cons pe_int (pa_cons pe_int pa_nil)))))), ?_⟩
    refine ⟨_, rfl, a, _, rfl, .inl ha, fun ci hci => ⟨by show 4 ≤ sizeLine; decide, fun st hst => ?_⟩⟩
    have g0 : Gr [] G H G (upd H ci (.lst (cs.map V.int))) := Gr.hid hG hci
    have g1 := g0.trans (Gr.hid (o := .lst [.ref ci, .int 0, .int 0, .int 11]) g0.sub hst)
    have ne : st ≠ ci := fun z => by rw [z, upd_same] at hst; cases hst
    refine k st ci _ g1 ⟨Same.free g0.sub hst, Same.free hG hci, ne, cs, 0, 0, 11, upd_same, by rw [upd_ne (Ne.symm ne)]; exact upd_same, by decide, by decide, by decide, by decide, by decide⟩
def spLaw (K : PySem.W.Frag) (Pt : Addr) : Sp := fun vs H Q _ => ∃ (a : Addr) (cs : List Int), vs = [.ref a] ∧ SqL K H a (cs.map V.int) ∧ Tabs [(Pt, qLam)] H ∧ ∀ H', Q (.bl true) H'
theorem ok_law {C B fB fI fS fO fE : Addr} {oc : Value} {od : Option Addr} {dV kV doc pm ct : Value} {an : Option Addr} {osl : Array (Option Value)} (lk : K.lookup f = some ⟨oc, od, .func (PySem.W.fnOf "law" "law" (defArgs s_law) (defBody s_law) (defScope s_law) dV kV doc pm an (.ref c) ct), osl⟩) (hcd : PySem.W.codeIn K (.ref c) "law" = true)
    (DMet : Df K mg "_law_met" s_L_met) (DS : Df K mg "_law_start" s_L_start) (BT : BTxt K mg B fB) (BM : BMore K B) (T : Txt K mg) (DT : DTxt K mg C fI) (DM : DMore K C fS fO fE) (TB : TabB base mg c Pt) (O : Defs P w K mg base C B fO) :
    FnOk P w K mg base CX0 13 f (PySem.W.fnOf "law" "law" (defArgs s_law) (defBody s_law) (defScope s_law) dV kV doc pm an (.ref c) ct) ["_law_script"] (spLaw K Pt) := by
  refine fn_of lk hcd sc_law (fun vs H Q E h => ?_) fun A outer s H vs Q E hr h => ?_
  · obtain ⟨_, _, rfl, _⟩ := h
    rfl
  · obtain ⟨a, cs, rfl, ha, hT, k⟩ := h
    have OS := ok_start2 (P := P) (w := w) (base := base) DS T
    have term : ∃ t, PSs (LX P w K mg base f c A outer s H E) (defBody s_law) t ∧ t { nx := fun _ H' => Q .non H', rt := Q } (start NL [.ref a]) H := by
      have hr' : Room 12 (LX P w K mg base f c A outer s H E).A := hr
      obtain ⟨tn, hpn, htn⟩ := law_turn (P := P) (w := w) (K := K) (mg := mg) (base := base) (f := f) (c := c) (Pt := Pt) (A := A) (outer := outer) (s := s) (H0 := H) (E := E) (C := C) DMet BT BM T DT DM TB hr' O
      refine ⟨_, pss_cons (ps_set (i := 1) sc_law.nd rfl (.inl rfl) (pe_cl OS (hr'.mono (by decide)) (pa_cons (pv 0) pa_nil)))
        (pss_cons (ps_for PassesOwn.never rfl (pi_range1 rfl T.range (pa_cons pe_int pa_nil)) (pg_name (i := 2) sc_law.nd rfl (.inl rfl)) hpn)
        (pss_one (ps_ret pe_bl))), ?_⟩
      refine ⟨_, rfl, (fun _ => none), a, cs, rfl, (fun _ _ h => by cases h), ha, fun st ci H1 g1 hs1 => ?_⟩
      have hT1 := hT.ext g1.all
      refine ⟨5, rfl, by decide, by decide, for_range (lo := 0) (n := Int.toNat 5) (fun i σ Hc => ∃ v2 v3 v4 v5 v6 v7 v8 v9 v10 v11 v12 v13 v14, σ = [some (.ref a), some (.ref st), v2, v3, v4, v5, v6, v7, v8, v9, v10, v11, v12, v13, v14] ∧ Strm st ci (8000 * (5 - i)) (fun _ => none) Hc ∧ Tabs [(Pt, qLam)] Hc) ⟨none, none, none, none, none, none, none, none, none, none, none, none, none, rfl, hs1.less (by decide), hT1⟩ ?_ ?_⟩
      · rintro i σ Hc hi ⟨v2, v3, v4, v5, v6, v7, v8, v9, v10, v11, v12, v13, v14, rfl, hsc, hTc⟩
        have hi : i < 5 := hi
        refine htn _ (some (.ref a)) v3 v4 v5 v6 v7 v8 v9 v10 v11 v12 v13 v14 (0 + (i : Int)) st ci (8000 * (5 - (i + 1))) Hc hTc (hsc.less (by omega)) (by omega) fun u3 u4 u5 u6 u7 u8 u9 u10 u11 u12 u13 u14 H' q1 q2 => ?_
        exact ⟨_, _, _, _, _, _, _, _, _, _, _, _, _, rfl, q1, q2⟩
      · rintro σ Hc _
        exact k Hc
    obtain ⟨t, h1, h2⟩ := term
    exact ⟨t, h1.nox, h2⟩
end
end K80
end
set_option Elab.async false
set_option linter.all false
set_option maxRecDepth 100000
set_option maxHeartbeats 4000000
namespace K80
open PySem PySem.Spec PyProof.Rows L2
open LamX (ExtN Tabs TabS CodeO TabB)
/-! ### all promises, from what the head tells -/
section
variable {P : Program} {w : World} {K : PySem.W.Frag} {mg : Str → Option Value} {h : Heap}
structure Told (K : PySem.W.Frag) (mg : Str → Option Value) (C B fI fS fO fE fB : Addr) : Prop where
  T : Txt K mg
  DT : DTxt K mg C fI
  DM : DMore K C fS fO fE
  BT : BTxt K mg B fB
  BM : BMore K B
theorem told_of (X : K.In h) (G : h.Ns mainGlobals mg) (cd : He.SaysD faA fnA K) (ex : exB K = true) : Told K mg (He.ga K "Debate") (He.ga K "BadLot") (He.ma K (He.ga K "Debate") "__init__") (He.ma K (He.ga K "Debate") "statements") (He.ma K (He.ga K "Debate") "objections") (He.ma K (He.ga K "Debate") "__eq__") (He.ma K (He.ga K "BadLot") "__init__") := by
  obtain ⟨x1, ex⟩ := He.ba ex
  obtain ⟨x2, ex⟩ := He.ba ex
  obtain ⟨x3, ex⟩ := He.ba ex
  obtain ⟨x4, ex⟩ := He.ba ex
  obtain ⟨x5, ex⟩ := He.ba ex
  obtain ⟨x6, ex⟩ := He.ba ex
  obtain ⟨x7, ex⟩ := He.ba ex
  obtain ⟨x8, ex⟩ := He.ba ex
  obtain ⟨x9, ex⟩ := He.ba ex
  obtain ⟨x10, ex⟩ := He.ba ex
  obtain ⟨x11, x12⟩ := He.ba ex
  refine ⟨⟨He.free_ok X G (cd.fact 53 (f := .free "len") rfl), He.free_ok X G (cd.fact 54 (f := .free "isinstance") rfl), He.free_ok X G (cd.fact 55 (f := .free "all") rfl), He.free_ok X G (cd.fact 56 (f := .free "any") rfl), He.free_ok X G (cd.fact 57 (f := .free "sorted") rfl), He.free_ok X G (cd.fact 58 (f := .free "enumerate") rfl), He.free_ok X G (cd.fact 59 (f := .free "range") rfl), He.free_ok X G (cd.fact 60 (f := .free "zip") rfl), He.free_ok X G (cd.fact 61 (f := .free "list") rfl), He.free_ok X G (cd.fact 62 (f := .free "tuple") rfl), He.free_ok X G (cd.fact 63 (f := .free "int") rfl), He.free_ok X G (cd.fact 64 (f := .free "str") rfl), He.free_ok X G (cd.fact 65 (f := .free "dict") rfl), He.free_ok X G (cd.fact 66 (f := .free "bool") rfl), He.str_ok X G (cd.fact 67 (f := .str "SMALL" hSmall) rfl), He.str_ok X G (cd.fact 68 (f := .str "FIGURES" hFigs) rfl)⟩, ?_, ?_, ?_, ?_⟩
  · exact ⟨He.cls_ok (cd.fact 69 (f := .cls "Debate") rfl), He.noat_ok (cd.fact 70 (f := .noat "Debate" "own_statements") rfl), He.noat_ok (cd.fact 71 (f := .noat "Debate" "own_objections") rfl), He.noat_ok (cd.fact 72 (f := .noat "Debate" "own_objectors") rfl), He.noat_ok (cd.fact 73 (f := .noat "Debate" "own_objected") rfl), He.glo_ok X G (cd.fact 51 (f := .glo "Debate") rfl), He.mkr_ok (cd.fact 74 (f := .mkr "Debate") rfl)⟩
  · exact ⟨He.eqO_ok x1, He.eqO_ok x2, of_decide_eq_true x3, of_decide_eq_true x4, He.meth_ok (cd.fact 75 (f := .meth "Debate" "statements") rfl), He.meth_ok (cd.fact 76 (f := .meth "Debate" "objections") rfl), He.meth_ok (cd.fact 77 (f := .meth "Debate" "__eq__") rfl)⟩
  · exact ⟨⟨exClsB_ok x5, He.eqO_ok x6, of_decide_eq_true x7, of_decide_eq_true x8, He.keep_ok (cd.fact 78 (f := .keep "BadLot") rfl)⟩, He.eqO_ok x9, of_decide_eq_true x10, He.eqO_ok x11, He.glo_ok X G (cd.fact 52 (f := .glo "BadLot") rfl)⟩
  · exact ⟨xfB_ok x12, He.exm_ok (cd.fact 79 (f := .exm "BadLot" "BadLot" true) rfl)⟩
theorem defs_of (X : K.In h) (G : h.Ns mainGlobals mg) (cd : He.SaysD faA fnA K) (t : Told K mg (He.ga K "Debate") (He.ga K "BadLot") (He.ma K (He.ga K "Debate") "__init__") (He.ma K (He.ga K "Debate") "statements") (He.ma K (He.ga K "Debate") "objections") (He.ma K (He.ga K "Debate") "__eq__") (He.ma K (He.ga K "BadLot") "__init__")) (base : Heap) :
    Defs P w K mg base (He.ga K "Debate") (He.ga K "BadLot") (He.ma K (He.ga K "Debate") "objections") ∧ Df K mg "_law_met" s_L_met ∧ Df K mg "_law_start" s_L_start := by
  obtain ⟨T, DT, DM, BT, BM⟩ := t
  have D_is_list : Df K mg "is_list" s_is_list := ⟨cd.def_ 0 (d := dD "is_list" s_is_list) rfl, He.glo_ok X G (cd.fact 0 (f := .glo "is_list") rfl)⟩
  have D_is_name : Df K mg "is_name" s_is_name := ⟨cd.def_ 1 (d := dD "is_name" s_is_name) rfl, He.glo_ok X G (cd.fact 1 (f := .glo "is_name") rfl)⟩
  have D_as_tuples : Df K mg "as_tuples" s_as_tuples := ⟨cd.def_ 2 (d := dD "as_tuples" s_as_tuples) rfl, He.glo_ok X G (cd.fact 2 (f := .glo "as_tuples") rfl)⟩
  have D_checked_statements : Df K mg "checked_statements" s_checked_statements := ⟨cd.def_ 3 (d := dD "checked_statements" s_checked_statements) rfl, He.glo_ok X G (cd.fact 3 (f := .glo "checked_statements") rfl)⟩
  have D_is_pair_of : Df K mg "is_pair_of" s_is_pair_of := ⟨cd.def_ 4 (d := dD "is_pair_of" s_is_pair_of) rfl, He.glo_ok X G (cd.fact 4 (f := .glo "is_pair_of") rfl)⟩
  have D_checked_objections : Df K mg "checked_objections" s_checked_objections := ⟨cd.def_ 5 (d := dD "checked_objections" s_checked_objections) rfl, He.glo_ok X G (cd.fact 5 (f := .glo "checked_objections") rfl)⟩
  have D_checked_lot : Df K mg "checked_lot" s_checked_lot := ⟨cd.def_ 6 (d := dD "checked_lot" s_checked_lot) rfl, He.glo_ok X G (cd.fact 6 (f := .glo "checked_lot") rfl)⟩
  have D_hit_by : Df K mg "hit_by" s_hit_by := ⟨cd.def_ 7 (d := dD "hit_by" s_hit_by) rfl, He.glo_ok X G (cd.fact 7 (f := .glo "hit_by") rfl)⟩
  have D_answered_in : Df K mg "answered_in" s_answered_in := ⟨cd.def_ 8 (d := dD "answered_in" s_answered_in) rfl, He.glo_ok X G (cd.fact 8 (f := .glo "answered_in") rfl)⟩
  have D_least_lot : Df K mg "least_lot" s_least_lot := ⟨cd.def_ 9 (d := dD "least_lot" s_least_lot) rfl, He.glo_ok X G (cd.fact 9 (f := .glo "least_lot") rfl)⟩
  have D_clash_in : Df K mg "clash_in" s_clash_in := ⟨cd.def_ 10 (d := dD "clash_in" s_clash_in) rfl, He.glo_ok X G (cd.fact 10 (f := .glo "clash_in") rfl)⟩
  have D_unanswered_in : Df K mg "unanswered_in" s_unanswered_in := ⟨cd.def_ 11 (d := dD "unanswered_in" s_unanswered_in) rfl, He.glo_ok X G (cd.fact 11 (f := .glo "unanswered_in") rfl)⟩
  have D_fault_in : Df K mg "fault_in" s_fault_in := ⟨cd.def_ 12 (d := dD "fault_in" s_fault_in) rfl, He.glo_ok X G (cd.fact 12 (f := .glo "fault_in") rfl)⟩
  have D_fault_among_held : Df K mg "fault_among_held" s_fault_among_held := ⟨cd.def_ 13 (d := dD "fault_among_held" s_fault_among_held) rfl, He.glo_ok X G (cd.fact 13 (f := .glo "fault_among_held") rfl)⟩
  have D_labels_by : Df K mg "labels_by" s_labels_by := ⟨cd.def_ 14 (d := dD "labels_by" s_labels_by) rfl, He.glo_ok X G (cd.fact 14 (f := .glo "labels_by") rfl)⟩
  have D_labels_of : Df K mg "labels_of" s_labels_of := ⟨cd.def_ 15 (d := dD "labels_of" s_labels_of) rfl, He.glo_ok X G (cd.fact 15 (f := .glo "labels_of") rfl)⟩
  have D_cut_by : Df K mg "cut_by" s_cut_by := ⟨cd.def_ 16 (d := dD "cut_by" s_cut_by) rfl, He.glo_ok X G (cd.fact 16 (f := .glo "cut_by") rfl)⟩
  have D_cut_to : Df K mg "cut_to" s_cut_to := ⟨cd.def_ 17 (d := dD "cut_to" s_cut_to) rfl, He.glo_ok X G (cd.fact 17 (f := .glo "cut_to") rfl)⟩
  have D_verdict_by : Df K mg "verdict_by" s_verdict_by := ⟨cd.def_ 18 (d := dD "verdict_by" s_verdict_by) rfl, He.glo_ok X G (cd.fact 18 (f := .glo "verdict_by") rfl)⟩
  have D_verdict : Df K mg "verdict" s_verdict := ⟨cd.def_ 19 (d := dD "verdict" s_verdict) rfl, He.glo_ok X G (cd.fact 19 (f := .glo "verdict") rfl)⟩
  have D_is_seen : Df K mg "is_seen" s_is_seen := ⟨cd.def_ 20 (d := dD "is_seen" s_is_seen) rfl, He.glo_ok X G (cd.fact 20 (f := .glo "is_seen") rfl)⟩
  have D_least_twin : Df K mg "least_twin" s_least_twin := ⟨cd.def_ 21 (d := dD "least_twin" s_least_twin) rfl, He.glo_ok X G (cd.fact 21 (f := .glo "least_twin") rfl)⟩
  have D_are_twins : Df K mg "are_twins" s_are_twins := ⟨cd.def_ 22 (d := dD "are_twins" s_are_twins) rfl, He.glo_ok X G (cd.fact 22 (f := .glo "are_twins") rfl)⟩
  have D__law_z_debate : Df K mg "_law_z_debate" s_L_z_debate := ⟨cd.def_ 23 (d := dD "_law_z_debate" s_L_z_debate) rfl, He.glo_ok X G (cd.fact 23 (f := .glo "_law_z_debate") rfl)⟩
  have D__law_z_made : Df K mg "_law_z_made" s_L_z_made := ⟨cd.def_ 24 (d := dD "_law_z_made" s_L_z_made) rfl, He.glo_ok X G (cd.fact 24 (f := .glo "_law_z_made") rfl)⟩
  have D__law_z_odd_name : Df K mg "_law_z_odd_name" s_L_z_odd_name := ⟨cd.def_ 25 (d := dD "_law_z_odd_name" s_L_z_odd_name) rfl, He.glo_ok X G (cd.fact 25 (f := .glo "_law_z_odd_name") rfl)⟩
  have D__law_z_verdict : Df K mg "_law_z_verdict" s_L_z_verdict := ⟨cd.def_ 26 (d := dD "_law_z_verdict" s_L_z_verdict) rfl, He.glo_ok X G (cd.fact 26 (f := .glo "_law_z_verdict") rfl)⟩
  have D__law_z_tables : Df K mg "_law_z_tables" s_L_z_tables := ⟨cd.def_ 27 (d := dD "_law_z_tables" s_L_z_tables) rfl, He.glo_ok X G (cd.fact 27 (f := .glo "_law_z_tables") rfl)⟩
  have D__law_z_either : Df K mg "_law_z_either" s_L_z_either := ⟨cd.def_ 28 (d := dD "_law_z_either" s_L_z_either) rfl, He.glo_ok X G (cd.fact 28 (f := .glo "_law_z_either") rfl)⟩
  have D__law_z_twin : Df K mg "_law_z_twin" s_L_z_twin := ⟨cd.def_ 29 (d := dD "_law_z_twin" s_L_z_twin) rfl, He.glo_ok X G (cd.fact 29 (f := .glo "_law_z_twin") rfl)⟩
  have D__law_start : Df K mg "_law_start" s_L_start := ⟨cd.def_ 30 (d := dD "_law_start" s_L_start) rfl, He.glo_ok X G (cd.fact 30 (f := .glo "_law_start") rfl)⟩
  have D__law_draw : Df K mg "_law_draw" s_L_draw := ⟨cd.def_ 31 (d := dD "_law_draw" s_L_draw) rfl, He.glo_ok X G (cd.fact 31 (f := .glo "_law_draw") rfl)⟩
  have D__law_pick : Df K mg "_law_pick" s_L_pick := ⟨cd.def_ 32 (d := dD "_law_pick" s_L_pick) rfl, He.glo_ok X G (cd.fact 32 (f := .glo "_law_pick") rfl)⟩
  have D__law_mixed : Df K mg "_law_mixed" s_L_mixed := ⟨cd.def_ 33 (d := dD "_law_mixed" s_L_mixed) rfl, He.glo_ok X G (cd.fact 33 (f := .glo "_law_mixed") rfl)⟩
  have D__law_same : Df K mg "_law_same" s_L_same := ⟨cd.def_ 34 (d := dD "_law_same" s_L_same) rfl, He.glo_ok X G (cd.fact 34 (f := .glo "_law_same") rfl)⟩
  have D__law_each_once : Df K mg "_law_each_once" s_L_each_once := ⟨cd.def_ 35 (d := dD "_law_each_once" s_L_each_once) rfl, He.glo_ok X G (cd.fact 35 (f := .glo "_law_each_once") rfl)⟩
  have D__law_loose : Df K mg "_law_loose" s_L_loose := ⟨cd.def_ 36 (d := dD "_law_loose" s_L_loose) rfl, He.glo_ok X G (cd.fact 36 (f := .glo "_law_loose") rfl)⟩
  have D__law_d_names : Df K mg "_law_d_names" s_L_d_names := ⟨cd.def_ 37 (d := dD "_law_d_names" s_L_d_names) rfl, He.glo_ok X G (cd.fact 37 (f := .glo "_law_d_names") rfl)⟩
  have D__law_d_pairs : Df K mg "_law_d_pairs" s_L_d_pairs := ⟨cd.def_ 38 (d := dD "_law_d_pairs" s_L_d_pairs) rfl, He.glo_ok X G (cd.fact 38 (f := .glo "_law_d_pairs") rfl)⟩
  have D__law_d_objectors : Df K mg "_law_d_objectors" s_L_d_objectors := ⟨cd.def_ 39 (d := dD "_law_d_objectors" s_L_d_objectors) rfl, He.glo_ok X G (cd.fact 39 (f := .glo "_law_d_objectors") rfl)⟩
  have D__law_d_hits : Df K mg "_law_d_hits" s_L_d_hits := ⟨cd.def_ 40 (d := dD "_law_d_hits" s_L_d_hits) rfl, He.glo_ok X G (cd.fact 40 (f := .glo "_law_d_hits") rfl)⟩
  have D__law_d_answers : Df K mg "_law_d_answers" s_L_d_answers := ⟨cd.def_ 41 (d := dD "_law_d_answers" s_L_d_answers) rfl, He.glo_ok X G (cd.fact 41 (f := .glo "_law_d_answers") rfl)⟩
  have D__law_d_answered : Df K mg "_law_d_answered" s_L_d_answered := ⟨cd.def_ 42 (d := dD "_law_d_answered" s_L_d_answered) rfl, He.glo_ok X G (cd.fact 42 (f := .glo "_law_d_answered") rfl)⟩
  have D__law_d_subsets : Df K mg "_law_d_subsets" s_L_d_subsets := ⟨cd.def_ 43 (d := dD "_law_d_subsets" s_L_d_subsets) rfl, He.glo_ok X G (cd.fact 43 (f := .glo "_law_d_subsets") rfl)⟩
  have D__law_d_labels : Df K mg "_law_d_labels" s_L_d_labels := ⟨cd.def_ 44 (d := dD "_law_d_labels" s_L_d_labels) rfl, He.glo_ok X G (cd.fact 44 (f := .glo "_law_d_labels") rfl)⟩
  have D__law_met : Df K mg "_law_met" s_L_met := ⟨cd.def_ 45 (d := dD "_law_met" s_L_met) rfl, He.glo_ok X G (cd.fact 45 (f := .glo "_law_met") rfl)⟩
  have D__law_near : Df K mg "_law_near" s_L_near := ⟨cd.def_ 46 (d := dD "_law_near" s_L_near) rfl, He.glo_ok X G (cd.fact 46 (f := .glo "_law_near") rfl)⟩
  have D__law_all_verdicts : Df K mg "_law_all_verdicts" s_L_all_verdicts := ⟨cd.def_ 47 (d := dD "_law_all_verdicts" s_L_all_verdicts) rfl, He.glo_ok X G (cd.fact 47 (f := .glo "_law_all_verdicts") rfl)⟩
  have D__law_twins_right : Df K mg "_law_twins_right" s_L_twins_right := ⟨cd.def_ 48 (d := dD "_law_twins_right" s_L_twins_right) rfl, He.glo_ok X G (cd.fact 48 (f := .glo "_law_twins_right") rfl)⟩
  have D__law_great : Df K mg "_law_great" s_L_great := ⟨cd.def_ 49 (d := dD "_law_great" s_L_great) rfl, He.glo_ok X G (cd.fact 49 (f := .glo "_law_great") rfl)⟩
  have D_law : Df K mg "law" s_law := ⟨cd.def_ 50 (d := dD "law" s_law) rfl, He.glo_ok X G (cd.fact 50 (f := .glo "law") rfl)⟩
  obtain ⟨_, F_init⟩ := cd.def_ 51 (d := dM "Debate" "__init__" "Debate.__init__" s_Debate_init) rfl
  obtain ⟨_, F_st⟩ := cd.def_ 52 (d := dM "Debate" "statements" "Debate.statements" s_Debate_statements) rfl
  obtain ⟨_, F_ob⟩ := cd.def_ 53 (d := dM "Debate" "objections" "Debate.objections" s_Debate_objections) rfl
  obtain ⟨_, F_eq⟩ := cd.def_ 54 (d := dM "Debate" "__eq__" "Debate.__eq__" s_Debate_eq) rfl
  obtain ⟨_, F_bl⟩ := cd.def_ 55 (d := dM "BadLot" "__init__" "BadLot.__init__" s_BadLot_init) rfl
  have o_il := ok_is_list (P := P) (w := w) (base := base) D_is_list T
  have o_in := ok_is_name (P := P) (w := w) (base := base) D_is_name T
  have o_t0 := ok_as_tuples0 (P := P) (w := w) (base := base) D_as_tuples T o_il
  have o_t1 := ok_as_tuples1 D_as_tuples T o_il o_t0
  have o_cs := ok_checked_statements D_checked_statements T o_il o_in
  have o_ip := ok_is_pair_of D_is_pair_of T o_il
  have o_co := ok_checked_objections D_checked_objections T o_il o_ip o_t1
  have o_i := ok_init' F_init T DT o_cs o_co
  have o_gs := ok_statements (P := P) (w := w) (base := base) F_st T DT
  have o_go := ok_objections (P := P) (w := w) (base := base) F_ob T DT
  have o_eq := ok_deq (P := P) (w := w) (base := base) F_eq T DT DM
  have o_cl := ok_checked_lot D_checked_lot T DT o_il
  have o_hb := ok_hit_by (P := P) (w := w) (base := base) D_hit_by T DT
  have o_ai := ok_answered_in D_answered_in T DT o_hb
  have o_ll := ok_least_lot D_least_lot T DT o_ai
  have o_ci := ok_clash_in (P := P) (w := w) (base := base) D_clash_in T DT
  have o_ui := ok_unanswered_in D_unanswered_in T DT o_hb
  have o_fh := ok_fault_among_held D_fault_among_held T DT o_ai
  have o_fi := ok_fault_in D_fault_in T DT o_ci o_ui o_fh
  have o_lb := ok_labels_by D_labels_by T DT o_hb
  have o_lo := ok_labels_of D_labels_of T DT o_cl o_fi o_lb
  have o_cb := ok_cut_by D_cut_by T DT o_i
  have o_ct := ok_cut_to D_cut_to T DT o_cl o_cb
  have o_vb := ok_verdict_by D_verdict_by T DT o_cb o_lb o_ll
  have o_vd := ok_verdict D_verdict T DT o_cl o_vb
  have o_is := ok_is_seen (P := P) (w := w) (base := base) D_is_seen T
  have o_lt := ok_least_twin D_least_twin T DT o_i o_is
  have o_at := ok_are_twins D_are_twins T DT DM o_lt o_eq
  have o_bl := ok_badlot (P := P) (w := w) (base := base) F_bl BT
  have o_cx := ok_checked_lotX D_checked_lot T DT BT o_il o_bl
  have o_vx := ok_verdictX D_verdict T DT BT o_cx o_bl
  have o_dr := ok_draw (P := P) (w := w) (base := base) D__law_draw T
  have o_pk := ok_pick D__law_pick T o_dr
  have o_mx := ok_mixed D__law_mixed T o_dr
  have o_on := ok_once (P := P) (w := w) (base := base) D__law_each_once T
  have o_l0 := ok_loose0 (P := P) (w := w) (base := base) D__law_loose T
  have o_l1 := ok_loose1 D__law_loose T o_dr o_l0
  have o_l2 := ok_loose2 D__law_loose T o_dr o_l1
  have o_nm := ok_names D__law_d_names T o_mx
  have o_pr := ok_pairs D__law_d_pairs T o_dr o_pk o_mx o_on
  have o_ob := ok_objectors (P := P) (w := w) (base := base) D__law_d_objectors T
  have o_hi := ok_hits D__law_d_hits T o_ob
  have o_an := ok_answers D__law_d_answers T o_ob o_hi
  have o_ad := ok_answered D__law_d_answered T o_an
  have o_dl := ok_dlabels D__law_d_labels T o_hi
  have o_zv := ok_zv D__law_z_verdict T o_ad o_dl
  have o_sb := ok_subs (P := P) (w := w) (base := base) D__law_d_subsets T
  have o_tb := ok_tabs D__law_z_tables T o_sb
  have o_av := ok_av D__law_all_verdicts T o_tb o_zv
  have o_zt := ok_zt (P := P) (w := w) (base := base) D__law_z_twin T
  have o_ei := ok_either D__law_z_either T o_dr
  have o_zd := ok_zd D__law_z_debate T o_dr o_nm o_pr
  have o_zm := ok_zm D__law_z_made T DT o_i o_mx o_l1 o_l2
  have o_od := ok_odd D__law_z_odd_name T o_pk
  have o_gr := ok_great D__law_great T o_dr o_pr
  have o_nr := ok_near D__law_near T o_dr o_pk
  have o_s0 := ok_same0 (P := P) (w := w) (base := base) D__law_same
  have o_s1 := ok_same D__law_same T o_s0
  have o_s2 := ok_same D__law_same T o_s1
  have o_s3 := ok_same D__law_same T o_s2
  have o_s4 := ok_same D__law_same T o_s3
  have o_sd := ok_sameD D__law_same T o_s3
  have o_tr := ok_tr D__law_twins_right T DT DM o_i o_eq o_gs o_go o_nr o_zm o_lt o_av o_at o_s2 o_s4 o_zt
  exact ⟨⟨o_zv, o_ei, o_mx, o_vd, o_ct, o_sd, o_lo, o_ll, o_tb, o_vx, o_dr, o_od, o_tr, o_lt, o_go, o_zt, o_zm, o_zd, o_gr⟩, D__law_met, D__law_start⟩
end
theorem law_at (w : World) (mg : Str → Option Value) (fa : Addr) (h : Heap) (hY : hk80.says w h) (G : h.Ns mainGlobals mg) (hmg : mg ("law" : Str) = some (.ref fa)) : ∃ K : PySem.W.Frag, K.In h ∧ LamX.LawAtS PySem.Challenge.rw_objections_k80_whole_verdicts_and_twins w K L2.CX0 13 63 "_law_script" mg fa h := by
  obtain ⟨K, X, c⟩ := hY
  refine ⟨K, X, ?_⟩
  have cd := c.t.d
  have t := told_of X G cd c.more
  have e := hmg.symm.trans (He.glo_ok X G (cd.fact 50 (f := .glo "law") rfl))
  cases e
  obtain ⟨fd, F⟩ := cd.def_ 50 (d := dD "law" s_law) rfl
  obtain ⟨oc, od, dV, kV, doc, pm, an, cdv, ct, osl, rfl, lk, hcd, _, _⟩ := F.ex
  obtain ⟨c0, rfl⟩ := He.codeIn_ref hcd
  have ec : He.codeOf K ("law", none) = c0 := He.codeOf_eq (p := ("law", none)) lk rfl
  have m : (("law", none) : He.Defn) ∈ tf80 := List.mem_singleton.mpr rfl
  have b := FunD.bindsA (ps := ["_law_script"]) F fun _ _ _ _ _ _ us hl => match us, hl with | [_], _ => rfl
  refine ⟨_, [He.cT K ("law", none)], spLaw K (He.cT K ("law", none)).2, fun p hp => ?_, fun p hp => ?_, fun p hp => ?_, fun s u => b s [u] rfl, fun H a ns hl _ hT hS => ?_, fun base hKb hGb hTB => ?_⟩
  · rw [List.mem_singleton.mp hp]
    exact c.empty _ m
  · rw [List.mem_singleton.mp hp]
    exact c.out _ m
  · rw [List.mem_singleton.mp hp]
    exact PySem.W.codeHd_of_K X (c.hd _ m)
  · refine ⟨a, ns, rfl, hS, fun p hp => ?_, fun _ => rfl⟩
    rw [List.mem_singleton.mp hp]
    exact LamX.TabS.nil (hT _ (List.mem_singleton.mpr rfl))
  · have TB := hTB _ (List.mem_singleton.mpr rfl)
    have e1 : (He.cT K ("law", none)).1 = c0 := ec
    rw [e1] at TB
    obtain ⟨O, DMet, DS⟩ := defs_of (P := PySem.Challenge.rw_objections_k80_whole_verdicts_and_twins.prog) (w := w) X G cd t base
    exact ok_law lk hcd DMet DS t.BT t.BM t.T t.DT t.DM TB O
end K80
open PySem PySem.W PySem.Calls PyProof.Rows
theorem PySem.Challenge.cw_objections_k80_whole_verdicts_and_twins_holds : PySem.Challenge.rw_objections_k80_whole_verdicts_and_twins.Holds := by
  w_on; o_law
  refine HandSHeadRun.head_any (r := K80.R80) (q := view K80.R80.prog [74]) (H := K80.hk80) (ob := K80.ob80) (M := 5000) (loose := K80.loose80) (d := HandSHeadRun.topDef K80.R80.prog 74) (kwd := []) K80.ob80_eq
    (by kernel_rfl) (fun s => by kernel_rfl) K80.run80 (by kernel_rfl) (by kernel_rfl) (by kernel_rfl) (by rfl) (by first | assumption | decide +kernel) (by decide +kernel) ⟨rfl, rfl, rfl, rfl, rfl, by decide +kernel⟩ ?hw ?hc
  case hw => w_witness2
  case hc =>
    refine LamX.walk_ofTsE (l := PySem.Challenge.rw_objections_k80_whole_verdicts_and_twins) (n := 63) (k := 13) (x := "_law_script") (CX := fun _ => L2.CX0) rfl (by decide) (by kernel_rfl) ⟨rfl, by decide, by decide⟩ ?F (fun _ _ _ _ _ z => z)
    intro w mg fa h Y G hmg0
    have hmg : mg ("law" : PySem.Str) = some (.ref fa) := by
      have e : (HandSHeadRun.topDef K80.R80.prog 74).name = ("law" : PySem.Str) := by kernel_rfl
      rw [← e]
      exact hmg0
    exact K80.law_at w mg fa h Y G hmg
